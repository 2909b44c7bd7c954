import PyProof.Rows.All
import Wide.All
import OpenK.AllK
import Wide.FinOn
import HandS.ForMost
import HandS.Exc
import HandS.TryOnly
import HandS.ExcOwn
import HandS.WordsExc
import HandS.Defaults
import HandS.Deep
import HandS.Zip
import HandS.IsInst
import HandS.Property
import HandS.MakeKw
import HandS.MakeKwOnly
import HandS.Lambda
import PySem.Challenge.RW_quietdoors_k13_whole_gaps
import HandS.DictComp
import HandS.Style
import HandS.ExcInit
import HandS.Nested
import KE.KSuper
import KE.KExcSuper
import HandS.SetFor
import PyProof.ReprRoads
import HandS.ExcIs
import HandS.ExcField
import HandS.HotCalls
import PyProof.Rows.ReprShort
import PyProof.Rows.RegFStrParts
import HandS.EndTab
import HandS.HeadWalk
import HandS.HeadHook4
import HandS.Head0
import KE.KStateDown
import HandS.Head1
import HandS.Head2
/-! text QL1 -/
set_option Elab.async false
set_option linter.all false
set_option maxRecDepth 100000
set_option maxHeartbeats 4000000
/-! QL: a typed layer over HandS. A slot has a predicate (Pr) over a value and the known part I of the abstract heap; what may change is owned (M). -/
namespace QL
open PySem PySem.Spec PyProof.Rows L2
abbrev St := L2.St

/-! ### predicates -/
structure Pr where
  p : V → Hp → Prop
  up : ∀ {v : V} {I I' : Hp}, Same I I' → p v I → p v I'
structure OwnP where
  p : HO → Hp → Prop
  up : ∀ {o : HO} {I I' : Hp}, Same I I' → p o I → p o I'
abbrev OwnM := List (Addr × OwnP)
abbrev Ctx := List (Option Pr)

def TyL : List Pr → List V → Hp → Prop
  | [], [], _ => True
  | P :: ps, v :: vs, I => P.p v I ∧ TyL ps vs I
  | _, _, _ => False
theorem TyL.up : ∀ {ps : List Pr} {vs : List V} {I I' : Hp}, Same I I' → TyL ps vs I → TyL ps vs I'
  | [], [], _, _, _, _ => True.intro
  | P :: ps, v :: vs, _, _, e, h => ⟨P.up e h.1, TyL.up e h.2⟩
  | [], _ :: _, _, _, _, h => h.elim
  | _ :: _, [], _, _, _, h => h.elim
theorem TyL.length : ∀ {ps : List Pr} {vs : List V} {I : Hp}, TyL ps vs I → ps.length = vs.length
  | [], [], _, _ => rfl
  | _ :: _, _ :: _, _, h => congrArg Nat.succ (TyL.length h.2)
  | [], _ :: _, _, h => h.elim
  | _ :: _, [], _, h => h.elim
theorem TyL.get : ∀ {ps : List Pr} {vs : List V} {I : Hp} {i : Nat} {P : Pr}, TyL ps vs I → ps[i]? = some P → ∃ v, vs[i]? = some v ∧ P.p v I
  | [], [], _, _, _, _, e => by simp at e
  | _ :: _, v :: _, _, 0, _, h, e => by simp at e; subst e; exact ⟨v, rfl, h.1⟩
  | _ :: ps, _ :: vs, _, i + 1, P, h, e => by
    obtain ⟨v, h1, h2⟩ := TyL.get (i := i) h.2 (by simpa using e)
    exact ⟨v, by simpa using h1, h2⟩
  | [], _ :: _, _, _, _, h, _ => h.elim
  | _ :: _, [], _, _, _, h, _ => h.elim
theorem TyL.app : ∀ {ps qs : List Pr} {vs ws : List V} {I : Hp}, TyL ps vs I → TyL qs ws I → TyL (ps ++ qs) (vs ++ ws) I
  | [], _, [], _, _, _, h => h
  | _ :: _, _, _ :: _, _, _, h, k => ⟨h.1, TyL.app h.2 k⟩
  | [], _, _ :: _, _, _, h, _ => h.elim
  | _ :: _, _, [], _, _, h, _ => h.elim
theorem TyL.take : ∀ {ps : List Pr} {vs : List V} {I : Hp} (n : Nat), TyL ps vs I → TyL (ps.take n) (vs.take n) I
  | _, _, _, 0, _ => True.intro
  | [], [], _, _ + 1, _ => True.intro
  | _ :: _, _ :: _, _, n + 1, h => ⟨h.1, TyL.take n h.2⟩
  | [], _ :: _, _, _ + 1, h => h.elim
  | _ :: _, [], _, _ + 1, h => h.elim
theorem TyL.drop : ∀ {ps : List Pr} {vs : List V} {I : Hp} (n : Nat), TyL ps vs I → TyL (ps.drop n) (vs.drop n) I
  | _, _, _, 0, h => h
  | [], [], _, _ + 1, _ => True.intro
  | _ :: _, _ :: _, _, n + 1, h => TyL.drop n h.2
  | [], _ :: _, _, _ + 1, h => h.elim
  | _ :: _, [], _, _ + 1, h => h.elim
theorem TyL.one {P : Pr} {v : V} {I : Hp} (h : P.p v I) : TyL [P] [v] I := ⟨h, True.intro⟩

/-! ### data -/
mutual
inductive Dt (I : Hp) : V → PyData → Prop
  | non : Dt I .non .none
  | bl (b : Bool) : Dt I (.bl b) (.bool b)
  | int (i : Int) : Dt I (.int i) (.int i)
  | str (x : Str) : Dt I (.str x) (.str x)
  | lst {a : Addr} {xs : List V} {ds : List PyData} : I a = some (.lst xs) → DtA I xs ds → Dt I (.ref a) (.list ds)
  | tup {a : Addr} {xs : List V} {ds : List PyData} : I a = some (.tup xs) → DtA I xs ds → Dt I (.ref a) (.tuple ds)
inductive DtA (I : Hp) : List V → List PyData → Prop
  | nil : DtA I [] []
  | cons {v : V} {vs : List V} {d : PyData} {ds : List PyData} : Dt I v d → DtA I vs ds → DtA I (v :: vs) (d :: ds)
end
mutual
theorem Dt.up {I I' : Hp} (e : Same I I') : ∀ {v : V} {d : PyData}, Dt I v d → Dt I' v d
  | _, _, .non => .non
  | _, _, .bl b => .bl b
  | _, _, .int i => .int i
  | _, _, .str x => .str x
  | _, _, .lst h k => .lst (e _ _ h) (DtA.up e k)
  | _, _, .tup h k => .tup (e _ _ h) (DtA.up e k)
theorem DtA.up {I I' : Hp} (e : Same I I') : ∀ {vs : List V} {ds : List PyData}, DtA I vs ds → DtA I' vs ds
  | _, _, .nil => .nil
  | _, _, .cons h k => .cons (Dt.up e h) (DtA.up e k)
end
mutual
theorem Dt.dp {K : PySem.W.Frag} {I H : Hp} (e : Same I H) : ∀ {v : V} {d : PyData}, Dt I v d → Dp K H v d
  | _, _, .non => .non
  | _, _, .bl b => .bl b
  | _, _, .int i => .int i
  | _, _, .str x => .str x
  | _, _, .lst h k => .lst (SqL.of (e _ _ h)) (DtA.dp e k)
  | _, _, .tup h k => .tup (SqT.of (e _ _ h)) (DtA.dp e k)
theorem DtA.dp {K : PySem.W.Frag} {I H : Hp} (e : Same I H) : ∀ {vs : List V} {ds : List PyData}, DtA I vs ds → DpAll K H vs ds
  | _, _, .nil => .nil
  | _, _, .cons h k => .cons (Dt.dp e h) (DtA.dp e k)
end
def DatV (d : PyData) : Pr := ⟨fun v I => Dt I v d, fun e h => Dt.up e h⟩
def TuV (ps : List Pr) : Pr := ⟨fun v I => ∃ (a : Addr) (xs : List V), v = .ref a ∧ I a = some (.tup xs) ∧ TyL ps xs I, fun e ⟨a, xs, h1, h2, h3⟩ => ⟨a, xs, h1, e _ _ h2, h3.up e⟩⟩
def LiV (ps : List Pr) : Pr := ⟨fun v I => ∃ (a : Addr) (xs : List V), v = .ref a ∧ I a = some (.lst xs) ∧ TyL ps xs I, fun e ⟨a, xs, h1, h2, h3⟩ => ⟨a, xs, h1, e _ _ h2, h3.up e⟩⟩
abbrev IntV (i : Int) : Pr := DatV (.int i)
abbrev BlV (b : Bool) : Pr := DatV (.bool b)
abbrev StrV (x : Str) : Pr := DatV (.str x)
abbrev NonV : Pr := DatV .none
/-- the value itself -/
def EqV (u : V) : Pr := ⟨fun v _ => v = u, fun _ h => h⟩
/-- a value of a family -/
def ExV {β : Type} (C : β → Prop) (R : β → Pr) : Pr := ⟨fun v I => ∃ b, C b ∧ (R b).p v I, fun e ⟨b, c, h⟩ => ⟨b, c, (R b).up e h⟩⟩
theorem Dt.int_inv {I : Hp} {v : V} {i : Int} (h : Dt I v (.int i)) : v = .int i := by cases h; rfl
theorem Dt.bl_inv {I : Hp} {v : V} {b : Bool} (h : Dt I v (.bool b)) : v = .bl b := by cases h; rfl
theorem Dt.str_inv {I : Hp} {v : V} {x : Str} (h : Dt I v (.str x)) : v = .str x := by cases h; rfl
theorem Dt.non_inv {I : Hp} {v : V} (h : Dt I v .none) : v = .non := by cases h; rfl
theorem DtA.ty {I : Hp} : ∀ {vs : List V} {ds : List PyData}, DtA I vs ds → TyL (ds.map DatV) vs I
  | _, _, .nil => True.intro
  | _, _, .cons h k => ⟨h, DtA.ty k⟩
theorem DtA.of : ∀ {ds : List PyData} {vs : List V} {I : Hp}, TyL (ds.map DatV) vs I → DtA I vs ds
  | [], [], _, _ => .nil
  | _ :: ds, _ :: vs, _, h => .cons h.1 (DtA.of (ds := ds) (vs := vs) h.2)
  | [], _ :: _, _, h => h.elim
  | _ :: _, [], _, h => h.elim
theorem dat_tup {ds : List PyData} {v : V} {I : Hp} : (DatV (.tuple ds)).p v I ↔ (TuV (ds.map DatV)).p v I := by
  constructor
  · intro h
    cases (show Dt I v (.tuple ds) from h) with
    | tup h1 h2 => exact ⟨_, _, rfl, h1, h2.ty⟩
  · rintro ⟨a, xs, rfl, h1, h2⟩
    exact Dt.tup h1 (DtA.of h2)
theorem dat_lst {ds : List PyData} {v : V} {I : Hp} : (DatV (.list ds)).p v I ↔ (LiV (ds.map DatV)).p v I := by
  constructor
  · intro h
    cases (show Dt I v (.list ds) from h) with
    | lst h1 h2 => exact ⟨_, _, rfl, h1, h2.ty⟩
  · rintro ⟨a, xs, rfl, h1, h2⟩
    exact Dt.lst h1 (DtA.of h2)

/-! ### owned objects -/
def lstO (ps : List Pr) : OwnP := ⟨fun o I => ∃ xs, o = .lst xs ∧ TyL ps xs I, fun e ⟨xs, h1, h2⟩ => ⟨xs, h1, h2.up e⟩⟩
/-- an instance that is being made -/
def insO (C : Addr) (fs : List (Str × Pr)) : OwnP := ⟨fun o I => ∃ (dx : Addr) (xs : List V), o = .ins C dx ((fs.map Prod.fst).zip xs) ∧ TyL (fs.map Prod.snd) xs I, fun e ⟨dx, xs, h1, h2⟩ => ⟨dx, xs, h1, h2.up e⟩⟩
/-- an instance -/
def InV (C : Addr) (fs : List (Str × Pr)) : Pr := ⟨fun v I => ∃ (a dx : Addr) (xs : List V), v = .ref a ∧ I a = some (.ins C dx ((fs.map Prod.fst).zip xs)) ∧ TyL (fs.map Prod.snd) xs I,
  fun e ⟨a, dx, xs, h1, h2, h3⟩ => ⟨a, dx, xs, h1, e _ _ h2, h3.up e⟩⟩
/-- a dict by written keys -/
def DkV (kvs : List (Key × V)) : Pr := ⟨fun v I => ∃ a, v = .ref a ∧ I a = some (.dK kvs), fun e ⟨a, h1, h2⟩ => ⟨a, h1, e _ _ h2⟩⟩

/-! ### the state -/
structure Ent where
  I : Hp
  H : Hp
  dm : List Addr
  T : List (Addr × Str) := []
def NoT (o : HO) : Prop := (∀ xs, o ≠ .tup xs) ∧ (∀ ps, o ≠ .tbl ps) ∧ ∀ φ, o ≠ .ext φ
structure S3 (N : Ent) (M : OwnM) (I H : Hp) : Prop where
  sub : Same I H
  own : ∀ q ∈ M, (∃ o, H q.1 = some o ∧ NoT o ∧ q.2.p o I) ∧ I q.1 = none
  nd : (M.map (·.1)).Nodup
  keep : ∀ a o, a ∉ N.dm → N.H a = some o → H a = some o
  ii : Same N.I I
  fr : ∀ a, I a ≠ none → N.I a ≠ none ∨ N.H a = none ∨ a ∈ N.dm ∨ ∃ xs, N.H a = some (.tup xs)
  fm : ∀ q ∈ M, q.1 ∈ N.dm ∨ N.H q.1 = none
  tab : LamX.Tabs N.T H
  /-- what the def may change: no table, no tuple -/
  dmk : ∀ a ∈ N.dm, ∀ o, N.H a = some o → NoT o
  nt : ∀ b ps, I b ≠ some (.tbl ps)
theorem nt_upd {I : Hp} {p : Addr} {o : HO} (h : ∀ b ps, I b ≠ some (.tbl ps)) (ho : ∀ ps, o ≠ .tbl ps) : ∀ b ps, upd I p o b ≠ some (.tbl ps) := fun b ps e => by
  by_cases hb : b = p
  · rw [hb, upd_same] at e; cases e; exact ho ps rfl
  · rw [upd_ne hb] at e; exact h b ps e
section
variable {N : Ent} {M : OwnM} {I H : Hp}
theorem fresh_of {p : Addr} (s : S3 N M I H) (hp : H p = none) : I p = none := by
  cases q : I p with
  | none => rfl
  | some o => rw [s.sub p o q] at hp; cases hp
theorem same_upd {H : Hp} {p : Addr} {o : HO} (hp : H p = none) : Same H (upd H p o) := fun b u e => by rw [upd_ne (ne_of_none e hp)]; exact e
theorem none_of_up {H H' : Hp} {p : Addr} (e : Same H H') (h : H' p = none) : H p = none := e.free h
theorem S3.nh (s : S3 N M I H) {p : Addr} (hp : H p = none) : N.H p = none ∨ p ∈ N.dm := by
  by_cases h : p ∈ N.dm
  · exact .inr h
  · cases q : N.H p with
    | none => exact .inl rfl
    | some o => rw [s.keep p o h q] at hp; cases hp
/-- a new object that stays as it is -/
theorem S3.new (s : S3 N M I H) {p : Addr} {o : HO} (hp : H p = none) (ho : ∀ ps, o ≠ .tbl ps := by nofun) : S3 N M (upd I p o) (upd H p o) := by
  have hi := fresh_of s hp
  have ht := s.nh hp
  refine ⟨fun b u e => ?_, fun q hq => ?_, s.nd, fun a u h1 h3 => ?_, fun b u e => ?_, fun a h => ?_, s.fm, s.tab.ext (same_upd hp), s.dmk, nt_upd s.nt ho⟩
  · by_cases hb : b = p
    · subst hb; rw [upd_same] at e ⊢; exact e
    · rw [upd_ne hb] at e ⊢; exact s.sub b u e
  · obtain ⟨⟨o', h1, h2, h3⟩, h4⟩ := s.own q hq
    have nq : q.1 ≠ p := ne_of_none h1 hp
    exact ⟨⟨o', by rw [upd_ne nq]; exact h1, h2, q.2.up (same_upd hi) h3⟩, by rw [upd_ne nq]; exact h4⟩
  · have z := s.keep a u h1 h3
    rw [upd_ne (ne_of_none z hp)]; exact z
  · have z := s.ii b u e
    rw [upd_ne (ne_of_none z hi)]; exact z
  · by_cases ha : a = p
    · rw [ha]; exact ht.elim (fun z => .inr (.inl z)) fun z => .inr (.inr (.inl z))
    · rw [upd_ne ha] at h; exact s.fr a h
/-- a new object that is ours -/
theorem S3.newO (s : S3 N M I H) {p : Addr} {o : HO} {φ : OwnP} (hp : H p = none) (hn : NoT o) (hφ : φ.p o I) : S3 N ((p, φ) :: M) I (upd H p o) := by
  have hi := fresh_of s hp
  have ht := s.nh hp
  refine ⟨fun b u e => ?_, fun q hq => ?_, ?_, fun a u h1 h3 => ?_, s.ii, s.fr, fun q hq => ?_, s.tab.ext (same_upd hp), s.dmk, s.nt⟩
  · rw [upd_ne (ne_of_none (s.sub b u e) hp)]; exact s.sub b u e
  · rcases List.mem_cons.mp hq with e | hq
    · rw [e]; exact ⟨⟨o, upd_same, hn, hφ⟩, hi⟩
    · obtain ⟨⟨o', h1, h2⟩, h4⟩ := s.own q hq
      exact ⟨⟨o', by rw [upd_ne (ne_of_none h1 hp)]; exact h1, h2⟩, h4⟩
  · rw [List.map_cons]
    refine List.nodup_cons.mpr ⟨fun hm => ?_, s.nd⟩
    obtain ⟨q, hq, e⟩ := List.mem_map.mp hm
    obtain ⟨⟨o', h1, _⟩, _⟩ := s.own q hq
    rw [e, hp] at h1; cases h1
  · have z := s.keep a u h1 h3
    rw [upd_ne (ne_of_none z hp)]; exact z
  · rcases List.mem_cons.mp hq with e | hq
    · rw [e]; exact ht.elim .inr .inl
    · exact s.fm q hq
/-- what is ours is changed -/
theorem S3.put {p : Addr} {φ φ' : OwnP} {o' : HO} (s : S3 N ((p, φ) :: M) I H) (hn : NoT o') (hφ : φ'.p o' I) : S3 N ((p, φ') :: M) I (upd H p o') := by
  obtain ⟨⟨o, h1, h2, h3⟩, h4⟩ := s.own (p, φ) List.mem_cons_self
  have hi : I p = none := h4
  have h1 : H p = some o := h1
  have nm : ∀ q ∈ M, q.1 ≠ p := fun q hq e => (List.nodup_cons.mp s.nd).1 (List.mem_map.mpr ⟨q, hq, e⟩)
  have nT : ∀ b u, H b = some u → (¬ NoT u) → b ≠ p := fun b u e n z => by
    rw [z, h1] at e; cases e; exact n h2
  refine ⟨fun b u e => ?_, fun q hq => ?_, s.nd, fun a u k1 k3 => ?_, s.ii, s.fr, fun q hq => ?_, fun q hq => ?_, s.dmk, s.nt⟩
  · rw [upd_ne (ne_of_none e hi)]; exact s.sub b u e
  · rcases List.mem_cons.mp hq with e | hq
    · rw [e]; exact ⟨⟨o', upd_same, hn, hφ⟩, hi⟩
    · obtain ⟨⟨u, k1, k2⟩, k3⟩ := s.own q (List.mem_cons_of_mem _ hq)
      exact ⟨⟨u, by rw [upd_ne (nm q hq)]; exact k1, k2⟩, k3⟩
  · have z := s.keep a u k1 k3
    have na : a ≠ p := fun e => by
      rcases s.fm (p, φ) List.mem_cons_self with w | w
      · exact k1 (by rw [e]; exact w)
      · rw [e] at k3; rw [show N.H p = none from w] at k3; cases k3
    rw [upd_ne na]; exact z
  · rcases List.mem_cons.mp hq with e | hq
    · rw [e]; exact s.fm (p, φ) List.mem_cons_self
    · exact s.fm q (List.mem_cons_of_mem _ hq)
  · obtain ⟨ps, e1, e2, e3⟩ := s.tab q hq
    refine ⟨ps, by rw [upd_ne (nT _ _ e1 fun z => z.2.1 _ rfl)]; exact e1, e2, fun pos cv hc => ?_⟩
    obtain ⟨c, k1, k2⟩ := e3 pos cv hc
    exact ⟨c, k1, by rw [upd_ne (nT _ _ k2 fun z => z.2.2 _ rfl)]; exact k2⟩
/-- the same, forgotten -/
theorem S3.forget {p : Addr} {φ : OwnP} (s : S3 N ((p, φ) :: M) I H) : S3 N M I H :=
  ⟨s.sub, fun q hq => s.own q (List.mem_cons_of_mem _ hq), (List.nodup_cons.mp s.nd).2, s.keep, s.ii, s.fr, fun q hq => s.fm q (List.mem_cons_of_mem _ hq), s.tab, s.dmk, s.nt⟩
/-- what was ours stays as it is from now on -/
theorem S3.freeze {p : Addr} {φ : OwnP} (s : S3 N ((p, φ) :: M) I H) : ∃ o, H p = some o ∧ φ.p o I ∧ S3 N M (upd I p o) H ∧ Same I (upd I p o) := by
  obtain ⟨⟨o, h1, h2, h3⟩, h4⟩ := s.own (p, φ) List.mem_cons_self
  have hi : I p = none := h4
  have h1 : H p = some o := h1
  have nm : ∀ q ∈ M, q.1 ≠ p := fun q hq e => (List.nodup_cons.mp s.nd).1 (List.mem_map.mpr ⟨q, hq, e⟩)
  refine ⟨o, h1, h3, ⟨fun b u e => ?_, fun q hq => ?_, (List.nodup_cons.mp s.nd).2, s.keep, fun b u e => ?_, fun a h => ?_, fun q hq => s.fm q (List.mem_cons_of_mem _ hq), s.tab, s.dmk, nt_upd s.nt fun ps => h2.2.1 ps⟩, same_upd hi⟩
  · by_cases hb : b = p
    · subst hb; rw [upd_same] at e; cases e; exact h1
    · rw [upd_ne hb] at e; exact s.sub b u e
  · obtain ⟨⟨u, k1, k2, k3⟩, k4⟩ := s.own q (List.mem_cons_of_mem _ hq)
    exact ⟨⟨u, k1, k2, q.2.up (same_upd hi) k3⟩, by rw [upd_ne (nm q hq)]; exact k4⟩
  · have z := s.ii b u e
    rw [upd_ne (ne_of_none z hi)]; exact z
  · by_cases ha : a = p
    · rw [ha]
      rcases s.fm (p, φ) List.mem_cons_self with w | w
      · exact .inr (.inr (.inl w))
      · exact .inr (.inl w)
    · rw [upd_ne ha] at h; exact s.fr a h
/-- a tuple that stands is known from now on -/
theorem S3.know (s : S3 N M I H) {p : Addr} {xs : List V} (hp : H p = some (.tup xs)) : S3 N M (upd I p (.tup xs)) H ∧ Same I (upd I p (.tup xs)) := by
  have hN : N.H p = none ∨ p ∈ N.dm ∨ ∃ xs, N.H p = some (.tup xs) := by
    by_cases h : p ∈ N.dm
    · exact .inr (.inl h)
    · cases q : N.H p with
      | none => exact .inl rfl
      | some o =>
        have z := s.keep p o h q
        rw [hp] at z; cases z
        exact .inr (.inr ⟨xs, rfl⟩)
  have e0 : Same I (upd I p (.tup xs)) := fun b u e => by
    by_cases hb : b = p
    · subst hb
      have z := s.sub _ _ e
      rw [hp] at z; cases z
      exact upd_same
    · rw [upd_ne hb]; exact e
  refine ⟨⟨fun b u e => ?_, fun q hq => ?_, s.nd, s.keep, fun b u e => e0 b u (s.ii b u e), fun a h => ?_, s.fm, s.tab, s.dmk, nt_upd s.nt (by nofun)⟩, e0⟩
  · by_cases hb : b = p
    · subst hb; rw [upd_same] at e; cases e; exact hp
    · rw [upd_ne hb] at e; exact s.sub b u e
  · obtain ⟨⟨u, k1, k2, k3⟩, k4⟩ := s.own q hq
    have nq : q.1 ≠ p := fun e => by rw [e, hp] at k1; cases k1; exact k2.1 xs rfl
    exact ⟨⟨u, k1, k2, q.2.up e0 k3⟩, by rw [upd_ne nq]; exact k4⟩
  · by_cases ha : a = p
    · rw [ha]; exact .inr hN
    · rw [upd_ne ha] at h; exact s.fr a h
end
/-- a later ground -/
def Sub (N' N : Ent) : Prop := N'.H = N.H ∧ N'.dm = N.dm ∧ N'.T = N.T ∧ ∀ M I H, S3 N' M I H → S3 N M I H
theorem Sub.refl (N : Ent) : Sub N N := ⟨rfl, rfl, rfl, fun _ _ _ h => h⟩
theorem Sub.trans {N N' N'' : Ent} (a : Sub N'' N') (b : Sub N' N) : Sub N'' N := ⟨a.1.trans b.1, a.2.1.trans b.2.1, a.2.2.1.trans b.2.2.1, fun M I H h => b.2.2.2 M I H (a.2.2.2 M I H h)⟩
theorem Sub.at {N : Ent} {M : OwnM} {I H : Hp} (s : S3 N M I H) : Sub { N with I := I } N ∧ S3 { N with I := I } M I H := by
  refine ⟨⟨rfl, rfl, rfl, fun M' I' H' t => ⟨t.sub, t.own, t.nd, t.keep, fun a o e => t.ii a o (s.ii a o e), fun a h => ?_, t.fm, t.tab, t.dmk, t.nt⟩⟩, ⟨s.sub, s.own, s.nd, s.keep, Same.refl _, fun a h => .inl h, s.fm, s.tab, s.dmk, s.nt⟩⟩
  rcases t.fr a h with z | z
  · exact s.fr a z
  · exact .inr z
end QL

/-! text QL2 -/
set_option Elab.async false
set_option linter.all false
set_option maxRecDepth 100000
set_option maxHeartbeats 4000000
/-! QL2: typed judgements of expressions, tests, arguments; statements by assertions. -/
namespace QL
open PySem PySem.Spec PyProof.Rows L2

/-! ### the weakest readings -/
section
variable (X : Cx)
def WE (e : Expr) : TE := fun σ H Q => ∀ (pins : List (Addr × Obj)) (s : Shared), Inv X pins σ H s → wpAny (model X.prog X.w) X.A (eval e X.env) (EP X pins σ Q) X.xe s
def WT (e : Expr) : TT := fun σ H Q => ∀ (pins : List (Addr × Obj)) (s : Shared), Inv X pins σ H s → wpAny (model X.prog X.w) X.A (isTrue e X.env (eval e X.env)) (TP X pins σ Q) X.xe s
def WW (e : Expr) : TT := fun σ H Q => ∀ (whole : Sem Value) (pins : List (Addr × Obj)) (s : Shared), Inv X pins σ H s → wpAny (model X.prog X.w) X.A (isTrue e X.env whole) (TP X pins σ Q) X.xe s
def WA (es : List Expr) : TA := fun σ H Q => ∀ (pos : Pos) (pins : List (Addr × Obj)) (s : Shared), Inv X pins σ H s → wpAny (model X.prog X.w) X.A (spliced (backTo pos (starEach es X.env))) (AP X pins σ Q) X.xe s
def WK (kws : List Keyword) : TA := fun σ H Q => ∀ (pos : Pos) (pins : List (Addr × Obj)) (s : Shared), Inv X pins σ H s → wpAny (model X.prog X.w) X.A (evalAll ((backToKw pos (keywordEach kws X.env)).map (·.2))) (AP X pins σ Q) X.xe s
def WS (sts : List Stmt) : TS := fun D σ H => ∀ (pins : List (Addr × Obj)) (s : Shared), Inv X pins σ H s → wpAny (model X.prog X.w) X.A (execs sts X.env) (SP X pins D) X.xe s
def WO (e : Option Expr) (t : TO) : Prop := PO X e t
end
section
variable {X : Cx} {e : Expr} {es : List Expr} {kws : List Keyword} {sts : List Stmt}
theorem we_pe : PE X e (WE X e) := ⟨fun pins s _ _ _ I h => h pins s I⟩
theorem wt_pt : PT X e (WT X e) := ⟨fun pins s _ _ _ I h => h pins s I⟩
theorem ww_pw : PW X e (WW X e) := ⟨fun whole pins s _ _ _ I h => h whole pins s I⟩
theorem wa_pa : PA X es (WA X es) := ⟨fun pos pins s _ _ _ I h => h pos pins s I⟩
theorem wk_pk : PK X kws (WK X kws) := ⟨fun pos pins s _ _ _ I h => h pos pins s I⟩
theorem ws_ps : PSs X sts (WS X sts) := ⟨fun pins s _ _ _ I h => h pins s I⟩
theorem we_of {t : TE} (p : PE X e t) {σ : St} {H : Hp} {Q : VK} (q : t σ H Q) : WE X e σ H Q := fun pins s I => p.run pins s σ H Q I q
theorem wt_of {t : TT} (p : PT X e t) {σ : St} {H : Hp} {Q : Bool → Hp → Prop} (q : t σ H Q) : WT X e σ H Q := fun pins s I => p.run pins s σ H Q I q
theorem ww_of {t : TT} (p : PW X e t) {σ : St} {H : Hp} {Q : Bool → Hp → Prop} (q : t σ H Q) : WW X e σ H Q := fun whole pins s I => p.run whole pins s σ H Q I q
theorem wa_of {t : TA} (p : PA X es t) {σ : St} {H : Hp} {Q : List V → Hp → Prop} (q : t σ H Q) : WA X es σ H Q := fun pos pins s I => p.run pos pins s σ H Q I q
theorem wk_of {t : TA} (p : PK X kws t) {σ : St} {H : Hp} {Q : List V → Hp → Prop} (q : t σ H Q) : WK X kws σ H Q := fun pos pins s I => p.run pos pins s σ H Q I q
theorem ws_of {t : TS} (p : PSs X sts t) {D : L2.Ends} {σ : St} {H : Hp} (q : t D σ H) : WS X sts D σ H := fun pins s I => p.run pins s σ H D I q
end

/-! ### contexts -/
def Ty (Γ : Ctx) (σ : St) (I : Hp) : Prop := ∀ (i : Nat) (P : Pr), Γ[i]? = some (some P) → ∃ v, σ[i]? = some (some v) ∧ P.p v I
theorem Ty.up {Γ : Ctx} {σ : St} {I I' : Hp} (h : Ty Γ σ I) (e : Same I I') : Ty Γ σ I' := fun i P q => let ⟨v, a, b⟩ := h i P q; ⟨v, a, P.up e b⟩
theorem Ty.set {Γ : Ctx} {σ : St} {I : Hp} {i : Nat} {P : Pr} {v : V} (h : Ty Γ σ I) (hi : i < σ.length) (p : P.p v I) : Ty (Γ.set i (some P)) (σ.set i (some v)) I := fun j R q => by
  by_cases e : i = j
  · subst e
    refine ⟨v, List.getElem?_set_self hi, ?_⟩
    by_cases hl : i < Γ.length
    · rw [List.getElem?_set_self hl] at q; cases q; exact p
    · rw [List.getElem?_eq_none (by rw [List.length_set]; omega)] at q; cases q
  · rw [List.getElem?_set_ne e] at q
    obtain ⟨u, a, b⟩ := h j R q
    exact ⟨u, by rw [List.getElem?_set_ne e]; exact a, b⟩
theorem Ty.put {Γ : Ctx} {σ : St} {I : Hp} {i : Nat} {P : Pr} {v : V} (h : Ty Γ σ I) (hs : σ[i]? = some (some v)) (p : P.p v I) : Ty (Γ.set i (some P)) σ I := fun j R q => by
  by_cases e : i = j
  · subst e
    refine ⟨v, hs, ?_⟩
    by_cases hl : i < Γ.length
    · rw [List.getElem?_set_self hl] at q; cases q; exact p
    · rw [List.getElem?_eq_none (by rw [List.length_set]; omega)] at q; cases q
  · rw [List.getElem?_set_ne e] at q
    exact h j R q
theorem Ty.drop {Γ : Ctx} {σ : St} {I : Hp} {i : Nat} (h : Ty Γ σ I) : Ty (Γ.set i none) σ I := fun j R q => by
  by_cases e : i = j
  · subst e
    by_cases hl : i < Γ.length
    · rw [List.getElem?_set_self hl] at q; cases q
    · rw [List.getElem?_eq_none (by rw [List.length_set]; omega)] at q; cases q
  · rw [List.getElem?_set_ne e] at q
    exact h j R q
/-- fewer facts -/
theorem Ty.weak {Γ Γ' : Ctx} {σ : St} {I : Hp} (h : Ty Γ σ I) (w : ∀ (i : Nat) (P : Pr), Γ'[i]? = some (some P) → Γ[i]? = some (some P)) : Ty Γ' σ I := fun i P q => h i P (w i P q)

/-! ### judgements -/
abbrev Has (rq M : OwnM) : Prop := ∀ q ∈ rq, q ∈ M
section
variable (X : Cx) (N : Ent) (rq : OwnM) (Γ : Ctx)
def JE (e : Expr) (P : Pr) : Prop := ∀ (M : OwnM) (I H : Hp) (σ : St) (Q : VK), Has rq M → S3 N M I H → Ty Γ σ I → (∀ v I' H', S3 N M I' H' → Same I I' → P.p v I' → Q v H') → WE X e σ H Q
def JT (e : Expr) (b : Bool) : Prop := ∀ (M : OwnM) (I H : Hp) (σ : St) (Q : Bool → Hp → Prop), Has rq M → S3 N M I H → Ty Γ σ I → (∀ I' H', S3 N M I' H' → Same I I' → Q b H') → WT X e σ H Q
def JW (e : Expr) (b : Bool) : Prop := ∀ (M : OwnM) (I H : Hp) (σ : St) (Q : Bool → Hp → Prop), Has rq M → S3 N M I H → Ty Γ σ I → (∀ I' H', S3 N M I' H' → Same I I' → Q b H') → WW X e σ H Q
def JA (es : List Expr) (ps : List Pr) : Prop := ∀ (M : OwnM) (I H : Hp) (σ : St) (Q : List V → Hp → Prop), Has rq M → S3 N M I H → Ty Γ σ I → (∀ vs I' H', S3 N M I' H' → Same I I' → TyL ps vs I' → Q vs H') → WA X es σ H Q
def JK (kws : List Keyword) (ps : List Pr) : Prop := ∀ (M : OwnM) (I H : Hp) (σ : St) (Q : List V → Hp → Prop), Has rq M → S3 N M I H → Ty Γ σ I → (∀ vs I' H', S3 N M I' H' → Same I I' → TyL ps vs I' → Q vs H') → WK X kws σ H Q
end
section
variable {X : Cx} {N : Ent} {rq : OwnM} {Γ : Ctx} {a b c e : Expr} {es : List Expr} {P P' R : Pr} {pos : Pos}
theorem JE.conv (h : JE X N rq Γ e P) (k : ∀ v I, P.p v I → P'.p v I) : JE X N rq Γ e P' := fun M I H σ Q hm s t q => h M I H σ Q hm s t fun v I' H' s' e' p => q v I' H' s' e' (k v I' p)
theorem JE.cast (h : JE X N rq Γ e P) (k : P = P') : JE X N rq Γ e P' := k ▸ h
theorem JT.cast {p q : Bool} (h : JT X N rq Γ e p) (k : p = q) : JT X N rq Γ e q := k ▸ h
theorem JE.mono {rq' : OwnM} (h : JE X N rq Γ e P) (k : Has rq rq') : JE X N rq' Γ e P := fun M I H σ Q hm => h M I H σ Q fun q hq => hm q (k q hq)
/-- two in a row -/
theorem je_two {t : TE → TE → TE} (ha : JE X N rq Γ a P) (hb : JE X N rq Γ b R) {M : OwnM} {I H : Hp} {σ : St} (hm : Has rq M) (s : S3 N M I H) (ty : Ty Γ σ I) {K : V → V → Hp → Prop}
    (h : ∀ x y I' H', S3 N M I' H' → Same I I' → P.p x I' → R.p y I' → K x y H') : WE X a σ H fun x H1 => WE X b σ H1 fun y H2 => K x y H2 :=
  ha M I H σ _ hm s ty fun x I1 H1 s1 e1 p => hb M I1 H1 σ _ hm s1 (ty.up e1) fun y I2 H2 s2 e2 r => h x y I2 H2 s2 (e1.trans e2) (P.up e2 p) r
theorem je_bin (ha : JE X N rq Γ a P) (hb : JE X N rq Γ b R) {M : OwnM} {I H : Hp} {σ : St} (hm : Has rq M) (s : S3 N M I H) (ty : Ty Γ σ I) {K : V → V → Hp → Prop}
    (h : ∀ x y I' H', S3 N M I' H' → Same I I' → P.p x I' → R.p y I' → K x y H') : WE X a σ H fun x H1 => WE X b σ H1 fun y H2 => K x y H2 := je_two (t := fun a _ => a) ha hb hm s ty h

theorem je_var {i : Nat} {x : Str} (hN : X.N[i]? = some x) (hG : Γ[i]? = some (some P)) (hv : Vis X.env.scope x) (hd : (x == ("__debug__" : Str)) = false) (hcd : (x == ("__classdict__" : Str)) = false) :
    JE X N rq Γ (.Name x pos) P := fun M I H σ Q hm s t q => by
  obtain ⟨v, h1, h2⟩ := t i P hG
  exact we_of (pe_var hN hv hd hcd) ⟨v, h1, q v I H s (Same.refl _) h2⟩
theorem je_int {i : Int} {j} : JE X N rq Γ (.Constant (.int i) j pos) (IntV i) := fun M I H σ Q hm s t q => we_of pe_int (q _ I H s (Same.refl _) (.int i))
theorem je_bl {k : Bool} {j} : JE X N rq Γ (.Constant (.bool k) j pos) (BlV k) := fun M I H σ Q hm s t q => we_of pe_bl (q _ I H s (Same.refl _) (.bl k))
theorem je_non {j} : JE X N rq Γ (.Constant .none j pos) NonV := fun M I H σ Q hm s t q => we_of pe_non (q _ I H s (Same.refl _) .non)
theorem je_str {x : Str} {j} : JE X N rq Γ (.Constant (.str x) j pos) (StrV x) := fun M I H σ Q hm s t q => we_of pe_str (q _ I H s (Same.refl _) (.str x))
/-- a module's name -/
theorem je_glob {x : Str} {v : V} {u : Value} (hg : Gl X x) (hm : X.mg x = some u) (r : RelV v u) (hp : ∀ I, P.p v I) (hd : (x == ("__debug__" : Str)) = false) : JE X N rq Γ (.Name x pos) P := fun M I H σ Q _ s t q =>
  we_of (pe_glob hg hm r hd) (q _ I H s (Same.refl _) (hp I))

/-! ### arithmetic, comparisons -/
theorem je_op {op : Operator} {r : R2} (ho : OpR X (binaryOp op) r) (ha : JE X N rq Γ a P) (hb : JE X N rq Γ b P')
    (h : ∀ (M : OwnM) (I H : Hp) (x y : V) (Q : VK), S3 N M I H → P.p x I → P'.p y I → (∀ v I' H', S3 N M I' H' → Same I I' → R.p v I' → Q v H') → r x y H Q) : JE X N rq Γ (.BinOp a op b pos) R := fun M I H σ Q hm s t q =>
  we_of (pe_op ho we_pe we_pe) (je_bin ha hb hm s t fun x y I' H' s' e p p' => h M I' H' x y Q s' p p' fun v I2 H2 s2 e2 => q v I2 H2 s2 (e.trans e2))
theorem je_opI {op : Operator} {g : Int → Int → Int} {i j : Int} (ho : OpR X (binaryOp op) (rI0 fun i j => .int (g i j))) (ha : JE X N rq Γ a (IntV i)) (hb : JE X N rq Γ b (IntV j)) : JE X N rq Γ (.BinOp a op b pos) (IntV (g i j)) :=
  je_op ho ha hb fun M I H x y Q s p p' q => ⟨i, j, p.int_inv, p'.int_inv, q _ I H s (Same.refl _) (.int _)⟩
theorem je_opC {op : Operator} {C : Int → Int → Prop} {g : Int → Int → Int} {i j : Int} (ho : OpR X (binaryOp op) (rI C fun i j => .int (g i j))) (ha : JE X N rq Γ a (IntV i)) (hb : JE X N rq Γ b (IntV j)) (hc : C i j) : JE X N rq Γ (.BinOp a op b pos) (IntV (g i j)) :=
  je_op ho ha hb fun M I H x y Q s p p' q => ⟨i, j, p.int_inv, p'.int_inv, hc, q _ I H s (Same.refl _) (.int _)⟩
theorem je_add {i j : Int} (ha : JE X N rq Γ a (IntV i)) (hb : JE X N rq Γ b (IntV j)) : JE X N rq Γ (.BinOp a .Add b pos) (IntV (i + j)) := je_opI op_add ha hb
theorem je_sub {i j : Int} (ha : JE X N rq Γ a (IntV i)) (hb : JE X N rq Γ b (IntV j)) : JE X N rq Γ (.BinOp a .Sub b pos) (IntV (i - j)) := je_opI op_sub ha hb
theorem je_mul {i j : Int} (ha : JE X N rq Γ a (IntV i)) (hb : JE X N rq Γ b (IntV j)) (hc : CMul i j) : JE X N rq Γ (.BinOp a .Mult b pos) (IntV (i * j)) := je_opC op_mul ha hb hc
theorem je_fdiv {i j : Int} (ha : JE X N rq Γ a (IntV i)) (hb : JE X N rq Γ b (IntV j)) (hc : CDiv i j) : JE X N rq Γ (.BinOp a .FloorDiv b pos) (IntV (i / j)) := je_opC op_fdiv ha hb hc
theorem je_mod {i j : Int} (ha : JE X N rq Γ a (IntV i)) (hb : JE X N rq Γ b (IntV j)) (hc : 0 < j) : JE X N rq Γ (.BinOp a .Mod b pos) (IntV (i % j)) := je_opC (C := fun _ j => 0 < j) op_mod ha hb hc
theorem je_pow {i j : Int} (ha : JE X N rq Γ a (IntV i)) (hb : JE X N rq Γ b (IntV j)) (hc : CPow i j) : JE X N rq Γ (.BinOp a .Pow b pos) (IntV (i ^ j.toNat)) := je_opC op_pow ha hb hc
/-- list + list -/
theorem je_neg {i : Int} (ha : JE X N rq Γ a (IntV i)) : JE X N rq Γ (.UnaryOp .USub a pos) (IntV (-i)) := fun M I H σ Q hm s t q =>
  we_of (pe_un un_neg we_pe) (ha M I H σ _ hm s t fun v I' H' s' e p => ⟨i, p.int_inv, q _ I' H' s' e (.int _)⟩)

/-- a comparison: as a value, as a test -/
def JC (X : Cx) (N : Ent) (rq : OwnM) (Γ : Ctx) (e : Expr) (p : Bool) : Prop := JE X N rq Γ e (BlV p) ∧ JT X N rq Γ e p
theorem jc_of {op : CmpOp} {r : R2} {p : Bool} (ho : OpR X (compareOp op) r) (ha : JE X N rq Γ a P) (hb : JE X N rq Γ b P') (hk : behindInMarks op b = false)
    (h : ∀ (M : OwnM) (I H : Hp) (x y : V) (Q : VK), S3 N M I H → P.p x I → P'.p y I → Q (.bl p) H → r x y H Q) : JC X N rq Γ (.Compare a [op] [b] pos) p :=
  ⟨fun M I H σ Q hm s t q => we_of (pe_cmpR ho we_pe we_pe hk) (je_bin ha hb hm s t fun x y I' H' s' e u u' => h M I' H' x y Q s' u u' (q _ I' H' s' e (.bl _))),
   fun M I H σ Q hm s t q => wt_of (pt_cmpR ho we_pe we_pe hk) (je_bin ha hb hm s t fun x y I' H' s' e u u' => h M I' H' x y _ s' u u' ⟨p, rfl, q I' H' s' e⟩)⟩
theorem jc_int {op : CmpOp} {g : Int → Int → Bool} {i j : Int} (ho : OpR X (compareOp op) (rI0 fun i j => .bl (g i j))) (hk : behindInMarks op b = false) (ha : JE X N rq Γ a (IntV i)) (hb : JE X N rq Γ b (IntV j)) : JC X N rq Γ (.Compare a [op] [b] pos) (g i j) :=
  jc_of ho ha hb hk fun M I H x y Q s p p' q => ⟨i, j, p.int_inv, p'.int_inv, q⟩
theorem jc_lt {i j : Int} (ha : JE X N rq Γ a (IntV i)) (hb : JE X N rq Γ b (IntV j)) : JC X N rq Γ (.Compare a [.Lt] [b] pos) (decide (i < j)) := jc_int op_lt (nomark b) ha hb
theorem jc_le {i j : Int} (ha : JE X N rq Γ a (IntV i)) (hb : JE X N rq Γ b (IntV j)) : JC X N rq Γ (.Compare a [.LtE] [b] pos) (decide (i ≤ j)) := jc_int op_le (nomark b) ha hb
theorem jc_gt {i j : Int} (ha : JE X N rq Γ a (IntV i)) (hb : JE X N rq Γ b (IntV j)) : JC X N rq Γ (.Compare a [.Gt] [b] pos) (decide (j < i)) := jc_int op_gt (nomark b) ha hb
theorem jc_ge {i j : Int} (ha : JE X N rq Γ a (IntV i)) (hb : JE X N rq Γ b (IntV j)) : JC X N rq Γ (.Compare a [.GtE] [b] pos) (decide (j ≤ i)) := jc_int op_ge (nomark b) ha hb
/-- == over data -/
theorem jc_eqD {d d' : PyData} (hu : X.A.units + 64 < cLine) (ha : JE X N rq Γ a (DatV d)) (hb : JE X N rq Γ b (DatV d')) (sd : SeqAt.shaped d = true) (sd' : SeqAt.shaped d' = true) : JC X N rq Γ (.Compare a [.Eq] [b] pos) (PyData.eqv d d') :=
  jc_of (op_eqD hu) ha hb (nomark b) fun M I H x y Q s p p' q => ⟨d, d', Dt.dp s.sub p, Dt.dp s.sub p', sd, sd', q⟩
theorem jc_neD {d d' : PyData} (hu : X.A.units + 64 < cLine) (ha : JE X N rq Γ a (DatV d)) (hb : JE X N rq Γ b (DatV d')) (sd : SeqAt.shaped d = true) (sd' : SeqAt.shaped d' = true) : JC X N rq Γ (.Compare a [.NotEq] [b] pos) (!PyData.eqv d d') :=
  jc_of (op_neD hu) ha hb (nomark b) fun M I H x y Q s p p' q => ⟨d, d', Dt.dp s.sub p, Dt.dp s.sub p', sd, sd', q⟩
/-- .. of ints, of texts -/
theorem jc_eqI {i j : Int} (ha : JE X N rq Γ a (IntV i)) (hb : JE X N rq Γ b (IntV j)) : JC X N rq Γ (.Compare a [.Eq] [b] pos) (decide (i = j)) :=
  jc_of op_eq ha hb (nomark b) fun M I H x y Q s p p' q => by
    rw [p.int_inv, p'.int_inv]
    refine ⟨rfl, ?_⟩
    rw [dec_int, show (i == j) = decide (i = j) from rfl]
    exact q
theorem jc_neI {i j : Int} (ha : JE X N rq Γ a (IntV i)) (hb : JE X N rq Γ b (IntV j)) : JC X N rq Γ (.Compare a [.NotEq] [b] pos) (!decide (i = j)) :=
  jc_of op_ne ha hb (nomark b) fun M I H x y Q s p p' q => by
    rw [p.int_inv, p'.int_inv]
    refine ⟨rfl, ?_⟩
    rw [dec_int, show (i == j) = decide (i = j) from rfl]
    exact q
theorem jc_eqS {x y : Str} (ha : JE X N rq Γ a (StrV x)) (hb : JE X N rq Γ b (StrV y)) : JC X N rq Γ (.Compare a [.Eq] [b] pos) (decide (x = y)) :=
  jc_of op_eq ha hb (nomark b) fun M I H u v Q s p p' q => by
    rw [p.str_inv, p'.str_inv]
    refine ⟨rfl, ?_⟩
    rw [show decide (V.str x = V.str y) = decide (x = y) from by by_cases z : x = y <;> simp [z]]
    exact q
/-- is None -/
theorem jc_isN {j p2} {k : Bool} (ha : JE X N rq Γ a P) (h : ∀ v I, P.p v I → decide (v = V.non) = k) : JC X N rq Γ (.Compare a [.Is] [.Constant .none j p2] pos) k :=
  ⟨fun M I H σ Q hm s t q => we_of (pe_cmp (pc_isN we_pe)) (ha M I H σ _ hm s t fun v I' H' s' e p => q _ I' H' s' e (by rw [h v I' p]; exact .bl _)),
   fun M I H σ Q hm s t q => wt_of (pt_cmp (pc_isN we_pe)) (ha M I H σ _ hm s t fun v I' H' s' e p => ⟨k, by rw [h v I' p], q I' H' s' e⟩)⟩
theorem jc_notN {j p2} {k : Bool} (ha : JE X N rq Γ a P) (h : ∀ v I, P.p v I → decide (v = V.non) = k) : JC X N rq Γ (.Compare a [.IsNot] [.Constant .none j p2] pos) (!k) :=
  ⟨fun M I H σ Q hm s t q => we_of (pe_cmp (pc_notN we_pe)) (ha M I H σ _ hm s t fun v I' H' s' e p => q _ I' H' s' e (by rw [h v I' p]; exact .bl _)),
   fun M I H σ Q hm s t q => wt_of (pt_cmp (pc_notN we_pe)) (ha M I H σ _ hm s t fun v I' H' s' e p => ⟨!k, by rw [h v I' p], q I' H' s' e⟩)⟩
/-- a <= b <= c -/
theorem jc_chain {i j k : Int} {op op' : CmpOp} {g g' : Int → Int → Bool} (ho : OpR X (compareOp op) (rI0 fun i j => .bl (g i j))) (ho' : OpR X (compareOp op') (rI0 fun i j => .bl (g' i j))) (hk : lastMarks [op, op'] [b, c] = false)
    (ha : JE X N rq Γ a (IntV i)) (hb : JE X N rq Γ b (IntV j)) (hc : JE X N rq Γ c (IntV k)) : JC X N rq Γ (.Compare a [op, op'] [b, c] pos) (g i j && g' j k) :=
  ⟨fun M I H σ Q hm s t q => we_of (pe_chain ho ho' we_pe we_pe we_pe hk) (je_bin ha hb hm s t fun x y I' H' s' e u u' => ⟨i, j, u.int_inv, u'.int_inv, _, rfl, by
      cases z : g i j with
      | false => simpa [z] using q (.bl false) I' H' s' e (by rw [z]; exact .bl _)
      | true => exact (if_pos rfl).mpr (hc M I' H' σ _ hm s' (t.up e) fun w I2 H2 s2 e2 p2 => ⟨j, k, u'.int_inv, p2.int_inv, q _ I2 H2 s2 (e.trans e2) (by rw [z]; exact .bl _)⟩)⟩),
   fun M I H σ Q hm s t q => wt_of (pt_chain ho ho' we_pe we_pe we_pe hk) (je_bin ha hb hm s t fun x y I' H' s' e u u' => ⟨i, j, u.int_inv, u'.int_inv, _, rfl, by
      cases z : g i j with
      | false => exact (if_neg Bool.false_ne_true).mpr ⟨false, rfl, by simpa [z] using q I' H' s' e⟩
      | true => exact (if_pos rfl).mpr (hc M I' H' σ _ hm s' (t.up e) fun w I2 H2 s2 e2 p2 => ⟨j, k, u'.int_inv, p2.int_inv, _, rfl, by simpa [z] using q I2 H2 s2 (e.trans e2)⟩)⟩)⟩
theorem nonD (d : PyData) (k : Bool) (h : (match d with | .none => true | _ => false) = k) : ∀ v I, (DatV d).p v I → decide (v = V.non) = k := fun v I p => by
  subst h
  have p : Dt I v d := p
  cases p <;> simp

/-! ### tests -/
theorem jt_val {p : Bool} (h : JE X N rq Γ e (BlV p)) (he : ∀ whole, isTrue e X.env whole = (do let v ← whole; standAt e.pos; holding [v] (truthy v))) : JT X N rq Γ e p := fun M I H σ Q hm s t q =>
  wt_of (pt_val we_pe he) (h M I H σ _ hm s t fun v I' H' s' e' pv => ⟨p, pv.bl_inv, q I' H' s' e'⟩)
theorem jt_not {p : Bool} (h : JT X N rq Γ a p) : JT X N rq Γ (.UnaryOp .Not a pos) (!p) := fun M I H σ Q hm s t q =>
  wt_of (pt_not wt_pt) (h M I H σ _ hm s t fun I' H' s' e' => q I' H' s' e')
theorem jt_w {p : Bool} (h : JW X N rq Γ e p) : JT X N rq Γ e p := fun M I H σ Q hm s t q => wt_of ww_pw.pt (h M I H σ Q hm s t q)
theorem jw_and1 {p : Bool} (h : JT X N rq Γ a p) : JW X N rq Γ (.BoolOp .And [a] pos) p := fun M I H σ Q hm s t q => ww_of (pw_and1 wt_pt) (h M I H σ Q hm s t q)
theorem jw_or1 {p : Bool} (h : JT X N rq Γ a p) : JW X N rq Γ (.BoolOp .Or [a] pos) p := fun M I H σ Q hm s t q => ww_of (pw_or1 wt_pt) (h M I H σ Q hm s t q)
theorem jw_and {p r : Bool} (h : JT X N rq Γ a p) (h' : p = true → JW X N rq Γ (.BoolOp .And (b :: es) pos) r) : JW X N rq Γ (.BoolOp .And (a :: b :: es) pos) (p && r) := fun M I H σ Q hm s t q =>
  ww_of (pw_and wt_pt ww_pw) (h M I H σ _ hm s t fun I' H' s' e' => by
    cases p with
    | false => simpa using q I' H' s' e'
    | true => simpa using h' rfl M I' H' σ Q hm s' (t.up e') fun I2 H2 s2 e2 => by simpa using q I2 H2 s2 (e'.trans e2))
theorem jw_or {p r : Bool} (h : JT X N rq Γ a p) (h' : p = false → JW X N rq Γ (.BoolOp .Or (b :: es) pos) r) : JW X N rq Γ (.BoolOp .Or (a :: b :: es) pos) (p || r) := fun M I H σ Q hm s t q =>
  ww_of (pw_or wt_pt ww_pw) (h M I H σ _ hm s t fun I' H' s' e' => by
    cases p with
    | true => simpa using q I' H' s' e'
    | false => simpa using h' rfl M I' H' σ Q hm s' (t.up e') fun I2 H2 s2 e2 => by simpa using q I2 H2 s2 (e'.trans e2))
theorem je_and1 {op} (h : JE X N rq Γ a P) : JE X N rq Γ (.BoolOp op [a] pos) P := fun M I H σ Q hm s t q => we_of (pe_one we_pe) (h M I H σ Q hm s t q)
theorem je_and {p r : Bool} (h : JE X N rq Γ a (BlV p)) (h' : p = true → JE X N rq Γ (.BoolOp .And (b :: es) pos) (BlV r)) : JE X N rq Γ (.BoolOp .And (a :: b :: es) pos) (BlV (p && r)) := fun M I H σ Q hm s t q =>
  we_of (pe_and we_pe we_pe) (h M I H σ _ hm s t fun v I' H' s' e' pv => ⟨p, pv.bl_inv, by
    cases p with
    | false => simpa using q (.bl false) I' H' s' e' (.bl false)
    | true => simpa using h' rfl M I' H' σ Q hm s' (t.up e') fun v2 I2 H2 s2 e2 p2 => q v2 I2 H2 s2 (e'.trans e2) (by simpa using p2)⟩)
theorem je_or {p r : Bool} (h : JE X N rq Γ a (BlV p)) (h' : p = false → JE X N rq Γ (.BoolOp .Or (b :: es) pos) (BlV r)) : JE X N rq Γ (.BoolOp .Or (a :: b :: es) pos) (BlV (p || r)) := fun M I H σ Q hm s t q =>
  we_of (pe_or we_pe we_pe) (h M I H σ _ hm s t fun v I' H' s' e' pv => ⟨p, pv.bl_inv, by
    cases p with
    | true => simpa using q (.bl true) I' H' s' e' (.bl true)
    | false => simpa using h' rfl M I' H' σ Q hm s' (t.up e') fun v2 I2 H2 s2 e2 p2 => q v2 I2 H2 s2 (e'.trans e2) (by simpa using p2)⟩)
theorem je_not {p : Bool} (h : JE X N rq Γ a (BlV p)) : JE X N rq Γ (.UnaryOp .Not a pos) (BlV (!p)) := fun M I H σ Q hm s t q =>
  we_of (pe_not we_pe) (h M I H σ _ hm s t fun v I' H' s' e' pv => ⟨p, pv.bl_inv, q _ I' H' s' e' (.bl _)⟩)
theorem je_if {p : Bool} (h : JT X N rq Γ c p) (ha : p = true → JE X N rq Γ a P) (hb : p = false → JE X N rq Γ b P) : JE X N rq Γ (.IfExp c a b pos) P := fun M I H σ Q hm s t q =>
  we_of (pe_ifExp wt_pt we_pe we_pe) (h M I H σ _ hm s t fun I' H' s' e' => by
    cases p with
    | true => exact ha rfl M I' H' σ Q hm s' (t.up e') fun v I2 H2 s2 e2 => q v I2 H2 s2 (e'.trans e2)
    | false => exact hb rfl M I' H' σ Q hm s' (t.up e') fun v I2 H2 s2 e2 => q v I2 H2 s2 (e'.trans e2))

/-! ### arguments, displays -/
theorem ja_nil : JA X N rq Γ [] [] := fun M I H σ Q hm s t q => wa_of pa_nil (q [] I H s (Same.refl _) True.intro)
theorem ja_cons {ps : List Pr} (h : JE X N rq Γ e P) (h' : JA X N rq Γ es ps) (hs : starEach (e :: es) X.env = (false, eval e X.env) :: starEach es X.env) : JA X N rq Γ (e :: es) (P :: ps) := fun M I H σ Q hm s t q =>
  wa_of (pa_cons we_pe wa_pa hs) (h M I H σ _ hm s t fun v I' H' s' e' p => h' M I' H' σ _ hm s' (t.up e') fun vs I2 H2 s2 e2 ps2 => q (v :: vs) I2 H2 s2 (e'.trans e2) ⟨P.up e2 p, ps2⟩)
theorem jk_nil : JK X N rq Γ [] [] := fun M I H σ Q hm s t q => wk_of pk_nil (q [] I H s (Same.refl _) True.intro)
theorem jk_cons {ps : List Pr} {nm : Option Str} {kpos : Pos} {kws : List Keyword} (h : JE X N rq Γ e P) (h' : JK X N rq Γ kws ps) : JK X N rq Γ (⟨nm, e, kpos⟩ :: kws) (P :: ps) := fun M I H σ Q hm s t q =>
  wk_of (pk_cons we_pe wk_pk) (h M I H σ _ hm s t fun v I' H' s' e' p => h' M I' H' σ _ hm s' (t.up e') fun vs I2 H2 s2 e2 ps2 => q (v :: vs) I2 H2 s2 (e'.trans e2) ⟨P.up e2 p, ps2⟩)
end
end QL

/-! text QL3 -/
set_option Elab.async false
set_option linter.all false
set_option maxRecDepth 100000
set_option maxHeartbeats 4000000
/-! QL3: sequences, dicts by written keys, built-in calls. -/
namespace QL
open PySem PySem.Spec PyProof.Rows L2

theorem atI_lt {α : Type} {xs : List α} {i : Int} {v : α} (h : atI xs i = some v) : ∃ j, ixN xs.length i = some j ∧ xs[j]? = some v := by
  unfold atI at h
  cases q : ixN xs.length i with
  | none => rw [q] at h; cases h
  | some j => rw [q] at h; exact ⟨j, rfl, h⟩
theorem TyL.at {ps : List Pr} {vs : List V} {I : Hp} {i : Int} {P : Pr} (h : TyL ps vs I) (e : atI ps i = some P) : ∃ v, atI vs i = some v ∧ P.p v I := by
  obtain ⟨j, h1, h2⟩ := atI_lt e
  obtain ⟨v, h3, h4⟩ := h.get h2
  refine ⟨v, ?_, h4⟩
  unfold atI
  rw [← h.length, h1]
  exact h3
theorem DtA.at {ds : List PyData} {vs : List V} {I : Hp} {i : Int} {d : PyData} (h : DtA I vs ds) (e : atI ds i = some d) : ∃ v, atI vs i = some v ∧ Dt I v d := by
  obtain ⟨j, h1, h2⟩ := atI_lt e
  refine h.ty.at (P := DatV d) ?_
  unfold atI
  rw [List.length_map, h1]
  show (ds.map DatV)[j]? = _
  rw [List.getElem?_map, h2]; rfl
theorem DtA.length {I : Hp} {vs : List V} {ds : List PyData} (h : DtA I vs ds) : vs.length = ds.length := by
  have := h.ty.length
  rw [List.length_map] at this
  exact this.symm
theorem DtA.take {I : Hp} : ∀ {vs : List V} {ds : List PyData} (n : Nat), DtA I vs ds → DtA I (vs.take n) (ds.take n)
  | _, _, 0, _ => .nil
  | _, _, _ + 1, .nil => .nil
  | _, _, n + 1, .cons h k => .cons h (DtA.take n k)
theorem DtA.drop {I : Hp} : ∀ {vs : List V} {ds : List PyData} (n : Nat), DtA I vs ds → DtA I (vs.drop n) (ds.drop n)
  | _, _, 0, h => h
  | _, _, _ + 1, .nil => .nil
  | _, _, n + 1, .cons h k => DtA.drop n k
theorem DtA.app {I : Hp} : ∀ {vs ws : List V} {ds es : List PyData}, DtA I vs ds → DtA I ws es → DtA I (vs ++ ws) (ds ++ es)
  | _, _, _, _, .nil, k => k
  | _, _, _, _, .cons h k, k' => .cons h (DtA.app k k')
theorem DtA.get {I : Hp} {vs : List V} {ds : List PyData} {i : Nat} {d : PyData} (h : DtA I vs ds) (e : ds[i]? = some d) : ∃ v, vs[i]? = some v ∧ Dt I v d :=
  h.ty.get (P := DatV d) (by rw [List.getElem?_map, e]; rfl)
theorem DtA.ints {I : Hp} : ∀ {vs : List V} {ns : List Int}, DtA I vs (ns.map PyData.int) → vs = ns.map V.int
  | [], [], _ => rfl
  | _ :: _, n :: ns, h => by
    cases h with
    | cons h k => rw [Dt.int_inv h, DtA.ints (ns := ns) k]; rfl
  | [], _ :: _, h => by cases h
  | _ :: _, [], h => by cases h
theorem DtA.bls {I : Hp} : ∀ {vs : List V} {bs : List Bool}, DtA I vs (bs.map PyData.bool) → vs = bs.map V.bl
  | [], [], _ => rfl
  | _ :: _, n :: ns, h => by
    cases h with
    | cons h k => rw [Dt.bl_inv h, DtA.bls (bs := ns) k]; rfl
  | [], _ :: _, h => by cases h
  | _ :: _, [], h => by cases h

section
variable {X : Cx} {N : Ent} {rq : OwnM} {Γ : Ctx} {a b c e : Expr} {es : List Expr} {P P' R : Pr} {pos p2 : Pos}
/-! ### displays -/
theorem small1000 {n : Nat} (h : n ≤ 1000) : n ≤ sizeLine := by rw [sizeLine_eq]; omega
theorem je_tup {x1} {ps : List Pr} (h : JA X N rq Γ es ps) (hl : ps.length ≤ 1000) : JE X N rq Γ (.Tuple es x1 pos) (TuV ps) := fun M I H σ Q hm s t q =>
  we_of (pe_tup wa_pa) (h M I H σ _ hm s t fun vs I' H' s' e' pv => ⟨small1000 (by rw [← pv.length]; exact hl), fun p hp =>
    q _ _ _ (s'.new hp) (e'.trans (same_upd (fresh_of s' hp))) ⟨p, vs, rfl, upd_same, pv.up (same_upd (fresh_of s' hp))⟩⟩)
theorem je_lst {ps : List Pr} (h : JA X N rq Γ es ps) (hl : ps.length ≤ 1000) : JE X N rq Γ (.List es pos) (LiV ps) := fun M I H σ Q hm s t q =>
  we_of (pe_lst wa_pa) (h M I H σ _ hm s t fun vs I' H' s' e' pv => ⟨small1000 (by rw [← pv.length]; exact hl), fun p hp =>
    q _ _ _ (s'.new hp) (e'.trans (same_upd (fresh_of s' hp))) ⟨p, vs, rfl, upd_same, pv.up (same_upd (fresh_of s' hp))⟩⟩)
/-- data -/
def JD (X : Cx) (N : Ent) (rq : OwnM) (Γ : Ctx) (es : List Expr) (ds : List PyData) : Prop := JA X N rq Γ es (ds.map DatV)
theorem jd_nil : JD X N rq Γ [] [] := ja_nil
theorem jd_cons {d : PyData} {ds : List PyData} (h : JE X N rq Γ e (DatV d)) (h' : JD X N rq Γ es ds) (hs : starEach (e :: es) X.env = (false, eval e X.env) :: starEach es X.env) : JD X N rq Γ (e :: es) (d :: ds) := ja_cons h h' hs
theorem je_tupD {x1} {ds : List PyData} (h : JD X N rq Γ es ds) (hl : ds.length ≤ 1000) : JE X N rq Γ (.Tuple es x1 pos) (DatV (.tuple ds)) := (je_tup h (by rw [List.length_map]; exact hl)).conv fun _ _ p => dat_tup.mpr p
theorem je_lstD {ds : List PyData} (h : JD X N rq Γ es ds) (hl : ds.length ≤ 1000) : JE X N rq Γ (.List es pos) (DatV (.list ds)) := (je_lst h (by rw [List.length_map]; exact hl)).conv fun _ _ p => dat_lst.mpr p

/-! ### items -/
theorem je_ix (ha : JE X N rq Γ a P) (hb : JE X N rq Γ b P') (hs : PlainIx b) (h : ∀ (I H : Hp) (x y : V) (Q : VK), Same I H → P.p x I → P'.p y I → (∀ v, R.p v I → Q v H) → rIx X.K x y H Q) : JE X N rq Γ (.Subscript a b pos) R := fun M I H σ Q hm s t q =>
  we_of (pe_ix ix_seq we_pe we_pe hs) (je_bin ha hb hm s t fun x y I' H' s' e' p p' => h I' H' x y Q s'.sub p p' fun v r => q v I' H' s' e' r)
theorem je_ixL {ds : List PyData} {i : Int} {d : PyData} (ha : JE X N rq Γ a (DatV (.list ds))) (hb : JE X N rq Γ b (IntV i)) (he : atI ds i = some d) (hs : PlainIx b) : JE X N rq Γ (.Subscript a b pos) (DatV d) :=
  je_ix ha hb hs fun I H x y Q sm p p' q => by
    cases (show Dt I x (.list ds) from p) with
    | lst h1 h2 =>
      obtain ⟨v, h3, h4⟩ := h2.at he
      exact .inl ⟨_, _, i, v, rfl, p'.int_inv, SqL.of (sm _ _ h1), h3, q v h4⟩
theorem je_ixT {ds : List PyData} {i : Int} {d : PyData} (ha : JE X N rq Γ a (DatV (.tuple ds))) (hb : JE X N rq Γ b (IntV i)) (he : atI ds i = some d) (hs : PlainIx b) : JE X N rq Γ (.Subscript a b pos) (DatV d) :=
  je_ix ha hb hs fun I H x y Q sm p p' q => by
    cases (show Dt I x (.tuple ds) from p) with
    | tup h1 h2 =>
      obtain ⟨v, h3, h4⟩ := h2.at he
      exact .inr (.inl ⟨_, _, i, v, rfl, p'.int_inv, SqT.of (sm _ _ h1), h3, q v h4⟩)
theorem je_ixTu {ps : List Pr} {i : Int} (ha : JE X N rq Γ a (TuV ps)) (hb : JE X N rq Γ b (IntV i)) (he : atI ps i = some P) (hs : PlainIx b) : JE X N rq Γ (.Subscript a b pos) P :=
  je_ix ha hb hs fun I H x y Q sm p p' q => by
    obtain ⟨t, xs, rfl, h1, h2⟩ := p
    obtain ⟨v, h3, h4⟩ := h2.at he
    exact .inr (.inl ⟨_, _, i, v, rfl, p'.int_inv, SqT.of (sm _ _ h1), h3, q v h4⟩)
/-- of a list that is ours -/
theorem je_ixO {p : Addr} {ps : List Pr} {i : Int} (ha : JE X N rq Γ a (EqV (.ref p))) (hb : JE X N rq Γ b (IntV i)) (ho : (p, lstO ps) ∈ rq) (he : atI ps i = some P) (hs : PlainIx b) : JE X N rq Γ (.Subscript a b pos) P := fun M I H σ Q hm s t q =>
  we_of (pe_ix ix_seq we_pe we_pe hs) (je_bin ha hb hm s t fun x y I' H' s' e' px py => by
    obtain ⟨⟨o, h1, _, xs, rfl, h3⟩, _⟩ := s'.own _ (hm _ ho)
    obtain ⟨v, h4, h5⟩ := h3.at he
    exact .inl ⟨p, xs, i, v, px, py.int_inv, SqL.of h1, h4, q v I' H' s' e' h5⟩)
/-- of a dict by written keys -/
theorem je_dk {kvs : List (Key × V)} {x : Str} {v : V} (hu : X.A.units + 1 < cLine) (ha : JE X N rq Γ a (DkV kvs)) (hb : JE X N rq Γ b (StrV x)) (hs : NoSl b) (he : valV kvs (.inr x) = some v) (hp : ∀ I, P.p v I) : JE X N rq Γ (.Subscript a b pos) P := fun M I H σ Q hm s t q =>
  we_of (pe_dget hu we_pe we_pe hs) (je_bin ha hb hm s t fun u y I' H' s' e' h0 py => by
    obtain ⟨d, h1, h2⟩ := h0
    have g := DGet.k (k := .inr x) (s'.sub _ _ h2)
    rw [he] at g
    refine ⟨d, v, h1, ?_, q v I' H' s' e' (hp I')⟩
    rw [py.str_inv]; exact g)

/-! ### built-in functions -/
theorem je_callB {id : String} {x : Str} {p : Pos} {ps : List Pr} {r : List V → Hp → VK → Prop} (hc : CallR X (.builtin id) r) (hg : Gl X x) (hm0 : X.mg x = none) (hv : bootBuiltins x = some (.builtin id)) (ha : JA X N rq Γ (e :: es) ps)
    (h : ∀ (M : OwnM) (I H : Hp) (vs : List V) (Q : VK), Has rq M → S3 N M I H → TyL ps vs I → (∀ v I' H', S3 N M I' H' → Same I I' → R.p v I' → Q v H') → r vs H Q)
    (hn : x ≠ "__name__") (hdb : (x == ("__debug__" : Str)) = false) (he : starEach (e :: es) X.env = (false, eval e X.env) :: starEach es X.env) (hpl : (backTo pos (starEach es X.env)).any (·.1) = false) : JE X N rq Γ (.Call (.Name x p) (e :: es) [] pos) R := fun M I H σ Q hm s t q =>
  we_of (pe_callB hc hg hm0 hv wa_pa hn hdb he hpl) (ha M I H σ _ hm s t fun vs I' H' s' e' pv => h M I' H' vs Q hm s' pv fun v I2 H2 s2 e2 => q v I2 H2 s2 (e'.trans e2))
theorem je_callTy {T : String} {x : Str} {p : Pos} {ps : List Pr} {r : List V → Hp → VK → Prop} (hc : CallR X (.type T) r) (hg : Gl X x) (hm0 : X.mg x = none) (hv : bootBuiltins x = some (.type T)) (ha : JA X N rq Γ (e :: es) ps)
    (h : ∀ (M : OwnM) (I H : Hp) (vs : List V) (Q : VK), Has rq M → S3 N M I H → TyL ps vs I → (∀ v I' H', S3 N M I' H' → Same I I' → R.p v I' → Q v H') → r vs H Q)
    (hn : x ≠ "__name__") (hdb : (x == ("__debug__" : Str)) = false) (he : starEach (e :: es) X.env = (false, eval e X.env) :: starEach es X.env) (hpl : (backTo pos (starEach es X.env)).any (·.1) = false) : JE X N rq Γ (.Call (.Name x p) (e :: es) [] pos) R := fun M I H σ Q hm s t q =>
  we_of (pe_callTy hc hg hm0 hv wa_pa hn hdb he hpl) (ha M I H σ _ hm s t fun vs I' H' s' e' pv => h M I' H' vs Q hm s' pv fun v I2 H2 s2 e2 => q v I2 H2 s2 (e'.trans e2))
/-- a name of the built-ins that the module leaves free -/
structure Bi (X : Cx) (x : Str) (u : Value) : Prop where
  gl : Gl X x
  free : X.mg x = none
  boot : bootBuiltins x = some u
  n1 : x ≠ "__name__"
  n2 : (x == ("__debug__" : Str)) = false
/-- the shape of a call's arguments -/
structure Ar (X : Cx) (e : Expr) (es : List Expr) (pos : Pos) : Prop where
  he : starEach (e :: es) X.env = (false, eval e X.env) :: starEach es X.env
  hpl : (backTo pos (starEach es X.env)).any (·.1) = false
theorem ty1 {P : Pr} {vs : List V} {I : Hp} (h : TyL [P] vs I) : ∃ v, vs = [v] ∧ P.p v I := by
  match vs, h with
  | [v], h => exact ⟨v, rfl, h.1⟩
theorem ty2 {P P' : Pr} {vs : List V} {I : Hp} (h : TyL [P, P'] vs I) : ∃ v w, vs = [v, w] ∧ P.p v I ∧ P'.p w I := by
  match vs, h with
  | [v, w], h => exact ⟨v, w, rfl, h.1, h.2.1⟩
/-- what has a length -/
inductive LenP : Pr → Nat → Prop
  | dl (ds : List PyData) : LenP (DatV (.list ds)) ds.length
  | dt (ds : List PyData) : LenP (DatV (.tuple ds)) ds.length
  | tu (ps : List Pr) : LenP (TuV ps) ps.length
  | li (ps : List Pr) : LenP (LiV ps) ps.length
theorem LenP.ok {n : Nat} {K : PySem.W.Frag} (l : LenP P n) {I H : Hp} {v : V} (sm : Same I H) (h : P.p v I) : ∃ p ys, v = .ref p ∧ (SqL K H p ys ∨ SqT K H p ys) ∧ ys.length = n := by
  cases l with
  | dl ds =>
    cases (show Dt I v (.list ds) from h) with
    | lst h1 h2 => exact ⟨_, _, rfl, .inl (SqL.of (sm _ _ h1)), h2.length⟩
  | dt ds =>
    cases (show Dt I v (.tuple ds) from h) with
    | tup h1 h2 => exact ⟨_, _, rfl, .inr (SqT.of (sm _ _ h1)), h2.length⟩
  | tu ps =>
    obtain ⟨p, xs, h1, h2, h3⟩ := h
    exact ⟨p, xs, h1, .inr (SqT.of (sm _ _ h2)), h3.length.symm⟩
  | li ps =>
    obtain ⟨p, xs, h1, h2, h3⟩ := h
    exact ⟨p, xs, h1, .inl (SqL.of (sm _ _ h2)), h3.length.symm⟩
theorem je_len {p : Pos} {n : Nat} (ha : JE X N rq Γ e P) (l : LenP P n) (B : Bi X "len" (.builtin "len")) (A : Ar X e [] pos) : JE X N rq Γ (.Call (.Name "len" p) [e] [] pos) (IntV n) :=
  je_callB call_len_seq B.gl B.free B.boot (ja_cons ha ja_nil A.he) (fun M I H vs Q hm s h q => by
    obtain ⟨v, rfl, hv⟩ := ty1 h
    obtain ⟨a, ys, rfl, h1, h2⟩ := l.ok s.sub hv
    exact ⟨a, ys, rfl, h1, q _ I H s (Same.refl _) (by rw [h2]; exact .int _)⟩) B.n1 B.n2 A.he A.hpl
theorem je_intc {p : Pos} {i : Int} (ha : JE X N rq Γ e (IntV i)) (B : Bi X "int" (.type "int")) (A : Ar X e [] pos) : JE X N rq Γ (.Call (.Name "int" p) [e] [] pos) (IntV i) :=
  je_callTy call_int1 B.gl B.free B.boot (ja_cons ha ja_nil A.he) (fun M I H vs Q hm s h q => by
    obtain ⟨v, rfl, hv⟩ := ty1 h
    rw [Dt.int_inv hv]
    exact .inl ⟨i, rfl, q _ I H s (Same.refl _) (.int _)⟩) B.n1 B.n2 A.he A.hpl
/-- list(x), tuple(x) -/
inductive SeqP : Pr → List Pr → Prop
  | dl (ds : List PyData) : SeqP (DatV (.list ds)) (ds.map DatV)
  | dt (ds : List PyData) : SeqP (DatV (.tuple ds)) (ds.map DatV)
  | tu (ps : List Pr) : SeqP (TuV ps) ps
  | li (ps : List Pr) : SeqP (LiV ps) ps
theorem SeqP.ok {K : PySem.W.Frag} {ps : List Pr} (l : SeqP P ps) {I H : Hp} {v : V} (sm : Same I H) (h : P.p v I) : ∃ p ys, v = .ref p ∧ (SqL K H p ys ∨ (SqT K H p ys ∧ I p = some (.tup ys))) ∧ TyL ps ys I := by
  cases l with
  | dl ds =>
    cases (show Dt I v (.list ds) from h) with
    | lst h1 h2 => exact ⟨_, _, rfl, .inl (SqL.of (sm _ _ h1)), h2.ty⟩
  | dt ds =>
    cases (show Dt I v (.tuple ds) from h) with
    | tup h1 h2 => exact ⟨_, _, rfl, .inr ⟨SqT.of (sm _ _ h1), h1⟩, h2.ty⟩
  | tu ps =>
    obtain ⟨p, xs, h1, h2, h3⟩ := h
    exact ⟨p, xs, h1, .inr ⟨SqT.of (sm _ _ h2), h2⟩, h3⟩
  | li ps =>
    obtain ⟨p, xs, h1, h2, h3⟩ := h
    exact ⟨p, xs, h1, .inl (SqL.of (sm _ _ h2)), h3⟩
theorem je_listc {p : Pos} {ps : List Pr} (ha : JE X N rq Γ e P) (l : SeqP P ps) (B : Bi X "list" (.type "list")) (A : Ar X e [] pos) : JE X N rq Γ (.Call (.Name "list" p) [e] [] pos) (LiV ps) :=
  je_callTy call_list_of B.gl B.free B.boot (ja_cons ha ja_nil A.he) (fun M I H vs Q hm s h q => by
    obtain ⟨v, rfl, hv⟩ := ty1 h
    obtain ⟨a, ys, rfl, h1, h2⟩ := l.ok (K := X.K) s.sub hv
    exact ⟨a, ys, rfl, h1.imp id And.left, fun x hx => q _ _ _ (s.new hx) (same_upd (fresh_of s hx)) ⟨x, ys, rfl, upd_same, h2.up (same_upd (fresh_of s hx))⟩⟩) B.n1 B.n2 A.he A.hpl
theorem je_tuplec {p : Pos} {ps : List Pr} (ha : JE X N rq Γ e P) (l : SeqP P ps) (B : Bi X "tuple" (.type "tuple")) (A : Ar X e [] pos) : JE X N rq Γ (.Call (.Name "tuple" p) [e] [] pos) (TuV ps) :=
  je_callTy call_tuple_of B.gl B.free B.boot (ja_cons ha ja_nil A.he) (fun M I H vs Q hm s h q => by
    obtain ⟨v, rfl, hv⟩ := ty1 h
    obtain ⟨a, ys, rfl, h1, h2⟩ := l.ok (K := X.K) s.sub hv
    refine ⟨a, ys, rfl, ?_⟩
    rcases h1 with h1 | ⟨h1, h3⟩
    · exact .inl ⟨h1, fun x hx => q _ _ _ (s.new hx) (same_upd (fresh_of s hx)) ⟨x, ys, rfl, upd_same, h2.up (same_upd (fresh_of s hx))⟩⟩
    · exact .inr ⟨h1, q _ I H s (Same.refl _) ⟨a, ys, rfl, h3, h2⟩⟩) B.n1 B.n2 A.he A.hpl
theorem je_listD {p : Pos} {ds : List PyData} (ha : JE X N rq Γ e P) (l : SeqP P (ds.map DatV)) (B : Bi X "list" (.type "list")) (A : Ar X e [] pos) : JE X N rq Γ (.Call (.Name "list" p) [e] [] pos) (DatV (.list ds)) := (je_listc ha l B A).conv fun _ _ h => dat_lst.mpr h
theorem je_tupleD {p : Pos} {ds : List PyData} (ha : JE X N rq Γ e P) (l : SeqP P (ds.map DatV)) (B : Bi X "tuple" (.type "tuple")) (A : Ar X e [] pos) : JE X N rq Γ (.Call (.Name "tuple" p) [e] [] pos) (DatV (.tuple ds)) := (je_tuplec ha l B A).conv fun _ _ h => dat_tup.mpr h
/-- sum, all, max of a list -/
theorem je_sum {p : Pos} {ns : List Int} (hc : X.calm = true) (ha : JE X N rq Γ e (DatV (.list (ns.map PyData.int)))) (B : Bi X "sum" (.builtin "sum")) (A : Ar X e [] pos) : JE X N rq Γ (.Call (.Name "sum" p) [e] [] pos) (IntV ns.sum) :=
  je_callB (cr_sum hc) B.gl B.free B.boot (ja_cons ha ja_nil A.he) (fun M I H vs Q hm s h q => by
    obtain ⟨v, rfl, hv⟩ := ty1 h
    cases (show Dt I v (.list (ns.map PyData.int)) from hv) with
    | lst h1 h2 =>
      have e1 := h2.ints
      subst e1
      exact ⟨_, ns, rfl, SqL.of (s.sub _ _ h1), q _ I H s (Same.refl _) (.int _)⟩) B.n1 B.n2 A.he A.hpl
theorem je_max {p : Pos} {ns : List Int} {m : Int} (hc : X.calm = true) (ha : JE X N rq Γ e (DatV (.list (ns.map PyData.int)))) (hm1 : m ∈ ns) (hm2 : ∀ y ∈ ns, y ≤ m) (B : Bi X "max" (.builtin "max")) (A : Ar X e [] pos) : JE X N rq Γ (.Call (.Name "max" p) [e] [] pos) (IntV m) :=
  je_callB (cr_max hc) B.gl B.free B.boot (ja_cons ha ja_nil A.he) (fun M I H vs Q hm s h q => by
    obtain ⟨v, rfl, hv⟩ := ty1 h
    cases (show Dt I v (.list (ns.map PyData.int)) from hv) with
    | lst h1 h2 =>
      have e1 := h2.ints
      subst e1
      refine ⟨_, ns, rfl, SqL.of (s.sub _ _ h1), List.length_pos_of_mem hm1, fun m' h3 h4 => q _ I H s (Same.refl _) ?_⟩
      rw [Int.le_antisymm (hm2 _ h3) (h4 _ hm1)]
      exact .int _) B.n1 B.n2 A.he A.hpl
theorem je_all {p : Pos} {bs : List Bool} (hc : X.calm = true) (ha : JE X N rq Γ e (DatV (.list (bs.map PyData.bool)))) (B : Bi X "all" (.builtin "all")) (A : Ar X e [] pos) : JE X N rq Γ (.Call (.Name "all" p) [e] [] pos) (BlV (bs.all id)) :=
  je_callB (cr_all hc) B.gl B.free B.boot (ja_cons ha ja_nil A.he) (fun M I H vs Q hm s h q => by
    obtain ⟨v, rfl, hv⟩ := ty1 h
    cases (show Dt I v (.list (bs.map PyData.bool)) from hv) with
    | lst h1 h2 =>
      have e1 := h2.bls
      subst e1
      exact ⟨_, bs, rfl, SqL.of (s.sub _ _ h1), q _ I H s (Same.refl _) (.bl _)⟩) B.n1 B.n2 A.he A.hpl
/-- a class of the built-ins as a value -/
def TyV (T : String) : Pr := EqV (.ty T)
theorem je_ty {x : Str} {T : String} (B : Bi X x (.type T)) : JE X N rq Γ (.Name x pos) (TyV T) := fun M I H σ Q hm s t q => we_of (pe_bltn B.gl B.free B.boot (v := .ty T) rfl B.n1 B.n2) (q _ I H s (Same.refl _) rfl)
/-- what is of a built-in type -/
inductive HasTy : Pr → String → Prop
  | non : HasTy (DatV .none) "NoneType"
  | bl (b : Bool) : HasTy (DatV (.bool b)) "bool"
  | int (i : Int) : HasTy (DatV (.int i)) "int"
  | str (x : Str) : HasTy (DatV (.str x)) "str"
  | lst (ds : List PyData) : HasTy (DatV (.list ds)) "list"
  | tup (ds : List PyData) : HasTy (DatV (.tuple ds)) "tuple"
  | li (ps : List Pr) : HasTy (LiV ps) "list"
  | tu (ps : List Pr) : HasTy (TuV ps) "tuple"
theorem HasTy.ok {K : PySem.W.Frag} {T : String} (l : HasTy P T) {I H : Hp} {v : V} (sm : Same I H) (h : P.p v I) : TyX K H v (.type T) := by
  cases l with
  | non => rw [Dt.non_inv h]; exact .base .non
  | bl b => rw [Dt.bl_inv h]; exact .base (.bl b)
  | int i => rw [Dt.int_inv h]; exact .base (.int i)
  | str x => rw [Dt.str_inv h]; exact .base (.str x)
  | lst ds =>
    cases (show Dt I v (.list ds) from h) with
    | lst h1 h2 => exact .base (.lst (sm _ _ h1))
  | tup ds =>
    cases (show Dt I v (.tuple ds) from h) with
    | tup h1 h2 => exact .base (.tup (sm _ _ h1))
  | li ps => obtain ⟨p, xs, rfl, h2, h3⟩ := h; exact .base (.lst (sm _ _ h2))
  | tu ps => obtain ⟨p, xs, rfl, h2, h3⟩ := h; exact .base (.tup (sm _ _ h2))
theorem je_isi {p : Pos} {T T' : String} {k : Bool} (ha : JE X N rq Γ a P) (l : HasTy P T) (hb : JE X N rq Γ b (TyV T')) (hk : kitB T T' = some k) (B : Bi X "isinstance" (.builtin "isinstance")) (A : Ar X a [b] pos) (A2 : Ar X b [] pos) : JE X N rq Γ (.Call (.Name "isinstance" p) [a, b] [] pos) (BlV k) :=
  je_callB call_isi B.gl B.free B.boot (ja_cons ha (ja_cons hb ja_nil A2.he) A.he) (fun M I H vs Q hm s h q => by
    obtain ⟨v, w, rfl, hv, hw⟩ := ty2 h
    exact ⟨v, w, _, _, k, rfl, by rw [show w = V.ty T' from hw]; exact .ty T', l.ok s.sub hv, kit_ty hk, q _ I H s (Same.refl _) (.bl _)⟩) B.n1 B.n2 A.he A.hpl
/-- isinstance(x, (T1, T2)) -/
theorem je_isi2 {p : Pos} {T T1 T2 : String} {k1 k2 : Bool} (ha : JE X N rq Γ a P) (l : HasTy P T) (hb : JE X N rq Γ b (TuV [TyV T1, TyV T2])) (hk1 : kitB T T1 = some k1) (hk2 : kitB T T2 = some k2) (B : Bi X "isinstance" (.builtin "isinstance")) (A : Ar X a [b] pos) (A2 : Ar X b [] pos) :
    JE X N rq Γ (.Call (.Name "isinstance" p) [a, b] [] pos) (BlV (k1 || k2)) :=
  je_callB call_isiT B.gl B.free B.boot (ja_cons ha (ja_cons hb ja_nil A2.he) A.he) (fun M I H vs Q hm s h q => by
    obtain ⟨v, w, rfl, hv, hw⟩ := ty2 h
    obtain ⟨t, xs, rfl, h1, h2⟩ := hw
    obtain ⟨u1, u2, rfl, h3, h4⟩ := ty2 h2
    refine ⟨v, t, [u1, u2], _, [.type T1, .type T2], k1 || k2, rfl, s.sub _ _ h1, ?_, l.ok s.sub hv, ?_, q _ I H s (Same.refl _) (.bl _)⟩
    · rw [show u1 = V.ty T1 from h3, show u2 = V.ty T2 from h4]
      exact .cons (.ty T1) (.cons (.ty T2) .nil)
    · refine kitAny_cons (kit_ty hk1) (fun e => ?_) fun e => by rw [e]; rfl
      refine kitAny_cons (kit_ty hk2) (fun e2 => ?_) fun e2 => by rw [e2]; simp
      rw [e, e2]; exact kitAny_nil) B.n1 B.n2 A.he A.hpl
/-- list + list -/
theorem je_catL {ds es' : List PyData} (ha : JE X N rq Γ a (DatV (.list ds))) (hb : JE X N rq Γ b (DatV (.list es'))) (hl : ds.length + es'.length ≤ 1000) : JE X N rq Γ (.BinOp a .Add b pos) (DatV (.list (ds ++ es'))) :=
  je_op op_cat ha hb fun M I H x y Q s p p' q => by
    cases (show Dt I x (.list ds) from p) with
    | lst h1 h2 =>
      cases (show Dt I y (.list es') from p') with
      | lst h3 h4 =>
        exact ⟨_, _, _, _, rfl, rfl, s.sub _ _ h1, s.sub _ _ h3, small1000 (by rw [h2.length, h4.length]; exact hl), fun r hr =>
          q _ _ _ (s.new hr) (same_upd (fresh_of s hr)) (.lst upd_same (DtA.up (same_upd (fresh_of s hr)) (h2.app h4)))⟩
/-! ### slices -/
def cutD (ds : List PyData) (lo hi : Option Int) : List PyData := (ds.drop (HT.sIx ds.length 0 lo)).take (HT.sIx ds.length ds.length hi - HT.sIx ds.length 0 lo)
theorem DtA.cut {I : Hp} {vs : List V} {ds : List PyData} (h : DtA I vs ds) (lo hi : Option Int) : DtA I (cutV vs lo hi) (cutD ds lo hi) := by
  unfold cutV cutD
  rw [h.length]
  exact (h.drop _).take _
/-- a slice's bound -/
def JO (X : Cx) (N : Ent) (rq : OwnM) (Γ : Ctx) (e : Option Expr) (o : Option Int) : Prop := ∃ t, PO X e t ∧ ∀ (M : OwnM) (I H : Hp) (σ : St) (Q : Option Int → Hp → Prop), Has rq M → S3 N M I H → Ty Γ σ I → (∀ I' H', S3 N M I' H' → Same I I' → Q o H') → t σ H Q
theorem jo_none : JO X N rq Γ none none := ⟨tNoPart, po_none, fun M I H σ Q hm s t q => q I H s (Same.refl _)⟩
theorem jo_some {i : Int} (h : JE X N rq Γ e (IntV i)) : JO X N rq Γ (some e) (some i) := ⟨_, po_some we_pe, fun M I H σ Q hm s t q => h M I H σ _ hm s t fun v I' H' s' e' p => ⟨i, p.int_inv, q I' H' s' e'⟩⟩
theorem je_cutT {ds : List PyData} {lo hi : Option Expr} {l u : Option Int} (ha : JE X N rq Γ a (DatV (.tuple ds))) (hl : JO X N rq Γ lo l) (hh : JO X N rq Γ hi u) (hn : ¬ (HT.sIx ds.length 0 l = 0 ∧ HT.sIx ds.length ds.length u = ds.length)) : JE X N rq Γ (.Subscript a (.Slice lo hi none p2) pos) (DatV (.tuple (cutD ds l u))) := fun M I H σ Q hm s t q => by
  obtain ⟨tl, pl, kl⟩ := hl
  obtain ⟨th, ph, kh⟩ := hh
  refine we_of (pe_slice sl_tup we_pe pl ph) (ha M I H σ _ hm s t fun v I1 H1 s1 e1 p => kl M I1 H1 σ _ hm s1 (t.up e1) fun I2 H2 s2 e2 => kh M I2 H2 σ _ hm s2 (t.up (e1.trans e2)) fun I3 H3 s3 e3 => ?_)
  cases (show Dt I1 v (.tuple ds) from p) with
  | tup h1 h2 =>
    have h1' := (e2.trans e3) _ _ h1
    have h2' := DtA.up (e2.trans e3) h2
    refine ⟨_, _, rfl, SqT.of (s3.sub _ _ h1'), by rw [h2.length]; exact hn, fun r hr => q _ _ _ (s3.new hr) (((e1.trans e2).trans e3).trans (same_upd (fresh_of s3 hr))) (.tup upd_same (DtA.up (same_upd (fresh_of s3 hr)) (h2'.cut l u)))⟩
theorem je_cutL {ds : List PyData} {lo hi : Option Expr} {l u : Option Int} (ha : JE X N rq Γ a (DatV (.list ds))) (hl : JO X N rq Γ lo l) (hh : JO X N rq Γ hi u) : JE X N rq Γ (.Subscript a (.Slice lo hi none p2) pos) (DatV (.list (cutD ds l u))) := fun M I H σ Q hm s t q => by
  obtain ⟨tl, pl, kl⟩ := hl
  obtain ⟨th, ph, kh⟩ := hh
  refine we_of (pe_slice sl_list we_pe pl ph) (ha M I H σ _ hm s t fun v I1 H1 s1 e1 p => kl M I1 H1 σ _ hm s1 (t.up e1) fun I2 H2 s2 e2 => kh M I2 H2 σ _ hm s2 (t.up (e1.trans e2)) fun I3 H3 s3 e3 => ?_)
  cases (show Dt I1 v (.list ds) from p) with
  | lst h1 h2 =>
    have h1' := (e2.trans e3) _ _ h1
    have h2' := DtA.up (e2.trans e3) h2
    exact ⟨_, _, rfl, SqL.of (s3.sub _ _ h1'), fun r hr => q _ _ _ (s3.new hr) (((e1.trans e2).trans e3).trans (same_upd (fresh_of s3 hr))) (.lst upd_same (DtA.up (same_upd (fresh_of s3 hr)) (h2'.cut l u)))⟩
end
end QL

/-! text QL4 -/
set_option Elab.async false
set_option linter.all false
set_option maxRecDepth 100000
set_option maxHeartbeats 4000000
/-! QL4: targets, iteration, list comprehensions, statements. -/
namespace QL
open PySem PySem.Spec PyProof.Rows L2

/-! ### more about states -/
theorem S3.lift {N : Ent} {M : OwnM} {I1 I H : Hp} (s : S3 N M I H) (e : Same I1 I) (e0 : Same N.I I1) : S3 { N with I := I1 } M I H :=
  ⟨s.sub, s.own, s.nd, s.keep, e, fun a h => by
    rcases s.fr a h with z | z
    · exact .inl fun n => z (e0.free n)
    · exact .inr z, s.fm, s.tab, s.dmk, s.nt⟩
theorem S3.fewer {N : Ent} {M M' : OwnM} {I H : Hp} (s : S3 N M I H) (h : Has M' M) (nd : (M'.map (·.1)).Nodup) : S3 N M' I H :=
  ⟨s.sub, fun q hq => s.own q (h q hq), nd, s.keep, s.ii, s.fr, fun q hq => s.fm q (h q hq), s.tab, s.dmk, s.nt⟩
/-- into a callee -/
def Ent.call (I H : Hp) (ow : OwnM) : Ent := { I := I, H := H, dm := ow.map (·.1), T := [] }
theorem S3.enter {N : Ent} {M ow : OwnM} {I H : Hp} (s : S3 N M I H) (h : Has ow M) (nd : (ow.map (·.1)).Nodup) : S3 (Ent.call I H ow) ow I H :=
  ⟨s.sub, fun q hq => s.own q (h q hq), nd, fun a o _ e => e, Same.refl _, fun a h => .inl h, fun q hq => .inl (List.mem_map.mpr ⟨q, hq, rfl⟩), fun p hp => (by cases hp), fun a ha o e => by
    obtain ⟨q, hq, rfl⟩ := List.mem_map.mp ha
    obtain ⟨⟨o', h1, h2, _⟩, _⟩ := s.own q (h q hq)
    rw [show (Ent.call I H ow).H q.1 = H q.1 from rfl, h1] at e
    cases e; exact h2, s.nt⟩
theorem Nt_mem {M : OwnM} (nd : (M.map (·.1)).Nodup) {q r : Addr × OwnP} (hq : q ∈ M) (hr : r ∈ M) (e : q.1 = r.1) : q = r := by
  induction M with
  | nil => cases hq
  | cons x xs ih =>
    rw [List.map_cons] at nd
    obtain ⟨n1, n2⟩ := List.nodup_cons.mp nd
    rcases List.mem_cons.mp hq with a | a
    · rcases List.mem_cons.mp hr with b | b
      · rw [a, b]
      · exact absurd (List.mem_map.mpr ⟨r, b, by rw [← e, a]⟩) n1
    · rcases List.mem_cons.mp hr with b | b
      · exact absurd (List.mem_map.mpr ⟨q, a, by rw [e, b]⟩) n1
      · exact ih n2 a b
/-- behind a call; what the callee had is as it was -/
theorem S3.back {N : Ent} {M ow : OwnM} {I H I' H' : Hp} (s : S3 N M I H) (h : Has ow M) (t : S3 (Ent.call I H ow) ow I' H') : S3 N M I' H' ∧ Same I I' := by
  have e : Same I I' := t.ii
  have kp : ∀ a o, H a = some o → a ∉ ow.map (·.1) → H' a = some o := fun a o h1 h2 => t.keep a o h2 h1
  refine ⟨⟨t.sub, fun q hq => ?_, s.nd, fun a o h1 h2 => ?_, s.ii.trans e, fun a hn => ?_, s.fm, fun p hp => ?_, s.dmk, t.nt⟩, e⟩
  · obtain ⟨⟨o, h1, h2, h3⟩, h4⟩ := s.own q hq
    by_cases hw : q.1 ∈ ow.map (·.1)
    · obtain ⟨r, hr, er⟩ := List.mem_map.mp hw
      have := Nt_mem s.nd (h r hr) hq er
      subst this
      exact t.own _ hr
    · refine ⟨⟨o, kp _ _ h1 hw, h2, q.2.up e h3⟩, ?_⟩
      cases z : I' q.1 with
      | none => rfl
      | some u =>
        rcases t.fr q.1 (by rw [z]; simp) with w | w | w | ⟨xs, w⟩
        · exact absurd h4 w
        · rw [show (Ent.call I H ow).H q.1 = H q.1 from rfl, h1] at w; cases w
        · exact absurd w hw
        · rw [show (Ent.call I H ow).H q.1 = H q.1 from rfl, h1] at w
          cases w; exact absurd rfl (h2.1 xs)
  · have z := s.keep a o h1 h2
    refine kp _ _ z fun hm => ?_
    obtain ⟨r, hr, er⟩ := List.mem_map.mp hm
    subst er
    rcases s.fm r (h r hr) with w | w
    · exact h1 w
    · rw [w] at h2; cases h2
  · by_cases hi : I a = none
    · rcases t.fr a hn with w | w | w | w
      · exact absurd hi w
      · rcases s.nh (p := a) w with z | z
        · exact .inr (.inl z)
        · exact .inr (.inr (.inl z))
      · obtain ⟨r, hr, er⟩ := List.mem_map.mp (show a ∈ ow.map (·.1) from w)
        subst er
        rcases s.fm r (h r hr) with z | z
        · exact .inr (.inr (.inl z))
        · exact .inr (.inl z)
      · obtain ⟨xs, w⟩ := w
        have w : H a = some (.tup xs) := w
        by_cases hd : a ∈ N.dm
        · exact .inr (.inr (.inl hd))
        · cases q : N.H a with
          | none => exact .inr (.inl rfl)
          | some o =>
            have z := s.keep a o hd q
            rw [w] at z; cases z
            exact .inr (.inr (.inr ⟨xs, rfl⟩))
    · exact s.fr a hi
  · obtain ⟨ps, e1, e2, e3⟩ := s.tab p hp
    have ne : ∀ a o, H a = some o → ¬ NoT o → a ∉ ow.map (·.1) := fun a o h1 h2 hm => by
      obtain ⟨r, hr, er⟩ := List.mem_map.mp hm
      subst er
      obtain ⟨⟨o', h3, h4, _⟩, _⟩ := s.own r (h r hr)
      rw [h1] at h3; cases h3; exact h2 h4
    refine ⟨ps, kp _ _ e1 (ne _ _ e1 fun z => z.2.1 _ rfl), e2, fun pos cv hc => ?_⟩
    obtain ⟨c, k1, k2⟩ := e3 pos cv hc
    exact ⟨c, k1, kp _ _ k2 (ne _ _ k2 fun z => z.2.2 _ rfl)⟩

/-! ### targets -/
def setAll : St → List (Nat × V) → St
  | σ, [] => σ
  | σ, (j, v) :: r => setAll (σ.set j (some v)) r
def setC : Ctx → List (Nat × Pr) → Ctx
  | Γ, [] => Γ
  | Γ, (j, P) :: r => setC (Γ.set j (some P)) r
theorem setAll_len : ∀ (l : List (Nat × V)) (σ : St), (setAll σ l).length = σ.length
  | [], _ => rfl
  | (j, v) :: r, σ => by rw [setAll, setAll_len r, List.length_set]
theorem setC_len : ∀ (l : List (Nat × Pr)) (Γ : Ctx), (setC Γ l).length = Γ.length
  | [], _ => rfl
  | (j, v) :: r, σ => by rw [setC, setC_len r, List.length_set]
theorem Ty.setAll {I : Hp} : ∀ {jp : List (Nat × Pr)} {ws : List V} {Γ : Ctx} {σ : St}, Ty Γ σ I → (∀ p ∈ jp, p.1 < σ.length) → TyL (jp.map Prod.snd) ws I → Ty (setC Γ jp) (setAll σ ((jp.map Prod.fst).zip ws)) I
  | [], [], _, _, h, _, _ => h
  | (j, P) :: jp, w :: ws, Γ, σ, h, hl, k => Ty.setAll (jp := jp) (ws := ws) (h.set (hl (j, P) List.mem_cons_self) k.1) (fun p hp => by rw [List.length_set]; exact hl p (List.mem_cons_of_mem _ hp)) k.2
  | [], _ :: _, _, _, _, _, k => k.elim
  | _ :: _, [], _, _, _, _, k => k.elim
theorem set_oob {α : Type} {l : List α} {i : Nat} {v : α} (h : l.length ≤ i) : l.set i v = l := List.set_eq_of_length_le h
theorem wipe_set {σ : St} {i : Nat} {v : Option V} : ∀ {vs : List Nat}, i ∈ vs → wipe (σ.set i v) vs = wipe σ vs
  | w :: vs, h => by
    unfold wipe
    by_cases e : i ∈ vs
    · rw [wipe_set e]
    · have e2 : i = w := by
        rcases List.mem_cons.mp h with z | z
        · exact z
        · exact absurd z e
      subst e2
      apply List.ext_getElem?
      intro j
      by_cases hj : i = j
      · subst hj
        by_cases hl : i < σ.length
        · rw [List.getElem?_set_self (by rw [wipe_length, List.length_set]; exact hl), List.getElem?_set_self (by rw [wipe_length]; exact hl)]
        · rw [List.getElem?_eq_none (by rw [List.length_set, wipe_length, List.length_set]; omega), List.getElem?_eq_none (by rw [List.length_set, wipe_length]; omega)]
      · rw [List.getElem?_set_ne hj, List.getElem?_set_ne hj]
        by_cases hm : j ∈ vs
        · have g : ∀ τ : St, τ.length = σ.length → (wipe τ vs)[j]? = if j < σ.length then some none else none := fun τ hτ => by
            by_cases hl : j < σ.length
            · rw [if_pos hl]
              cases q : (wipe τ vs)[j]? with
              | none => rw [List.getElem?_eq_none_iff, wipe_length] at q; omega
              | some o =>
                cases o with
                | none => rfl
                | some x => exact absurd hm (wipe_some q).2
            · rw [if_neg hl]
              exact List.getElem?_eq_none (by rw [wipe_length]; omega)
          rw [g _ (List.length_set), g _ rfl]
        · rw [wipe_out hm, wipe_out hm, List.getElem?_set_ne hj]
theorem wipe_setAll {vs : List Nat} : ∀ {l : List (Nat × V)} {σ : St}, (∀ p ∈ l, p.1 ∈ vs) → wipe (QL.setAll σ l) vs = wipe σ vs
  | [], _, _ => rfl
  | (j, v) :: r, σ, h => by rw [QL.setAll, wipe_setAll (fun p hp => h p (List.mem_cons_of_mem _ hp)), wipe_set (h (j, v) List.mem_cons_self)]
theorem wipe_wipe {σ : St} {vs : List Nat} : wipe (wipe σ vs) vs = wipe σ vs := by
  apply List.ext_getElem?
  intro j
  by_cases hm : j ∈ vs
  · have g : ∀ τ : St, τ.length = σ.length → (wipe τ vs)[j]? = if j < σ.length then some none else none := fun τ hτ => by
      by_cases hl : j < σ.length
      · rw [if_pos hl]
        cases q : (wipe τ vs)[j]? with
        | none => rw [List.getElem?_eq_none_iff, wipe_length] at q; omega
        | some o =>
          cases o with
          | none => rfl
          | some x => exact absurd hm (wipe_some q).2
      · rw [if_neg hl]
        exact List.getElem?_eq_none (by rw [wipe_length]; omega)
    rw [g _ (wipe_length _ _), g _ rfl]
  · rw [wipe_out hm]
def wipeC (Γ : Ctx) : List Nat → Ctx
  | [] => Γ
  | v :: vs => (wipeC Γ vs).set v none
theorem wipeC_len (Γ : Ctx) : ∀ vs : List Nat, (wipeC Γ vs).length = Γ.length
  | [] => rfl
  | v :: vs => by unfold wipeC; rw [List.length_set, wipeC_len Γ vs]
theorem wipeC_get {Γ : Ctx} {i : Nat} {P : Pr} : ∀ {vs : List Nat}, (wipeC Γ vs)[i]? = some (some P) → Γ[i]? = some (some P) ∧ i ∉ vs
  | [], h => ⟨h, by simp⟩
  | v :: vs, h => by
    unfold wipeC at h
    by_cases hi : v = i
    · subst hi
      by_cases hv : v < (wipeC Γ vs).length
      · rw [List.getElem?_set_self hv] at h; cases h
      · rw [List.getElem?_eq_none (by simpa using hv)] at h; cases h
    · rw [List.getElem?_set_ne hi] at h
      obtain ⟨h1, h2⟩ := wipeC_get h
      exact ⟨h1, by simp only [List.mem_cons, not_or]; exact ⟨fun e => hi e.symm, h2⟩⟩
theorem Ty.wipe {Γ : Ctx} {σ : St} {I : Hp} (h : Ty Γ σ I) (vs : List Nat) : Ty (wipeC Γ vs) (L2.wipe σ vs) I := fun i P q => by
  obtain ⟨h1, h2⟩ := wipeC_get q
  rw [wipe_out h2]
  exact h i P h1

def JGr (g : TG) (P : Pr) (jp : List (Nat × Pr)) : Prop := ∀ (I H : Hp) (σ : St) (v : V) (Q : St → Hp → Prop), Same I H → P.p v I → (∀ ws, TyL (jp.map Prod.snd) ws I → Q (QL.setAll σ ((jp.map Prod.fst).zip ws)) H) → g v σ H Q
theorem JGr.conv {g : TG} {P P' : Pr} {jp : List (Nat × Pr)} (h : JGr g P jp) (k : ∀ v I, P'.p v I → P.p v I) : JGr g P' jp := fun I H σ v Q sm p q => h I H σ v Q sm (k v I p) q
theorem jgr_name {i : Nat} {P : Pr} : JGr (gName i) P [(i, P)] := fun I H σ v Q sm p q => q [v] ⟨p, True.intro⟩
theorem jgr_tup2 {K : PySem.W.Frag} {i j : Nat} {P P' : Pr} : JGr (gTup K 2 (gCons (gName i) (gCons (gName j) gNil))) (TuV [P, P']) [(i, P), (j, P')] := fun I H σ v Q sm ⟨a, xs, e1, e2, e3⟩ q => by
  obtain ⟨x, y, rfl, h1, h2⟩ := ty2 e3
  exact ⟨a, [x, y], e1, SqT.of (sm _ _ e2), rfl, x, [y], rfl, y, [], rfl, rfl, q [x, y] ⟨h1, h2, True.intro⟩⟩
theorem ty3 {P P' P2 : Pr} {vs : List V} {I : Hp} (h : TyL [P, P', P2] vs I) : ∃ v w u, vs = [v, w, u] ∧ P.p v I ∧ P'.p w I ∧ P2.p u I := by
  match vs, h with
  | [v, w, u], h => exact ⟨v, w, u, rfl, h.1, h.2.1, h.2.2.1⟩
theorem jgr_tup3 {K : PySem.W.Frag} {i j l : Nat} {P P' P2 : Pr} : JGr (gTup K 3 (gCons (gName i) (gCons (gName j) (gCons (gName l) gNil)))) (TuV [P, P', P2]) [(i, P), (j, P'), (l, P2)] := fun I H σ v Q sm ⟨a, xs, e1, e2, e3⟩ q => by
  obtain ⟨x, y, z, rfl, h1, h2, h3⟩ := ty3 e3
  exact ⟨a, [x, y, z], e1, SqT.of (sm _ _ e2), rfl, x, [y, z], rfl, y, [z], rfl, z, [], rfl, rfl, q [x, y, z] ⟨h1, h2, h3, True.intro⟩⟩
theorem jgr_tup2D {K : PySem.W.Frag} {i j : Nat} {d d' : PyData} : JGr (gTup K 2 (gCons (gName i) (gCons (gName j) gNil))) (DatV (.tuple [d, d'])) [(i, DatV d), (j, DatV d')] := jgr_tup2.conv fun _ _ p => dat_tup.mp p
theorem jgr_tup3D {K : PySem.W.Frag} {i j l : Nat} {d d' d2 : PyData} : JGr (gTup K 3 (gCons (gName i) (gCons (gName j) (gCons (gName l) gNil)))) (DatV (.tuple [d, d', d2])) [(i, DatV d), (j, DatV d'), (l, DatV d2)] := jgr_tup3.conv fun _ _ p => dat_tup.mp p
section
variable {X : Cx} {pos : Pos}
/-- a name that is stored -/
structure Nm (X : Cx) (x : Str) (i : Nat) : Prop where
  hi : X.N[i]? = some x
  hx : Loc X.env.scope x
  hf : X.fn x = true ∨ X.env.scope.names.lookup x = some .local
theorem qg_name {i : Nat} {x : Str} (hN : X.N.Nodup) (n : Nm X x i) : PG X (.Name x pos) (gName i) := pg_name hN n.hi n.hx n.hf
theorem qg_tup2 {i j : Nat} {x y : Str} {p1 p2 : Pos} {k : Nat} (hc : X.calm = true) (hN : X.N.Nodup) (n : Nm X x i) (m : Nm X y j) : PG X (.Tuple [.Name x p1, .Name y p2] k pos) (gTup X.K 2 (gCons (gName i) (gCons (gName j) gNil))) :=
  pg_tup hc (pgs_cons (qg_name hN n) (pgs_cons (qg_name hN m) pgs_nil))
theorem qg_tup3 {i j l : Nat} {x y z : Str} {p1 p2 p3 : Pos} {k : Nat} (hc : X.calm = true) (hN : X.N.Nodup) (n : Nm X x i) (m : Nm X y j) (o : Nm X z l) : PG X (.Tuple [.Name x p1, .Name y p2, .Name z p3] k pos) (gTup X.K 3 (gCons (gName i) (gCons (gName j) (gCons (gName l) gNil)))) :=
  pg_tup hc (pgs_cons (qg_name hN n) (pgs_cons (qg_name hN m) (pgs_cons (qg_name hN o) pgs_nil)))
end

/-! ### iteration -/
def Walks {α : Type} (N : Ent) (J : It) (zs : List α) (R : α → Pr) : Prop := ∀ (M : OwnM) (I H : Hp) (i : Nat), S3 N M I H →
  (∀ z, zs[i]? = some z → J.go i H ∧ ∀ x H', J.yld i H x H' → ∃ I', S3 N M I' H' ∧ Same I I' ∧ (R z).p x I') ∧ (i = zs.length → J.stop i H)
def JI {α : Type} (X : Cx) (N : Ent) (rq : OwnM) (Γ : Ctx) (tg iter : Expr) (zs : List α) (R : α → Pr) : Prop := ∃ wi, PI X tg iter wi ∧
  ∀ (M : OwnM) (I H : Hp) (σ : St) (Q : It → Hp → Prop), Has rq M → S3 N M I H → Ty Γ σ I → (∀ J I1 H1, S3 N M I1 H1 → Same I I1 → Walks { N with I := I1 } J zs R → Q J H1) → wi σ H Q
section
variable {X : Cx} {N : Ent} {rq : OwnM} {Γ : Ctx} {a b c e tg iter : Expr} {es : List Expr} {P P' R : Pr} {pos p2 : Pos} {α : Type}
theorem JI.map {β : Type} {zs : List β} {R : α → Pr} {f : β → α} (h : JI X N rq Γ tg iter (zs.map f) R) : JI X N rq Γ tg iter zs (fun z => R (f z)) := by
  obtain ⟨wi, h1, h2⟩ := h
  refine ⟨wi, h1, fun M I H σ Q hm s t q => h2 M I H σ Q hm s t fun J I1 H1 s1 e1 w => q J I1 H1 s1 e1 fun M' I' H' i s' => ⟨fun z hz => (w M' I' H' i s').1 (f z) (by rw [List.getElem?_map, hz]; rfl), fun e => (w M' I' H' i s').2 (by rw [List.length_map]; exact e)⟩⟩
theorem JI.conv {zs : List α} {R R' : α → Pr} (h : JI X N rq Γ tg iter zs R) (k : ∀ z v I, (R z).p v I → (R' z).p v I) : JI X N rq Γ tg iter zs R' := by
  obtain ⟨wi, h1, h2⟩ := h
  refine ⟨wi, h1, fun M I H σ Q hm s t q => h2 M I H σ Q hm s t fun J I1 H1 s1 e1 w => q J I1 H1 s1 e1 fun M' I' H' i s' => ⟨fun z hz => ?_, (w M' I' H' i s').2⟩⟩
  obtain ⟨g, y⟩ := (w M' I' H' i s').1 z hz
  refine ⟨g, fun x H2 hy => ?_⟩
  obtain ⟨I2, s2, e2, p⟩ := y x H2 hy
  exact ⟨I2, s2, e2, k _ _ _ p⟩
theorem walks_l {K : PySem.W.Frag} {p : Addr} {ys : List V} {ps : List Pr} (hI : N.I p = some (.lst ys)) (h : TyL ps ys N.I) : Walks N (Itl K p) ps id := fun M I H i s => by
  have q : SqL K H p ys := SqL.of (s.sub _ _ (s.ii _ _ hI))
  refine ⟨fun z hz => ?_, fun e => ⟨ys, q, by rw [← h.length, e]; exact Nat.le_refl _⟩⟩
  obtain ⟨v, h1, h2⟩ := h.get hz
  exact ⟨⟨ys, v, q, h1⟩, fun x H' ⟨e1, e2⟩ => by
    subst e1
    have := e2 ys q
    rw [h1] at this; cases this
    exact ⟨I, s, Same.refl _, Pr.up z s.ii h2⟩⟩
theorem walks_t {K : PySem.W.Frag} {p : Addr} {ys : List V} {ps : List Pr} (hI : N.I p = some (.tup ys)) (h : TyL ps ys N.I) : Walks N (Itt K p) ps id := fun M I H i s => by
  have q : SqT K H p ys := SqT.of (s.sub _ _ (s.ii _ _ hI))
  refine ⟨fun z hz => ?_, fun e => ⟨ys, q, by rw [← h.length, e]; exact Nat.le_refl _⟩⟩
  obtain ⟨v, h1, h2⟩ := h.get hz
  exact ⟨⟨ys, v, q, h1⟩, fun x H' ⟨e1, e2⟩ => by
    subst e1
    have := e2 ys q
    rw [h1] at this; cases this
    exact ⟨I, s, Same.refl _, Pr.up z s.ii h2⟩⟩
theorem ji_li {ps : List Pr} (h : JE X N rq Γ iter (LiV ps)) : JI X N rq Γ tg iter ps id :=
  ⟨_, pi_list we_pe, fun M I H σ Q hm s t q => h M I H σ _ hm s t fun v I' H' s' e' p => by
    obtain ⟨a, xs, rfl, h1, h2⟩ := p
    exact ⟨a, rfl, ⟨xs, SqL.of (s'.sub _ _ h1)⟩, q _ I' H' s' e' (walks_l h1 h2)⟩⟩
theorem ji_tu {ps : List Pr} (h : JE X N rq Γ iter (TuV ps)) : JI X N rq Γ tg iter ps id :=
  ⟨_, pi_tup we_pe, fun M I H σ Q hm s t q => h M I H σ _ hm s t fun v I' H' s' e' p => by
    obtain ⟨a, xs, rfl, h1, h2⟩ := p
    exact ⟨a, rfl, ⟨xs, SqT.of (s'.sub _ _ h1)⟩, q _ I' H' s' e' (walks_t h1 h2)⟩⟩
theorem ji_liM {zs : List α} {R : α → Pr} (h : JE X N rq Γ iter (LiV (zs.map R))) : JI X N rq Γ tg iter zs R := (ji_li h).map
theorem ji_tuM {zs : List α} {R : α → Pr} (h : JE X N rq Γ iter (TuV (zs.map R))) : JI X N rq Γ tg iter zs R := (ji_tu h).map
theorem ji_dl {ds : List PyData} (h : JE X N rq Γ iter (DatV (.list ds))) : JI X N rq Γ tg iter ds DatV := (ji_li (h.conv fun _ _ p => dat_lst.mp p)).map
theorem ji_dt {ds : List PyData} (h : JE X N rq Γ iter (DatV (.tuple ds))) : JI X N rq Γ tg iter ds DatV := (ji_tu (h.conv fun _ _ p => dat_tup.mp p)).map
theorem ji_dlM {zs : List α} {f : α → PyData} (h : JE X N rq Γ iter (DatV (.list (zs.map f)))) : JI X N rq Γ tg iter zs (fun z => DatV (f z)) := (ji_dl h).map
theorem ji_dtM {zs : List α} {f : α → PyData} (h : JE X N rq Γ iter (DatV (.tuple (zs.map f)))) : JI X N rq Γ tg iter zs (fun z => DatV (f z)) := (ji_dt h).map
/-- range(n) -/
theorem ji_range {p : Pos} {n : Nat} (ha : JE X N rq Γ a (IntV (n : Int))) (hn : n < 1000000) (B : Bi X "range" (.type "range")) (hs : starEach [a] X.env = [(false, eval a X.env)]) : JI X N rq Γ tg (.Call (.Name "range" p) [a] [] pos) (List.range n) (fun k => IntV (k : Int)) :=
  ⟨_, pi_range1 B.gl B.free wa_pa hs, fun M I H σ Q hm s t q => ja_cons ha ja_nil (by rw [hs]; rfl) M I H σ _ hm s t fun vs I' H' s' e' p => by
    obtain ⟨v, rfl, hv⟩ := ty1 p
    refine ⟨n, by rw [Dt.int_inv hv], by omega, by omega, q _ I' H' s' e' fun M2 I2 H2 i s2 => ⟨fun z hz => ?_, fun e => ?_⟩⟩
    · have hi : i < n := by
        by_cases h : i < n
        · exact h
        · rw [List.getElem?_eq_none (by simpa using h)] at hz; cases hz
      rw [List.getElem?_range hi] at hz; cases hz
      refine ⟨show i < (n : Int).toNat from by simpa using hi, fun x H' ⟨e1, e2⟩ => ⟨I2, by rw [e1]; exact s2, Same.refl _, ?_⟩⟩
      rw [e2, show (0 : Int) + (i : Int) = (i : Int) by omega]
      exact .int _
    · show (n : Int).toNat ≤ i
      rw [List.length_range] at e
      omega⟩
/-- zip of two tuples, of two lists: the pairs -/
theorem walks_z {K : PySem.W.Frag} {p r : Addr} {xs ys : List V} {ps qs : List Pr} (hI : N.I p = some (.lst xs)) (hI' : N.I r = some (.lst ys)) (h : TyL ps xs N.I) (h' : TyL qs ys N.I) : Walks N (Itz K p r) (ps.zip qs) (fun z => TuV [z.1, z.2]) := fun M I H i s => by
  have q : SqL K H p xs := SqL.of (s.sub _ _ (s.ii _ _ hI))
  have q' : SqL K H r ys := SqL.of (s.sub _ _ (s.ii _ _ hI'))
  refine ⟨fun z hz => ?_, fun e => ⟨xs, ys, q, q', by rw [List.length_zip, h.length, h'.length] at e; omega⟩⟩
  rw [List.getElem?_zip_eq_some] at hz
  obtain ⟨v, h1, h2⟩ := h.get hz.1
  obtain ⟨w, h3, h4⟩ := h'.get hz.2
  refine ⟨⟨xs, ys, v, w, q, q', h1, h3⟩, fun u H' ⟨T, x, y, e1, e2, e3, e4, e5⟩ => ?_⟩
  have := e4 xs q; rw [h1] at this; cases this
  have := e5 ys q'; rw [h3] at this; cases this
  subst e3 e1
  have f := fresh_of s e2
  exact ⟨_, s.new e2, same_upd f, T, [v, w], rfl, upd_same, Pr.up z.1 (s.ii.trans (same_upd f)) h2, Pr.up z.2 (s.ii.trans (same_upd f)) h4, True.intro⟩
theorem walks_zT {K : PySem.W.Frag} {p r : Addr} {xs ys : List V} {ps qs : List Pr} (hI : N.I p = some (.tup xs)) (hI' : N.I r = some (.tup ys)) (h : TyL ps xs N.I) (h' : TyL qs ys N.I) : Walks N (RZ.ItzT K p r) (ps.zip qs) (fun z => TuV [z.1, z.2]) := fun M I H i s => by
  have q : SqT K H p xs := SqT.of (s.sub _ _ (s.ii _ _ hI))
  have q' : SqT K H r ys := SqT.of (s.sub _ _ (s.ii _ _ hI'))
  refine ⟨fun z hz => ?_, fun e => ⟨xs, ys, q, q', by rw [List.length_zip, h.length, h'.length] at e; omega⟩⟩
  rw [List.getElem?_zip_eq_some] at hz
  obtain ⟨v, h1, h2⟩ := h.get hz.1
  obtain ⟨w, h3, h4⟩ := h'.get hz.2
  refine ⟨⟨xs, ys, v, w, q, q', h1, h3⟩, fun u H' ⟨T, x, y, e1, e2, e3, e4, e5⟩ => ?_⟩
  have := e4 xs q; rw [h1] at this; cases this
  have := e5 ys q'; rw [h3] at this; cases this
  subst e3 e1
  have f := fresh_of s e2
  exact ⟨_, s.new e2, same_upd f, T, [v, w], rfl, upd_same, Pr.up z.1 (s.ii.trans (same_upd f)) h2, Pr.up z.2 (s.ii.trans (same_upd f)) h4, True.intro⟩
theorem ji_zipL {p tpos : Pos} {ps qs : List Pr} {elts : List Expr} {kk : Nat} (ha : JE X N rq Γ a (LiV ps)) (hb : JE X N rq Γ b (LiV qs)) (B : Bi X "zip" (.type "zip")) (A : Ar X a [b] pos) (A2 : Ar X b [] pos) : JI X N rq Γ (.Tuple elts kk tpos) (.Call (.Name "zip" p) [a, b] [] pos) (ps.zip qs) (fun z => TuV [z.1, z.2]) :=
  ⟨_, RZ.pi_zipA B.gl B.free wa_pa A.he A.hpl, fun M I H σ Q hm s t q => ja_cons ha (ja_cons hb ja_nil A2.he) A.he M I H σ _ hm s t fun vs I' H' s' e' hp => by
    obtain ⟨v, w, rfl, ⟨r1, xs, rfl, h1, h2⟩, ⟨r2, ys, rfl, h3, h4⟩⟩ := ty2 hp
    exact ⟨r1, r2, xs, ys, rfl, .inl ⟨SqL.of (s'.sub _ _ h1), SqL.of (s'.sub _ _ h3), q _ I' H' s' e' (walks_z h1 h3 h2 h4)⟩⟩⟩
theorem ji_zipT {p tpos : Pos} {ps qs : List Pr} {elts : List Expr} {kk : Nat} (ha : JE X N rq Γ a (TuV ps)) (hb : JE X N rq Γ b (TuV qs)) (B : Bi X "zip" (.type "zip")) (A : Ar X a [b] pos) (A2 : Ar X b [] pos) : JI X N rq Γ (.Tuple elts kk tpos) (.Call (.Name "zip" p) [a, b] [] pos) (ps.zip qs) (fun z => TuV [z.1, z.2]) :=
  ⟨_, RZ.pi_zipA B.gl B.free wa_pa A.he A.hpl, fun M I H σ Q hm s t q => ja_cons ha (ja_cons hb ja_nil A2.he) A.he M I H σ _ hm s t fun vs I' H' s' e' hp => by
    obtain ⟨v, w, rfl, ⟨r1, xs, rfl, h1, h2⟩, ⟨r2, ys, rfl, h3, h4⟩⟩ := ty2 hp
    exact ⟨r1, r2, xs, ys, rfl, .inr ⟨SqT.of (s'.sub _ _ h1), SqT.of (s'.sub _ _ h3), q _ I' H' s' e' (walks_zT h1 h3 h2 h4)⟩⟩⟩
end
end QL

/-! text QL5 -/
set_option Elab.async false
set_option linter.all false
set_option maxRecDepth 100000
set_option maxHeartbeats 4000000
/-! QL5: list comprehensions, statements. -/
namespace QL
open PySem PySem.Spec PyProof.Rows L2

theorem noT_lst {xs : List V} : NoT (.lst xs) := And.intro (fun _ e => by cases e) (And.intro (fun _ e => by cases e) (fun _ e => by cases e))
theorem noT_dK {xs : List (Key × V)} : NoT (.dK xs) := And.intro (fun _ e => by cases e) (And.intro (fun _ e => by cases e) (fun _ e => by cases e))
theorem noT_dT {xs : List (List Key × V)} : NoT (.dT xs) := And.intro (fun _ e => by cases e) (And.intro (fun _ e => by cases e) (fun _ e => by cases e))
theorem noT_ins {C d : Addr} {xs : List (Str × V)} : NoT (.ins C d xs) := And.intro (fun _ e => by cases e) (And.intro (fun _ e => by cases e) (fun _ e => by cases e))
/-- fewer facts, slot by slot -/
def Wk : Ctx → Ctx → Prop
  | [], [] => True
  | none :: a, _ :: b => Wk a b
  | some P :: a, q :: b => q = some P ∧ Wk a b
  | _, _ => False
theorem Wk.len : ∀ {a b : Ctx}, Wk a b → a.length = b.length
  | [], [], _ => rfl
  | none :: a, _ :: b, h => congrArg Nat.succ (Wk.len (a := a) (b := b) h)
  | some P :: a, q :: b, h => congrArg Nat.succ (Wk.len (a := a) (b := b) h.2)
  | [], _ :: _, h => h.elim
  | none :: _, [], h => h.elim
  | some _ :: _, [], h => h.elim
theorem Wk.get : ∀ {a b : Ctx} {i : Nat} {P : Pr}, Wk a b → a[i]? = some (some P) → b[i]? = some (some P)
  | [], [], _, _, _, e => e
  | none :: a, _ :: b, 0, _, h, e => by simp at e
  | none :: a, _ :: b, i + 1, _, h, e => by
    rw [List.getElem?_cons_succ] at e ⊢
    exact Wk.get (a := a) (b := b) h e
  | some P :: a, q :: b, 0, _, h, e => by
    rw [List.getElem?_cons_zero] at e ⊢
    rw [h.1]; exact e
  | some P :: a, q :: b, i + 1, _, h, e => by
    rw [List.getElem?_cons_succ] at e ⊢
    exact Wk.get (a := a) (b := b) h.2 e
  | [], _ :: _, _, _, h, _ => h.elim
  | none :: _, [], _, _, h, _ => h.elim
  | some _ :: _, [], _, _, h, _ => h.elim
theorem Wk.refl : ∀ {a : Ctx}, Wk a a
  | [] => True.intro
  | none :: a => Wk.refl (a := a)
  | some _ :: a => And.intro rfl (Wk.refl (a := a))
theorem Wk.ty {Γ Γ' : Ctx} {σ : St} {I : Hp} (w : Wk Γ' Γ) (t : Ty Γ σ I) : Ty Γ' σ I := t.weak fun _ _ e => w.get e

/-! ### list comprehensions -/
def WTs (X : Cx) (ifs : List Expr) : TT := fun σ H Q => ∀ (pins : List (Addr × Obj)) (s : Shared), Inv X pins σ H s →
  wpAny (model X.prog X.w) X.A (forIn ifs true fun c r => if r = true then do let ok ← isTrue c X.env (eval c X.env); pure (ForInStep.yield ok) else pure (ForInStep.yield r)) (TP X pins σ Q) X.xe s
theorem wts_of {X : Cx} {ifs : List Expr} {t : TT} (p : PTs X ifs t) {σ : St} {H : Hp} {Q : Bool → Hp → Prop} (q : t σ H Q) : WTs X ifs σ H Q := fun pins s I => p.run pins s σ H Q I q
def JTs (X : Cx) (N : Ent) (rq : OwnM) (Γ : Ctx) (ifs : List Expr) (b : Bool) : Prop := ∀ (M : OwnM) (I H : Hp) (σ : St) (Q : Bool → Hp → Prop), Has rq M → S3 N M I H → Ty Γ σ I → (∀ I' H', S3 N M I' H' → Same I I' → Q b H') → WTs X ifs σ H Q
abbrev Blks (X : Cx) (scope : Scope) (P : Cx → Prop) : Prop := ∀ (s : Shared) (H : Hp) (C : Addr) (cl : List (Str × Addr)) (fp : List Addr), P (X.blk s H scope (compEnvC scope cl C X.env) fp)
section
variable {X : Cx} {N : Ent} {rq : OwnM} {Γ : Ctx} {a b c e elt tg iter : Expr} {ifs : List Expr} {es : List Expr} {P P' R : Pr} {pos p2 : Pos} {α : Type}
theorem jts_nil : JTs X N rq Γ [] true := fun M I H σ Q hm s t q => wts_of pts_nil (q I H s (Same.refl _))
theorem jts_one {k : Bool} (h : JT X N rq Γ c k) : JTs X N rq Γ [c] k := fun M I H σ Q hm s t q => wts_of (pts_one wt_pt) (h M I H σ Q hm s t q)
theorem take_succ' {zs : List α} {i : Nat} {z : α} (h : zs[i]? = some z) : zs.take (i + 1) = zs.take i ++ [z] := by
  rw [List.take_succ, h]; rfl
/-- what is asked of a comprehension's parts -/
structure Lc (X : Cx) (N : Ent) (rq : OwnM) (Γ : Ctx) (elt tg iter : Expr) (ifs : List Expr) (scope : Scope) (own : List (Str × Nat)) (zs : List α) (p : α → Bool) (E : α → Pr) (wi : TI) (g : TG) : Prop where
  ok : BlkOk X.N X.env.scope scope own
  hg : Blks X scope fun Y => PG Y tg g
  pi : PI X tg iter wi
  el : ∃ (Rz : α → Pr) (jp : α → List (Nat × Pr)),
    (∀ (M : OwnM) (I H : Hp) (σ : St) (Q : It → Hp → Prop), Has rq M → S3 N M I H → Ty Γ σ I → (∀ J I1 H1, S3 N M I1 H1 → Same I I1 → Walks { N with I := I1 } J zs Rz → Q J H1) → wi σ H Q) ∧
    (∀ z ∈ zs, JGr g (Rz z) (jp z)) ∧ (∀ z ∈ zs, ∀ q ∈ jp z, q.1 ∈ own.map (·.2) ∧ q.1 < X.N.length) ∧
    (∀ z ∈ zs, Blks X scope fun Y => JTs Y N rq (setC (wipeC Γ (own.map (·.2))) (jp z)) ifs (p z)) ∧
    (∀ z ∈ zs, p z = true → Blks X scope fun Y => JE Y N rq (setC (wipeC Γ (own.map (·.2))) (jp z)) elt (E z))
  len : zs.length ≤ 1000
def teB (X : Cx) (scope : Scope) (elt : Expr) : TE := fun σ H Q => Blks X scope fun Y => WE Y elt σ H Q
def ttB (X : Cx) (scope : Scope) (ifs : List Expr) : TT := fun σ H Q => Blks X scope fun Y => WTs Y ifs σ H Q
theorem lc_read {scope : Scope} {own : List (Str × Nat)} {zs : List α} {p : α → Bool} {E : α → Pr} {wi : TI} {g : TG} (L : Lc X N rq Γ elt tg iter ifs scope own zs p E wi g)
    {M : OwnM} {I H : Hp} {σ : St} {Q : VK} (hm : Has rq M) (s : S3 N M I H) (t : Ty Γ σ I) (hlen : σ.length = X.N.length) (q : ∀ v I' H', S3 N M I' H' → Same I I' → (LiV ((zs.filter p).map E)).p v I' → Q v H') :
    tLc wi g (ttB X scope ifs) (teB X scope elt) (own.map (·.2)) σ H Q := by
  obtain ⟨Rz, jp, h1, h2, h3, h4, h5⟩ := L.el
  have hl := L.len
  refine h1 M I H σ _ hm s t fun J I1 H1 s1 e1 w D hD => ?_
  obtain ⟨sb, s11⟩ := Sub.at s1
  let Ms : Nat → OwnM := fun i => (D, lstO (((zs.take i).filter p).map E)) :: M
  refine ⟨fun i m H => m = zs.length - i ∧ i ≤ zs.length ∧ ∃ I', S3 { N with I := I1 } (Ms i) I' H, ⟨zs.length, rfl, Nat.zero_le _, I1, s11.newO hD noT_lst ⟨[], rfl, True.intro⟩⟩, ?_⟩
  rintro i m H2 ⟨rfl, hi, I2, s2⟩
  have w2 := w _ _ _ i s2
  by_cases hlt : i < zs.length
  · obtain ⟨z, hz⟩ : ∃ z, zs[i]? = some z := ⟨_, List.getElem?_eq_getElem hlt⟩
    have mz : z ∈ zs := List.mem_of_getElem? hz
    obtain ⟨go, y⟩ := w2.1 z hz
    refine .inr ⟨go, fun H => ∃ I', S3 { N with I := I1 } (Ms (i + 1)) I' H, fun H' p' => ⟨zs.length - (i + 1), by omega, rfl, hlt, p'⟩, fun x H3 hy => ?_⟩
    obtain ⟨I3, s3, e3, px⟩ := y x H3 hy
    have hm' : Has rq (Ms i) := fun q hq => List.mem_cons_of_mem _ (hm q hq)
    refine h2 z mz I3 H3 _ x _ s3.sub px fun ws tw => ?_
    have ty3 : Ty (setC (wipeC Γ (own.map (·.2))) (jp z)) (QL.setAll (wipe σ (own.map (·.2))) (((jp z).map Prod.fst).zip ws)) I3 := Ty.setAll ((t.up (e1.trans s3.ii)).wipe _) (fun q hq => by rw [wipe_length, hlen]; exact (h3 z mz q hq).2) tw
    refine ⟨?_, ?_⟩
    · rw [wipe_setAll, wipe_wipe]
      intro q hq
      obtain ⟨n1, n2⟩ := q
      obtain ⟨r, hr, er⟩ := List.mem_map.mp (List.of_mem_zip hq).1
      have z0 : r.1 = n1 := er
      show n1 ∈ _
      rw [← z0]; exact (h3 z mz r hr).1
    · intro sh Hh C cl fp
      refine h4 z mz sh Hh C cl fp (Ms i) I3 H3 _ _ hm' (sb.2.2.2 _ _ _ s3) ty3 fun I4 H4 s4 e4 => ?_
      have s4' := s4.lift (I1 := I1) (s3.ii.trans e4) s1.ii
      cases hp : p z with
      | false =>
        refine (if_neg Bool.false_ne_true).mpr ⟨I4, ?_⟩
        have : Ms (i + 1) = Ms i := by
          show (D, lstO (((zs.take (i + 1)).filter p).map E)) :: M = _
          rw [take_succ' hz, List.filter_append, List.filter_cons, hp]
          simp [Ms]
        rw [this]; exact s4'
      | true =>
        refine (if_pos rfl).mpr fun sh2 Hh2 C2 cl2 fp2 => ?_
        refine h5 z mz hp sh2 Hh2 C2 cl2 fp2 (Ms i) I4 H4 _ _ hm' s4 (ty3.up e4) fun v I5 H5 s5 e5 pv => ?_
        have s5' := s5.lift (I1 := I1) ((s3.ii.trans e4).trans e5) s1.ii
        obtain ⟨⟨o, g1, g2, xs, rfl, g3⟩, g4⟩ := s5'.own (D, lstO (((zs.take i).filter p).map E)) List.mem_cons_self
        have lx : xs.length ≤ i := by
          rw [← g3.length, List.length_map]
          exact Nat.le_trans (List.length_filter_le _ _) (by rw [List.length_take]; exact Nat.min_le_left _ _)
        refine ⟨xs, g1, Nat.lt_of_lt_of_le (Nat.lt_of_le_of_lt lx (Nat.lt_of_lt_of_le hlt hl)) (by rw [sizeLine_eq]; omega), I5, ?_⟩
        refine s5'.put (φ' := lstO (((zs.take (i + 1)).filter p).map E)) noT_lst ⟨_, rfl, ?_⟩
        rw [take_succ' hz, List.filter_append, List.map_append, List.filter_cons, hp]
        exact g3.app (TyL.one pv)
  · have e : i = zs.length := by omega
    subst e
    refine .inl ⟨w2.2 rfl, ?_⟩
    obtain ⟨o, g1, ⟨xs, rfl, g2⟩, g3, g4⟩ := s2.freeze
    have s5 := sb.2.2.2 _ _ _ g3
    refine q _ _ _ s5 ((e1.trans s2.ii).trans g4) ⟨D, xs, rfl, upd_same, ?_⟩
    rw [List.take_length] at g2
    exact g2.up g4
theorem je_lcG {scope : Scope} {own : List (Str × Nat)} {zs : List α} {p : α → Bool} {E : α → Pr} {wi : TI} {g : TG} (hc : X.calm = true) (hN : X.N.Nodup) (L : Lc X N rq Γ elt tg iter ifs scope own zs p E wi g) (hs : ∀ x, foldedSetIterable iter X.env x = pure x) :
    JE X N rq Γ (.ListComp elt [⟨tg, iter, ifs, 0⟩] scope pos) (LiV ((zs.filter p).map E)) := fun M I H σ Q hm s t q pins s0 I0 =>
  we_of (pe_lc hc hN L.pi L.ok L.hg (fun s H C cl fp => ⟨fun pins s1 σ1 H1 Q1 I1 h => h s H C cl fp pins s1 I1⟩) (fun s H C cl fp => ⟨fun pins s1 σ1 H1 Q1 I1 h => h s H C cl fp pins s1 I1⟩) hs) (lc_read L hm s t I0.len q) pins s0 I0
theorem Lc.of {scope : Scope} {own : List (Str × Nat)} {zs : List α} {p : α → Bool} {E : α → Pr} {Rz : α → Pr} {jp : α → List (Nat × Pr)} {g : TG} (hi : JI X N rq Γ tg iter zs Rz) (ok : blkC X.N X.env.scope scope own = true) (hg : Blks X scope fun Y => PG Y tg g)
    (hr : ∀ z ∈ zs, JGr g (Rz z) (jp z)) (hj : ∀ z ∈ zs, ∀ q ∈ jp z, q.1 ∈ own.map (·.2) ∧ q.1 < X.N.length)
    (ht : ∀ z ∈ zs, Blks X scope fun Y => JTs Y N rq (setC (wipeC Γ (own.map (·.2))) (jp z)) ifs (p z)) (he : ∀ z ∈ zs, p z = true → Blks X scope fun Y => JE Y N rq (setC (wipeC Γ (own.map (·.2))) (jp z)) elt (E z)) (hl : zs.length ≤ 1000) :
    ∃ wi, Lc X N rq Γ elt tg iter ifs scope own zs p E wi g := by
  obtain ⟨wi, h1, h2⟩ := hi
  exact ⟨wi, blkOk_by ok, hg, h1, ⟨Rz, jp, h2, hr, hj, ht, he⟩, hl⟩
theorem je_lc {scope : Scope} {own : List (Str × Nat)} {zs : List α} {p : α → Bool} {E : α → Pr} {g : TG} (L : ∃ wi, Lc X N rq Γ elt tg iter ifs scope own zs p E wi g) (hc : X.calm = true) (hN : X.N.Nodup) (hs : ∀ x, foldedSetIterable iter X.env x = pure x) :
    JE X N rq Γ (.ListComp elt [⟨tg, iter, ifs, 0⟩] scope pos) (LiV ((zs.filter p).map E)) := by
  obtain ⟨wi, L⟩ := L
  exact je_lcG hc hN L hs
theorem je_lcD {scope : Scope} {own : List (Str × Nat)} {zs : List α} {p : α → Bool} {f : α → PyData} {g : TG} (L : ∃ wi, Lc X N rq Γ elt tg iter ifs scope own zs p (fun z => DatV (f z)) wi g) (hc : X.calm = true) (hN : X.N.Nodup) (hs : ∀ x, foldedSetIterable iter X.env x = pure x) :
    JE X N rq Γ (.ListComp elt [⟨tg, iter, ifs, 0⟩] scope pos) (DatV (.list ((zs.filter p).map f))) := (je_lc L hc hN hs).conv fun v I h => dat_lst.mpr (by rw [List.map_map]; exact h)
end

/-! ### statements -/
def Tp (N : Ent) (M : OwnM) (Γ : Ctx) : St → Hp → Prop := fun σ H => σ.length = Γ.length ∧ ∃ I, S3 N M I H ∧ Ty Γ σ I
def JS (X : Cx) (Φ : St → Hp → Prop) (sts : List Stmt) (D : L2.Ends) : Prop := ∀ σ H, Φ σ H → WS X sts D σ H
section
variable {X : Cx} {N : Ent} {M : OwnM} {Γ : Ctx} {a b c e elt tg iter : Expr} {es : List Expr} {P P' R : Pr} {pos p2 : Pos} {st : Stmt} {rest A B : List Stmt} {D : L2.Ends} {Φ Φ' : St → Hp → Prop}
theorem JS.pre (h : JS X Φ' rest D) (k : ∀ σ H, Φ σ H → Φ' σ H) : JS X Φ rest D := fun σ H p => h σ H (k σ H p)
theorem JS.ex {β : Type} {Φs : β → St → Hp → Prop} (h : ∀ b, JS X (Φs b) rest D) (k : ∀ σ H, Φ σ H → ∃ b, Φs b σ H) : JS X Φ rest D := fun σ H p => let ⟨b, q⟩ := k σ H p; h b σ H q
theorem JS.prop {p : Prop} (h : p → JS X Φ rest D) (k : ∀ σ H, Φ σ H → p) : JS X Φ rest D := fun σ H q => h (k σ H q) σ H q
theorem js_nil (h : ∀ σ H, Φ σ H → D.nx σ H) : JS X Φ [] D := fun σ H p => ws_of pss_nil (h σ H p)
theorem js_of {t : TS} (ps : PS X st t) (h : ∀ σ H, Φ σ H → t { D with nx := fun σ H => WS X rest D σ H } σ H) : JS X Φ (st :: rest) D := fun σ H p => ws_of (pss_cons ps ws_ps) (h σ H p)
theorem nx_keep (hr : JS X (Tp N M Γ) rest D) {σ : St} {I H : Hp} (hl : σ.length = Γ.length) (s : S3 N M I H) (t : Ty Γ σ I) : WS X rest D σ H := hr σ H ⟨hl, I, s, t⟩
/-- x = e -/
theorem js_set {i : Nat} {x : Str} {p' : Pos} (he : JE X N M Γ e P) (hr : JS X (Tp N M (Γ.set i (some P))) rest D) (hN : X.N.Nodup) (n : Nm X x i) (hi : i < Γ.length) (hs : swapsWith e (some (.Name x p')) pos.line X.env = pure false) : JS X (Tp N M Γ) (.Assign [.Name x p'] e pos :: rest) D :=
  js_of (ps_set hN n.hi n.hx we_pe hs n.hf) fun σ H ⟨hl, I, s, t⟩ => he M I H σ _ (fun q hq => hq) s t fun v I' H' s' e' p =>
    nx_keep hr (by rw [List.length_set, List.length_set]; exact hl) s' ((t.up e').set (by omega) p)
/-- x = [.. for ..] -/
theorem js_setLc {α : Type} {i : Nat} {x : Str} {p' : Pos} {ifs : List Expr} {scope : Scope} {own : List (Str × Nat)} {zs : List α} {p : α → Bool} {E : α → Pr} {g : TG} (L : ∃ wi, Lc X N M Γ elt tg iter ifs scope own zs p E wi g)
    (hr : JS X (Tp N M (Γ.set i (some (LiV ((zs.filter p).map E))))) rest D) (hc : X.calm = true) (hN : X.N.Nodup) (hy : X.N[i]? = some x) (hyl : X.env.scope.names.lookup x = some .local) (hi : i < Γ.length)
    (hsw : swapsWith (.ListComp elt [⟨tg, iter, ifs, 0⟩] scope p2) (some (.Name x p')) pos.line X.env = pure true) (hs : ∀ x, foldedSetIterable iter X.env x = pure x) : JS X (Tp N M Γ) (.Assign [.Name x p'] (.ListComp elt [⟨tg, iter, ifs, 0⟩] scope p2) pos :: rest) D := by
  obtain ⟨wi, L⟩ := L
  refine fun σ H ⟨hl, I, s, t⟩ pins s0 I0 => ?_
  refine ws_of (pss_cons (ps_setLc hc hN hy hyl hsw L.pi L.ok L.hg (te := teB X scope elt) (tt := ttB X scope ifs) (fun s H C cl fp => ⟨fun pins s1 σ1 H1 Q1 I1 h => h s H C cl fp pins s1 I1⟩) (fun s H C cl fp => ⟨fun pins s1 σ1 H1 Q1 I1 h => h s H C cl fp pins s1 I1⟩) hs) ws_ps) ?_ pins s0 I0
  exact lc_read L (fun q hq => hq) s t I0.len fun v I' H' s' e' p => nx_keep hr (by rw [List.length_set, List.length_set]; exact hl) s' ((t.up e').set (by omega) p)
theorem js_setLcD {α : Type} {i : Nat} {x : Str} {p' : Pos} {ifs : List Expr} {scope : Scope} {own : List (Str × Nat)} {zs : List α} {p : α → Bool} {f : α → PyData} {g : TG} (L : ∃ wi, Lc X N M Γ elt tg iter ifs scope own zs p (fun z => DatV (f z)) wi g)
    (hr : JS X (Tp N M (Γ.set i (some (DatV (.list ((zs.filter p).map f)))))) rest D) (hc : X.calm = true) (hN : X.N.Nodup) (hy : X.N[i]? = some x) (hyl : X.env.scope.names.lookup x = some .local) (hi : i < Γ.length)
    (hsw : swapsWith (.ListComp elt [⟨tg, iter, ifs, 0⟩] scope p2) (some (.Name x p')) pos.line X.env = pure true) (hs : ∀ x, foldedSetIterable iter X.env x = pure x) : JS X (Tp N M Γ) (.Assign [.Name x p'] (.ListComp elt [⟨tg, iter, ifs, 0⟩] scope p2) pos :: rest) D :=
  js_setLc L (hr.pre fun σ H ⟨hl, I, s, t⟩ => ⟨by simpa using hl, I, s, fun j Q hQ => by
    by_cases e : i = j
    · subst e
      rw [List.getElem?_set_self hi] at hQ
      cases hQ
      obtain ⟨v, h1, h2⟩ := t i _ (List.getElem?_set_self hi)
      exact ⟨v, h1, dat_lst.mpr (by rw [List.map_map]; exact h2)⟩
    · rw [List.getElem?_set_ne e] at hQ
      exact t j Q (by rw [List.getElem?_set_ne e]; exact hQ)⟩) hc hN hy hyl hi hsw hs
/-- target = e -/
theorem js_asg {g : TG} {jp : List (Nat × Pr)} (he : JE X N M Γ e P) (hg : PG X tg g) (hj : JGr g P jp) (hr : JS X (Tp N M (setC Γ jp)) rest D) (hi : ∀ q ∈ jp, q.1 < Γ.length)
    (hs : swapsWithSole [tg] e pos.line X.env = pure false) (hw : swappedStores [tg] e X.env = pure none) (h1 : (assignEach [tg] X.env).map (·.2) = [assign tg X.env]) : JS X (Tp N M Γ) (.Assign [tg] e pos :: rest) D :=
  js_of (ps_asg we_pe hg hs hw h1) fun σ H ⟨hl, I, s, t⟩ => he M I H σ _ (fun q hq => hq) s t fun v I' H' s' e' p =>
    hj I' H' σ v _ s'.sub p fun ws tw => nx_keep hr (by rw [setAll_len, setC_len]; exact hl) s' (Ty.setAll (t.up e') (fun q hq => by rw [hl]; exact hi q hq) tw)
/-- x, y = a, b -/
theorem js_par {i j : Nat} {x y : Str} {px py pt : Pos} {kt k2 pt2} (ha : JA X N M Γ [a, b] [P, P']) (hr : JS X (Tp N M ((Γ.set i (some P)).set j (some P'))) rest D) (hc : X.calm = true) (hN : X.N.Nodup) (hx : X.N[i]? = some x) (hy : X.N[j]? = some y) (hij : i ≠ j)
    (kx : X.env.scope.names.lookup x = some .local) (ky : X.env.scope.names.lookup y = some .local) (hi : i < Γ.length) (hj : j < Γ.length)
    (hw : swappedStores [.Tuple [.Name x px, .Name y py] kt pt] (.Tuple [a, b] k2 pt2) X.env = pure (some [x, y]))
    (hs : swapsWithSole [.Tuple [.Name x px, .Name y py] kt pt] (.Tuple [a, b] k2 pt2) pos.line X.env = pure false) : JS X (Tp N M Γ) (.Assign [.Tuple [.Name x px, .Name y py] kt pt] (.Tuple [a, b] k2 pt2) pos :: rest) D :=
  js_of (ps_par hc hN hx hy hij kx ky wa_pa hw hs) fun σ H ⟨hl, I, s, t⟩ => ha M I H σ _ (fun q hq => hq) s t fun vs I' H' s' e' p => by
    obtain ⟨v, w, rfl, h1, h2⟩ := ty2 p
    exact ⟨v, w, rfl, nx_keep hr (by simpa using hl) s' (((t.up e').set (by omega) h1).set (by rw [List.length_set]; omega) h2)⟩
/-- an expression as a statement -/
theorem js_expr (he : JE X N M Γ e P) (hr : JS X (Tp N M Γ) rest D) (hs : swapsWith e none pos.line X.env = pure false) : JS X (Tp N M Γ) (.Expr e pos :: rest) D :=
  js_of (ps_expr we_pe hs) fun σ H ⟨hl, I, s, t⟩ => he M I H σ _ (fun q hq => hq) s t fun v I' H' s' e' p => nx_keep hr hl s' (t.up e')
theorem js_doc {x j p'} (hr : JS X Φ rest D) : JS X Φ (.Expr (.Constant (.str x) j pos) p' :: rest) D := js_of ps_doc fun σ H p => hr σ H p
/-- return e -/
theorem js_ret (he : JE X N M Γ e P) (hD : ∀ v I H, S3 N M I H → P.p v I → D.rt v H) : JS X (Tp N M Γ) (.Return (some e) pos :: rest) D :=
  js_of (ps_ret we_pe) fun σ H ⟨hl, I, s, t⟩ => he M I H σ _ (fun q hq => hq) s t fun v I' H' s' e' p => hD v I' H' s' p
/-- if -/
theorem js_if {k : Bool} {Ψ : St → Hp → Prop} (hc : JT X N M Γ c k) (ha : k = true → JS X (Tp N M Γ) A { D with nx := Ψ }) (hb : k = false → JS X (Tp N M Γ) B { D with nx := Ψ }) (hr : JS X Ψ rest D) : JS X (Tp N M Γ) (.If c A B pos :: rest) D :=
  fun σ H ⟨hl, I, s, t⟩ => ws_of (pss_cons (ps_if wt_pt ws_ps ws_ps) ws_ps) (hc M I H σ _ (fun q hq => hq) s t fun I' H' s' e' => by
    have sp : ∀ {sts : List Stmt} {σ : St} {H : Hp}, WS X sts { D with nx := Ψ } σ H → WS X sts { D with nx := fun σ H => WS X rest D σ H } σ H := fun h pins s0 I0 => by
      refine thn (h pins s0 I0) fun f s1 hf => ?_
      cases f with
      | next => obtain ⟨σ', H', I1, q⟩ := hf; exact ⟨σ', H', I1, hr _ _ q⟩
      | brk => exact hf
      | cont => exact hf
      | ret u => exact hf
    cases k with
    | true => exact (if_pos rfl).mpr (sp (ha rfl σ H' ⟨hl, I', s', t.up e'⟩))
    | false => exact (if_neg Bool.false_ne_true).mpr (sp (hb rfl σ H' ⟨hl, I', s', t.up e'⟩)))
/-- if c: leave -/
theorem js_guard {k : Bool} (hc : JT X N M Γ c k) (ha : k = true → JS X (Tp N M Γ) A { D with nx := fun _ _ => False }) (hr : k = false → JS X (Tp N M Γ) rest D) : JS X (Tp N M Γ) (.If c A [] pos :: rest) D :=
  js_if (Ψ := fun σ H => k = false ∧ Tp N M Γ σ H) hc (fun h σ H p => by
      intro pins s0 I0
      refine thn (ha h σ H p pins s0 I0) fun f s1 hf => ?_
      cases f with
      | next => obtain ⟨_, _, _, q⟩ := hf; exact q.elim
      | brk => exact hf
      | cont => exact hf
      | ret u => exact hf) (fun h => js_nil fun σ H p => ⟨h, p⟩) fun σ H ⟨h, p⟩ => hr h σ H p
theorem Tp.wk {σ : St} {H : Hp} {Γ' : Ctx} (h : Tp N M Γ σ H) (w : Wk Γ' Γ) : Tp N M Γ' σ H := let ⟨l, I, s, t⟩ := h; ⟨l.trans w.len.symm, I, s, w.ty t⟩
theorem js_wk {Γ' : Ctx} (h : JS X (Tp N M Γ') rest D) (w : Wk Γ' Γ) : JS X (Tp N M Γ) rest D := h.pre fun σ H p => p.wk w
/-- the end of a turn -/
theorem js_turn {β : Type} {C : β → Prop} {Ms : β → OwnM} {Γs : β → Ctx} {r : L2.VK} {ct bk : St → Hp → Prop} (b : β) (hc : C b) (hM : Ms b = M) (w : Wk (Γs b) Γ) : JS X (Tp N M Γ) [] { nx := fun σ H => ∃ b', C b' ∧ Tp N (Ms b') (Γs b') σ H, rt := r, ct := ct, bk := bk } :=
  js_nil fun σ H p => ⟨b, hc, by rw [hM]; exact p.wk w⟩
theorem js_cont {β : Type} {C : β → Prop} {Ms : β → OwnM} {Γs : β → Ctx} {nx : St → Hp → Prop} {r : L2.VK} {bk : St → Hp → Prop} (b : β) (hc : C b) (hM : Ms b = M) (w : Wk (Γs b) Γ) : JS X (Tp N M Γ) (.Continue pos :: rest) { nx := nx, rt := r, ct := fun σ H => ∃ b', C b' ∧ Tp N (Ms b') (Γs b') σ H, bk := bk } :=
  js_of ps_continue fun σ H p => ⟨b, hc, by rw [hM]; exact p.wk w⟩
/-- for -/
theorem js_for {α β : Type} {zs : List α} {Rz : α → Pr} {jp : α → List (Nat × Pr)} {g : TG} (C : List α → β → Prop) (Ms : List α → β → OwnM) (Γs : List α → β → Ctx) {body : List Stmt} (hi : JI X N M Γ tg iter zs Rz) (hg : PG X tg g) (hj : ∀ z ∈ zs, JGr g (Rz z) (jp z))
    (hp : PassesOwn (model X.prog X.w) X.A X.env X.xe) (hc : X.calm = true) (b0 : β) (h0 : C [] b0) (hM : Ms [] b0 = M) (hΓ : Wk (Γs [] b0) Γ) (hz : ∀ z ∈ zs, ∀ done b, ∀ q ∈ jp z, q.1 < (Γs done b).length)
    (hb : ∀ (N' : Ent), Sub N' N → ∀ done z post b, zs = done ++ z :: post → C done b → JS X (Tp N' (Ms done b) (setC (Γs done b) (jp z))) body
      { nx := fun σ H => ∃ b', C (done ++ [z]) b' ∧ Tp N' (Ms (done ++ [z]) b') (Γs (done ++ [z]) b') σ H, rt := D.rt, ct := fun σ H => ∃ b', C (done ++ [z]) b' ∧ Tp N' (Ms (done ++ [z]) b') (Γs (done ++ [z]) b') σ H, bk := fun _ _ => False })
    (hr : ∀ N', Sub N' N → ∀ b, C zs b → JS X (Tp N' (Ms zs b) (Γs zs b)) rest D) (hs : ∀ x, foldedSetIterable iter X.env x = pure x) : JS X (Tp N M Γ) (.For tg iter body [] pos :: rest) D := by
  obtain ⟨wi, h1, h2⟩ := hi
  refine js_of (ps_for hp hc h1 hg ws_ps hs) fun σ H ⟨hl, I, s, t⟩ => h2 M I H σ _ (fun q hq => hq) s t fun J I1 H1 s1 e1 w => ?_
  obtain ⟨sb, s11⟩ := Sub.at s1
  refine ⟨fun i m σ H => m = zs.length - i ∧ i ≤ zs.length ∧ ∃ b, C (zs.take i) b ∧ Tp { N with I := I1 } (Ms (zs.take i) b) (Γs (zs.take i) b) σ H, ⟨zs.length, rfl, Nat.zero_le _, b0, h0, ?_⟩, ?_⟩
  · rw [List.take_zero, hM]
    exact Tp.wk ⟨hl, I1, s11, t.up e1⟩ hΓ
  rintro i m σ2 H2 ⟨rfl, hi, b, hC, hl2, I2, s2, t2⟩
  have w2 := w _ _ _ i s2
  by_cases hlt : i < zs.length
  · obtain ⟨z, hz'⟩ : ∃ z, zs[i]? = some z := ⟨_, List.getElem?_eq_getElem hlt⟩
    have mz : z ∈ zs := List.mem_of_getElem? hz'
    obtain ⟨go, y⟩ := w2.1 z hz'
    refine .inr ⟨go, fun σ H => ∃ b, C (zs.take (i + 1)) b ∧ Tp { N with I := I1 } (Ms (zs.take (i + 1)) b) (Γs (zs.take (i + 1)) b) σ H, fun σ' H' p' => ⟨zs.length - (i + 1), by omega, rfl, hlt, p'⟩, fun x H3 hy => ?_⟩
    obtain ⟨I3, s3, e3, px⟩ := y x H3 hy
    refine hj z mz I3 H3 σ2 x _ s3.sub px fun ws tw => ?_
    have ez : zs = zs.take i ++ z :: zs.drop (i + 1) := by
      conv => lhs; rw [← List.take_append_drop i zs]
      rw [List.drop_eq_getElem_cons hlt]
      rw [List.getElem?_eq_getElem hlt] at hz'; cases hz'; rfl
    have B := hb _ sb (zs.take i) z _ b ez hC
    rw [take_succ' hz']
    have B2 := B _ _ ⟨by rw [setAll_len, setC_len]; exact hl2, I3, s3, Ty.setAll (t2.up e3) (fun q hq => by rw [hl2]; exact hz z mz _ _ q hq) tw⟩
    intro pins s0 I0
    refine thn (B2 pins s0 I0) fun f s1 hf => ?_
    cases f with
    | next => exact hf
    | brk => obtain ⟨_, _, _, q⟩ := hf; exact q.elim
    | cont => exact hf
    | ret u => exact hf
  · have e : i = zs.length := by omega
    subst e
    rw [List.take_length] at hC hl2 s2 t2
    exact .inl ⟨w2.2 rfl, hr _ sb b hC σ2 H2 ⟨hl2, I2, s2, t2⟩⟩
/-- l.append(e), the list ours -/
theorem S3.perm {N : Ent} {M M' : OwnM} {I H : Hp} (s : S3 N M I H) (h : M.Perm M') : S3 N M' I H :=
  ⟨s.sub, fun q hq => s.own q (h.mem_iff.mpr hq), (h.map _).nodup_iff.mp s.nd, s.keep, s.ii, s.fr, fun q hq => s.fm q (h.mem_iff.mpr hq), s.tab, s.dmk, s.nt⟩
theorem js_perm {M' : OwnM} (h : JS X (Tp N M' Γ) rest D) (p : M.Perm M') : JS X (Tp N M Γ) rest D := h.pre fun σ H ⟨l, I, s, t⟩ => ⟨l, I, s.perm p, t⟩
/-- x = [] -/
theorem js_new {i : Nat} {x : Str} {p' : Pos} (hr : ∀ p : Addr, JS X (Tp N ((p, lstO []) :: M) (Γ.set i (some (EqV (.ref p))))) rest D) (hN : X.N.Nodup) (n : Nm X x i) (hi : i < Γ.length) (hs : swapsWith (.List [] p2) (some (.Name x p')) pos.line X.env = pure false) : JS X (Tp N M Γ) (.Assign [.Name x p'] (.List [] p2) pos :: rest) D :=
  js_of (ps_set hN n.hi n.hx (pe_lst pa_nil) hs n.hf) fun σ H ⟨hl, I, s, t⟩ => ⟨Nat.zero_le _, fun p hp => hr p _ _ ⟨by rw [List.length_set, List.length_set]; exact hl, I, s.newO hp noT_lst ⟨[], rfl, True.intro⟩, t.set (by omega) rfl⟩⟩
/-- the list is known from now on -/
theorem js_freeze {p : Addr} {ps : List Pr} {i : Nat} (hi : Γ[i]? = some (some (EqV (.ref p)))) (hr : JS X (Tp N M (Γ.set i (some (LiV ps)))) rest D) : JS X (Tp N ((p, lstO ps) :: M) Γ) rest D := hr.pre fun σ H ⟨hl, I, s, t⟩ => by
  obtain ⟨o, h1, ⟨xs, rfl, h3⟩, s', e⟩ := s.freeze
  obtain ⟨v, h4, h5⟩ := t i _ hi
  exact ⟨by rw [List.length_set]; exact hl, _, s', (t.up e).put h4 ⟨p, xs, h5, upd_same, h3.up e⟩⟩
theorem js_freezeD {p : Addr} {ds : List PyData} {i : Nat} (hi : Γ[i]? = some (some (EqV (.ref p)))) (hr : JS X (Tp N M (Γ.set i (some (DatV (.list ds))))) rest D) : JS X (Tp N ((p, lstO (ds.map DatV)) :: M) Γ) rest D := hr.pre fun σ H ⟨hl, I, s, t⟩ => by
  obtain ⟨o, h1, ⟨xs, rfl, h3⟩, s', e⟩ := s.freeze
  obtain ⟨v, h4, h5⟩ := t i _ hi
  exact ⟨by rw [List.length_set]; exact hl, _, s', (t.up e).put h4 (dat_lst.mpr ⟨p, xs, h5, upd_same, h3.up e⟩)⟩
theorem js_forget {p : Addr} {φ : OwnP} (hr : JS X (Tp N M Γ) rest D) : JS X (Tp N ((p, φ) :: M) Γ) rest D := hr.pre fun σ H ⟨hl, I, s, t⟩ => ⟨hl, I, s.forget, t⟩
end
end QL

/-! text QL6 -/
set_option Elab.async false
set_option linter.all false
set_option maxRecDepth 100000
set_option maxHeartbeats 4000000
/-! QL6: promises, calls, objects, what is ours. -/
namespace QL
open PySem PySem.Spec PyProof.Rows L2

/-- behind a call, what was handed over has another shape -/
theorem S3.back2 {N : Ent} {M ow ow' : OwnM} {I H I' H' : Hp} (s : S3 N (ow ++ M) I H) (ha : ow'.map (·.1) = ow.map (·.1)) (t : S3 (Ent.call I H ow) ow' I' H') : S3 N (ow' ++ M) I' H' ∧ Same I I' := by
  have sub : Has ow (ow ++ M) := fun q hq => List.mem_append_left _ hq
  have nd0 : (ow.map (·.1)).Nodup := by
    have := s.nd
    rw [List.map_append] at this
    exact (List.nodup_append.mp this).1
  -- the callee's end, with nothing told of what was handed over
  have e : Same I I' := t.ii
  have dis : ∀ q ∈ M, q.1 ∉ ow.map (·.1) := fun q hq hm => by
    have := s.nd
    rw [List.map_append] at this
    exact (List.nodup_append.mp this).2.2 q.1 hm q.1 (List.mem_map.mpr ⟨q, hq, rfl⟩) rfl
  have kp : ∀ a o, H a = some o → a ∉ ow.map (·.1) → H' a = some o := fun a o h1 h2 => t.keep a o h2 h1
  refine ⟨⟨t.sub, fun q hq => ?_, ?_, fun a o h1 h2 => ?_, s.ii.trans e, fun a hn => ?_, fun q hq => ?_, fun p hp => ?_, s.dmk, t.nt⟩, e⟩
  · rcases List.mem_append.mp hq with hq | hq
    · exact t.own q hq
    · obtain ⟨⟨o, h1, h2, h3⟩, h4⟩ := s.own q (List.mem_append_right _ hq)
      have hw := dis q hq
      refine ⟨⟨o, kp _ _ h1 hw, h2, q.2.up e h3⟩, ?_⟩
      cases z : I' q.1 with
      | none => rfl
      | some u =>
        rcases t.fr q.1 (by rw [z]; simp) with w | w | w | ⟨xs, w⟩
        · exact absurd h4 w
        · rw [show (Ent.call I H ow).H q.1 = H q.1 from rfl, h1] at w; cases w
        · exact absurd w hw
        · rw [show (Ent.call I H ow).H q.1 = H q.1 from rfl, h1] at w
          cases w; exact absurd rfl (h2.1 xs)
  · have := s.nd
    rw [List.map_append, ← ha, ← List.map_append] at this
    exact this
  · have z := s.keep a o h1 h2
    refine kp _ _ z fun hm => ?_
    obtain ⟨r, hr, er⟩ := List.mem_map.mp hm
    subst er
    rcases s.fm r (sub r hr) with w | w
    · exact h1 w
    · rw [w] at h2; cases h2
  · by_cases hi : I a = none
    · rcases t.fr a hn with w | w | w | w
      · exact absurd hi w
      · rcases s.nh (p := a) w with z | z
        · exact .inr (.inl z)
        · exact .inr (.inr (.inl z))
      · obtain ⟨r, hr, er⟩ := List.mem_map.mp (show a ∈ ow.map (·.1) from w)
        subst er
        rcases s.fm r (sub r hr) with z | z
        · exact .inr (.inr (.inl z))
        · exact .inr (.inl z)
      · obtain ⟨xs, w⟩ := w
        have w : H a = some (.tup xs) := w
        by_cases hd : a ∈ N.dm
        · exact .inr (.inr (.inl hd))
        · cases q : N.H a with
          | none => exact .inr (.inl rfl)
          | some o =>
            have z := s.keep a o hd q
            rw [w] at z; cases z
            exact .inr (.inr (.inr ⟨xs, rfl⟩))
    · exact s.fr a hi
  · rcases List.mem_append.mp hq with hq | hq
    · have : q.1 ∈ ow.map (·.1) := by rw [← ha]; exact List.mem_map.mpr ⟨q, hq, rfl⟩
      obtain ⟨r, hr, er⟩ := List.mem_map.mp this
      rw [← er]
      exact s.fm r (sub r hr)
    · exact s.fm q (List.mem_append_right _ hq)
  · obtain ⟨ps, e1, e2, e3⟩ := s.tab p hp
    have ne : ∀ a o, H a = some o → ¬ NoT o → a ∉ ow.map (·.1) := fun a o h1 h2 hm => by
      obtain ⟨r, hr, er⟩ := List.mem_map.mp hm
      subst er
      obtain ⟨⟨o', h3, h4, _⟩, _⟩ := s.own r (sub r hr)
      rw [h1] at h3; cases h3; exact h2 h4
    refine ⟨ps, kp _ _ e1 (ne _ _ e1 fun z => z.2.1 _ rfl), e2, fun pos cv hc => ?_⟩
    obtain ⟨c, k1, k2⟩ := e3 pos cv hc
    exact ⟨c, k1, kp _ _ k2 (ne _ _ k2 fun z => z.2.2 _ rfl)⟩
/-- a new object that nobody speaks of -/
theorem S3.hide {N : Ent} {M : OwnM} {I H : Hp} (s : S3 N M I H) {p : Addr} {o : HO} (hp : H p = none) : S3 N M I (upd H p o) :=
  ⟨fun b u e => by rw [upd_ne (ne_of_none (s.sub b u e) hp)]; exact s.sub b u e, fun q hq => by
    obtain ⟨⟨o', h1, h2⟩, h4⟩ := s.own q hq
    exact ⟨⟨o', by rw [upd_ne (ne_of_none h1 hp)]; exact h1, h2⟩, h4⟩, s.nd, fun a u h1 h3 => by
    have z := s.keep a u h1 h3
    rw [upd_ne (ne_of_none z hp)]; exact z, s.ii, s.fr, s.fm, s.tab.ext (same_upd hp), s.dmk, s.nt⟩

/-! ### promises -/
/-- what a def asks and gives: ow what is handed over, ow' how it lies behind -/
def FSp (ow : OwnM) (ps : List Pr) (R : Pr) (ow' : OwnM) : Sp := fun vs H Q _ => ∃ I, S3 (Ent.call I H ow) ow I H ∧ TyL ps vs I ∧ ∀ v I' H', S3 (Ent.call I H ow) ow' I' H' → R.p v I' → Q v H'
abbrev E0 : XK := fun _ _ _ => False
theorem has_nil {M : OwnM} : Has [] M := fun _ h => by cases h
theorem passF {X : Cx} : Passes (L2.CX X.prog X.w) X E0 := fun _ _ _ _ _ _ _ ⟨_, _, _, _, _, _, _, _, _, _, _, _, h⟩ => h.elim
section
variable (P : Program) (w : World) (K : PySem.W.Frag) (mg : Str → Option Value) (base : Heap)
/-- a def of the module's name x keeps the promise -/
def Fd (x : Str) (k : Nat) (sp : Sp) : Prop := ∃ (f : Addr) (fd : FuncData) (ps : List Str), FnOk P w K mg base (L2.CX P w) k f fd ps sp ∧ mg x = some (.ref f) ∧ PySem.W.keepIn K (.ref f) = true ∧ Binds K fd ps []
/-- a method of the class at C -/
def Fm (C : Addr) (m : Str) (k : Nat) (sp : Sp) : Prop := ∃ (f : Addr) (fd : FuncData) (ps : List Str), FnOk P w K mg base (L2.CX P w) k f fd ps sp ∧ Meth K C m f ∧ Binds K fd ps []
/-- a property -/
def Fp (C : Addr) (m : Str) (k : Nat) (sp : Sp) : Prop := ∃ (p f : Addr) (fd : FuncData) (ps : List Str), FnOk P w K mg base (L2.CX P w) k f fd ps sp ∧ PropOf K C m p f ∧ Binds K fd ps []
/-- __init__ -/
def Fi (C : Addr) (k : Nat) (sp : Sp) : Prop := ∃ (f : Addr) (fd : FuncData) (ps : List Str), FnOk P w K mg base (L2.CX P w) k f fd ps sp ∧ Mk K C f ∧ Binds K fd ps []
end
theorem Fd.mono {P : Program} {w : World} {K : PySem.W.Frag} {mg : Str → Option Value} {base : Heap} {x : Str} {j k : Nat} {sp : Sp} (h : Fd P w K mg base x j sp) (l : j ≤ k) : Fd P w K mg base x k sp := let ⟨f, fd, ps, F, r⟩ := h; ⟨f, fd, ps, F.mono l, r⟩
theorem Fm.mono {P : Program} {w : World} {K : PySem.W.Frag} {mg : Str → Option Value} {base : Heap} {C : Addr} {x : Str} {j k : Nat} {sp : Sp} (h : Fm P w K mg base C x j sp) (l : j ≤ k) : Fm P w K mg base C x k sp := let ⟨f, fd, ps, F, r⟩ := h; ⟨f, fd, ps, F.mono l, r⟩
theorem Fp.mono {P : Program} {w : World} {K : PySem.W.Frag} {mg : Str → Option Value} {base : Heap} {C : Addr} {x : Str} {j k : Nat} {sp : Sp} (h : Fp P w K mg base C x j sp) (l : j ≤ k) : Fp P w K mg base C x k sp := let ⟨p, f, fd, ps, F, r⟩ := h; ⟨p, f, fd, ps, F.mono l, r⟩
theorem Fi.mono {P : Program} {w : World} {K : PySem.W.Frag} {mg : Str → Option Value} {base : Heap} {C : Addr} {j k : Nat} {sp : Sp} (h : Fi P w K mg base C j sp) (l : j ≤ k) : Fi P w K mg base C k sp := let ⟨f, fd, ps, F, r⟩ := h; ⟨f, fd, ps, F.mono l, r⟩

section
variable {X : Cx} {N : Ent} {rq : OwnM} {Γ : Ctx} {a b c e o : Expr} {es : List Expr} {P P' R : Pr} {pos p2 apos : Pos} {k : Nat} {ow : OwnM} {ps : List Pr}
/-- f(e, ..) -/
theorem je_call {x : Str} (F : Fd X.prog X.w X.K X.mg X.base x k (FSp ow ps R ow)) (hr : Room k X.A) (ha : JA X N rq Γ (e :: es) ps) (hw : Has ow rq) (nd : (ow.map (·.1)).Nodup) (hg : Gl X x) (hdb : (x == ("__debug__" : Str)) = false) (A : Ar X e es pos) :
    JE X N rq Γ (.Call (.Name x p2) (e :: es) [] pos) R := by
  obtain ⟨f, fd, pn, F, hm, hk, hb⟩ := F
  exact fun M I H σ Q hM s t q => we_of (pe_call F hr hg hm hk hb .nil passF wa_pa hdb A.he A.hpl) (ha M I H σ _ hM s t fun vs I1 H1 s1 e1 p => by
    rw [List.append_nil]
    exact ⟨I1, s1.enter (fun q hq => hM q (hw q hq)) nd, p, fun v I' H' s' r => by
      obtain ⟨s2, e2⟩ := s1.back (fun q hq => hM q (hw q hq)) s'
      exact q v I' H' s2 (e1.trans e2) r⟩)
theorem zip_none {α : Type} {m : Str} : ∀ {fs : List (Str × α)} {xs : List V}, m ∉ fs.map Prod.fst → ((fs.map Prod.fst).zip xs).lookup m = none
  | [], _, _ => rfl
  | _ :: _, [], _ => rfl
  | (f, _) :: fs, x :: xs, h => by
    rw [List.map_cons, List.zip_cons_cons, List.lookup_cons]
    have : (m == f) = false := beq_eq_false_iff_ne.mpr fun e => h (by rw [e]; exact List.mem_cons_self)
    rw [this]
    exact zip_none (fun hm => h (List.mem_cons_of_mem _ hm))
theorem zip_some {m : Str} {P : Pr} {I : Hp} : ∀ {fs : List (Str × Pr)} {xs : List V}, TyL (fs.map Prod.snd) xs I → fs.lookup m = some P → ∃ v, ((fs.map Prod.fst).zip xs).lookup m = some v ∧ P.p v I
  | [], [], _, e => by cases e
  | (f, R) :: fs, x :: xs, h, e => by
    rw [List.lookup_cons] at e
    rw [List.map_cons, List.zip_cons_cons, List.lookup_cons]
    cases q : (m == f) with
    | true =>
      rw [q] at e
      cases e
      exact ⟨x, rfl, h.1⟩
    | false =>
      rw [q] at e
      exact zip_some (fs := fs) (xs := xs) h.2 e
  | [], _ :: _, h, _ => h.elim
  | _ :: _, [], h, _ => h.elim
/-- o.m(e, ..) -/
theorem je_meth {C : Addr} {m : Str} {fs : List (Str × Pr)} (F : Fm X.prog X.w X.K X.mg X.base C m k (FSp ow (InV C fs :: ps) R ow)) (c : Cls X.K C) (hr : Room k X.A) (ho : JE X N rq Γ o (InV C fs)) (ha : JA X N rq Γ (e :: es) ps) (hw : Has ow rq) (nd : (ow.map (·.1)).Nodup)
    (hf : m ∉ fs.map Prod.fst) (A : Ar X e es pos) {pl : Sem Bool}
    (ht : eval (.Call (.Attribute o m apos) (e :: es) [] pos) X.env = (do
      let ov ← eval o X.env
      standAt apos.atName
      let (f, first) ← holding [ov] (getMethod ov m pl)
      callWith pos f first (backTo pos (starEach (e :: es) X.env)) (backToKw pos (keywordEach [] X.env)))) : JE X N rq Γ (.Call (.Attribute o m apos) (e :: es) [] pos) R := by
  obtain ⟨f, fd, pn, F, hm, hb⟩ := F
  exact fun M I H σ Q hM s t q => we_of (pe_meth we_pe c hm F hr hb .nil passF wa_pa A.he A.hpl ht) (ho M I H σ _ hM s t fun v0 I0 H0 s0 e0 p0 => by
    obtain ⟨x, dx, xs, rfl, h1, h2⟩ := p0
    refine ⟨x, dx, _, rfl, s0.sub _ _ h1, zip_none hf, ha M I0 H0 σ _ hM s0 (t.up e0) fun vs I1 H1 s1 e1 p => ?_⟩
    rw [List.append_nil]
    exact ⟨I1, s1.enter (fun q hq => hM q (hw q hq)) nd, ⟨⟨x, dx, xs, rfl, e1 _ _ h1, h2.up e1⟩, p⟩, fun v I' H' s' r => by
      obtain ⟨s2, e2⟩ := s1.back (fun q hq => hM q (hw q hq)) s'
      exact q v I' H' s2 ((e0.trans e1).trans e2) r⟩)
/-- o.m() -/
theorem je_meth0 {C : Addr} {m : Str} {fs : List (Str × Pr)} (F : Fm X.prog X.w X.K X.mg X.base C m k (FSp [] [InV C fs] R [])) (c : Cls X.K C) (hr : Room k X.A) (ho : JE X N rq Γ o (InV C fs)) (hf : m ∉ fs.map Prod.fst) {pl : Sem Bool}
    (ht : eval (.Call (.Attribute o m apos) [] [] pos) X.env = (do
      let ov ← eval o X.env
      standAt apos.atName
      let (f, first) ← holding [ov] (getMethod ov m pl)
      callWith pos f first (backTo pos (starEach [] X.env)) (backToKw pos (keywordEach [] X.env)))) : JE X N rq Γ (.Call (.Attribute o m apos) [] [] pos) R := by
  obtain ⟨f, fd, pn, F, hm, hb⟩ := F
  exact fun M I H σ Q hM s t q => we_of (pe_meth0 we_pe c hm F hr hb .nil passF ht) (ho M I H σ _ hM s t fun v0 I0 H0 s0 e0 p0 => by
    obtain ⟨x, dx, xs, rfl, h1, h2⟩ := p0
    refine ⟨x, dx, _, rfl, s0.sub _ _ h1, zip_none hf, I0, s0.enter has_nil .nil, ⟨⟨x, dx, xs, rfl, h1, h2⟩, True.intro⟩, fun v I' H' s' r => ?_⟩
    obtain ⟨s2, e2⟩ := s0.back has_nil s'
    exact q v I' H' s2 (e0.trans e2) r)
/-- o.m, a property -/
theorem je_prop {C : Addr} {m : Str} {fs : List (Str × Pr)} (F : Fp X.prog X.w X.K X.mg X.base C m k (FSp [] [InV C fs] R [])) (c : Cls X.K C) (hr : Room (k + 1) X.A) (ho : JE X N rq Γ o (InV C fs)) (hab : attributeBase o m X.env (eval o X.env) = eval o X.env) : JE X N rq Γ (.Attribute o m pos) R := by
  obtain ⟨p, f, fd, pn, F, hm, hb⟩ := F
  exact fun M I H σ Q hM s t q => we_of (pe_prop we_pe c hm F hr hb .nil passF hab) (ho M I H σ _ hM s t fun v0 I0 H0 s0 e0 p0 => by
    obtain ⟨x, dx, xs, rfl, h1, h2⟩ := p0
    refine ⟨x, dx, _, rfl, s0.sub _ _ h1, I0, s0.enter has_nil .nil, ⟨⟨x, dx, xs, rfl, h1, h2⟩, True.intro⟩, fun v I' H' s' r => ?_⟩
    obtain ⟨s2, e2⟩ := s0.back has_nil s'
    exact q v I' H' s2 (e0.trans e2) r)
/-- o.f, a field -/
theorem je_fld {C : Addr} {f : Str} {fs : List (Str × Pr)} (c : Cls X.K C) (n : NoAttr X.K C f) (ho : JE X N rq Γ o (InV C fs)) (hf : fs.lookup f = some R) (hab : attributeBase o f X.env (eval o X.env) = eval o X.env) : JE X N rq Γ (.Attribute o f pos) R := fun M I H σ Q hM s t q =>
  we_of (pe_fld we_pe hab) (ho M I H σ _ hM s t fun v0 I0 H0 s0 e0 p0 => by
    obtain ⟨x, dx, xs, rfl, h1, h2⟩ := p0
    obtain ⟨v, h3, h4⟩ := zip_some h2 hf
    exact ⟨x, C, dx, _, v, rfl, s0.sub _ _ h1, c, n, h3, q v I0 H0 s0 e0 h4⟩)
/-- C(e, ..) -/
theorem je_make {C : Addr} {x : Str} {fs : List (Str × Pr)} (F : Fi X.prog X.w X.K X.mg X.base C k (fun vs H Q E => ∃ self, FSp [(self, insO C [])] (EqV (.ref self) :: ps) NonV [(self, insO C fs)] vs H Q E)) (hr : Room (k + 1) X.A) (ha : JA X N rq Γ (e :: es) ps) (hg : Gl X x) (hm : X.mg x = some (.ref C)) (hdb : (x == ("__debug__" : Str)) = false) (A : Ar X e es pos) :
    JE X N rq Γ (.Call (.Name x p2) (e :: es) [] pos) (InV C fs) := by
  obtain ⟨f, fd, pn, F, hmk, hb⟩ := F
  exact fun M I H σ Q hM s t q => we_of (pe_make hmk F hr hg hm hb .nil passF wa_pa hdb A.he A.hpl) (ha M I H σ _ hM s t fun vs I1 H1 s1 e1 p x dx hx hdx hne => by
    rw [List.append_nil]
    have s2 := s1.hide (o := .own x) hdx
    have hx2 : upd H1 dx (.own x) x = none := by rw [upd_ne (Ne.symm hne)]; exact hx
    have s3 := s2.newO (φ := insO C []) hx2 (noT_ins (C := C) (d := dx) (xs := [])) ⟨dx, [], rfl, True.intro⟩
    refine ⟨x, I1, s3.enter (fun q hq => List.mem_cons.mpr (.inl (List.mem_singleton.mp hq))) (by simp), ⟨rfl, p⟩, fun v I' H' s' r => ⟨Dt.non_inv r, ?_⟩⟩
    obtain ⟨s4, e4⟩ := S3.back2 (M := M) (ow := [(x, insO C [])]) (ow' := [(x, insO C fs)]) s3 rfl s'
    obtain ⟨o, g1, ⟨dx', xs', rfl, g2⟩, g3, g4⟩ := S3.freeze s4
    exact q _ _ _ g3 ((e1.trans e4).trans g4) ⟨x, dx', xs', rfl, upd_same, g2.up g4⟩)
/-- C(e, .., k = v, ..) -/
theorem je_makeK {C : Addr} {x : Str} {fs : List (Str × Pr)} {kws : List Keyword} {ks pn : List Str} {qs ps' : List Pr} {f : Addr} {fd : FuncData} {g : List Value → List Value → List Value} {gV : List V → List V → List V} (hmk : Mk X.K C f)
    (F : FnOk X.prog X.w X.K X.mg X.base (L2.CX X.prog X.w) k f fd pn (fun vs H Q E => ∃ self, FSp [(self, insO C [])] (EqV (.ref self) :: ps') NonV [(self, insO C fs)] vs H Q E)) (hb : KBn X.K fd pn (ps.length + 1) ks g gV) (hr : Room (k + 1) X.A)
    (hgv : ∀ (self : V) (vs zs : List V) (I : Hp), TyL ps vs I → TyL qs zs I → ∃ ws, gV (self :: vs) zs = self :: ws ∧ TyL ps' ws I) (hkl : qs.length = ks.length)
    (ha : JA X N rq Γ (e :: es) ps) (hkw : JK X N rq Γ kws qs) (hg : Gl X x) (hm : X.mg x = some (.ref C)) (hdb : (x == ("__debug__" : Str)) = false)
    (hall : (backToKw pos (keywordEach kws X.env)).all (·.1.isSome) = true) (hks : (backToKw pos (keywordEach kws X.env)).filterMap (·.1) = ks)
    (he : starEach (e :: es) X.env = (false, eval e X.env) :: starEach es X.env) (hpl : ((backTo pos (starEach (e :: es) X.env)).any (·.1) || (backToKw pos (keywordEach kws X.env)).any (·.1.isNone)) = false) :
    JE X N rq Γ (.Call (.Name x p2) (e :: es) kws pos) (InV C fs) := fun M I H σ Q hM s t q =>
  we_of (pe_makeK hmk F hr hg hm hb passF wa_pa wk_pk hall hks hdb he hpl) (ha M I H σ _ hM s t fun vs I0 H0 s0 e0 p0 => hkw M I0 H0 σ _ hM s0 (t.up e0) fun zs I1 H1 s1 e1 p1 => by
    refine ⟨p0.length.symm, by rw [← p1.length]; exact hkl, fun x dx hx hdx hne => ?_⟩
    have s2 := s1.hide (o := .own x) hdx
    have hx2 : upd H1 dx (.own x) x = none := by rw [upd_ne (Ne.symm hne)]; exact hx
    have s3 := s2.newO (φ := insO C []) hx2 (noT_ins (C := C) (d := dx) (xs := [])) ⟨dx, [], rfl, True.intro⟩
    obtain ⟨ws, e5, t5⟩ := hgv (.ref x) vs zs I1 (p0.up e1) p1
    rw [e5]
    refine ⟨x, I1, s3.enter (fun q hq => List.mem_cons.mpr (.inl (List.mem_singleton.mp hq))) (by simp), ⟨rfl, t5⟩, fun v I' H' s' r => ⟨Dt.non_inv r, ?_⟩⟩
    obtain ⟨s4, e4⟩ := S3.back2 (M := M) (ow := [(x, insO C [])]) (ow' := [(x, insO C fs)]) s3 rfl s'
    obtain ⟨o, g1, ⟨dx', xs', rfl, g2⟩, g3, g4⟩ := S3.freeze s4
    exact q _ _ _ g3 (((e0.trans e1).trans e4).trans g4) ⟨x, dx', xs', rfl, upd_same, g2.up g4⟩)

/-! ### own __len__, own __contains__ -/
theorem call_lenK {C : Addr} {fs : List (Str × Pr)} {n : Nat} {f : Addr} {fd : FuncData} {pn : List Str} (F : FnOk X.prog X.w X.K X.mg X.base (L2.CX X.prog X.w) k f fd pn (FSp [] [InV C fs] (IntV (n : Int)) [])) (hm : Meth X.K C "__len__" f) (hb : Binds X.K fd pn []) (hr : Room (k + 1) X.A) (hn : n < 2 ^ 62) :
    CallR X (.builtin "len") (fun xs H Q => ∃ v I, xs = [v] ∧ S3 (Ent.call I H []) [] I H ∧ (InV C fs).p v I ∧ ∀ I' H', S3 (Ent.call I H []) [] I' H' → Q (.int n) H') := by
  intro pins s σ H xs us Q I0 r h
  obtain ⟨v, I, rfl, s3, ⟨x, dx, vs, rfl, h1, h2⟩, q⟩ := h
  obtain ⟨u, rfl, ru⟩ := vals1 r
  cases ru
  obtain ⟨mA, O, _⟩ := ins_get I0.hok (s3.sub _ _ h1)
  obtain ⟨od, J, _⟩ := O.look
  obtain ⟨mm, fr⟩ := I0.fr
  refine PySem.W.len_K fr I0.ok.mod.kin J hm.at_ hm.fn (wpAny_call (codeAny_mono (F.run X.A.in1 X.stack s H ⟨[.ref x], []⟩ [.ref x] [.ref x] (fun v H' => v = .int n ∧ ∃ I', S3 (Ent.call I H []) [] I' H') E0 hr.in1 I0.env0.in1 (hb s [.ref x] I0.kIn (by
    have := F.len [.ref x] H (fun v H' => v = .int n ∧ ∃ I', S3 (Ent.call I H []) [] I' H') E0 ⟨I, s3, ⟨⟨x, dx, vs, rfl, h1, h2⟩, True.intro⟩, fun v I' H' s' r => ⟨Dt.int_inv r, I', s'⟩⟩
    simpa using this)) (.cons rfl .nil) ⟨I, s3, ⟨⟨x, dx, vs, rfl, h1, h2⟩, True.intro⟩, fun v I' H' s' r => ⟨Dt.int_inv r, I', s'⟩⟩) fun r s' hq => ?_))
  cases r with
  | error e => exact (passF (X := X) pins σ H s e s' I0 hq |> fun z => by
      obtain ⟨_, _, _, _, _, _, _, _, _, _, _, _, h⟩ := hq
      exact h.elim)
  | ok fl =>
    cases fl with
    | ret u =>
      obtain ⟨v, H', I1, rv, ev, I', s'⟩ := I0.after hq
      subst ev
      obtain ⟨t, rfl⟩ := rv
      refine ⟨⟨by omega, by omega⟩, ⟨.int n, H', I1.tok _, ⟨_, rfl⟩, q I' H' s'⟩⟩
    | next => exact False.elim hq
    | brk => exact False.elim hq
    | cont => exact False.elim hq
theorem je_lenK {p : Pos} {C : Addr} {fs : List (Str × Pr)} {n : Nat} (F : Fm X.prog X.w X.K X.mg X.base C "__len__" k (FSp [] [InV C fs] (IntV (n : Int)) [])) (hr : Room (k + 1) X.A) (ha : JE X N rq Γ e (InV C fs)) (hn : n < 2 ^ 62) (B : Bi X "len" (.builtin "len")) (A : Ar X e [] pos) : JE X N rq Γ (.Call (.Name "len" p) [e] [] pos) (IntV (n : Int)) := by
  obtain ⟨f, fd, pn, F, hm, hb⟩ := F
  exact je_callB (call_lenK F hm hb hr hn) B.gl B.free B.boot (ja_cons ha ja_nil A.he) (fun M I H vs Q hM s h q => by
    obtain ⟨v, rfl, hv⟩ := ty1 h
    refine ⟨v, I, rfl, s.enter has_nil .nil, hv, fun I' H' s' => ?_⟩
    obtain ⟨s2, e2⟩ := s.back has_nil s'
    exact q _ I' H' s2 e2 (.int _)) B.n1 B.n2 A.he A.hpl
/-- x in o, x not in o, by o's class -/
theorem op_inK {C : Addr} {fs : List (Str × Pr)} {P : Pr} {t neg : Bool} {f : Addr} {fd : FuncData} {pn : List Str} (F : FnOk X.prog X.w X.K X.mg X.base (L2.CX X.prog X.w) k f fd pn (FSp [] [InV C fs, P] (BlV t) [])) (hm : Meth X.K C "__contains__" f) (hb : Binds X.K fd pn []) (hr : Room k X.A) :
    OpR X (compareOp (if neg then .NotIn else .In)) (fun y v H Q => ∃ I, S3 (Ent.call I H []) [] I H ∧ (InV C fs).p v I ∧ P.p y I ∧ ∀ I' H', S3 (Ent.call I H []) [] I' H' → Q (.bl (if neg then !t else t)) H') := by
  intro pins s σ H y v yv vv Q I0 ry rv h
  obtain ⟨I, s3, ⟨x, dx, vs, rfl, h1, h2⟩, py, q⟩ := h
  cases rv
  obtain ⟨mA, O, _⟩ := ins_get I0.hok (s3.sub _ _ h1)
  obtain ⟨od, J, _⟩ := O.look
  obtain ⟨mm, fr⟩ := I0.fr
  have run : wpAny (model X.prog X.w) X.A (call (.ref f) [.ref x, yv]) (fun r s' => wpAny (model X.prog X.w) X.A (truthy r) (fun b => EP X pins σ Q (.bool (if neg then !b else b))) X.xe s') X.xe s := by
    refine thn (run_fn (us := [.ref x, yv]) (vs := [.ref x, y]) (Q := fun v H' => v = .bl t ∧ ∃ I', S3 (Ent.call I H []) [] I' H') F hr hb .nil passF I0 (.cons rfl (.cons ry .nil)) ⟨I, s3, ⟨⟨x, dx, vs, rfl, h1, h2⟩, py, True.intro⟩, fun v I' H' s' r => ⟨Dt.bl_inv r, I', s'⟩⟩) fun r s' hq => ?_
    obtain ⟨v', H', I1, rr, ev, I', s''⟩ := hq
    subst ev
    cases rr
    exact wpAny_truthy_bool ⟨.bl (if neg then !t else t), H', I1, rfl, q I' H' s''⟩
  cases neg with
  | false => exact PySem.W.in_K fr I0.ok.mod.kin J hm.at_ hm.fn run
  | true => exact PySem.W.notIn_K fr I0.ok.mod.kin J hm.at_ hm.fn run
end
end QL

/-! text QL7 -/
set_option Elab.async false
set_option linter.all false
set_option maxRecDepth 100000
set_option maxHeartbeats 4000000
/-! QL7: what is ours is changed; raising; the rule for a def. -/
namespace QL
open PySem PySem.Spec PyProof.Rows L2
section
variable {X : Cx} {N : Ent} {M rq : OwnM} {Γ : Ctx} {a b c e o : Expr} {es : List Expr} {P P' R : Pr} {pos p2 apos : Pos} {k : Nat} {ow : OwnM} {ps : List Pr} {rest : List Stmt} {D : L2.Ends}
theorem jc_inK {C : Addr} {fs : List (Str × Pr)} {t : Bool} (F : Fm X.prog X.w X.K X.mg X.base C "__contains__" k (FSp [] [InV C fs, P] (BlV t) [])) (hr : Room k X.A) (ha : JE X N rq Γ a P) (hb : JE X N rq Γ b (InV C fs)) (hk : behindInMarks .In b = false) : JC X N rq Γ (.Compare a [.In] [b] pos) t := by
  obtain ⟨f, fd, pn, F, hm, hbd⟩ := F
  have ho := op_inK (neg := false) F hm hbd hr
  exact ⟨fun M I H σ Q hM s ty q => we_of (pe_cmpR ho we_pe we_pe hk) (je_bin ha hb hM s ty fun x y I' H' s' e u u' => ⟨I', s'.enter has_nil .nil, u', u, fun I2 H2 s2 => by
      obtain ⟨s3, e3⟩ := s'.back has_nil s2
      exact q _ I2 H2 s3 (e.trans e3) (.bl _)⟩),
    fun M I H σ Q hM s ty q => wt_of (pt_cmpR ho we_pe we_pe hk) (je_bin ha hb hM s ty fun x y I' H' s' e u u' => ⟨I', s'.enter has_nil .nil, u', u, fun I2 H2 s2 => by
      obtain ⟨s3, e3⟩ := s'.back has_nil s2
      exact ⟨t, rfl, q I2 H2 s3 (e.trans e3)⟩⟩)⟩
theorem jc_notInK {C : Addr} {fs : List (Str × Pr)} {t : Bool} (F : Fm X.prog X.w X.K X.mg X.base C "__contains__" k (FSp [] [InV C fs, P] (BlV t) [])) (hr : Room k X.A) (ha : JE X N rq Γ a P) (hb : JE X N rq Γ b (InV C fs)) (hk : behindInMarks .NotIn b = false) : JC X N rq Γ (.Compare a [.NotIn] [b] pos) (!t) := by
  obtain ⟨f, fd, pn, F, hm, hbd⟩ := F
  have ho := op_inK (neg := true) F hm hbd hr
  exact ⟨fun M I H σ Q hM s ty q => we_of (pe_cmpR ho we_pe we_pe hk) (je_bin ha hb hM s ty fun x y I' H' s' e u u' => ⟨I', s'.enter has_nil .nil, u', u, fun I2 H2 s2 => by
      obtain ⟨s3, e3⟩ := s'.back has_nil s2
      exact q _ I2 H2 s3 (e.trans e3) (.bl _)⟩),
    fun M I H σ Q hM s ty q => wt_of (pt_cmpR ho we_pe we_pe hk) (je_bin ha hb hM s ty fun x y I' H' s' e u u' => ⟨I', s'.enter has_nil .nil, u', u, fun I2 H2 s2 => by
      obtain ⟨s3, e3⟩ := s'.back has_nil s2
      exact ⟨!t, rfl, q I2 H2 s3 (e.trans e3)⟩⟩)⟩
/-- l.append(e), the list ours -/
theorem js_append {p : Addr} {ps : List Pr} {sp : Pos} (hv : JE X N ((p, lstO ps) :: M) Γ o (EqV (.ref p))) (ha : JE X N ((p, lstO ps) :: M) Γ e P) (hl : ps.length ≤ 1000) (hr : JS X (Tp N ((p, lstO (ps ++ [P])) :: M) Γ) rest D) (A : Ar X e [] pos)
    (hbase : attributeBase o "append" X.env (eval o X.env) = eval o X.env)
    (hfew : ((backTo pos (starEach [e] X.env)).all (fun x => !x.1) && (backToKw pos (keywordEach [] X.env)).all (fun x => x.1.isSome)
      && decide ([e].length + ([] : List Keyword).length + (if ([] : List Keyword).isEmpty then 0 else 1) < 30)) = true)
    (hline : (apos.endLine == pos.line) = true) (hs : swapsWith (.Call (.Attribute o "append" apos) [e] [] pos) none sp.line X.env = pure false) :
    JS X (Tp N ((p, lstO ps) :: M) Γ) (.Expr (.Call (.Attribute o "append" apos) [e] [] pos) sp :: rest) D :=
  js_of (ps_expr (pe_bm PySem.F.plainAttrs_list PySem.F.slot_list_append PySem.F.type_list_append mt_append we_pe wa_pa hbase hfew hline A.he A.hpl) hs) fun σ H ⟨hlen, I, s, t⟩ =>
    hv _ I H σ _ (fun q hq => hq) s t fun v I1 H1 s1 e1 ev => by
      obtain rfl : v = V.ref p := ev
      obtain ⟨⟨o1, g1, _, xs1, rfl, _⟩, _⟩ := s1.own (p, lstO ps) List.mem_cons_self
      refine ⟨.inl ⟨rfl, xs1, SqL.of g1⟩, ja_cons ha ja_nil A.he _ I1 H1 σ _ (fun q hq => hq) s1 (t.up e1) fun vs I2 H2 s2 e2 tv => ?_⟩
      obtain ⟨v, rfl, hv⟩ := ty1 tv
      obtain ⟨⟨o2, g2, _, xs2, rfl, g3⟩, _⟩ := s2.own (p, lstO ps) List.mem_cons_self
      refine ⟨p, xs2, v, rfl, rfl, g2, by rw [← g3.length, sizeLine_eq]; omega, nx_keep hr hlen (s2.put (φ' := lstO (ps ++ [P])) noT_lst ⟨_, rfl, g3.app (TyL.one hv)⟩) (t.up (e1.trans e2))⟩
theorem putF_new {f : Str} {v : V} : ∀ {ns : List Str} {xs : List V}, ns.length = xs.length → f ∉ ns → putF f v (ns.zip xs) = (ns ++ [f]).zip (xs ++ [v])
  | [], [], _, _ => by simp [putF]
  | n :: ns, x :: xs, h, hn => by
    have e : ¬ n = f := fun e => hn (by rw [e]; exact List.mem_cons_self)
    have ih := putF_new (f := f) (v := v) (ns := ns) (xs := xs) (by simpa using h) (fun hm => hn (List.mem_cons_of_mem _ hm))
    rw [List.zip_cons_cons, List.cons_append, List.cons_append, List.zip_cons_cons, ← ih]
    first
      | simp [putF, e]
      | (simp only [putF]; rw [if_neg e])
      | (simp only [putF]; rw [if_neg (fun z => e z.symm)])
  | [], _ :: _, h, _ => by cases h
  | _ :: _, [], h, _ => by cases h
/-- self.f = e, the instance ours -/
theorem js_fld {p C : Addr} {f : Str} {fs : List (Str × Pr)} {pos' : Pos} (c : Cls X.K C) (n : NoAttr X.K C f) (he : JE X N ((p, insO C fs) :: M) Γ e P) (hv : JE X N ((p, insO C fs) :: M) Γ o (EqV (.ref p))) (hf : f ∉ fs.map Prod.fst) (hl : fs.length < 100) (hr : JS X (Tp N ((p, insO C (fs ++ [(f, P)])) :: M) Γ) rest D)
    (hs : swapsWith e (some (.Attribute o f pos')) pos.line X.env = pure false) : JS X (Tp N ((p, insO C fs) :: M) Γ) (.Assign [.Attribute o f pos'] e pos :: rest) D :=
  js_of (ps_fld we_pe we_pe hs) fun σ H ⟨hlen, I, s, t⟩ => he _ I H σ _ (fun q hq => hq) s t fun v I1 H1 s1 e1 pv => hv _ I1 H1 σ _ (fun q hq => hq) s1 (t.up e1) fun u I2 H2 s2 e2 ev => by
    obtain rfl : u = V.ref p := ev
    obtain ⟨⟨o2, g2, _, dx, xs, rfl, g3⟩, _⟩ := s2.own (p, insO C fs) List.mem_cons_self
    have len : (fs.map Prod.fst).length = xs.length := by rw [← g3.length, List.length_map, List.length_map]
    refine ⟨p, C, dx, _, rfl, g2, c, n, by rw [List.length_zip, List.length_map, ← g3.length, List.length_map]; omega, nx_keep hr hlen (s2.put (φ' := insO C (fs ++ [(f, P)])) noT_ins ⟨dx, xs ++ [v], ?_, ?_⟩) (t.up (e1.trans e2))⟩
    · rw [putF_new len hf, List.map_append]; rfl
    · rw [List.map_append]; exact g3.app (TyL.one (P.up e2 pv))
/-- l[i] = e, the list ours -/
theorem js_put {p : Addr} {i : Int} {j : Nat} {tpos : Pos} (he : JE X N ((p, lstO ps) :: M) Γ e P) (hv : JE X N ((p, lstO ps) :: M) Γ o (EqV (.ref p))) (hi : JE X N ((p, lstO ps) :: M) Γ b (IntV i)) (hj : ixN ps.length i = some j) (hr : JS X (Tp N ((p, lstO (ps.set j P)) :: M) Γ) rest D)
    (ha : ∀ v, assign (.Subscript o b tpos) X.env v = (do
      let ov ← holding [v] (eval o X.env)
      let iv ← holding [v, ov] (eval b X.env)
      standAt tpos
      holding [v, ov, iv] (setItem ov iv v)
      release [v, ov, iv] []))
    (hs : swapsWithSole [.Subscript o b tpos] e pos.line X.env = pure false) (hw : swappedStores [.Subscript o b tpos] e X.env = pure none) (h1 : (assignEach [.Subscript o b tpos] X.env).map (·.2) = [assign (.Subscript o b tpos) X.env]) :
    JS X (Tp N ((p, lstO ps) :: M) Γ) (.Assign [.Subscript o b tpos] e pos :: rest) D :=
  js_of (ps_asg we_pe (pg_sub we_pe we_pe set_list ha) hs hw h1) fun σ H ⟨hlen, I, s, t⟩ => he _ I H σ _ (fun q hq => hq) s t fun v I1 H1 s1 e1 pv => hv _ I1 H1 σ _ (fun q hq => hq) s1 (t.up e1) fun u I2 H2 s2 e2 ev => hi _ I2 H2 σ _ (fun q hq => hq) s2 (t.up (e1.trans e2)) fun y I3 H3 s3 e3 py => by
    obtain rfl : u = V.ref p := ev
    obtain ⟨⟨o2, g2, _, xs, rfl, g3⟩, _⟩ := s3.own (p, lstO ps) List.mem_cons_self
    refine ⟨p, xs, i, j, rfl, py.int_inv, g2, by rw [← g3.length]; exact hj, nx_keep hr hlen (s3.put (φ' := lstO (ps.set j P)) noT_lst ⟨_, rfl, ?_⟩) (t.up ((e1.trans e2).trans e3))⟩
    have pv' := P.up (e2.trans e3) pv
    have gs : ∀ (ps : List Pr) (xs : List V) (j : Nat), TyL ps xs I3 → TyL (ps.set j P) (xs.set j v) I3 := by
      intro ps
      induction ps with
      | nil => intro xs j h; cases xs with
        | nil => exact True.intro
        | cons _ _ => exact h.elim
      | cons q qs ih =>
        intro xs j h
        cases xs with
        | nil => exact h.elim
        | cons x xs =>
          cases j with
          | zero => exact ⟨pv', h.2⟩
          | succ j => exact ⟨h.1, ih xs j h.2⟩
    exact gs ps xs j g3
/-- {k: v, ..} by written text keys -/
theorem je_none {Q : Prop} (h : False) : Q := h.elim
end

/-! ### the rule for a def -/
/-- what a body is to reach -/
def RetD (N : Ent) (ow' : OwnM) (R : Pr) : L2.Ends := { nx := fun _ H' => ∃ I', S3 N ow' I' H' ∧ R.p .non I', rt := fun v H' => ∃ I', S3 N ow' I' H' ∧ R.p v I' }
def startC (n : Nat) (ps : List Pr) : Ctx := ps.map some ++ List.replicate (n - ps.length) none
theorem ty_start {Ns : List Str} {ps : List Pr} {vs : List V} {I : Hp} (h : TyL ps vs I) : Ty (startC Ns.length ps) (L2.start Ns vs) I := fun i P e => by
  unfold startC at e
  unfold L2.start
  by_cases hi : i < ps.length
  · rw [List.getElem?_append_left (by simpa using hi), List.getElem?_map] at e
    cases q : ps[i]? with
    | none => rw [q] at e; cases e
    | some P' =>
      rw [q] at e
      cases e
      obtain ⟨v, h1, h2⟩ := h.get q
      exact ⟨v, by rw [List.getElem?_append_left (by rw [List.length_map, ← h.length]; exact hi), List.getElem?_map, h1]; rfl, h2⟩
  · rw [List.getElem?_append_right (by simpa using hi), List.getElem?_replicate] at e
    split at e <;> cases e
theorem WS.mono {X : Cx} {sts : List Stmt} {D D' : L2.Ends} {σ : St} {H : Hp} (h : WS X sts D σ H) (h1 : ∀ σ H, D.nx σ H → D'.nx σ H) (h2 : ∀ v H, D.rt v H → D'.rt v H) (h3 : ∀ σ H, D.bk σ H → D'.bk σ H) (h4 : ∀ σ H, D.ct σ H → D'.ct σ H) : WS X sts D' σ H := fun pins s I => by
  refine thn (h pins s I) fun f s1 hf => ?_
  cases f with
  | next => obtain ⟨σ', H', I1, q⟩ := hf; exact ⟨σ', H', I1, h1 _ _ q⟩
  | brk => obtain ⟨σ', H', I1, q⟩ := hf; exact ⟨σ', H', I1, h3 _ _ q⟩
  | cont => obtain ⟨σ', H', I1, q⟩ := hf; exact ⟨σ', H', I1, h4 _ _ q⟩
  | ret u => obtain ⟨v, σ', H', I1, r, q⟩ := hf; exact ⟨v, σ', H', I1, r, h2 _ _ q⟩
theorem JS.weakD {X : Cx} {Φ : St → Hp → Prop} {sts : List Stmt} {D D' : L2.Ends} (h : JS X Φ sts D) (h1 : ∀ σ H, D.nx σ H → D'.nx σ H) (h2 : ∀ v H, D.rt v H → D'.rt v H) (h3 : ∀ σ H, D.bk σ H → D'.bk σ H := by exact fun _ _ h => h) (h4 : ∀ σ H, D.ct σ H → D'.ct σ H := by exact fun _ _ h => h) : JS X Φ sts D' := fun σ H p => (h σ H p).mono h1 h2 h3 h4
section
variable {P : Program} {w : World} {K : PySem.W.Frag} {mg : Str → Option Value} {base : Heap} {f : Addr} {fd : FuncData} {x qual : Str} {params : Arguments} {body : List Stmt} {scope : Scope} {dvs : List V} {kws : List (Str × V)} {Ns pn : List Str} {k : Nat} {ow ow' : OwnM} {ps : List Pr} {R : Pr}
/-- a body's context -/
abbrev bx (P : Program) (w : World) (K : PySem.W.Frag) (mg : Str → Option Value) (base : Heap) (Ns : List Str) (qual : Str) (scope : Scope) (f : Addr) (cdv : Value) (A : Around) (outer : List Env) (s : Shared) (H : Hp) (E : XK) : Cx :=
  cxOf (L2.CX P w) P w K mg base Ns qual scope f cdv A outer s H E
theorem fn_rule (F : FunD K x qual params body scope dvs kws f fd) (S : FnScope Ns pn scope) (hl : ps.length = pn.length)
    (hb : ∀ (cdv : Value) (A : Around) (outer : List Env) (s : Shared) (H : Hp) (E : XK), Room k (bx P w K mg base Ns qual scope f cdv A outer s H E).A → ∀ N : Ent, JS (bx P w K mg base Ns qual scope f cdv A outer s H E) (Tp N ow (startC Ns.length ps)) body (RetD N ow' R)) :
    FnOk P w K mg base (L2.CX P w) (k + 1) f fd pn (FSp ow ps R ow') :=
  F.ok S (fun vs H Q E h => by
      obtain ⟨I, _, t, _⟩ := h
      rw [← t.length]; exact hl) fun cdv A outer s H vs Q E hr h => by
    obtain ⟨I, s3, t, q⟩ := h
    refine ⟨_, ws_ps, ?_⟩
    have B := hb cdv A outer s H E hr (Ent.call I H ow)
    have hlen : (L2.start Ns vs).length = (startC Ns.length ps).length := by
      unfold L2.start startC
      simp only [List.length_append, List.length_map, List.length_replicate]
      rw [t.length]
    exact (B.weakD (D' := { nx := fun _ H' => Q .non H', rt := Q }) (fun _ H' ⟨I', s', r⟩ => q .non I' H' s' r) fun v H' ⟨I', s', r⟩ => q v I' H' s' r) _ _ ⟨hlen, I, s3, ty_start t⟩
/-- an exception of the class at C with that value -/
def FSx (ow : OwnM) (ps : List Pr) (C : Addr) (R : Pr) : Sp := fun vs H _ E => ∃ I, S3 (Ent.call I H ow) ow I H ∧ TyL ps vs I ∧ ∀ d v I' H', S3 (Ent.call I H ow) ow I' H' → I' d = some (.xd [("value", v)]) → R.p v I' → E (.ref C) (some d) H'
abbrev DF : L2.Ends := { nx := fun _ _ => False, rt := fun _ _ => False }
/-- how an exception of the class at C leaves -/
abbrev Lv (N : Ent) (ow : OwnM) (C : Addr) (R : Pr) (E : XK) : Prop := ∀ d v I' H', S3 N ow I' H' → I' d = some (.xd [("value", v)]) → R.p v I' → E (.ref C) (some d) H'
theorem fnx_rule {C : Addr} (F : FunD K x qual params body scope dvs kws f fd) (S : FnScope Ns pn scope) (hl : ps.length = pn.length)
    (hb : ∀ (cdv : Value) (A : Around) (outer : List Env) (s : Shared) (H : Hp) (E : XK), Room k (bx P w K mg base Ns qual scope f cdv A outer s H E).A → ∀ N : Ent, Lv N ow C R E → JS (bx P w K mg base Ns qual scope f cdv A outer s H E) (Tp N ow (startC Ns.length ps)) body DF) :
    FnOk P w K mg base (L2.CX P w) (k + 1) f fd pn (FSx ow ps C R) :=
  F.ok S (fun vs H Q E h => by
      obtain ⟨I, _, t, _⟩ := h
      rw [← t.length]; exact hl) fun cdv A outer s H vs Q E hr h => by
    obtain ⟨I, s3, t, q⟩ := h
    refine ⟨_, ws_ps, ?_⟩
    have B := hb cdv A outer s H E hr (Ent.call I H ow) q
    have hlen : (L2.start Ns vs).length = (startC Ns.length ps).length := by
      unfold L2.start startC
      simp only [List.length_append, List.length_map, List.length_replicate]
      rw [t.length]
    exact (B.weakD (D' := { nx := fun _ H' => Q .non H', rt := Q }) (fun _ H' h => h.elim) fun v H' h => h.elim) _ _ ⟨hlen, I, s3, ty_start t⟩
end
section
variable {X : Cx} {N : Ent} {M rq : OwnM} {Γ : Ctx} {a b c e o : Expr} {es : List Expr} {R : Pr} {pos p2 apos : Pos} {k : Nat} {ow : OwnM} {ps : List Pr} {rest : List Stmt} {D : L2.Ends} {E : XK} {C : Addr}
/-- an expression that raises -/
def JX (X : Cx) (N : Ent) (M : OwnM) (Γ : Ctx) (e : Expr) : Prop := ∀ (I H : Hp) (σ : St) (Q : VK), S3 N M I H → Ty Γ σ I → WE X e σ H Q
theorem js_exprX (h : JX X N M Γ e) (hs : swapsWith e none pos.line X.env = pure false) : JS X (Tp N M Γ) (.Expr e pos :: rest) D :=
  js_of (ps_expr we_pe hs) fun σ H ⟨hl, I, s, t⟩ => h I H σ _ s t
theorem js_setX {i : Nat} {x : Str} {p' : Pos} (h : JX X N M Γ e) (hN : X.N.Nodup) (n : Nm X x i) (hs : swapsWith e (some (.Name x p')) pos.line X.env = pure false) : JS X (Tp N M Γ) (.Assign [.Name x p'] e pos :: rest) D :=
  js_of (ps_set hN n.hi n.hx we_pe hs n.hf) fun σ H ⟨hl, I, s, t⟩ => h I H σ _ s t
theorem passX {P : Program} {w : World} {K : PySem.W.Frag} {mg : Str → Option Value} {base : Heap} {Ns : List Str} {qual : Str} {scope : Scope} {f : Addr} {cdv : Value} {A : Around} {outer : List Env} {s : Shared} {H : Hp} {E : XK} : Passes (L2.CX P w) (bx P w K mg base Ns qual scope f cdv A outer s H E) E :=
  passes_call (W := fun cls d _ H => E cls d H) (takes_of rfl rfl rfl rfl) fun _ _ _ _ h => h
theorem passO {P : Program} {w : World} {K : PySem.W.Frag} {mg : Str → Option Value} {base : Heap} {Ns : List Str} {qual : Str} {scope : Scope} {f : Addr} {cdv : Value} {A : Around} {outer : List Env} {s : Shared} {H : Hp} {E : XK} : PassesOwn (model P w) (bx P w K mg base Ns qual scope f cdv A outer s H E).A (bx P w K mg base Ns qual scope f cdv A outer s H E).env (bx P w K mg base Ns qual scope f cdv A outer s H E).xe := passes_of rfl
theorem jx_call {x : Str} (F : Fd X.prog X.w X.K X.mg X.base x k (FSx ow ps C R)) (hx : Passes (L2.CX X.prog X.w) X E) (lv : Lv N M C R E) (hr : Room k X.A) (ha : JA X N M Γ (e :: es) ps) (hw : Has ow M) (nd : (ow.map (·.1)).Nodup) (hg : Gl X x) (hdb : (x == ("__debug__" : Str)) = false) (A : Ar X e es pos) :
    JX X N M Γ (.Call (.Name x p2) (e :: es) [] pos) := by
  obtain ⟨f, fd, pn, F, hm, hk, hb⟩ := F
  exact fun I H σ Q s t => we_of (pe_call F hr hg hm hk hb .nil hx wa_pa hdb A.he A.hpl) (ha M I H σ _ (fun q hq => hq) s t fun vs I1 H1 s1 e1 p => by
    rw [List.append_nil]
    exact ⟨I1, s1.enter hw nd, p, fun d v I' H' s' hd r => by
      obtain ⟨s2, e2⟩ := s1.back hw s'
      exact lv d v I' H' s2 hd r⟩)
theorem jx_meth {m : Str} {Cc : Addr} {fs : List (Str × Pr)} (F : Fm X.prog X.w X.K X.mg X.base Cc m k (FSx ow (InV Cc fs :: ps) C R)) (c : Cls X.K Cc) (hx : Passes (L2.CX X.prog X.w) X E) (lv : Lv N M C R E) (hr : Room k X.A) (ho : JE X N M Γ o (InV Cc fs)) (ha : JA X N M Γ (e :: es) ps) (hw : Has ow M) (nd : (ow.map (·.1)).Nodup)
    (hf : m ∉ fs.map Prod.fst) (A : Ar X e es pos) {pl : Sem Bool}
    (ht : eval (.Call (.Attribute o m apos) (e :: es) [] pos) X.env = (do
      let ov ← eval o X.env
      standAt apos.atName
      let (f, first) ← holding [ov] (getMethod ov m pl)
      callWith pos f first (backTo pos (starEach (e :: es) X.env)) (backToKw pos (keywordEach [] X.env)))) : JX X N M Γ (.Call (.Attribute o m apos) (e :: es) [] pos) := by
  obtain ⟨f, fd, pn, F, hm, hb⟩ := F
  exact fun I H σ Q s t => we_of (pe_meth we_pe c hm F hr hb .nil hx wa_pa A.he A.hpl ht) (ho M I H σ _ (fun q hq => hq) s t fun v0 I0 H0 s0 e0 p0 => by
    obtain ⟨x, dx, xs, rfl, h1, h2⟩ := p0
    refine ⟨x, dx, _, rfl, s0.sub _ _ h1, zip_none hf, ha M I0 H0 σ _ (fun q hq => hq) s0 (t.up e0) fun vs I1 H1 s1 e1 p => ?_⟩
    rw [List.append_nil]
    exact ⟨I1, s1.enter hw nd, ⟨⟨x, dx, xs, rfl, e1 _ _ h1, h2.up e1⟩, p⟩, fun d v I' H' s' hd r => by
      obtain ⟨s2, e2⟩ := s1.back hw s'
      exact lv d v I' H' s2 hd r⟩)
end
end QL

/-! text QF0 -/
set_option Elab.async false
set_option linter.all false
set_option maxRecDepth 100000
set_option maxHeartbeats 4000000
/-! QF0: the program's values. -/
namespace QL
open PySem PySem.Spec PyProof.Rows L2
def visB (sc : Scope) (x : Str) : Bool := match sc.names.lookup x with
  | some .local => true | some .cell => true | some .free => true | _ => false
def locB (sc : Scope) (x : Str) : Bool := match sc.names.lookup x with
  | some .local => true | some .cell => true | _ => false
theorem vis_by {sc : Scope} {x : Str} (h : visB sc x = true) : Vis sc x := by
  unfold visB at h
  split at h
  · exact .inl (by assumption)
  · exact .inr (.inl (by assumption))
  · exact .inr (.inr (by assumption))
  · cases h
def isLoc : Option NameKind → Bool
  | some .local => true | _ => false
theorem nm_by {X : Cx} {x : Str} {i : Nat} (h1 : X.N[i]? = some x) (h2 : locB X.env.scope x = true) (h3 : (X.fn x || isLoc (X.env.scope.names.lookup x)) = true) : Nm X x i := by
  refine ⟨h1, ?_, ?_⟩
  · unfold locB at h2
    split at h2
    · exact .inl (by assumption)
    · exact .inr (by assumption)
    · cases h2
  · rcases Bool.or_eq_true_iff.mp h3 with h | h
    · exact .inl h
    · right
      unfold isLoc at h
      split at h
      · assumption
      · cases h
theorem units1 {k : Nat} {A : Around} (r : Room k A) : A.units + 1 < cLine := by have := r.units; omega
structure Free (mg : Str → Option Value) : Prop where
  isinstance : mg "isinstance" = none
  int : mg "int" = none
  bool : mg "bool" = none
  str : mg "str" = none
  list : mg "list" = none
  tuple : mg "tuple" = none
  len : mg "len" = none
  range : mg "range" = none
  zip : mg "zip" = none
  sum : mg "sum" = none
  all : mg "all" = none
  max : mg "max" = none
  repr : mg "repr" = none
/-- what isinstance asks of an own class -/
structure Oc (K : PySem.W.Frag) (C : Addr) : Prop where
  cl : Cls K C
  ha : PySem.W.findIn K (.ref C) "__class__" = some (some (.builtin "object.__class__"))
  hn : PySem.W.specialIn K (.builtin "object.__class__") "__get__" = some (some (.builtin "getset_descriptor.__get__"))
  tk : PySem.W.takesIn K (.builtin "object.__class__") = some true
  mr : PySem.W.mroIn K C (.type "object") = some true
  self : PySem.W.kitOne K (.ref C) (.ref C) = some true
section
variable {X : Cx}
theorem bi_isinstance (f : Free X.mg) (g : Gl X "isinstance") : Bi X "isinstance" (.builtin "isinstance") := ⟨g, f.isinstance, boot_isinstance, by decide, rfl⟩
theorem bi_int (f : Free X.mg) (g : Gl X "int") : Bi X "int" (.type "int") := ⟨g, f.int, boot_int, by decide, rfl⟩
theorem bi_bool (f : Free X.mg) (g : Gl X "bool") : Bi X "bool" (.type "bool") := ⟨g, f.bool, boot_bool, by decide, rfl⟩
theorem bi_str (f : Free X.mg) (g : Gl X "str") : Bi X "str" (.type "str") := ⟨g, f.str, boot_str, by decide, rfl⟩
theorem bi_list (f : Free X.mg) (g : Gl X "list") : Bi X "list" (.type "list") := ⟨g, f.list, boot_list, by decide, rfl⟩
theorem bi_tuple (f : Free X.mg) (g : Gl X "tuple") : Bi X "tuple" (.type "tuple") := ⟨g, f.tuple, boot_tuple, by decide, rfl⟩
theorem bi_len (f : Free X.mg) (g : Gl X "len") : Bi X "len" (.builtin "len") := ⟨g, f.len, boot_len, by decide, rfl⟩
theorem bi_range (f : Free X.mg) (g : Gl X "range") : Bi X "range" (.type "range") := ⟨g, f.range, boot_range, by decide, rfl⟩
theorem bi_zip (f : Free X.mg) (g : Gl X "zip") : Bi X "zip" (.type "zip") := ⟨g, f.zip, boot_zip, by decide, rfl⟩
theorem bi_sum (f : Free X.mg) (g : Gl X "sum") : Bi X "sum" (.builtin "sum") := ⟨g, f.sum, boot_sum, by decide, rfl⟩
theorem bi_all (f : Free X.mg) (g : Gl X "all") : Bi X "all" (.builtin "all") := ⟨g, f.all, boot_all, by decide, rfl⟩
theorem bi_max (f : Free X.mg) (g : Gl X "max") : Bi X "max" (.builtin "max") := ⟨g, f.max, boot_max, by decide, rfl⟩
theorem bi_repr (f : Free X.mg) (g : Gl X "repr") : Bi X "repr" (.builtin "repr") := ⟨g, f.repr, boot_repr, by decide, rfl⟩
theorem je_gi {N : Ent} {rq : OwnM} {Γ : Ctx} {x : Str} {i : Int} {pos : Pos} (h : ∃ t, X.mg x = some (.int i t)) (hg : Gl X x) (hd : (x == ("__debug__" : Str)) = false) : JE X N rq Γ (.Name x pos) (IntV i) := by
  obtain ⟨t, h⟩ := h
  exact je_glob (v := .int i) hg h ⟨t, rfl⟩ (fun _ => .int i) hd
end
end QL
namespace QD
open PySem PySem.Spec PyProof.Rows L2 QL
def top (i : Nat) : Stmt := PySem.Challenge.pw_quietdoors_k13_whole_gaps.main.body.getD i (.Pass ⟨0, 0, 0, 0⟩)
/-- a def in the class that stands at i -/
def sub (i j : Nat) : Stmt := match top i with
  | .ClassDef _ _ _ b _ _ _ _ _ _ _ => b.getD j (.Pass ⟨0, 0, 0, 0⟩)
  | s => s
abbrev FnP (K : PySem.W.Frag) (x : Str) (st : Stmt) (f : Addr) (fd : FuncData) : Prop := FunD K x x (defArgs st) (defBody st) (defScope st) [] [] f fd
/-- a def in a class -/
abbrev MtP (K : PySem.W.Frag) (x q : Str) (st : Stmt) (f : Addr) (fd : FuncData) : Prop := FunD K x q (defArgs st) (defBody st) (defScope st) [] [] f fd

/-! ### the values -/
structure BoxD where
  lo : Int
  hi : Int
  rest : Int
  sees : Str
structure Line where
  boxes : List BoxD
  links : List (Int × Int)
structure Tk where
  out : List Int
  back : List Int
  los : Nat
/-- out, k -/
abbrev Let := Bool × Nat
def dirS (b : Bool) : Str := if b = true then "out" else "back"
def letD (x : Let) : PyData := .tuple [.str (dirS x.1), .int x.2]
def linkD (l : Int × Int) : PyData := .tuple [.int l.1, .int l.2]
def BoxV (CB : Addr) (b : BoxD) : Pr := InV CB [("kept_parts", DkV [(.inr "low", .int b.lo), (.inr "high", .int b.hi), (.inr "rest", .int b.rest), (.inr "sees", .str b.sees)])]
def RowV (CR CB : Addr) (l : Line) : Pr := InV CR [("kept_boxes", TuV (l.boxes.map (BoxV CB))), ("kept_links", DatV (.tuple (l.links.map linkD)))]
def TalkV (CT : Addr) (t : Tk) : Pr := InV CT [("kept_out", DatV (.tuple (t.out.map PyData.int))), ("kept_back", DatV (.tuple (t.back.map PyData.int))), ("kept_losses", IntV t.los)]
def letters (t : Tk) : List Let := (List.range t.out.length).map (fun k => (true, k)) ++ (List.range t.back.length).map (fun k => (false, k))
def times (t : Tk) (x : Let) : List Int := if x.1 = true then t.out else t.back
def time (t : Tk) (x : Let) : Int := (times t x).getD x.2 0
def sums (ls : List (Int × Int)) : Int × Int := ((ls.map (·.1)).sum, (ls.map (·.2)).sum)
def delay (l : Line) (b : Nat) (x : Let) : Int × Int := if x.1 = true then sums (l.links.take (b + 1)) else sums (l.links.drop (b + 1))
def win (l : Line) (t : Tk) (b : Nat) (x : Let) : Int × Int := (time t x + (delay l b x).1, time t x + (delay l b x).2)
structure LineOk (l : Line) : Prop where
  n1 : 1 ≤ l.boxes.length
  n4 : l.boxes.length ≤ 4
  ln : l.links.length = l.boxes.length + 1
  lb : ∀ p ∈ l.links, 0 ≤ p.1 ∧ p.1 ≤ p.2 ∧ p.2 ≤ 1000
  bx : ∀ b ∈ l.boxes, 1 ≤ b.lo ∧ b.lo ≤ b.hi ∧ b.hi ≤ 10000 ∧ 0 ≤ b.rest ∧ b.rest ≤ 10000 ∧ (b.sees = "out" ∨ b.sees = "both")
def Asc : List Int → Prop
  | [] => True
  | [_] => True
  | a :: b :: r => a < b ∧ Asc (b :: r)
structure TkOk (t : Tk) : Prop where
  o1 : 1 ≤ t.out.length
  o7 : t.out.length ≤ 7
  b7 : t.back.length ≤ 7
  oa : Asc t.out
  ba : Asc t.back
  ob : ∀ x ∈ t.out, 0 ≤ x ∧ x ≤ 10000
  bb : ∀ x ∈ t.back, 0 ≤ x ∧ x ≤ 10000
  l2 : t.los ≤ 2
/-- what the walk asks of the module -/
structure Ft (K : PySem.W.Frag) (mg : Str → Option Value) (CB CR CT CN CL : Addr) : Prop where
  fr : Free mg
  MOST_TIME : ∃ t, mg "MOST_TIME" = some (.int 10000 t)
  MOST_BOXES : ∃ t, mg "MOST_BOXES" = some (.int 4 t)
  MOST_LINK : ∃ t, mg "MOST_LINK" = some (.int 1000 t)
  MOST_TIMES : ∃ t, mg "MOST_TIMES" = some (.int 60 t)
  MOST_LOSSES : ∃ t, mg "MOST_LOSSES" = some (.int 5 t)
  PARTS : ∃ a, mg "PARTS" = some (.ref a) ∧ ∀ H, SqT K H a [.str "low", .str "high", .str "rest", .str "sees"]
  mB : mg "Box" = some (.ref CB)
  mR : mg "Row" = some (.ref CR)
  mT : mg "Talk" = some (.ref CT)
  mN : mg "InvalidNumber" = some (.ref CN)
  mL : mg "InvalidLetter" = some (.ref CL)
  cB : Cls K CB
  cR : Cls K CR
  cT : Cls K CT
  n_kept_parts : NoAttr K CB "kept_parts"
  n_kept_boxes : NoAttr K CR "kept_boxes"
  n_kept_links : NoAttr K CR "kept_links"
  n_kept_out : NoAttr K CT "kept_out"
  n_kept_back : NoAttr K CT "kept_back"
  n_kept_losses : NoAttr K CT "kept_losses"
  oB : Oc K CB
end QD

/-! text QL8 -/
set_option Elab.async false
set_option linter.all false
set_option maxRecDepth 100000
set_option maxHeartbeats 4000000
/-! QL8: membership in lists and tuples of data. -/
namespace QL
open PySem PySem.Spec PyProof.Rows L2
theorem units65 {k : Nat} {A : Around} (r : Room k A) : A.units + 65 < cLine := by have := r.un; omega
theorem op_inTp {X : Cx} (hu : X.A.units + 65 < cLine) : OpR X (compareOp .In) (fun x y H Q => ∃ d ds, Dp X.K H x d ∧ Dp X.K H y (.tuple ds) ∧ SeqAt.shaped d = true ∧ SeqAt.shaped (.tuple ds) = true ∧ Q (.bl (ds.any fun z => PyData.eqv z d)) H) := by
  intro pins s σ H x y v u Q I rx ry h
  obtain ⟨d, ds, hd, he, sd, se, q⟩ := h
  obtain ⟨as, r1⟩ := Dp.reads I d x v hd rx
  obtain ⟨bs, r2⟩ := Dp.reads I (.tuple ds) y u he ry
  exact SeqAt.in_tuple_reads r2 r1 (SeqAt.canLay_of_shaped se) (SeqAt.canLay_of_shaped sd) (room_in_shaped sd hu) ⟨.bl _, H, I, rfl, q⟩
theorem op_notInTp {X : Cx} (hu : X.A.units + 65 < cLine) : OpR X (compareOp .NotIn) (fun x y H Q => ∃ d ds, Dp X.K H x d ∧ Dp X.K H y (.tuple ds) ∧ SeqAt.shaped d = true ∧ SeqAt.shaped (.tuple ds) = true ∧ Q (.bl (!ds.any fun z => PyData.eqv z d)) H) := by
  intro pins s σ H x y v u Q I rx ry h
  obtain ⟨d, ds, hd, he, sd, se, q⟩ := h
  obtain ⟨as, r1⟩ := Dp.reads I d x v hd rx
  obtain ⟨bs, r2⟩ := Dp.reads I (.tuple ds) y u he ry
  exact SeqAt.notIn_tuple_reads r2 r1 (SeqAt.canLay_of_shaped se) (SeqAt.canLay_of_shaped sd) (room_in_shaped sd hu) ⟨.bl _, H, I, rfl, q⟩
section
variable {X : Cx} {N : Ent} {rq : OwnM} {Γ : Ctx} {a b : Expr} {pos : Pos} {d : PyData} {ds : List PyData}
theorem jc_inL (hu : X.A.units + 65 < cLine) (ha : JE X N rq Γ a (DatV d)) (hb : JE X N rq Γ b (DatV (.list ds))) (sd : SeqAt.shaped d = true) (se : SeqAt.shaped (.list ds) = true) (hk : behindInMarks .In b = false) : JC X N rq Γ (.Compare a [.In] [b] pos) (ds.any fun z => PyData.eqv z d) :=
  jc_of (op_inD hu) ha hb hk fun M I H x y Q s p p' q => ⟨d, ds, Dt.dp s.sub p, Dt.dp s.sub p', sd, se, q⟩
theorem jc_notInL (hu : X.A.units + 65 < cLine) (ha : JE X N rq Γ a (DatV d)) (hb : JE X N rq Γ b (DatV (.list ds))) (sd : SeqAt.shaped d = true) (se : SeqAt.shaped (.list ds) = true) (hk : behindInMarks .NotIn b = false) : JC X N rq Γ (.Compare a [.NotIn] [b] pos) (!ds.any fun z => PyData.eqv z d) :=
  jc_of (op_notInD hu) ha hb hk fun M I H x y Q s p p' q => ⟨d, ds, Dt.dp s.sub p, Dt.dp s.sub p', sd, se, q⟩
theorem jc_inT (hu : X.A.units + 65 < cLine) (ha : JE X N rq Γ a (DatV d)) (hb : JE X N rq Γ b (DatV (.tuple ds))) (sd : SeqAt.shaped d = true) (se : SeqAt.shaped (.tuple ds) = true) (hk : behindInMarks .In b = false) : JC X N rq Γ (.Compare a [.In] [b] pos) (ds.any fun z => PyData.eqv z d) :=
  jc_of (op_inTp hu) ha hb hk fun M I H x y Q s p p' q => ⟨d, ds, Dt.dp s.sub p, Dt.dp s.sub p', sd, se, q⟩
theorem jc_notInT (hu : X.A.units + 65 < cLine) (ha : JE X N rq Γ a (DatV d)) (hb : JE X N rq Γ b (DatV (.tuple ds))) (sd : SeqAt.shaped d = true) (se : SeqAt.shaped (.tuple ds) = true) (hk : behindInMarks .NotIn b = false) : JC X N rq Γ (.Compare a [.NotIn] [b] pos) (!ds.any fun z => PyData.eqv z d) :=
  jc_of (op_notInTp hu) ha hb hk fun M I H x y Q s p p' q => ⟨d, ds, Dt.dp s.sub p, Dt.dp s.sub p', sd, se, q⟩
theorem jc_cast {e : Expr} {p q : Bool} (h : JC X N rq Γ e p) (k : p = q) : JC X N rq Γ e q := k ▸ h
end
end QL
namespace QD
open PySem PySem.Spec PyProof.Rows L2 QL
/-! ### letters as data -/
theorem shaped_of {d : PyData} (h1 : d.canLay0 = true) (h2 : d.depth ≤ 64) : SeqAt.shaped d = true := by
  show (d.canLay0 && decide (d.depth ≤ 64)) = true
  rw [Bool.and_eq_true]
  exact ⟨h1, decide_eq_true h2⟩
theorem letD_lay (x : Let) : (letD x).canLay0 = true := by
  obtain ⟨a, i⟩ := x
  cases a <;> simp [letD, PyData.canLay0, PyData.canLayAll0, dirS] <;> decide +kernel
theorem letD_depth (x : Let) : (letD x).depth = 1 := by simp [letD, PyData.depth, PyData.depthAll]
theorem letD_shaped (x : Let) : SeqAt.shaped (letD x) = true := shaped_of (letD_lay x) (by rw [letD_depth]; omega)
theorem lets_lay {xs : List Let} : PyData.canLayAll0 (xs.map letD) = true := by
  induction xs with
  | nil => simp [PyData.canLayAll0]
  | cons x xs ih => rw [List.map_cons]; simp only [PyData.canLayAll0, letD_lay, ih, Bool.and_self]
theorem lets_depth {xs : List Let} : PyData.depthAll (xs.map letD) ≤ 1 := by
  induction xs with
  | nil => simp [PyData.depthAll]
  | cons x xs ih =>
    have := letD_depth x
    simp only [List.map_cons, PyData.depthAll]
    omega
theorem letsL_shaped (xs : List Let) : SeqAt.shaped (.list (xs.map letD)) = true := shaped_of (by simp only [PyData.canLay0]; exact lets_lay) (by have := lets_depth (xs := xs); simp only [PyData.depth]; omega)
theorem letsT_shaped (xs : List Let) : SeqAt.shaped (.tuple (xs.map letD)) = true := shaped_of (by simp only [PyData.canLay0]; exact lets_lay) (by have := lets_depth (xs := xs); simp only [PyData.depth]; omega)
theorem dirS_inj {a b : Bool} : (dirS a = dirS b) ↔ a = b := by
  cases a <;> cases b <;> simp [dirS] <;> decide
theorem letD_eqv (x y : Let) : PyData.eqv (letD x) (letD y) = decide (x = y) := by
  obtain ⟨a, i⟩ := x
  obtain ⟨b, j⟩ := y
  have e : PyData.eqv (letD (a, i)) (letD (b, j)) = ((dirS a == dirS b) && (((i : Int) == (j : Int)) && true)) := by simp only [letD, PyData.eqv, PyData.eqvAll]
  rw [e]
  by_cases h : ((a, i) : Let) = (b, j)
  · cases h; simp
  · rw [decide_eq_false h]
    by_cases h1 : a = b
    · have h2 : i ≠ j := fun z => h (by rw [h1, z])
      have : ((i : Int) == (j : Int)) = false := beq_eq_false_iff_ne.mpr (by omega)
      rw [this]; simp
    · have : (dirS a == dirS b) = false := beq_eq_false_iff_ne.mpr fun z => h1 (dirS_inj.mp z)
      rw [this]; simp
theorem lets_any (xs : List Let) (x : Let) : ((xs.map letD).any fun z => PyData.eqv z (letD x)) = decide (x ∈ xs) := by
  induction xs with
  | nil => simp
  | cons y ys ih =>
    rw [List.map_cons, List.any_cons, ih, letD_eqv]
    by_cases h : y = x
    · subst h; simp
    · have : x ≠ y := fun z => h z.symm
      simp [h, this]
theorem dir_out (x : Let) : decide (dirS x.1 = ("out" : Str)) = x.1 := by
  obtain ⟨a, i⟩ := x
  cases a
  · exact decide_eq_false (by simp [dirS]; decide)
  · exact decide_eq_true rfl
end QD

/-! text QL9 -/
set_option Elab.async false
set_option linter.all false
set_option maxRecDepth 100000
set_option maxHeartbeats 4000000
/-! QL9: written dicts, zip over a module's tuple, ints by a test. -/
namespace QL
open PySem PySem.Spec PyProof.Rows L2
section
variable {X : Cx} {N : Ent} {M rq : OwnM} {Γ : Ctx} {a b c e : Expr} {P R : Pr} {pos : Pos}
theorem je_ifI {p : Bool} {i j : Int} (h : JT X N rq Γ c p) (ha : p = true → JE X N rq Γ a (IntV i)) (hb : p = false → JE X N rq Γ b (IntV j)) : JE X N rq Γ (.IfExp c a b pos) (IntV (if p = true then i else j)) :=
  je_if h (fun hp => by rw [if_pos hp]; exact ha hp) (fun hp => by rw [if_neg (by rw [hp]; decide)]; exact hb hp)
theorem je_ifD {p : Bool} {i j : PyData} (h : JT X N rq Γ c p) (ha : p = true → JE X N rq Γ a (DatV i)) (hb : p = false → JE X N rq Γ b (DatV j)) : JE X N rq Γ (.IfExp c a b pos) (DatV (if p = true then i else j)) :=
  je_if h (fun hp => by rw [if_pos hp]; exact ha hp) (fun hp => by rw [if_neg (by rw [hp]; decide)]; exact hb hp)
theorem je_eqvI {i : Int} (h : JE X N rq Γ e (IntV i)) : JE X N rq Γ e (EqV (.int i)) := h.conv fun _ _ p => Dt.int_inv p
theorem je_eqvS {x : Str} (h : JE X N rq Γ e (StrV x)) : JE X N rq Γ e (EqV (.str x)) := h.conv fun _ _ p => Dt.str_inv p
/-- the pairs of a written dict: text keys, values that are no objects -/
def JP (X : Cx) (N : Ent) (rq : OwnM) (Γ : Ctx) (pos : Pos) (keys : List (Option Expr)) (values : List Expr) (kvs : List (Key × V)) : Prop := ∃ trs, PPs X pos keys values trs ∧
  ∀ (M : OwnM) (I H : Hp) (σ : St) (Q : List (V × V) → Hp → Prop), Has rq M → S3 N M I H → Ty Γ σ I → (∀ I' H', S3 N M I' H' → Same I I' → Q (kvs.map fun kv => (kV kv.1, kv.2)) H') → tPairs trs σ H Q
theorem jp_nil : JP X N rq Γ pos [] [] [] := ⟨[], pps_nil, fun M I H σ Q hm s t q => q I H s (Same.refl _)⟩
theorem jp_cons {x : Str} {v : V} {k e : Expr} {ks : List (Option Expr)} {vs : List Expr} {kvs : List (Key × V)} (hk : JE X N rq Γ k (StrV x)) (hv : JE X N rq Γ e (EqV v)) (hr : JP X N rq Γ pos ks vs kvs) : JP X N rq Γ pos (some k :: ks) (e :: vs) ((.inr x, v) :: kvs) := by
  obtain ⟨trs, h1, h2⟩ := hr
  exact ⟨_, pps_cons we_pe we_pe h1, fun M I H σ Q hm s t q => hk M I H σ _ hm s t fun u I1 H1 s1 e1 p1 => hv M I1 H1 σ _ hm s1 (t.up e1) fun u2 I2 H2 s2 e2 p2 => h2 M I2 H2 σ _ hm s2 (t.up (e1.trans e2)) fun I3 H3 s3 e3 => by
    have z := q I3 H3 s3 ((e1.trans e2).trans e3)
    rw [p1.str_inv, show u2 = v from p2]
    exact z⟩
theorem je_disp {keys : List (Option Expr)} {values : List Expr} {kvs : List (Key × V)} (h : JP X N rq Γ pos keys values kvs) (hall : keys.all (·.isSome) = true) (hl : keys.length = values.length) (h0 : keys ≠ []) (h15 : keys.length ≤ 15) (k15 : kvs.length ≤ 15) (hm : mergeK [] kvs = kvs) :
    JE X N rq Γ (.Dict keys values pos) (DkV kvs) := by
  obtain ⟨trs, h1, h2⟩ := h
  refine fun M I H σ Q hM s t q => we_of (pe_disp h1 hall hl h0 h15) fun p hp => ?_
  let φ : OwnP := ⟨fun o _ => o = .dK [], fun _ h => h⟩
  have s1 := s.newO (φ := φ) hp noT_dK rfl
  refine h2 ((p, φ) :: M) I _ σ _ (fun q hq => List.mem_cons_of_mem _ (hM q hq)) s1 t fun I2 H2 s2 e2 => ?_
  obtain ⟨⟨o, g1, g2, g3⟩, g4⟩ := s2.own (p, φ) List.mem_cons_self
  obtain rfl : o = .dK [] := g3
  refine ⟨g1, kvs, rfl, k15, ?_⟩
  rw [hm]
  have s3 := s2.put (φ' := ⟨fun o _ => o = .dK kvs, fun _ h => h⟩) (o' := .dK kvs) noT_dK rfl
  obtain ⟨o, f1, f2, f3, f4⟩ := s3.freeze
  obtain rfl : o = .dK kvs := f2
  exact q _ _ _ f3 (e2.trans f4) ⟨p, rfl, upd_same⟩
/-- zip of a tuple of texts that stands in the module and a new tuple -/
theorem ji_zipK {p tpos npos : Pos} {x : Str} {xs : List Str} {qs : List Pr} {elts : List Expr} {kk : Nat} (hg : Gl X x) (hm : ∃ a, X.mg x = some (.ref a) ∧ ∀ H, SqT X.K H a (xs.map V.str)) (hd : (x == ("__debug__" : Str)) = false) (hb : JE X N rq Γ b (TuV qs)) (B : Bi X "zip" (.type "zip")) (A : Ar X (.Name x npos) [b] pos) (A2 : Ar X b [] pos) :
    JI X N rq Γ (.Tuple elts kk tpos) (.Call (.Name "zip" p) [.Name x npos, b] [] pos) ((xs.map StrV).zip qs) (fun z => TuV [z.1, z.2]) := by
  obtain ⟨a0, hm, hq⟩ := hm
  have ha : JE X N rq Γ (.Name x npos) (EqV (.ref a0)) := je_glob (v := .ref a0) hg hm rfl (fun _ => rfl) hd
  refine ⟨_, RZ.pi_zipA B.gl B.free wa_pa A.he A.hpl, fun M I H σ Q hM s t q => ja_cons ha (ja_cons hb ja_nil A2.he) A.he M I H σ _ hM s t fun vs I' H' s' e' hp => ?_⟩
  obtain ⟨v, w, rfl, hv, ⟨r2, ys, rfl, h3, h4⟩⟩ := ty2 hp
  obtain rfl : v = V.ref a0 := hv
  refine ⟨a0, r2, xs.map V.str, ys, rfl, .inr ⟨hq _, SqT.of (s'.sub _ _ h3), q _ I' H' s' e' fun M2 I2 H2 i s2 => ?_⟩⟩
  have q1 : SqT X.K H2 a0 (xs.map V.str) := hq _
  have q2 : SqT X.K H2 r2 ys := SqT.of (s2.sub _ _ (s2.ii _ _ h3))
  refine ⟨fun z hz => ?_, fun e => ⟨_, ys, q1, q2, by rw [List.length_zip, List.length_map, h4.length] at e; rw [List.length_map]; omega⟩⟩
  rw [List.getElem?_zip_eq_some] at hz
  obtain ⟨hz1, hz2⟩ := hz
  rw [List.getElem?_map] at hz1
  cases hx : xs[i]? with
  | none => rw [hx] at hz1; cases hz1
  | some y =>
    rw [hx] at hz1
    have e1 : StrV y = z.1 := Option.some.inj hz1
    obtain ⟨w, h5, h6⟩ := h4.get hz2
    have k1 : (xs.map V.str)[i]? = some (V.str y) := by rw [List.getElem?_map, hx]; rfl
    refine ⟨⟨_, ys, _, w, q1, q2, k1, h5⟩, fun u H3 ⟨T, x', y', e2, e3, e4, e5, e6⟩ => ?_⟩
    have z1 := e5 _ q1; rw [k1] at z1; cases z1
    have z2 := e6 _ q2; rw [h5] at z2; cases z2
    subst e4 e2
    have f := fresh_of s2 e3
    exact ⟨_, s2.new e3, same_upd f, T, [V.str y, w], rfl, upd_same, by rw [← e1]; exact .str y, Pr.up z.2 (s2.ii.trans (same_upd f)) h6, True.intro⟩
end
end QL
namespace QL
open PySem PySem.Spec PyProof.Rows L2
theorem jp1 {i n : Nat} {P : Pr} (h : i < n) : ∀ q ∈ [(i, P)], q.1 < n := fun q hq => by rw [List.mem_singleton.mp hq]; exact h
theorem jp2 {i j n : Nat} {P P' : Pr} (h : i < n) (h' : j < n) : ∀ q ∈ [(i, P), (j, P')], q.1 < n := fun q hq => by
  rcases List.mem_cons.mp hq with e | hq
  · rw [e]; exact h
  · exact jp1 h' q hq
theorem jp3 {i j l n : Nat} {P P' P2 : Pr} (h : i < n) (h' : j < n) (h2 : l < n) : ∀ q ∈ [(i, P), (j, P'), (l, P2)], q.1 < n := fun q hq => by
  rcases List.mem_cons.mp hq with e | hq
  · rw [e]; exact h
  · exact jp2 h' h2 q hq
theorem jq1 {i n : Nat} {P : Pr} {l : List Nat} (h : i ∈ l ∧ i < n) : ∀ q ∈ [(i, P)], q.1 ∈ l ∧ q.1 < n := fun q hq => by rw [List.mem_singleton.mp hq]; exact h
theorem jq2 {i j n : Nat} {P P' : Pr} {l : List Nat} (h : i ∈ l ∧ i < n) (h' : j ∈ l ∧ j < n) : ∀ q ∈ [(i, P), (j, P')], q.1 ∈ l ∧ q.1 < n := fun q hq => by
  rcases List.mem_cons.mp hq with e | hq
  · rw [e]; exact h
  · exact jq1 h' q hq
theorem jq3 {i j k n : Nat} {P P' P2 : Pr} {l : List Nat} (h : i ∈ l ∧ i < n) (h' : j ∈ l ∧ j < n) (h2 : k ∈ l ∧ k < n) : ∀ q ∈ [(i, P), (j, P'), (k, P2)], q.1 ∈ l ∧ q.1 < n := fun q hq => by
  rcases List.mem_cons.mp hq with e | hq
  · rw [e]; exact h
  · exact jq2 h' h2 q hq
section
variable {X : Cx} {N : Ent} {M : OwnM} {Γ : Ctx} {c : Expr} {A B : List Stmt} {pos : Pos} {D : L2.Ends}
/-- an if that ends a block -/
theorem js_ifL {k : Bool} (hc : JT X N M Γ c k) (ha : k = true → JS X (Tp N M Γ) A D) (hb : k = false → JS X (Tp N M Γ) B D) : JS X (Tp N M Γ) [.If c A B pos] D := js_if (Ψ := D.nx) hc ha hb (js_nil fun _ _ h => h)
end
end QL

/-! text QL10 -/
set_option Elab.async false
set_option linter.all false
set_option maxRecDepth 100000
set_option maxHeartbeats 4000000
/-! QL10: classes as values, comprehensions of ints and truth values, zipped ints, cuts. -/
namespace QL
open PySem PySem.Spec PyProof.Rows L2
section
variable {X : Cx} {N : Ent} {M rq : OwnM} {Γ : Ctx} {a b c e elt tg iter : Expr} {ifs : List Expr} {P R : Pr} {pos p2 : Pos} {α : Type}
theorem je_isiO {p np : Pos} {C : Addr} {x : Str} {fs : List (Str × Pr)} (o : Oc X.K C) (ha : JE X N rq Γ a (InV C fs)) (hg : Gl X x) (hm : X.mg x = some (.ref C)) (hd : (x == ("__debug__" : Str)) = false) (B : Bi X "isinstance" (.builtin "isinstance")) (A : Ar X a [.Name x np] pos) (A2 : Ar X (.Name x np) [] pos) :
    JE X N rq Γ (.Call (.Name "isinstance" p) [a, .Name x np] [] pos) (BlV true) :=
  je_callB call_isi B.gl B.free B.boot (ja_cons ha (ja_cons (je_glob (P := EqV (.ref C)) (v := .ref C) hg hm rfl (fun _ => rfl) hd) ja_nil A2.he) A.he) (fun M I H vs Q hm s h q => by
    obtain ⟨v, w, rfl, ⟨r, dx, xs, rfl, h1, h2⟩, hw⟩ := ty2 h
    exact ⟨_, w, .ref C, .ref C, true, rfl, by rw [show w = V.ref C from hw]; exact .own C, .base (.ins (s.sub _ _ h1) o.cl o.ha o.hn o.tk o.mr), o.self, q _ I H s (Same.refl _) (.bl _)⟩) B.n1 B.n2 A.he A.hpl
theorem je_lcB {scope : Scope} {own : List (Str × Nat)} {zs : List α} {p : α → Bool} {f : α → Bool} {g : TG} (L : ∃ wi, Lc X N rq Γ elt tg iter ifs scope own zs p (fun z => DatV (.bool (f z))) wi g) (hc : X.calm = true) (hN : X.N.Nodup) (hs : ∀ x, foldedSetIterable iter X.env x = pure x) :
    JE X N rq Γ (.ListComp elt [⟨tg, iter, ifs, 0⟩] scope pos) (DatV (.list (((zs.filter p).map f).map PyData.bool))) := (je_lcD (f := fun z => PyData.bool (f z)) L hc hN hs).cast (by rw [List.map_map]; rfl)
theorem je_lcI {scope : Scope} {own : List (Str × Nat)} {zs : List α} {p : α → Bool} {f : α → Int} {g : TG} (L : ∃ wi, Lc X N rq Γ elt tg iter ifs scope own zs p (fun z => DatV (.int (f z))) wi g) (hc : X.calm = true) (hN : X.N.Nodup) (hs : ∀ x, foldedSetIterable iter X.env x = pure x) :
    JE X N rq Γ (.ListComp elt [⟨tg, iter, ifs, 0⟩] scope pos) (DatV (.list (((zs.filter p).map f).map PyData.int))) := (je_lcD (f := fun z => PyData.int (f z)) L hc hN hs).cast (by rw [List.map_map]; rfl)
theorem ji_zipI {p tpos : Pos} {ns ms : List Int} {elts : List Expr} {kk : Nat} (ha : JE X N rq Γ a (DatV (.list (ns.map PyData.int)))) (hb : JE X N rq Γ b (DatV (.list (ms.map PyData.int)))) (B : Bi X "zip" (.type "zip")) (A : Ar X a [b] pos) (A2 : Ar X b [] pos) :
    JI X N rq Γ (.Tuple elts kk tpos) (.Call (.Name "zip" p) [a, b] [] pos) (ns.zip ms) (fun z => DatV (.tuple [.int z.1, .int z.2])) := by
  have h := ji_zipL (p := p) (pos := pos) (tpos := tpos) (elts := elts) (kk := kk) (ha.conv fun _ _ h => dat_lst.mp h) (hb.conv fun _ _ h => dat_lst.mp h) B A A2
  rw [List.map_map, List.map_map, List.zip_map] at h
  exact h.map.conv fun z v I h => dat_tup.mpr h
end
theorem sIx_none0 (n : Nat) : HT.sIx n n none = n := rfl
theorem cutD_drop {ds : List PyData} {k : Nat} : cutD ds (some (k : Int)) none = ds.drop k := by
  unfold cutD
  rw [HT.sIx_nat, sIx_none0]
  by_cases h : k ≤ ds.length
  · rw [Nat.min_eq_left h]
    exact List.take_of_length_le (by rw [List.length_drop]; exact Nat.le_refl _)
  · rw [Nat.min_eq_right (by omega), List.drop_of_length_le (Nat.le_refl _), List.drop_of_length_le (by omega)]
    simp
theorem cutD_take {ds : List PyData} {k : Nat} : cutD ds none (some (k : Int)) = ds.take k := by
  unfold cutD
  rw [HT.sIx_nat, HT.sIx_none, List.drop_zero, Nat.sub_zero]
  by_cases h : k ≤ ds.length
  · rw [Nat.min_eq_left h]
  · rw [Nat.min_eq_right (by omega), List.take_of_length_le (Nat.le_refl _), List.take_of_length_le (by omega)]
end QL
namespace QL
open PySem PySem.Spec PyProof.Rows L2
def kitG (a b : String) : Bool := (kitB a b).getD false
theorem kitG_eq {a b : String} (h : (kitB a b).isSome = true) : kitB a b = some (kitG a b) := by
  unfold kitG
  cases q : kitB a b with
  | none => rw [q] at h; cases h
  | some x => rfl
theorem kg_ss : kitG "str" "str" = true := by decide +kernel
theorem kg_si : kitG "str" "int" = false := by decide +kernel
theorem kg_tt : kitG "tuple" "tuple" = true := by decide +kernel
theorem kg_ll : kitG "list" "list" = true := by decide +kernel
theorem kg_lt : kitG "list" "tuple" = false := by decide +kernel
theorem kg_tl : kitG "tuple" "list" = false := by decide +kernel
theorem kg_nt : kitG "NoneType" "tuple" = false := by decide +kernel
theorem kg_it : kitG "int" "tuple" = false := by decide +kernel
section
variable {X : Cx} {N : Ent} {rq : OwnM} {Γ : Ctx} {a b : Expr} {P : Pr} {pos : Pos}
theorem je_isiG {p : Pos} {T T' : String} (ha : JE X N rq Γ a P) (l : HasTy P T) (hb : JE X N rq Γ b (TyV T')) (hk : (kitB T T').isSome = true) (B : Bi X "isinstance" (.builtin "isinstance")) (A : Ar X a [b] pos) (A2 : Ar X b [] pos) : JE X N rq Γ (.Call (.Name "isinstance" p) [a, b] [] pos) (BlV (kitG T T')) :=
  je_isi ha l hb (kitG_eq hk) B A A2
theorem je_isi2G {p : Pos} {T T1 T2 : String} (ha : JE X N rq Γ a P) (l : HasTy P T) (hb : JE X N rq Γ b (TuV [TyV T1, TyV T2])) (hk1 : (kitB T T1).isSome = true) (hk2 : (kitB T T2).isSome = true) (B : Bi X "isinstance" (.builtin "isinstance")) (A : Ar X a [b] pos) (A2 : Ar X b [] pos) :
    JE X N rq Γ (.Call (.Name "isinstance" p) [a, b] [] pos) (BlV (kitG T T1 || kitG T T2)) := je_isi2 ha l hb (kitG_eq hk1) (kitG_eq hk2) B A A2
end
end QL

/-! text QL11 -/
set_option Elab.async false
set_option linter.all false
set_option maxRecDepth 100000
set_option maxHeartbeats 4000000
/-! QL11: cuts of mapped lists; the program's pure values. -/
namespace QL
open PySem PySem.Spec PyProof.Rows L2
section
variable {X : Cx} {N : Ent} {rq : OwnM} {Γ : Ctx} {a b u : Expr} {P : Pr} {pos p2 : Pos} {α : Type}
theorem je_cutTo {xs : List α} {f : α → PyData} {k : Nat} (ha : JE X N rq Γ a (DatV (.tuple (xs.map f)))) (hb : JE X N rq Γ u (IntV ((k : Int) + 1))) (h : k + 1 < xs.length) : JE X N rq Γ (.Subscript a (.Slice none (some u) none p2) pos) (DatV (.tuple ((xs.take (k + 1)).map f))) := by
  have hb' : JE X N rq Γ u (IntV ((k + 1 : Nat) : Int)) := hb
  have z := je_cutT (p2 := p2) (pos := pos) ha jo_none (jo_some hb') (by
    rw [HT.sIx_nat, List.length_map]
    rintro ⟨_, h2⟩
    omega)
  rw [cutD_take, ← List.map_take] at z
  exact z
theorem je_cutFrom {xs : List α} {f : α → PyData} {k : Nat} (ha : JE X N rq Γ a (DatV (.tuple (xs.map f)))) (hb : JE X N rq Γ u (IntV ((k : Int) + 1))) (h : 0 < xs.length) : JE X N rq Γ (.Subscript a (.Slice (some u) none none p2) pos) (DatV (.tuple ((xs.drop (k + 1)).map f))) := by
  have hb' : JE X N rq Γ u (IntV ((k + 1 : Nat) : Int)) := hb
  have z := je_cutT (p2 := p2) (pos := pos) ha (jo_some hb') jo_none (by
    rw [HT.sIx_nat, List.length_map]
    rintro ⟨h1, _⟩
    omega)
  rw [cutD_drop, ← List.map_drop] at z
  exact z
theorem je_cutLTo {xs : List α} {f : α → PyData} {k : Nat} (ha : JE X N rq Γ a (DatV (.list (xs.map f)))) (hb : JE X N rq Γ u (IntV ((k : Int) + 1))) : JE X N rq Γ (.Subscript a (.Slice none (some u) none p2) pos) (DatV (.list ((xs.take (k + 1)).map f))) := by
  have hb' : JE X N rq Γ u (IntV ((k + 1 : Nat) : Int)) := hb
  have z := je_cutL (p2 := p2) (pos := pos) ha jo_none (jo_some hb')
  rw [cutD_take, ← List.map_take] at z
  exact z
theorem je_cutLFrom {xs : List α} {f : α → PyData} {k : Nat} (ha : JE X N rq Γ a (DatV (.list (xs.map f)))) (hb : JE X N rq Γ u (IntV ((k : Int) + 1))) : JE X N rq Γ (.Subscript a (.Slice (some u) none none p2) pos) (DatV (.list ((xs.drop (k + 1)).map f))) := by
  have hb' : JE X N rq Γ u (IntV ((k + 1 : Nat) : Int)) := hb
  have z := je_cutL (p2 := p2) (pos := pos) ha (jo_some hb') jo_none
  rw [cutD_drop, ← List.map_drop] at z
  exact z
theorem je_cutL1 {xs : List α} {f : α → PyData} (ha : JE X N rq Γ a (DatV (.list (xs.map f)))) (hb : JE X N rq Γ u (IntV 1)) : JE X N rq Γ (.Subscript a (.Slice (some u) none none p2) pos) (DatV (.list ((xs.drop 1).map f))) := by
  have hb' : JE X N rq Γ u (IntV ((1 : Nat) : Int)) := hb
  have z := je_cutL (p2 := p2) (pos := pos) ha (jo_some hb') jo_none
  rw [cutD_drop, ← List.map_drop] at z
  exact z
end
theorem atI_map {α β : Type} {xs : List α} {f : α → β} {i : Nat} {v : α} (h : xs[i]? = some v) : atI (xs.map f) (i : Int) = some (f v) := atI_nat (by rw [List.getElem?_map, h]; rfl)
theorem len_map {α β : Type} (xs : List α) (f : α → β) : (xs.map f).length = xs.length := List.length_map _
end QL
namespace QD
open PySem PySem.Spec PyProof.Rows L2 QL
def sight (l : Line) (b : Nat) (x : Let) : Bool := x.1 || (match l.boxes[b]? with | some bx => decide (bx.sees = "both") | none => false)
def cbl (t : Tk) (xs : List Let) : Bool := !(xs.any fun x => (List.range (t.los + 1)).all fun k => decide ((x.1, x.2 + k) ∈ xs))
theorem mem_letters {t : Tk} {x : Let} : x ∈ letters t ↔ x.2 < (times t x).length := by
  obtain ⟨a, i⟩ := x
  cases a <;> simp [letters, times]
theorem time_at {t : Tk} {x : Let} (h : x ∈ letters t) : atI ((times t x).map PyData.int) (x.2 : Int) = some (.int (time t x)) := by
  have h := mem_letters.mp h
  refine atI_map ?_
  unfold time
  rw [List.getD_eq_getElem?_getD, List.getElem?_eq_getElem h]; rfl
end QD
namespace QL
open PySem PySem.Spec PyProof.Rows L2
theorem jcv {X : Cx} {N : Ent} {rq : OwnM} {Γ : Ctx} {e : Expr} {p : Bool} (h : JC X N rq Γ e p) : JE X N rq Γ e (BlV p) := h.1
theorem jct {X : Cx} {N : Ent} {rq : OwnM} {Γ : Ctx} {e : Expr} {p : Bool} (h : JC X N rq Γ e p) : JT X N rq Γ e p := h.2
end QL
namespace QL
open PySem PySem.Spec PyProof.Rows L2
theorem filter_tt {α : Type} {xs : List α} : xs.filter (fun _ => true) = xs := List.filter_eq_self.mpr fun _ _ => rfl
theorem nin_by {l : List Str} {m : Str} (h : l.elem m = false) : m ∉ l := fun hm => by
  rw [List.elem_eq_true_of_mem hm] at h; cases h
end QL
namespace QD
open PySem PySem.Spec PyProof.Rows L2 QL
theorem in_not_let {t : Tk} : ((letters t).map letD).any (fun z => PyData.eqv z (.tuple [.str "in", .int 0])) = false := by
  rw [List.any_eq_false]
  intro z hz
  obtain ⟨x, _, rfl⟩ := List.mem_map.mp hz
  obtain ⟨a, i⟩ := x
  cases a <;> simp [letD, PyData.eqv, PyData.eqvAll, dirS] <;> intro h <;> exact absurd h (by decide)
theorem time_out {t : Tk} {x : Let} (h : x ∈ letters t) (hb : decide (dirS x.1 = ("out" : Str)) = true) : atI (t.out.map PyData.int) (x.2 : Int) = some (.int (time t x)) := by
  rw [dir_out] at hb
  have z := time_at h
  unfold times at z
  rw [if_pos hb] at z
  exact z
theorem time_back {t : Tk} {x : Let} (h : x ∈ letters t) (hb : decide (dirS x.1 = ("out" : Str)) = false) : atI (t.back.map PyData.int) (x.2 : Int) = some (.int (time t x)) := by
  rw [dir_out] at hb
  have z := time_at h
  unfold times at z
  rw [if_neg (by rw [hb]; decide)] at z
  exact z
theorem asc_all : ∀ {ns : List Int}, Asc ns → ((ns.zip (ns.drop 1)).map fun z => decide (z.1 < z.2)).all id = true
  | [], _ => rfl
  | [_], _ => rfl
  | a :: b :: r, h => by
    have ih := asc_all (ns := b :: r) h.2
    simp only [List.drop_succ_cons, List.drop_zero, List.zip_cons_cons, List.map_cons, List.all_cons] at ih ⊢
    rw [ih]
    simp [h.1]
theorem delay_eq (l : Line) (b : Nat) (x : Let) : DatV (if decide (dirS x.1 = ("out" : Str)) = true then linkD (sums (l.links.take (b + 1))) else linkD (sums (l.links.drop (b + 1)))) = DatV (linkD (delay l b x)) := by
  rw [dir_out]
  unfold delay
  cases x.1 <;> rfl
theorem sight_eq {l : Line} {b : Nat} (hb : b < l.boxes.length) {x : Let} : sight l b x = (decide (dirS x.1 = ("out" : Str)) || decide (l.boxes[b].sees = ("both" : Str))) := by
  rw [dir_out]
  unfold sight
  rw [List.getElem?_eq_getElem hb]
end QD

/-! text QDC -/
set_option Elab.async false
set_option linter.all false
set_option maxRecDepth 100000
set_option maxHeartbeats 4000000
/-! QDC: a dict comprehension whose keys are tuples; such a dict is known from then on: read, walked. -/
namespace QL
open PySem PySem.Spec PyProof.Rows L2
/-- one entry is stored by a comprehension's block, the key a tuple -/
theorem keep_put {X : Cx} {pins : List (Addr × Obj)} {σ : St} {H : Hp} {s : Shared} {E : Value → Shared → Prop} {D b : Addr} {kvs : List (List Key × V)} {k : List Key} {v : V} {r : Value} {Q : Unit → Shared → Prop} (hu : X.A.units + 1 < cLine) (I : Inv X pins σ H s)
    (hD : H D = some (.dT kvs)) (hb : H b = some (.tup (k.map kV))) (hz : kvs.length < sizeLine) (rv : RelV v r) (h : ∀ s', Inv X pins σ (upd H D (.dT (putK kvs k v))) s' → Q () s') : wpAny (model X.prog X.w) X.A (dictSet D (.ref b) r) Q E s := by
  obtain ⟨_, hd, xs, rel, dd⟩ := dt_of I.hok hD
  have lk : (putK kvs k v).length ≤ sizeLine := Nat.le_trans (length_putK kvs k v) hz
  have lx : xs.length ≤ sizeLine := by rw [← Paired.length rel]; omega
  refine wpAny_dictSet_heap (hsz := lx) (show X.A.units < cLine by omega) (key_of I.hok hb) dd fun h' ⟨q, es, ep, hq, e1, e2, e3, _, e4⟩ same => h _ ?_
  refine d_write I (by rw [hD]; exact True.intro) same ⟨q, hq⟩ ⟨lk, hd, _, (rel.put k hb rv).keeps fun c ys hc => ?_, q, es, ep, hq, e1, e2, e3, e4⟩
  have nc : c ≠ D := ne_of hc hD (fun z => nomatch z)
  rw [upd_ne nc]; exact hc
section
variable {X : Cx}
/-- {k: v for target in iter}: D the new dict, W what holds at each turn -/
def tDt (wi : TI) (g : TG) (tk tv : TE) (vs : List Nat) : TE := fun σ H Q => wi σ H fun J H1 => ∀ D, H1 D = none → ∃ (n : Nat) (W : Nat → Hp → Prop), W 0 (upd H1 D (.dT [])) ∧ (∀ H, W n H → J.stop n H ∧ Q (.ref D) H) ∧
  ∀ i H, i < n → W i H → J.go i H ∧ ∀ x H', J.yld i H x H' → g x (wipe σ vs) H' fun σ2 H2 => wipe σ2 vs = wipe σ vs ∧ tk σ2 H2 fun y H3 => tv σ2 H3 fun z H4 => ∃ b kvs k, y = .ref b ∧ H4 b = some (.tup (k.map kV)) ∧ H4 D = some (.dT kvs) ∧ kvs.length < sizeLine ∧ W (i + 1) (upd H4 D (.dT (putK kvs k z)))
theorem pe_dt {kx vx tg iter : Expr} {scope : Scope} {own : List (Str × Nat)} {pos : Pos} {wi : TI} {g : TG} {tk tv : TE} (hu : X.A.units + 1 < cLine) (hc : X.calm = true) (hN : X.N.Nodup) (hi : PI X tg iter wi) (ok : BlkOk X.N X.env.scope scope own) (hg : Blks X scope fun Y => PG Y tg g) (hk : Blks X scope fun Y => PE Y kx tk) (hv : Blks X scope fun Y => PE Y vx tv)
    (hs : ∀ x, foldedSetIterable iter X.env x = pure x) : PE X (.DictComp kx vx [⟨tg, iter, [], 0⟩] scope pos) (tDt wi g tk tv (own.map (·.2))) := by
  refine ⟨fun pins s0 σ H0 Q I0 h0 => ?_⟩
  rw [arm_eval_DictComp]
  have free : ∀ y ∈ scope.names, y.2 = .free → ∃ c, X.env.cells.lookup y.1 = some c := fun y hy e => I0.ok.has _ (ok.free y hy e)
  refine wpAny_comprehension_free rfl hs (closure_ok free) ok.kind (fun y hy e => by rw [ok.uniq y hy, e]) (thn (hi.run pins s0 σ H0 _ I0 h0) fun _ _ hx => thn hx fun itv s1 h1 => ?_)
  obtain ⟨it, fp, tn, J, H1, rfl, I1, T, t1, f1, q1⟩ := h1
  refine wpAny_newObj_type (newEnv_comp ?_)
  obtain ⟨D, eD⟩ : ∃ D, s1.heap.objs.size = D := ⟨_, rfl⟩
  obtain ⟨n, W, w0, wn, wi⟩ := q1 D (I1.hok.fresh (Nat.le_of_eq eD))
  obtain ⟨s2, e2⟩ : ∃ s2 : Shared, ({ s1 with heap := s1.heap.push { cls := .type "dict", data := .dict #[] } } : Shared) = s2 := ⟨_, rfl⟩
  have hp2 : s2.heap = s1.heap.push { cls := .type "dict", data := .dict #[] } := by rw [← e2]
  obtain ⟨H2, eH⟩ : ∃ H2, upd H1 D (.dT []) = H2 := ⟨_, rfl⟩
  have I2 : Inv X pins σ H2 s2 := by
    rw [← e2, ← eH]
    refine I1.laid (t' := s1.toks) (fun b o e => Heap.get?_push_of_some _ e) (Nat.le_of_eq eD) ?_
    rw [← eD]
    exact dt_empty s1.heap I1.big
  have small : ∀ b ∈ fp, b < s1.heap.objs.size := fun b hb => let ⟨o, e, _⟩ := T.obj _ _ t1 b hb; Heap.lt_size e
  have f2 : ∀ b ∈ fp, FpOk X pins H2 b ∧ b < s2.heap.objs.size := fun b hb => by
    have lt := small b hb
    have ne : b ≠ D := by rw [← eD]; exact Nat.ne_of_lt lt
    exact ⟨⟨by rw [← eH, upd_ne ne]; exact (f1 b hb).1, (f1 b hb).2⟩, by rw [hp2, Heap.size_push]; exact Nat.lt_succ_of_lt lt⟩
  have t2 : tn 0 s2.heap := T.keep _ _ _ t1 fun b _ o e => by rw [hp2]; exact Heap.get?_push_of_some _ e
  have I3 := block_start I2 ok hN f2
  have pg := hg s2 H2 s2.heap.objs.size (cellsFrom (s2.heap.objs.size + 1) scope.names (cloFrom X.env.cells scope.names [])) fp
  have pk := hk s2 H2 s2.heap.objs.size (cellsFrom (s2.heap.objs.size + 1) scope.names (cloFrom X.env.cells scope.names [])) fp
  have pv := hv s2 H2 s2.heap.objs.size (cellsFrom (s2.heap.objs.size + 1) scope.names (cloFrom X.env.cells scope.names [])) fp
  rw [eH] at w0
  show codeAny _ _ (.compStart (.DictComp kx vx [⟨tg, iter, [], 0⟩] scope pos) 0 (.ref it) (.ref s1.heap.objs.size) (compEnvC scope (cellsFrom (s1.heap.push { cls := .type "dict", data := .dict #[] }).objs.size.succ scope.names (cloFrom X.env.cells scope.names [])) (s1.heap.push { cls := .type "dict", data := .dict #[] }).objs.size X.env)) _ _
  rw [eD, ← hp2]
  have eS : ({ s1 with heap := pushCells (s2.heap.push { cls := .type "dict", data := .dict #[] }) scope.names } : Shared) = { s2 with heap := pushCells (s2.heap.push { cls := .type "dict", data := .dict #[] }) scope.names } := by rw [← e2]
  obtain ⟨ce, ec⟩ : ∃ ce, compEnvC scope (cellsFrom (s2.heap.objs.size + 1) scope.names (cloFrom X.env.cells scope.names [])) s2.heap.objs.size X.env = ce := ⟨_, rfl⟩
  have cl : ce.locals = s2.heap.objs.size := by rw [← ec]; rfl
  rw [ec] at I3 pg pk pv
  obtain ⟨s3, e3⟩ : ∃ s3 : Shared, ({ s2 with heap := pushCells (s2.heap.push { cls := .type "dict", data := .dict #[] }) scope.names } : Shared) = s3 := ⟨_, rfl⟩
  rw [e3] at I3
  have t3 : tn 0 s3.heap := T.keep _ _ _ t2 fun b _ o e => by rw [← e3]; exact pushCells_keeps _ _ _ _ (Heap.get?_push_of_some _ e)
  have fpk : ∀ {σ' : St} {H' : Hp} {s' : Shared}, Inv (X.blk s2 H2 scope ce fp) [] σ' H' s' → (∀ b ∈ fp, H' b = none) → ∀ b ∈ fp, FpOk (X.blk s2 H2 scope ce fp) [] H' b := fun {_ _ _} J0 z b hb =>
    ⟨z b hb, (J0.ok.exf b hb).1, J0.ok.exfs b hb, .inl hb, fun x c e => (J0.ok.exf b hb).2 x c e, fun p hp => by cases (show p ∈ ([] : List (Addr × Obj)) from hp)⟩
  have loop : codeAny (model X.prog X.w) X.A (.compLoop (.DictComp kx vx [⟨tg, iter, [], 0⟩] scope pos) 0 (.ref it) (.ref D) ce) (compPost (model X.prog X.w) X.A X.xe none (EP X pins σ Q) (.ref D) s2.heap.objs.size) s3 := by
    refine compLoop_anyD (fun m s => ∃ i H, m = n - i ∧ i ≤ n ∧ Inv (X.blk s2 H2 scope ce fp) [] (wipe σ (own.map (·.2))) H s ∧ tn i s.heap ∧ (∀ b ∈ fp, H b = none) ∧ W i H) ?_ n ⟨0, H2, rfl, Nat.zero_le _, I3, t3, fun b hb => (f2 b hb).1.1, w0⟩
    rintro m s4 ⟨i, H4, rfl, hi, I4, t4, n4, w4⟩
    by_cases lt : i < n
    · obtain ⟨go, st⟩ := wi i H4 lt w4
      refine thnF (T.item (X.blk s2 H2 scope ce fp) rfl rfl rfl hc i [] s4 _ H4 (fun _ _ => False) I4 (fpk I4 n4) t4 go) fun r s5 ⟨u, hr, h5⟩ => ?_
      subst hr
      refine thnF h5 fun _ s6 ⟨x, H6, I6, r6, y6, t6, n6⟩ => ?_
      have I6' := I6.pinned (fpk I6 n6) (T.obj _ _ t6)
      refine thnF (pg.run _ s6 _ H6 x u _ I6' r6 (st x H6 y6)) fun _ s7 ⟨σ7, H7, I7, wp, q7⟩ => ?_
      refine wpAny_tests_nil ?_
      refine (if_pos rfl).mpr ?_
      refine thnF (pk.run _ s7 σ7 H7 _ I7 q7) fun kr s8 ⟨y, H8, I8, r8, q8⟩ => ?_
      refine thnF (pv.run _ s8 σ7 H8 _ I8 q8) fun vr s9 ⟨z, H9, I9, r9, b, kvs, k, ey, eb, eD', lz, w9⟩ => ?_
      subst ey
      obtain rfl : kr = Value.ref b := r8
      refine keep_put (X := X.blk s2 H2 scope ce fp) hu I9 eD' eb lz r9 fun s10 I10 => ⟨n - (i + 1), by omega, i + 1, upd H9 D (.dT (putK kvs k z)), rfl, lt, ?_⟩
      have same : ∀ b ∈ fp, ∀ o, s6.heap.get? b = some o → s10.heap.get? b = some o ∧ upd H9 D (.dT (putK kvs k z)) b = none := fun c hb o e =>
        let p := I10.pin (c, o) (List.mem_append_right _ (List.mem_append_right _ (mem_pinsAt hb e)))
        ⟨p.1, p.2.1⟩
      have ln : (wipe σ (own.map (·.2))).length = σ7.length := by rw [← wp, wipe_length]
      refine ⟨(I10.unpinned (pins := [])).weak ln fun j v e => ?_, T.keep _ _ _ t6 fun b hb o e => (same b hb o e).1, fun b hb => ?_, w9⟩
      · rw [← wp] at e
        exact (wipe_some e).1
      · obtain ⟨o, e, _⟩ := T.obj _ _ t6 b hb
        exact (same b hb o e).2
    · have e : i = n := by omega
      subst e
      obtain ⟨stop, qq⟩ := wn H4 w4
      refine thnF (T.done (X.blk s2 H2 scope ce fp) rfl rfl rfl hc i [] s4 _ H4 (fun _ _ => False) I4 (fpk I4 n4) t4 stop) fun r s5 ⟨hr, I5⟩ => ?_
      subst hr
      have I6 : Inv X pins σ H4 s5 := I2.call' (ch := fp) I5.os I5.base I5.hok I5.bare fun b hb => ⟨(f2 b hb).1.2.2.2.1, (f2 b hb).1.2.1, (f2 b hb).1.2.2.2.2.1, (f2 b hb).1.2.2.2.2.2⟩
      have nC : H4 s2.heap.objs.size = none := by
        have z : H4 ce.locals = none := I5.free
        rw [cl] at z
        exact z
      obtain ⟨mm, hn, _⟩ := I5.loc
      have hn : s5.heap.Ns ce.locals mm := hn
      rw [cl] at hn
      obtain ⟨g0, g1, g2, g3, g4, g5⟩ := I2.fpOk (Nat.le_refl _) nC
      exact ⟨mm, hn, fun h'' sb => ⟨.ref D, H4, I6.turned (t' := s5.toks) (fun b o hb e => (sb.2 b hb).trans e) g0 g1 g3 g4 g5, rfl, qq⟩⟩
  rw [← e3] at loop t3
  have fin := codeAny_compStart_dict loop (T.self X.A 0 _ _ _ t3 loop)
  subst ec
  subst e2
  exact fin
/-- a dict that is known: its keys kf z, its values df z, z in zs -/
def TabV {α : Type} (zs : List α) (kf : α → List Key) (df : α → PyData) : Pr := ⟨fun v I => ∃ (D : Addr) (od : Obj) (kvs : List (List Key × V)), v = .ref D ∧ I D = some (.frz od (.dT kvs)) ∧ kvs.map Prod.fst = zs.map kf ∧ DtA I (kvs.map Prod.snd) (zs.map df),
  fun e ⟨D, od, kvs, h1, h2, h3, h4⟩ => ⟨D, od, kvs, h1, e _ _ h2, h3, DtA.up e h4⟩⟩
def tabO {α : Type} (zs : List α) (kf : α → List Key) (df : α → PyData) : OwnP := ⟨fun o I => ∃ kvs : List (List Key × V), o = .dT kvs ∧ kvs.map Prod.fst = zs.map kf ∧ DtA I (kvs.map Prod.snd) (zs.map df), fun e ⟨kvs, h1, h2, h3⟩ => ⟨kvs, h1, h2, DtA.up e h3⟩⟩
theorem we_lock {e : Expr} {σ : St} {H : Hp} {Q : VK} (h : WE X e σ H fun v H' => ∃ D kvs, v = .ref D ∧ H' D = some (.dT kvs) ∧ ∀ od, Q (.ref D) (upd H' D (.frz od (.dT kvs)))) : WE X e σ H Q := fun pins s I => by
  refine thn (h pins s I) fun u s1 ⟨v, H1, I1, r, D, kvs, ev, hD, q⟩ => ?_
  subst ev
  obtain ⟨od, I2⟩ := I1.lock hD True.intro
  exact ⟨.ref D, _, I2, r, q od⟩
theorem noT_frz {o : Obj} {u : HO} : NoT (.frz o u) := And.intro (fun _ e => by cases e) (And.intro (fun _ e => by cases e) (fun _ e => by cases e))
theorem valV_none {kvs : List (List Key × V)} {k : List Key} (h : k ∉ kvs.map Prod.fst) : valV kvs k = none := by
  induction kvs with
  | nil => rfl
  | cons p r ih =>
    rw [List.map_cons] at h
    rw [valV_neg fun e => h (by rw [← e]; exact List.mem_cons_self)]
    exact ih fun hm => h (List.mem_cons_of_mem _ hm)
variable {N : Ent} {rq : OwnM} {Γ : Ctx} {α : Type}
/-- {key: value for target in iter} -/
theorem je_dt {kx vx tg iter : Expr} {scope : Scope} {own : List (Str × Nat)} {pos : Pos} {zs : List α} {kf : α → List Key} {kd : α → PyData} {df : α → PyData} {Rz : α → Pr} {jp : α → List (Nat × Pr)} {g : TG} (hu : X.A.units + 1 < cLine) (hc : X.calm = true) (hN : X.N.Nodup)
    (hi : JI X N rq Γ tg iter zs Rz) (ok : blkC X.N X.env.scope scope own = true) (hg : Blks X scope fun Y => PG Y tg g) (hr : ∀ z ∈ zs, JGr g (Rz z) (jp z)) (hj : ∀ z ∈ zs, ∀ q ∈ jp z, q.1 ∈ own.map (·.2) ∧ q.1 < X.N.length)
    (hk : ∀ z ∈ zs, Blks X scope fun Y => JE Y N rq (setC (wipeC Γ (own.map (·.2))) (jp z)) kx (DatV (kd z))) (hv : ∀ z ∈ zs, Blks X scope fun Y => JE Y N rq (setC (wipeC Γ (own.map (·.2))) (jp z)) vx (DatV (df z)))
    (hkd : ∀ z ∈ zs, ∀ I v, Dt I v (kd z) → ∃ b, v = .ref b ∧ I b = some (.tup ((kf z).map kV))) (hnd : (zs.map kf).Nodup) (hl : zs.length ≤ 1000) (hs : ∀ x, foldedSetIterable iter X.env x = pure x) : JE X N rq Γ (.DictComp kx vx [⟨tg, iter, [], 0⟩] scope pos) (TabV zs kf df) := by
  obtain ⟨wi, h1, h2⟩ := hi
  refine fun M I H σ Q hm s t q pins s0 I0 => ?_
  have hlen := I0.len
  refine we_lock (we_of (pe_dt (tk := teB X scope kx) (tv := teB X scope vx) hu hc hN h1 (blkOk_by ok) hg (fun s H C cl fp => ⟨fun pins s1 σ1 H1 Q1 I1 h => h s H C cl fp pins s1 I1⟩) (fun s H C cl fp => ⟨fun pins s1 σ1 H1 Q1 I1 h => h s H C cl fp pins s1 I1⟩) hs) ?_) pins s0 I0
  refine h2 M I H σ _ hm s t fun J I1 H1 s1 e1 w D hD => ?_
  obtain ⟨sb, s11⟩ := Sub.at s1
  refine ⟨zs.length, fun i H => ∃ I', S3 { N with I := I1 } ((D, tabO (zs.take i) kf df) :: M) I' H, ⟨I1, s11.newO hD noT_dT ⟨[], rfl, rfl, .nil⟩⟩, fun H2 ⟨I2, s2⟩ => ⟨(w _ _ _ _ s2).2 rfl, ?_⟩, fun i H2 lt ⟨I2, s2⟩ => ?_⟩
  · obtain ⟨⟨o, g1, g2, kvs, rfl, g3, g4⟩, g5⟩ := s2.own (D, tabO (zs.take zs.length) kf df) List.mem_cons_self
    rw [List.take_length] at g3 g4
    refine ⟨D, kvs, rfl, g1, fun od => ?_⟩
    have s3 := s2.put (φ' := ⟨fun o I => o = .frz od (.dT kvs), fun _ h => h⟩) (noT_frz (o := od) (u := .dT kvs)) rfl
    obtain ⟨o, f1, f2, f3, f4⟩ := s3.freeze
    obtain rfl : o = .frz od (.dT kvs) := f2
    exact q _ _ _ (sb.2.2.2 _ _ _ f3) ((e1.trans s2.ii).trans f4) ⟨D, od, kvs, rfl, upd_same, g3, DtA.up f4 g4⟩
  · obtain ⟨z, hz⟩ : ∃ z, zs[i]? = some z := ⟨_, List.getElem?_eq_getElem lt⟩
    have mz : z ∈ zs := List.mem_of_getElem? hz
    obtain ⟨go, y⟩ := (w _ _ _ i s2).1 z hz
    refine ⟨go, fun x H3 hy => ?_⟩
    obtain ⟨I3, s3, e3, px⟩ := y x H3 hy
    have hm' : Has rq ((D, tabO (zs.take i) kf df) :: M) := fun q hq => List.mem_cons_of_mem _ (hm q hq)
    refine hr z mz I3 H3 _ x _ s3.sub px fun ws tw => ?_
    have ty3 : Ty (setC (wipeC Γ (own.map (·.2))) (jp z)) (QL.setAll (wipe σ (own.map (·.2))) (((jp z).map Prod.fst).zip ws)) I3 := Ty.setAll ((t.up (e1.trans s3.ii)).wipe _) (fun q hq => by rw [wipe_length, hlen]; exact (hj z mz q hq).2) tw
    refine ⟨?_, fun sh Hh C cl fp => ?_⟩
    · rw [wipe_setAll, wipe_wipe]
      intro q hq
      obtain ⟨n1, n2⟩ := q
      obtain ⟨r, hr', er⟩ := List.mem_map.mp (List.of_mem_zip hq).1
      have z0 : r.1 = n1 := er
      show n1 ∈ _
      rw [← z0]; exact (hj z mz r hr').1
    · refine hk z mz sh Hh C cl fp _ I3 H3 _ _ hm' (sb.2.2.2 _ _ _ s3) ty3 fun kv I4 H4 s4 e4 pk sh2 Hh2 C2 cl2 fp2 => ?_
      refine hv z mz sh2 Hh2 C2 cl2 fp2 _ I4 H4 _ _ hm' s4 (ty3.up e4) fun vv I5 H5 s5 e5 pv => ?_
      have s5' := s5.lift (I1 := I1) ((s3.ii.trans e4).trans e5) s1.ii
      obtain ⟨⟨o, g1, g2, kvs, rfl, g3, g4⟩, g5⟩ := s5'.own (D, tabO (zs.take i) kf df) List.mem_cons_self
      obtain ⟨b, rfl, hb⟩ := hkd z mz I4 kv pk
      have lk : kvs.length ≤ i := by
        have := congrArg List.length g3
        rw [List.length_map, List.length_map, List.length_take] at this
        omega
      have nk : kf z ∉ kvs.map Prod.fst := by
        rw [g3]
        have := hnd
        rw [← List.take_append_drop i zs, List.drop_eq_getElem_cons lt, List.map_append, List.map_cons] at this
        rw [List.getElem?_eq_getElem lt] at hz
        cases hz
        exact fun hm => (List.nodup_append.mp this).2.2 _ hm _ List.mem_cons_self rfl
      refine ⟨b, kvs, kf z, rfl, s5'.sub _ _ (e5 _ _ hb), g1, Nat.lt_of_le_of_lt lk (Nat.lt_of_lt_of_le lt (small1000 hl)), I5, ?_⟩
      rw [putK_new _ (valV_none nk)]
      refine s5'.put (φ' := tabO (zs.take (i + 1)) kf df) noT_dT ⟨_, rfl, ?_, ?_⟩
      · rw [take_succ' hz, List.map_append, List.map_append, g3]; rfl
      · rw [take_succ' hz, List.map_append, List.map_append]
        exact g4.app (.cons pv .nil)
/-- its items, its keys -/
theorem valV_at {kvs : List (List Key × V)} : ∀ {zs : List α} {kf : α → List Key} {df : α → PyData} {I : Hp} {z : α}, kvs.map Prod.fst = zs.map kf → DtA I (kvs.map Prod.snd) (zs.map df) → z ∈ zs → (zs.map kf).Nodup → ∃ v, valV kvs (kf z) = some v ∧ Dt I v (df z) := by
  induction kvs with
  | nil =>
    intro zs kf df I z h1 h2 h3
    cases zs with
    | nil => cases h3
    | cons a r => cases h1
  | cons p r ih =>
    intro zs kf df I z h1 h2 h3 h4
    cases zs with
    | nil => cases h3
    | cons a q =>
      rw [List.map_cons, List.map_cons] at h1
      injection h1 with e1 e2
      rw [List.map_cons, List.map_cons] at h2
      cases h2 with
      | cons d1 d2 =>
        rw [List.map_cons] at h4
        obtain ⟨n1, n2⟩ := List.nodup_cons.mp h4
        rcases List.mem_cons.mp h3 with e | hm
        · subst e
          exact ⟨p.2, valV_pos e1, d1⟩
        · rw [valV_neg fun e => n1 (by rw [← e1, e]; exact List.mem_map.mpr ⟨z, hm, rfl⟩)]
          exact ih e2 d2 hm n2
theorem je_dtget {a b : Expr} {pos : Pos} {zs : List α} {kf : α → List Key} {df : α → PyData} {kd : PyData} {z : α} (hu : X.A.units + 1 < cLine) (ha : JE X N rq Γ a (TabV zs kf df)) (hb : JE X N rq Γ b (DatV kd)) (hk : ∀ I v, Dt I v kd → ∃ c, v = .ref c ∧ I c = some (.tup ((kf z).map kV))) (hz : z ∈ zs) (hnd : (zs.map kf).Nodup) (hs : NoSl b) :
    JE X N rq Γ (.Subscript a b pos) (DatV (df z)) := fun M I H σ Q hm s t q =>
  we_of (pe_dget hu we_pe we_pe hs) (je_bin ha hb hm s t fun x y I' H' s' e' h0 py => by
    obtain ⟨D, od, kvs, rfl, h1, h2, h3⟩ := h0
    obtain ⟨c, rfl, hc⟩ := hk I' y py
    obtain ⟨v, g1, g2⟩ := valV_at h2 h3 hz hnd
    exact ⟨D, v, rfl, .inr ⟨kvs, kf z, c, .inr ⟨od, s'.sub _ _ h1⟩, rfl, s'.sub _ _ hc, g1.symm⟩, q v I' H' s' e' g2⟩)
theorem ji_keys {tg iter : Expr} {zs : List α} {kf : α → List Key} {df : α → PyData} {kd : α → PyData} (h : JE X N rq Γ iter (TabV zs kf df)) (hk : ∀ z ∈ zs, ∀ I (c : Addr), I c = some (.tup ((kf z).map kV)) → Dt I (.ref c) (kd z)) : JI X N rq Γ tg iter zs (fun z => DatV (kd z)) := by
  refine ⟨_, pi_keys we_pe, fun M I H σ Q hm s t q => h M I H σ _ hm s t fun v I' H' s' e' p => ?_⟩
  obtain ⟨D, od, kvs, rfl, h1, h2, h3⟩ := p
  refine ⟨D, od, rfl, .inr ⟨kvs, s'.sub _ _ h1, q _ I' H' s' e' fun M2 I2 H2 i s2 => ?_⟩⟩
  have hD : H2 D = some (.frz od (.dT kvs)) := s2.sub _ _ (s2.ii _ _ h1)
  have ln : kvs.length = zs.length := by
    have := congrArg List.length h2
    rw [List.length_map, List.length_map] at this
    exact this
  refine ⟨fun z hz => ?_, fun e => ⟨hD, by omega⟩⟩
  have lt : i < zs.length := by
    by_cases h : i < zs.length
    · exact h
    · rw [List.getElem?_eq_none (by omega)] at hz; cases hz
  refine ⟨⟨hD, by omega⟩, fun x H3 ⟨e3, k, v, c, g1, g2, g3⟩ => ?_⟩
  subst e3 g2
  have gk : k = kf z := by
    have z1 : (kvs.map Prod.fst)[i]? = some k := by rw [List.getElem?_map, g1]; rfl
    rw [h2, List.getElem?_map, hz] at z1
    exact (Option.some.inj z1).symm
  subst gk
  obtain ⟨s4, e4⟩ := s2.know g3
  exact ⟨_, s4, e4, hk z (List.mem_of_getElem? hz) _ c upd_same⟩
end
end QL
namespace QD
open PySem PySem.Spec PyProof.Rows L2 QL
theorem nodup_map {α β : Type} {f : α → β} (hf : ∀ a b, f a = f b → a = b) : ∀ {xs : List α}, xs.Nodup → (xs.map f).Nodup
  | [], _ => .nil
  | x :: xs, h => by
    obtain ⟨n1, n2⟩ := List.nodup_cons.mp h
    rw [List.map_cons]
    refine List.nodup_cons.mpr ⟨fun hm => ?_, nodup_map hf n2⟩
    obtain ⟨y, hy, e⟩ := List.mem_map.mp hm
    rw [hf _ _ e] at hy
    exact n1 hy
def letK (x : Let) : List L2.Key := [.inr (dirS x.1), .inl x.2]
theorem letK_inj {x y : Let} (h : letK x = letK y) : x = y := by
  obtain ⟨a, i⟩ := x
  obtain ⟨b, j⟩ := y
  unfold letK at h
  injection h with h1 h2
  injection h2 with h2
  have e1 : a = b := dirS_inj.mp (Sum.inr.inj h1)
  have e2 : (i : Int) = (j : Int) := Sum.inl.inj h2
  have e3 : i = j := by omega
  rw [e1, e3]
theorem letD_key (x : Let) (I : Hp) (v : V) (h : Dt I v (letD x)) : ∃ b, v = .ref b ∧ I b = some (.tup ((letK x).map kV)) := by
  unfold letD at h
  cases h with
  | tup h1 h2 =>
    cases h2 with
    | cons a b =>
      cases b with
      | cons c d =>
        cases d
        rw [Dt.str_inv a, Dt.int_inv c] at h1
        exact ⟨_, rfl, h1⟩
theorem letD_of (x : Let) (I : Hp) (c : Addr) (h : I c = some (.tup ((letK x).map kV))) : Dt I (.ref c) (letD x) := Dt.tup h (.cons (.str _) (.cons (.int _) .nil))
theorem letters_nodup (t : Tk) : (letters t).Nodup := by
  unfold letters
  rw [List.nodup_append]
  refine ⟨?_, ?_, ?_⟩
  · exact nodup_map (fun a b h => by simpa using h) List.nodup_range
  · exact nodup_map (fun a b h => by simpa using h) List.nodup_range
  · intro a ha b hb e
    obtain ⟨i, _, rfl⟩ := List.mem_map.mp ha
    obtain ⟨j, _, rfl⟩ := List.mem_map.mp hb
    cases e
theorem lettersK_nodup (t : Tk) : ((letters t).map letK).Nodup := nodup_map (fun a b h => letK_inj h) (letters_nodup t)
end QD

/-! text QMX -/
set_option Elab.async false
set_option linter.all false
set_option maxRecDepth 100000
set_option maxHeartbeats 4000000
/-! QMX: max(a list of ints, default=d). -/
namespace QL
open PySem PySem.Spec PyProof.Rows L2
/-- the greatest, or d where there is none -/
def IsMx (ns : List Int) (d r : Int) : Prop := (ns = [] ∧ r = d) ∨ (r ∈ ns ∧ ∀ y ∈ ns, y ≤ r)
section
variable {prog : Program} {w : World} {A : Around} {I S l : Addr} {its : Array Value} {ns : List Int}
theorem mx_loop (hh : A.handled = none) (hlI : l ≠ I) (hSI : S ≠ I) (hSl : S ≠ l) (hn : its.size = ns.length) (hv : ∀ (i : Nat) v, its[i]? = some v → ∃ t, v = .int (ns.getD i 0) t) {d : Int} {dt : Tok} {R : Result → Shared → Prop} :
    ∀ (k i : Nat) (s : Shared) (old : Array Value) (c : Nat), its.size - i = k → i ≤ its.size → s.heap.IsListIter I l i → s.heap.IsList l its → s.heap.get? S = some { cls := .type "list", dict := none, data := .seq old c, slots := #[] } →
    ((i = 0 ∧ old = #[]) ∨ ∃ (b : Int) (t : Tok), old = #[.int b t, .int b t] ∧ b ∈ ns.take i ∧ ∀ y ∈ ns.take i, y ≤ b) →
    (∀ (r : Int) (t : Tok) h' tk, (∀ b o, b ≠ S → b ≠ I → s.heap.get? b = some o → h'.get? b = some o) → IsMx ns d r → R (.ok (.ret (.int r t))) { s with heap := h', toks := tk }) →
    codeAny (model prog w) A (.builtin "max.loop" ⟨[.ref I, .none, .ref S], [("default", .int d dt)]⟩) R s := by
  have W := Walks.list (prog := prog) (w := w) (A := A.in1) hh I l hlI its
  have hname : (toString "max" ++ toString ".loop" : String) = "max.loop" := by decide
  intro k
  induction k with
  | zero =>
    intro i s old c hk hi it il hS ho hR
    have ei : i = its.size := by omega
    subst ei
    refine codeAny_builtin F.entry_max_loop ?_
    rw [Around.under_plainId F.plain_max_loop _]
    show wpAny _ A.in1 (seqItems? (.ref S) >>= _) _ _ s
    refine wpAny_bind (wpAny_seqItems hS rfl ?_)
    show wpAny _ A.in1 (tryCatch (pyNext (.ref I)) _ >>= _) _ _ s
    refine wpAny_bind (wpAny_tryCatch (W.done s _ _ ⟨it, il⟩ fun h' tk hm => ?_))
    have hS' : h'.get? S = some { cls := .type "list", dict := none, data := .seq old c, slots := #[] } := hm S _ (by simp [hSI]) hS
    rcases ho with ⟨e0, rfl⟩ | ⟨b, t, rfl, hb, hmx⟩
    · refine wpAny_bind (wpAny_rule ?_)
      refine wpAny_pure ?_
      exact hR d dt h' tk (fun b o h1 h2 e => hm b o (by simp [h2]) e) (.inl ⟨List.eq_nil_of_length_eq_zero (by omega), rfl⟩)
    · show wpAny _ A.in1 (updateSeq S (fun _ => #[]) >>= _) _ _ _
      refine wpAny_bind ?_
      refine wpAny_updateSeq hS' rfl (wpAny_bind (wpAny_letGo (wpAny_pure ?_)))
      rw [hn, List.take_length] at hb hmx
      exact hR b t _ tk (fun a o h1 h2 e => (Heap.get?_update_other _ _ (Ne.symm h1)).trans (hm a o (by simp [h2]) e)) (.inr ⟨hb, hmx⟩)
  | succ k ih =>
    intro i s old c hk hi it il hS ho hR
    have lt : i < its.size := by omega
    refine codeAny_builtin F.entry_max_loop ?_
    rw [Around.under_plainId F.plain_max_loop _]
    show wpAny _ A.in1 (seqItems? (.ref S) >>= _) _ _ s
    refine wpAny_bind (wpAny_seqItems hS rfl ?_)
    show wpAny _ A.in1 (tryCatch (pyNext (.ref I)) _ >>= _) _ _ s
    refine wpAny_bind (wpAny_tryCatch (W.item i s _ _ lt ⟨it, il⟩ fun v h' tk hP st hm => ?_))
    obtain ⟨t, rfl⟩ := hv i v hP
    have hS' : h'.get? S = some { cls := .type "list", dict := none, data := .seq old c, slots := #[] } := hm S _ (by simp [hSI]) hS
    have nx : ns.take (i + 1) = ns.take i ++ [ns.getD i 0] := by
      have l2 : i < ns.length := by omega
      rw [List.take_succ, List.getD_eq_getElem?_getD, List.getElem?_eq_getElem l2]; rfl
    have later : ∀ (h2 : Heap) (tk2 : Nat) (old2 : Array Value) (c2 : Nat), (∀ b o, b ≠ S → h'.get? b = some o → h2.get? b = some o) → h2.get? S = some { cls := .type "list", dict := none, data := .seq old2 c2, slots := #[] } →
        (∃ (b : Int) (t : Tok), old2 = #[.int b t, .int b t] ∧ b ∈ ns.take (i + 1) ∧ ∀ y ∈ ns.take (i + 1), y ≤ b) → codeAny (model prog w) A (.builtin "max.loop" ⟨[.ref I, .none, .ref S], [("default", .int d dt)]⟩) R { s with heap := h2, toks := tk2 } := fun h2 tk2 old2 c2 kp hS2 hb =>
      ih (i + 1) _ old2 c2 (by omega) lt (st.1.at fun o e => kp I o (Ne.symm hSI) e) (st.2.at fun o e => kp l o (Ne.symm hSl) e) hS2 (.inr hb) fun r t h3 tk3 h4 h5 => hR r t h3 tk3 (fun b o h6 h7 e => h4 b o h6 h7 (kp b o h6 (hm b o (by simp [h7]) e))) h5
    rcases ho with ⟨rfl, rfl⟩ | ⟨b, tb, rfl, hb, hmx⟩
    · show wpAny _ A.in1 (updateSeq S (fun _ => #[.int (ns.getD 0 0) t, .int (ns.getD 0 0) t]) >>= _) _ _ _
      refine wpAny_bind ?_
      refine wpAny_updateSeq hS' rfl ?_
      rw [hname]
      refine wpAny_pure ⟨plainId_quiet F.plain_max_loop _, later _ _ _ _ (fun b o h1 e => (Heap.get?_update_other _ _ (Ne.symm h1)).trans e) (Heap.get?_update_self _ hS' rfl) ⟨_, t, rfl, ?_, ?_⟩⟩
      · rw [nx]; simp
      · rw [nx]; intro y hy
        rw [List.take_zero, List.nil_append, List.mem_singleton] at hy
        rw [hy]; exact Int.le_refl _
    · show wpAny _ A.in1 (tryCatch (holding [.int (ns.getD i 0) t, .int (ns.getD i 0) t] (richCompare .Gt (.int (ns.getD i 0) t) (.int b tb) >>= _)) _ >>= _) _ _ _
      refine wpAny_bind (wpAny_tryCatch (wpAny_holding (wpAny_bind (richCompare_gives (op := .Gt) (typeIs_int _ _ t) (typeIs_int _ _ tb) F.slot_int_gt F.entry_int_gt (F.args_int_gt_2 _ _) (gives_int_gt _ _ t tb) (fun x => nomatch x) ?_))))
      show wpAny _ _ (holding [Value.bool (decide (ns.getD i 0 > b))] (truthy (Value.bool (decide (ns.getD i 0 > b)))) >>= _) _ _ _
      refine wpAny_bind (wpAny_holding (wpAny_truthy_bool ?_))
      refine wpAny_bind (wpAny_letGo (wpAny_pure ?_))
      by_cases hg : ns.getD i 0 > b
      · rw [decide_eq_true hg]
        simp only [if_true]
        refine wpAny_bind ?_
        refine wpAny_updateSeq hS' rfl (wpAny_bind (wpAny_letGo ?_))
        rw [hname]
        refine wpAny_pure ⟨plainId_quiet F.plain_max_loop _, later _ _ _ _ (fun b o h1 e => (Heap.get?_update_other _ _ (Ne.symm h1)).trans e) (Heap.get?_update_self _ hS' rfl) ⟨_, t, rfl, ?_, ?_⟩⟩
        · rw [nx]; simp
        · rw [nx]; intro y hy
          rcases List.mem_append.mp hy with z | z
          · have := hmx y z; omega
          · rw [List.mem_singleton.mp z]; exact Int.le_refl _
      · rw [decide_eq_false hg]
        simp only [Bool.false_eq_true, if_false]
        refine wpAny_bind (wpAny_letGo ?_)
        rw [hname]
        refine wpAny_pure ⟨plainId_quiet F.plain_max_loop _, later _ _ _ _ (fun _ _ _ e => e) hS' ⟨b, tb, rfl, ?_, ?_⟩⟩
        · rw [nx]; exact List.mem_append_left _ hb
        · rw [nx]; intro y hy
          rcases List.mem_append.mp hy with z | z
          · exact hmx y z
          · rw [List.mem_singleton.mp z]; omega
theorem call_maxD {s : Shared} {E : Value → Shared → Prop} {Q : Value → Shared → Prop} {d : Int} {dt : Tok} (hh : A.handled = none) (hl : s.heap.IsList l its) (hn : its.size = ns.length) (hv : ∀ (i : Nat) v, its[i]? = some v → ∃ t, v = .int (ns.getD i 0) t)
    (h : ∀ (r : Int) (t : Tok) h' tk, (∀ b o, s.heap.get? b = some o → h'.get? b = some o) → IsMx ns d r → Q (.int r t) { s with heap := h', toks := tk }) : wpAny (model prog w) A (call (.builtin "max") [.ref l] [("default", .int d dt)]) Q E s := by
  have hname : (toString "max" ++ toString ".loop" : String) = "max.loop" := by decide
  refine wpAny_call (codeAny_call_builtin F.plain_max F.entry_max ?_)
  have ha : argsOk "max" ⟨[.ref l], [("default", .int d dt)]⟩ := by
    unfold argsOk
    first | rfl | decide | (split <;> rfl)
  have body : wpAny (model prog w) A.in1 (Builtin.«max» ⟨[.ref l], [("default", .int d dt)]⟩) (fun fin s' => match fin with
      | .done f => (match (Except.ok f : Result) with | .ok (.ret v) => Q v s' | .ok _ => False | .error e => E e s')
      | .again c' => c'.quiet = true ∧ codeAny (model prog w) A c' (fun r s' => match r with | .ok (.ret v) => Q v s' | .ok _ => False | .error e => E e s') s') E s := by
    show wpAny _ A.in1 (Builtin.Builtins.bindParams "max" ["key", "default"] 0 ⟨[], [("default", .int d dt)]⟩ >>= _) _ _ s
    refine wpAny_bind (wpAny_of_eq (show Builtin.Builtins.bindParams "max" ["key", "default"] 0 ⟨[], [("default", .int d dt)]⟩ = pure [none, some (.int d dt)] from rfl) ?_)
    refine wpAny_bind (wpAny_pure ?_)
    refine wpAny_bind (wpAny_pyIter_list hl ?_)
    refine wpAny_bind (wpAny_newObj_type ?_)
    rw [hname]
    have lt : l < s.heap.objs.size := by obtain ⟨_, e, _⟩ := hl; exact Heap.lt_size e
    refine wpAny_pure ⟨plainId_quiet F.plain_max_loop _, ?_⟩
    refine mx_loop (I := s.heap.objs.size) (S := (s.heap.push _).objs.size) hh (Nat.ne_of_lt lt) ?_ ?_ hn hv its.size 0 _ #[] _ rfl (Nat.zero_le _) ?_ ?_ (Heap.get?_push_size _ rfl) (.inl ⟨rfl, rfl⟩) fun r t h' tk hk hr => ?_
    · rw [Heap.size_push]; exact Nat.succ_ne_self _
    · rw [Heap.size_push]; exact Nat.ne_of_gt (Nat.lt_succ_of_lt lt)
    · exact ⟨_, Heap.get?_push_of_some _ (Heap.get?_push_size _ rfl), rfl, rfl⟩
    · exact (hl.push _).push _
    · refine h r t h' tk (fun b o e => hk b o ?_ ?_ (Heap.get?_push_of_some _ (Heap.get?_push_of_some _ e))) hr
      · rw [Heap.size_push]; exact Nat.ne_of_lt (Nat.lt_succ_of_lt (Heap.lt_size e))
      · exact Nat.ne_of_lt (Heap.lt_size e)
  simp only [checkBuiltinCall, F.kind_max]
  cases hsig : Manifest.signature? "max" with
  | none => exact wpAny_pure body
  | some sig =>
    have ha' : Bind.checkArgs "max" sig ⟨[.ref l], [("default", .int d dt)]⟩ = pure () := by simpa only [argsOk, hsig] using ha
    simp only [ha']
    exact wpAny_pure body
variable {X : Cx} {N : Ent} {rq : OwnM} {Γ : Ctx} {e : Expr} {pos : Pos}
theorem isMx_inj {ns : List Int} {d a b : Int} (h1 : IsMx ns d a) (h2 : IsMx ns d b) : a = b := by
  rcases h1 with ⟨e1, e2⟩ | ⟨e1, e2⟩
  · rcases h2 with ⟨_, e4⟩ | ⟨e3, _⟩
    · rw [e2, e4]
    · rw [e1] at e3; cases e3
  · rcases h2 with ⟨e3, _⟩ | ⟨e3, e4⟩
    · rw [e3] at e1; cases e1
    · exact Int.le_antisymm (e4 _ e1) (e2 _ e3)
theorem je_maxD {p cp kp : Pos} {cj} {ns : List Int} {d m : Int} (hc : X.calm = true) (ha : JE X N rq Γ e (DatV (.list (ns.map PyData.int)))) (hm1 : IsMx ns d m) (B : Bi X "max" (.builtin "max")) (A : Ar X e [] pos)
    (hplain : (backTo pos (starEach [e] X.env)).any (·.1) = false) : JE X N rq Γ (.Call (.Name "max" p) [e] [⟨some "default", .Constant (.int d) cj cp, kp⟩] pos) (IntV m) := fun M I H σ Q hm s t q pins s0 I0 => by
  refine wpAny_Call_Name_kw (ld_blt I0 B.gl B.free B.boot ?_ B.n1 B.n2)
  refine PyProof.Rows.callWith_kw ?_ (by rw [A.he]; rfl) hplain rfl rfl
  refine ja_cons ha ja_nil A.he M I H σ (fun vs H' => ∃ a, vs = [V.ref a] ∧ ∃ I', S3 N M I' H' ∧ Same I I' ∧ SqL X.K H' a (ns.map V.int)) hm s t (fun vs I' H' s' e' pv => ?_) pos pins s0 I0 |> fun z => thn z fun us s1 ⟨vs, H1, I1, r1, a, ev, I', s', e', hq⟩ => ?_
  · obtain ⟨v, rfl, hv⟩ := ty1 pv
    cases (show Dt I' v (.list (ns.map PyData.int)) from hv) with
    | lst h1 h2 =>
      have e1 := h2.ints
      subst e1
      exact ⟨_, rfl, I', s', e', SqL.of (s'.sub _ _ h1)⟩
  · subst ev
    refine thn ((pk_cons (nm := some "default") (kpos := kp) pe_int pk_nil).run pos pins s1 σ H1 (fun ws H2 => ws = [V.int d] ∧ H2 = H1) I1 ⟨rfl, rfl⟩) fun kvs s2 ⟨ws, H2, I2, r2, ew, eH⟩ => ?_
    subst ew eH
    obtain ⟨w1, rfl, rw1⟩ := vals1 r2
    obtain ⟨dt, rfl⟩ := rw1
    rw [Vals.ref1 r1]
    obtain ⟨its, rv, hl, _⟩ := I2.list hq
    have ri := rv.ints
    refine call_maxD (ns := ns) (I2.ok.hd hc) hl.isList (by rw [← rv.length.symm.trans (List.length_map _)]; simp) (fun i v hv => ?_) fun r t h' tk hk hr => ?_
    · have lt : i < its.length := by
        by_cases h : i < its.length
        · exact h
        · rw [Array.getElem?_eq_none (by simpa using h)] at hv; cases hv
      have hv' : its[i]? = some v := by simpa using hv
      have ln : its.length = ns.length := by rw [← rv.length, List.length_map]
      have hg : (ns.map V.int)[i]? = some (V.int (ns.getD i 0)) := by
        rw [List.getElem?_map, List.getElem?_eq_getElem (by omega), List.getD_eq_getElem?_getD, List.getElem?_eq_getElem (by omega)]; rfl
      obtain ⟨u, hu, ru⟩ := rv.get hg
      rw [hv'] at hu; cases hu
      exact ru
    · rw [isMx_inj hr hm1]
      exact ⟨.int m, H2, I2.kept hk, ⟨t, rfl⟩, q _ I' H2 s' e' (.int m)⟩
end
end QL

/-! text QL12 -/
set_option Elab.async false
set_option linter.all false
set_option maxRecDepth 100000
set_option maxHeartbeats 4000000
/-! QL12: pairs with a new list, zipped objects; the program's answers in plain terms. -/
namespace QL
open PySem PySem.Spec PyProof.Rows L2
section
variable {X : Cx} {N : Ent} {M rq : OwnM} {Γ : Ctx} {a b c e tg : Expr} {P P' : Pr} {pos p2 : Pos} {rest : List Stmt} {D : L2.Ends}
/-- x, y = e, [] -/
theorem js_parN {i j : Nat} {x y : Str} {px py pt : Pos} {kt k2 pt2} (ha : JE X N M Γ a P) (hr : ∀ p : Addr, JS X (Tp N ((p, lstO []) :: M) ((Γ.set i (some P)).set j (some (EqV (.ref p))))) rest D) (hc : X.calm = true) (hN : X.N.Nodup) (hx : X.N[i]? = some x) (hy : X.N[j]? = some y) (hij : i ≠ j)
    (kx : X.env.scope.names.lookup x = some .local) (ky : X.env.scope.names.lookup y = some .local) (hi : i < Γ.length) (hj : j < Γ.length) (he : starEach [a, .List [] p2] X.env = (false, eval a X.env) :: starEach [.List [] p2] X.env) (he2 : starEach [.List [] p2] X.env = (false, eval (.List [] p2) X.env) :: starEach [] X.env)
    (hw : swappedStores [.Tuple [.Name x px, .Name y py] kt pt] (.Tuple [a, .List [] p2] k2 pt2) X.env = pure (some [x, y]))
    (hs : swapsWithSole [.Tuple [.Name x px, .Name y py] kt pt] (.Tuple [a, .List [] p2] k2 pt2) pos.line X.env = pure false) : JS X (Tp N M Γ) (.Assign [.Tuple [.Name x px, .Name y py] kt pt] (.Tuple [a, .List [] p2] k2 pt2) pos :: rest) D :=
  js_of (ps_par hc hN hx hy hij kx ky (pa_cons we_pe (pa_cons (pe_lst pa_nil) pa_nil he2) he) hw hs) fun σ H ⟨hl, I, s, t⟩ => ha M I H σ _ (fun q hq => hq) s t fun v I' H' s' e' p =>
    ⟨Nat.zero_le _, fun r hr' => ⟨v, .ref r, rfl, nx_keep (hr r) (by simpa using hl) (s'.newO hr' noT_lst ⟨[], rfl, True.intro⟩) (((t.up e').set (by omega) p).set (by rw [List.length_set]; omega) rfl)⟩⟩
/-- x, y = [], e -/
theorem js_parN1 {i j : Nat} {x y : Str} {px py pt : Pos} {kt k2 pt2} (ha : ∀ p : Addr, JE X N ((p, lstO []) :: M) Γ a P) (hr : ∀ p : Addr, JS X (Tp N ((p, lstO []) :: M) ((Γ.set i (some (EqV (.ref p)))).set j (some P))) rest D) (hc : X.calm = true) (hN : X.N.Nodup) (hx : X.N[i]? = some x) (hy : X.N[j]? = some y) (hij : i ≠ j)
    (kx : X.env.scope.names.lookup x = some .local) (ky : X.env.scope.names.lookup y = some .local) (hi : i < Γ.length) (hj : j < Γ.length) (he : starEach [.List [] p2, a] X.env = (false, eval (.List [] p2) X.env) :: starEach [a] X.env) (he2 : starEach [a] X.env = (false, eval a X.env) :: starEach [] X.env)
    (hw : swappedStores [.Tuple [.Name x px, .Name y py] kt pt] (.Tuple [.List [] p2, a] k2 pt2) X.env = pure (some [x, y]))
    (hs : swapsWithSole [.Tuple [.Name x px, .Name y py] kt pt] (.Tuple [.List [] p2, a] k2 pt2) pos.line X.env = pure false) : JS X (Tp N M Γ) (.Assign [.Tuple [.Name x px, .Name y py] kt pt] (.Tuple [.List [] p2, a] k2 pt2) pos :: rest) D :=
  js_of (ps_par hc hN hx hy hij kx ky (pa_cons (pe_lst pa_nil) (pa_cons we_pe pa_nil he2) he) hw hs) fun σ H ⟨hl, I, s, t⟩ => ⟨Nat.zero_le _, fun r hr' => ha r _ I _ σ _ (fun q hq => hq) (s.newO hr' noT_lst ⟨[], rfl, True.intro⟩) t fun v I' H' s' e' p =>
    ⟨.ref r, v, rfl, nx_keep (hr r) (by simpa using hl) s' (((t.up e').set (by omega) rfl).set (by rw [List.length_set]; omega) p)⟩⟩
theorem ji_zipTM {α β : Type} {xs : List α} {ys : List β} {f : α → Pr} {g : β → Pr} {p tpos : Pos} {elts : List Expr} {kk : Nat} (ha : JE X N rq Γ a (TuV (xs.map f))) (hb : JE X N rq Γ b (TuV (ys.map g))) (B : Bi X "zip" (.type "zip")) (A : Ar X a [b] pos) (A2 : Ar X b [] pos) :
    JI X N rq Γ (.Tuple elts kk tpos) (.Call (.Name "zip" p) [a, b] [] pos) (xs.zip ys) (fun z => TuV [f z.1, g z.2]) := by
  have h := ji_zipT (p := p) (pos := pos) (tpos := tpos) (elts := elts) (kk := kk) ha hb B A A2
  rw [List.zip_map] at h
  exact h.map
end
def mxD : List Int → Int → Int
  | [], d => d
  | x :: xs, _ => xs.foldl (fun a b => if a < b then b else a) x
theorem foldl_mx : ∀ (xs : List Int) (x : Int), xs.foldl (fun a b => if a < b then b else a) x ∈ x :: xs ∧ ∀ y ∈ x :: xs, y ≤ xs.foldl (fun a b => if a < b then b else a) x
  | [], x => ⟨List.mem_cons_self, fun y hy => by rw [List.mem_singleton.mp hy]; exact Int.le_refl _⟩
  | z :: zs, x => by
    obtain ⟨h1, h2⟩ := foldl_mx zs (if x < z then z else x)
    rw [List.foldl_cons]
    constructor
    · rcases List.mem_cons.mp h1 with e | hm
      · rw [e]; split <;> simp
      · simp [hm]
    · intro y hy
      have hz := h2 _ List.mem_cons_self
      have h3 : x ≤ (if x < z then z else x) := by split <;> omega
      have h4 : z ≤ (if x < z then z else x) := by split <;> omega
      rcases List.mem_cons.mp hy with e | hy
      · rw [e]; exact Int.le_trans h3 hz
      · rcases List.mem_cons.mp hy with e | hm
        · rw [e]; exact Int.le_trans h4 hz
        · exact h2 y (List.mem_cons_of_mem _ hm)
theorem mxD_is (ns : List Int) (d : Int) : IsMx ns d (mxD ns d) := by
  cases ns with
  | nil => exact .inl ⟨rfl, rfl⟩
  | cons x xs => exact .inr (foldl_mx xs x)
end QL
namespace QD
open PySem PySem.Spec PyProof.Rows L2 QL
variable (l : Line) (t : Tk) (b : Nat)
def insideL (x y : Let) : List Let := (letters t).filter fun z => decide ((win l t b x).1 < (win l t b z).1) && decide ((win l t b z).2 < (win l t b y).2)
def betweenL (x y : Let) : List Let := (insideL l t b x y).filter fun z => (!decide (z = x ∨ z = y)) && sight l b z
def noGap (x y : Let) : Bool := decide (x = y) || (!sight l b x || decide ((win l t b y).2 ≤ (win l t b x).1))
def lostIn (x y : Let) : Option (List Let) := if noGap l t b x y = true then none else if cbl t (betweenL l t b x y) = true then some (betweenL l t b x y) else none
def lostD : Option (List Let) → PyData
  | none => .none
  | some xs => .tuple (xs.map letD)
abbrev Pair := Int × Let × Let
def pairD (p : Pair) : PyData := .tuple [.int p.1, letD p.2.1, letD p.2.2]
def pair1 (x y : Let) : Option Pair := if (lostIn l t b x y).isSome = true then some ((win l t b y).2 - (win l t b x).1, x, y) else none
def pairsOf : List Pair := (letters t).flatMap fun x => (letters t).filterMap (pair1 l t b x)
def gapOf : Int := mxD ((pairsOf l t b).map (·.1)) 0
def endsOf : Option (Let × Let) := ((pairsOf l t b).find? fun p => decide (p.1 = gapOf l t b)).map (·.2)
def endsD : Option (Let × Let) → PyData
  | none => .none
  | some p => .tuple [letD p.1, letD p.2]
variable {l t b}
theorem notin_pair (x y z : Let) : (!([letD x, letD y].any fun w => PyData.eqv w (letD z))) = !decide (z = x ∨ z = y) := by
  rw [show [letD x, letD y] = [x, y].map letD from rfl, lets_any]
  simp
theorem letters_len (ht : TkOk t) : (letters t).length ≤ 14 := by
  have := ht.o7
  have := ht.b7
  unfold letters
  rw [List.length_append, List.length_map, List.length_map, List.length_range, List.length_range]
  omega
theorem row_len (ht : TkOk t) (x : Let) : ((letters t).filterMap (pair1 l t b x)).length ≤ 14 := Nat.le_trans (List.length_filterMap_le _ _) (letters_len ht)
theorem flat_len {α β : Type} {f : α → List β} {n : Nat} (h : ∀ x, (f x).length ≤ n) : ∀ xs : List α, (xs.flatMap f).length ≤ xs.length * n
  | [] => by simp
  | x :: xs => by
    rw [List.flatMap_cons, List.length_append, List.length_cons, Nat.succ_mul]
    have := h x
    have := flat_len h xs
    omega
theorem pairs_len (ht : TkOk t) : (pairsOf l t b).length ≤ 196 := by
  have h1 := flat_len (f := fun x => (letters t).filterMap (pair1 l t b x)) (row_len ht) (letters t)
  have h2 := letters_len ht
  have h3 : (letters t).length * 14 ≤ 14 * 14 := Nat.mul_le_mul_right _ h2
  exact Nat.le_trans h1 h3
theorem lost_none {x y : Let} (h : noGap l t b x y = true) : lostIn l t b x y = none := if_pos h
theorem lost_some {x y : Let} (h : noGap l t b x y = false) : DatV (if cbl t (betweenL l t b x y) = true then .tuple ((betweenL l t b x y).map letD) else .none) = DatV (lostD (lostIn l t b x y)) := by
  have e : lostIn l t b x y = if cbl t (betweenL l t b x y) = true then some (betweenL l t b x y) else none := if_neg (by rw [h]; decide)
  rw [e]
  split <;> rfl
theorem lostD_none (o : Option (List Let)) : (match lostD o with | .none => true | _ => false) = !o.isSome := by cases o <;> rfl
end QD
namespace QL
open PySem PySem.Spec PyProof.Rows L2
theorem js_sub {X : Cx} {N N' : Ent} {M : OwnM} {Γ : Ctx} {rest : List Stmt} {D : L2.Ends} (sb : Sub N' N) (h : JS X (Tp N M Γ) rest D) : JS X (Tp N' M Γ) rest D := h.pre fun σ H ⟨l, I, s, t⟩ => ⟨l, I, sb.2.2.2 _ _ _ s, t⟩
end QL
namespace QD
open PySem PySem.Spec PyProof.Rows L2 QL
theorem cbl_false {t : Tk} {xs : List Let} {z : Let} (hz : z ∈ xs) (h : ((List.range (t.los + 1)).map fun k => decide ((z.1, z.2 + k) ∈ xs)).all id = true) : cbl t xs = false := by
  unfold cbl
  rw [List.all_map] at h
  have : (xs.any fun x => (List.range (t.los + 1)).all fun k => decide ((x.1, x.2 + k) ∈ xs)) = true := List.any_eq_true.mpr ⟨z, hz, h⟩
  rw [this]; rfl
theorem cbl_true {t : Tk} {xs : List Let} (h : ∀ z ∈ xs, (((List.range (t.los + 1)).map fun k => decide ((z.1, z.2 + k) ∈ xs)).all id) = false) : cbl t xs = true := by
  unfold cbl
  have : (xs.any fun x => (List.range (t.los + 1)).all fun k => decide ((x.1, x.2 + k) ∈ xs)) = false := by
    rw [List.any_eq_false]
    intro z hz
    have := h z hz
    rw [List.all_map] at this
    rw [show ((List.range (t.los + 1)).all fun k => decide ((z.1, z.2 + k) ∈ xs)) = false from this]
    decide
  rw [this]; rfl
end QD
namespace QL
open PySem PySem.Spec PyProof.Rows L2
section
variable {X : Cx} {N : Ent} {M rq : OwnM} {Γ : Ctx} {elt tg iter : Expr} {pos p2 : Pos} {α : Type} {scope : Scope} {own : List (Str × Nat)} {zs : List α} {g : TG} {rest : List Stmt} {D : L2.Ends}
theorem je_lcD0 {f : α → PyData} (L : ∃ wi, Lc X N rq Γ elt tg iter [] scope own zs (fun _ => true) (fun z => DatV (f z)) wi g) (hc : X.calm = true) (hN : X.N.Nodup) (hs : ∀ x, foldedSetIterable iter X.env x = pure x) : JE X N rq Γ (.ListComp elt [⟨tg, iter, [], 0⟩] scope pos) (DatV (.list (zs.map f))) := (je_lcD L hc hN hs).cast (by rw [QL.filter_tt])
theorem je_lcB0 {f : α → Bool} (L : ∃ wi, Lc X N rq Γ elt tg iter [] scope own zs (fun _ => true) (fun z => DatV (.bool (f z))) wi g) (hc : X.calm = true) (hN : X.N.Nodup) (hs : ∀ x, foldedSetIterable iter X.env x = pure x) : JE X N rq Γ (.ListComp elt [⟨tg, iter, [], 0⟩] scope pos) (DatV (.list ((zs.map f).map PyData.bool))) := (je_lcB L hc hN hs).cast (by rw [QL.filter_tt])
theorem je_lcI0 {f : α → Int} (L : ∃ wi, Lc X N rq Γ elt tg iter [] scope own zs (fun _ => true) (fun z => DatV (.int (f z))) wi g) (hc : X.calm = true) (hN : X.N.Nodup) (hs : ∀ x, foldedSetIterable iter X.env x = pure x) : JE X N rq Γ (.ListComp elt [⟨tg, iter, [], 0⟩] scope pos) (DatV (.list ((zs.map f).map PyData.int))) := (je_lcI L hc hN hs).cast (by rw [QL.filter_tt])
theorem je_lc0 {E : α → Pr} (L : ∃ wi, Lc X N rq Γ elt tg iter [] scope own zs (fun _ => true) E wi g) (hc : X.calm = true) (hN : X.N.Nodup) (hs : ∀ x, foldedSetIterable iter X.env x = pure x) : JE X N rq Γ (.ListComp elt [⟨tg, iter, [], 0⟩] scope pos) (LiV (zs.map E)) := (je_lc L hc hN hs).cast (by rw [QL.filter_tt])
theorem js_setLcD0 {i : Nat} {x : Str} {p' : Pos} {f : α → PyData} (L : ∃ wi, Lc X N M Γ elt tg iter [] scope own zs (fun _ => true) (fun z => DatV (f z)) wi g)
    (hr : JS X (Tp N M (Γ.set i (some (DatV (.list (zs.map f)))))) rest D) (hc : X.calm = true) (hN : X.N.Nodup) (hy : X.N[i]? = some x) (hyl : X.env.scope.names.lookup x = some .local) (hi : i < Γ.length)
    (hsw : swapsWith (.ListComp elt [⟨tg, iter, [], 0⟩] scope p2) (some (.Name x p')) pos.line X.env = pure true) (hs : ∀ x, foldedSetIterable iter X.env x = pure x) : JS X (Tp N M Γ) (.Assign [.Name x p'] (.ListComp elt [⟨tg, iter, [], 0⟩] scope p2) pos :: rest) D :=
  js_setLcD L (by rw [QL.filter_tt]; exact hr) hc hN hy hyl hi hsw hs
end
end QL
namespace QD
open PySem PySem.Spec PyProof.Rows L2 QL
theorem is_some_of {o : Option (List Let)} {k : Bool} (h : (!(!o.isSome)) = k) : o.isSome = k := by rw [← h]; simp
theorem pref_len {l : Line} {t : Tk} {b : Nat} (ht : TkOk t) {d1 p1 d2 p2 : List Let} {z1 z2 : Let} (h1 : letters t = d1 ++ z1 :: p1) (h2 : letters t = d2 ++ z2 :: p2) :
    ((d1.flatMap fun x => (letters t).filterMap (pair1 l t b x)) ++ d2.filterMap (pair1 l t b z1)).length ≤ 1000 := by
  have a1 := flat_len (f := fun x => (letters t).filterMap (pair1 l t b x)) (row_len ht) d1
  have a2 := List.length_filterMap_le (pair1 l t b z1) d2
  have a3 := letters_len ht
  have a4 : d1.length ≤ 14 := by rw [h1, List.length_append] at a3; omega
  have a5 : d2.length ≤ 14 := by rw [h2, List.length_append] at a3; omega
  have a6 : d1.length * 14 ≤ 14 * 14 := Nat.mul_le_mul_right _ a4
  rw [List.length_append]
  omega
end QD
namespace QD
open PySem PySem.Spec PyProof.Rows L2 QL
theorem fm_some {l : Line} {t : Tk} {b : Nat} {x y : Let} (h : (lostIn l t b x y).isSome = true) : [y].filterMap (pair1 l t b x) = [((win l t b y).2 - (win l t b x).1, x, y)] := by
  rw [List.filterMap_cons, show pair1 l t b x y = some ((win l t b y).2 - (win l t b x).1, x, y) from if_pos h]; rfl
theorem fm_none {l : Line} {t : Tk} {b : Nat} {x y : Let} (h : (lostIn l t b x y).isSome = false) : [y].filterMap (pair1 l t b x) = [] := by
  rw [List.filterMap_cons, show pair1 l t b x y = none from if_neg (by rw [h]; decide)]; rfl
end QD
namespace QD
open PySem PySem.Spec PyProof.Rows L2 QL
theorem ends_some {l : Line} {t : Tk} {b : Nat} {d q : List Pair} {p : Pair} (h : pairsOf l t b = d ++ p :: q) (hd : ∀ p ∈ d, decide (p.1 = gapOf l t b) = false) (hp : decide (p.1 = gapOf l t b) = true) : DatV (.tuple [letD p.2.1, letD p.2.2]) = DatV (endsD (endsOf l t b)) := by
  have e : (pairsOf l t b).find? (fun p => decide (p.1 = gapOf l t b)) = some p := by
    rw [h, List.find?_append, List.find?_eq_none.mpr (fun x hx => by rw [hd x hx]; decide), List.find?_cons, hp]; rfl
  unfold endsOf
  rw [e]; rfl
theorem ends_none {l : Line} {t : Tk} {b : Nat} (hd : ∀ p ∈ pairsOf l t b, decide (p.1 = gapOf l t b) = false) : DatV .none = DatV (endsD (endsOf l t b)) := by
  unfold endsOf
  rw [List.find?_eq_none.mpr (fun x hx => by rw [hd x hx]; decide)]; rfl
def keptOf (l : Line) (t : Tk) : Bool := (((((List.range l.boxes.length).map (gapOf l t)).zip l.boxes).map fun z => decide (z.1 < z.2.lo))).all id
theorem tuV_ints {ns : List Int} {v : V} {I : Hp} (p : (DatV (.tuple (ns.map PyData.int))).p v I) : (TuV (ns.map IntV)).p v I := by
  have z := dat_tup.mp p
  rw [List.map_map] at z
  exact z
end QD

/-! text QL13 -/
set_option Elab.async false
set_option linter.all false
set_option maxRecDepth 100000
set_option maxHeartbeats 4000000
/-! QL13: the law's values; runs of lost letters. -/
namespace QL
open PySem PySem.Spec PyProof.Rows L2
section
variable {X : Cx} {N : Ent} {M rq : OwnM} {Γ : Ctx} {a b c : Expr} {P : Pr} {pos : Pos} {rest : List Stmt} {D : L2.Ends}
theorem S3.reown {I H : Hp} {p : Addr} {φ φ' : OwnP} (s : S3 N ((p, φ) :: M) I H) (h : ∀ o, φ.p o I → φ'.p o I) : S3 N ((p, φ') :: M) I H :=
  ⟨s.sub, fun q hq => by
    rcases List.mem_cons.mp hq with e | hq
    · obtain ⟨⟨o, h1, h2, h3⟩, h4⟩ := s.own (p, φ) List.mem_cons_self
      rw [e]; exact ⟨⟨o, h1, h2, h o h3⟩, h4⟩
    · exact s.own q (List.mem_cons_of_mem _ hq), s.nd, s.keep, s.ii, s.fr, fun q hq => by
    rcases List.mem_cons.mp hq with e | hq
    · rw [e]; exact s.fm (p, φ) List.mem_cons_self
    · exact s.fm q (List.mem_cons_of_mem _ hq), s.tab, s.dmk, s.nt⟩
theorem js_reown {p : Addr} {φ φ' : OwnP} (h : JS X (Tp N ((p, φ') :: M) Γ) rest D) (k : ∀ o I, φ.p o I → φ'.p o I) : JS X (Tp N ((p, φ) :: M) Γ) rest D := h.pre fun σ H ⟨l, I, s, t⟩ => ⟨l, I, s.reown fun o => k o I, t⟩
/-- what is ours is of a family -/
def exO {β : Type} (C : β → Prop) (R : β → OwnP) : OwnP := ⟨fun o I => ∃ b, C b ∧ (R b).p o I, fun e ⟨b, h, k⟩ => ⟨b, h, (R b).up e k⟩⟩
theorem js_openO {β : Type} {C : β → Prop} {R : β → OwnP} {p : Addr} (h : ∀ b, C b → JS X (Tp N ((p, R b) :: M) Γ) rest D) : JS X (Tp N ((p, exO C R) :: M) Γ) rest D := fun σ H ⟨l, I, s, t⟩ => by
  obtain ⟨⟨o, h1, h2, b, h3, h4⟩, h5⟩ := s.own (p, exO C R) List.mem_cons_self
  refine h b h3 σ H ⟨l, I, ?_, t⟩
  refine ⟨s.sub, fun q hq => ?_, s.nd, s.keep, s.ii, s.fr, fun q hq => ?_, s.tab, s.dmk, s.nt⟩
  · rcases List.mem_cons.mp hq with e | hq
    · rw [e]; exact ⟨⟨o, h1, h2, h4⟩, h5⟩
    · exact s.own q (List.mem_cons_of_mem _ hq)
  · rcases List.mem_cons.mp hq with e | hq
    · rw [e]; exact s.fm (p, exO C R) List.mem_cons_self
    · exact s.fm q (List.mem_cons_of_mem _ hq)
/-- a slot's value is of a family -/
theorem js_openS {β : Type} {C : β → Prop} {R : β → Pr} {i : Nat} (hi : Γ[i]? = some (some (ExV C R))) (h : ∀ b, C b → JS X (Tp N M (Γ.set i (some (R b)))) rest D) : JS X (Tp N M Γ) rest D := fun σ H ⟨l, I, s, t⟩ => by
  obtain ⟨v, h1, b, h2, h3⟩ := t i _ hi
  exact h b h2 σ H ⟨by rw [List.length_set]; exact l, I, s, t.put h1 h3⟩
/-- ints at an int's place -/
theorem je_exI {C : Int → Prop} {i : Int} (h : JE X N rq Γ a (IntV i)) (hc : C i) : JE X N rq Γ a (ExV C IntV) := h.conv fun v I p => ⟨i, hc, p⟩
end
end QL
namespace QD
open PySem PySem.Spec PyProof.Rows L2 QL
def caseD (b : BoxD) : PyData := .list [.int b.lo, .int b.hi, .int b.rest, .str b.sees]
def lineD (l : Line) : PyData := .list [.list (l.boxes.map caseD), .list (l.links.map linkD)]
def talkD (t : Tk) : PyData := .list [.list (t.out.map PyData.int), .list (t.back.map PyData.int), .int t.los]
def someL (l : Line) (b : Nat) (x : Let) : List (Int × Int) := if x.1 = true then l.links.take (b + 1) else l.links.drop (b + 1)
theorem delay_some (l : Line) (b : Nat) (x : Let) : delay l b x = sums (someL l b x) := by
  unfold delay someL
  cases x.1 <;> rfl
def spanD (w : Int × Int) : PyData := .list [.int w.1, .int w.2]
def run (xs : List Let) (d : Bool) : Nat → Nat
  | 0 => 0
  | k + 1 => if decide ((d, k) ∈ xs) = true then run xs d k + 1 else 0
def timesD (t : Tk) (d : Bool) : List Int := if d = true then t.out else t.back
def runsOk (t : Tk) (xs : List Let) (d : Bool) : Bool := (List.range (timesD t d).length).all fun k => decide (run xs d (k + 1) ≤ t.los)
def canLose (t : Tk) (xs : List Let) : Bool := runsOk t xs true && runsOk t xs false
theorem run_ge {xs : List Let} {d : Bool} : ∀ {k m : Nat}, m ≤ run xs d k → m ≤ k ∧ ∀ j, j < m → (d, k - 1 - j) ∈ xs
  | 0, m, h => ⟨h, fun j hj => by have : m = 0 := by simpa [run] using h
                                  omega⟩
  | k + 1, 0, _ => ⟨Nat.zero_le _, fun j hj => by omega⟩
  | k + 1, m + 1, h => by
    unfold run at h
    split at h
    · rename_i hk
      obtain ⟨h1, h2⟩ := run_ge (xs := xs) (d := d) (k := k) (m := m) (by omega)
      refine ⟨by omega, fun j hj => ?_⟩
      cases j with
      | zero => exact of_decide_eq_true hk
      | succ j =>
        have := h2 j (by omega)
        rw [show k + 1 - 1 - (j + 1) = k - 1 - j by omega]
        exact this
    · omega
theorem run_le {xs : List Let} {d : Bool} {i : Nat} : ∀ {m : Nat}, (∀ j, j < m → (d, i + j) ∈ xs) → m ≤ run xs d (i + m)
  | 0, _ => Nat.zero_le _
  | m + 1, h => by
    have ih := run_le (i := i) (m := m) fun j hj => h j (by omega)
    have hm := h m (by omega)
    rw [show i + (m + 1) = (i + m) + 1 by omega]
    unfold run
    rw [if_pos (decide_eq_true hm)]
    omega
theorem can_eq {t : Tk} {xs : List Let} (hx : ∀ x ∈ xs, x ∈ letters t) : canLose t xs = cbl t xs := by
  have key : canLose t xs = false ↔ cbl t xs = false := by
    constructor
    · intro h
      unfold canLose at h
      have : ∃ d, runsOk t xs d = false := by
        cases h1 : runsOk t xs true with
        | false => exact ⟨true, h1⟩
        | true => rw [h1] at h; exact ⟨false, by simpa using h⟩
      obtain ⟨d, hd⟩ := this
      unfold runsOk at hd
      rw [List.all_eq_false] at hd
      obtain ⟨k, hk, hr⟩ := hd
      have hr' : t.los + 1 ≤ run xs d (k + 1) := by
        have : ¬ run xs d (k + 1) ≤ t.los := fun z => hr (decide_eq_true z)
        omega
      obtain ⟨h1, h2⟩ := run_ge hr'
      unfold cbl
      have : (xs.any fun x => (List.range (t.los + 1)).all fun k => decide ((x.1, x.2 + k) ∈ xs)) = true := by
        refine List.any_eq_true.mpr ⟨(d, k - t.los), ?_, List.all_eq_true.mpr fun j hj => decide_eq_true ?_⟩
        · have := h2 t.los (by omega)
          rw [show k + 1 - 1 - t.los = k - t.los by omega] at this
          exact this
        · have hj : j < t.los + 1 := by simpa using hj
          have := h2 (t.los - j) (by omega)
          rw [show k + 1 - 1 - (t.los - j) = k - t.los + j by omega] at this
          exact this
      rw [this]; rfl
    · intro h
      unfold cbl at h
      have h : (xs.any fun x => (List.range (t.los + 1)).all fun k => decide ((x.1, x.2 + k) ∈ xs)) = true := by simpa using h
      obtain ⟨z, hz, ha⟩ := List.any_eq_true.mp h
      have ha : ∀ j, j < t.los + 1 → (z.1, z.2 + j) ∈ xs := fun j hj => of_decide_eq_true (List.all_eq_true.mp ha j (by simpa using hj))
      have hr := run_le (i := z.2) (m := t.los + 1) ha
      have last := mem_letters.mp (hx _ (ha t.los (by omega)))
      have bad : runsOk t xs z.1 = false := by
        unfold runsOk
        rw [List.all_eq_false]
        refine ⟨z.2 + t.los, ?_, fun q => ?_⟩
        · rw [List.mem_range]
          exact last
        · have := of_decide_eq_true q
          rw [show z.2 + t.los + 1 = z.2 + (t.los + 1) by omega] at this
          omega
      unfold canLose
      cases hz1 : z.1 with
      | true => rw [hz1] at bad; rw [bad]; rfl
      | false => rw [hz1] at bad; rw [bad]; simp
  cases h1 : canLose t xs with
  | false => exact (key.mp h1).symm
  | true =>
    cases h2 : cbl t xs with
    | true => rfl
    | false => rw [key.mpr h2] at h1; cases h1
def goneD : Option (List Let) → PyData
  | none => .none
  | some xs => .list (xs.map letD)
end QD
namespace QD
open PySem PySem.Spec PyProof.Rows L2 QL
theorem some_len {l : Line} (hl : LineOk l) (b : Nat) (x : Let) : (someL l b x).length ≤ 5 := by
  have h1 := hl.ln
  have h2 := hl.n4
  unfold someL
  split
  · rw [List.length_take]; omega
  · rw [List.length_drop]; omega
theorem some_eq (l : Line) (b : Nat) (x : Let) : DatV (if decide (dirS x.1 = ("out" : Str)) = true then .list ((l.links.take (b + 1)).map linkD) else .list ((l.links.drop (b + 1)).map linkD)) = DatV (.list ((someL l b x).map linkD)) := by
  rw [dir_out]
  unfold someL
  cases x.1 <;> rfl
theorem times_le {t : Tk} (ht : TkOk t) (d : Bool) : (timesD t d).length ≤ 7 := by
  cases d
  · exact ht.b7
  · exact ht.o7
end QD
namespace QD
open PySem PySem.Spec PyProof.Rows L2 QL
theorem talk_ix (t : Tk) (d : Bool) : atI [PyData.list (t.out.map PyData.int), .list (t.back.map PyData.int), .int t.los] (if decide (dirS d = ("out" : Str)) = true then 0 else 1) = some (.list ((timesD t d).map PyData.int)) := by
  have := dir_out (d, 0)
  have e : decide (dirS d = ("out" : Str)) = d := this
  rw [e]
  cases d <;> rfl
theorem range_at {n z : Nat} {d p : List Nat} (h : List.range n = d ++ z :: p) : z = d.length := by
  have h1 : (List.range n)[d.length]? = some z := by rw [h, List.getElem?_append_right (Nat.le_refl _), Nat.sub_self]; rfl
  have lt : d.length < n := by
    have := congrArg List.length h
    rw [List.length_range, List.length_append, List.length_cons] at this
    omega
  rw [List.getElem?_range lt] at h1
  exact (Option.some.inj h1).symm
theorem run_step {xs : List Let} {d : Bool} {n z : Nat} {dn p : List Nat} (h : List.range n = dn ++ z :: p) : (if decide ((d, z) ∈ xs) = true then ((run xs d dn.length : Nat) : Int) + 1 else 0) = ((run xs d (dn.length + 1) : Nat) : Int) := by
  rw [range_at h]
  rw [show run xs d (dn.length + 1) = if decide ((d, dn.length) ∈ xs) = true then run xs d dn.length + 1 else 0 from rfl]
  split <;> simp
theorem runs_done {t : Tk} {xs : List Let} {d : Bool} (h : ∀ k ∈ List.range (timesD t d).length, run xs d (k + 1) ≤ t.los) : runsOk t xs d = true := List.all_eq_true.mpr fun k hk => decide_eq_true (h k hk)
theorem can_true {t : Tk} {xs : List Let} (h : ∀ d ∈ [true, false], runsOk t xs d = true) : canLose t xs = true := by
  unfold canLose
  rw [h true (by simp), h false (by simp)]; rfl
theorem can_false {t : Tk} {xs : List Let} {d : Bool} {z : Nat} {dn p : List Nat} (hz : List.range (timesD t d).length = dn ++ z :: p) (h : decide (((t.los : Nat) : Int) < ((run xs d (dn.length + 1) : Nat) : Int)) = true) : canLose t xs = false := by
  have e := range_at hz
  have hm : z ∈ List.range (timesD t d).length := by rw [hz]; simp
  have h := of_decide_eq_true h
  have bad : runsOk t xs d = false := by
    unfold runsOk
    rw [List.all_eq_false]
    refine ⟨z, hm, fun q => ?_⟩
    have := of_decide_eq_true q
    rw [e] at this
    omega
  unfold canLose
  cases d <;> rw [bad] <;> simp
theorem run_small {t : Tk} {xs : List Let} {d : Bool} {n z : Nat} {dn p : List Nat} (hz : List.range n = dn ++ z :: p) (h : decide (((t.los : Nat) : Int) < ((run xs d (dn.length + 1) : Nat) : Int)) = false) : run xs d (z + 1) ≤ t.los := by
  rw [range_at hz]
  have := of_decide_eq_false h
  omega
end QD
namespace QD
open PySem PySem.Spec PyProof.Rows L2 QL
def betA (l : Line) (b : Nat) (x y z : Let) : Bool := (!decide (z = x ∨ z = y)) && sight l b z
def betB (l : Line) (t : Tk) (b : Nat) (x y z : Let) : Bool := decide ((win l t b x).1 < (win l t b z).1) && decide ((win l t b z).2 < (win l t b y).2)
def betw (l : Line) (t : Tk) (b : Nat) (x y z : Let) : Bool := betA l b x y z && betB l t b x y z
section
variable {l : Line} {t : Tk} {b : Nat} {x y z : Let}
theorem betw1 (h : betA l b x y z = true) (h' : betB l t b x y z = true) : [z].filter (betw l t b x y) = [z] := by
  rw [List.filter_cons, show betw l t b x y z = true by unfold betw; rw [h, h']; rfl]; rfl
theorem betw0a (h : betA l b x y z = false) : [z].filter (betw l t b x y) = [] := by
  rw [List.filter_cons, show betw l t b x y z = false by unfold betw; rw [h]; rfl]; rfl
theorem betw0b (h' : betB l t b x y z = false) : [z].filter (betw l t b x y) = [] := by
  rw [List.filter_cons, show betw l t b x y z = false by unfold betw; rw [h']; simp]; rfl
theorem betw_eq : (letters t).filter (betw l t b x y) = betweenL l t b x y := by
  unfold betweenL insideL
  rw [List.filter_filter]
  rfl
theorem betw_len (ht : TkOk t) {d p : List Let} (h : letters t = d ++ z :: p) : (d.filter (betw l t b x y)).length ≤ 1000 := by
  have a1 := List.length_filter_le (betw l t b x y) d
  have a3 := letters_len ht
  rw [h, List.length_append] at a3
  omega
theorem gone_none (hxy : x ≠ y) (h : (decide ((win l t b y).2 ≤ (win l t b x).1) || !sight l b x) = true) : lostIn l t b x y = none := by
  refine lost_none ?_
  unfold noGap
  rw [decide_eq_false hxy, Bool.false_or, Bool.or_comm]
  exact h
theorem gone_some (hxy : x ≠ y) (h : (decide ((win l t b y).2 ≤ (win l t b x).1) || !sight l b x) = false) :
    DatV (if canLose t ((letters t).filter (betw l t b x y)) = true then .list (((letters t).filter (betw l t b x y)).map letD) else .none) = DatV (goneD (lostIn l t b x y)) := by
  have hn : noGap l t b x y = false := by
    unfold noGap
    rw [decide_eq_false hxy, Bool.false_or, Bool.or_comm]
    exact h
  have hm : ∀ w ∈ (letters t).filter (betw l t b x y), w ∈ letters t := fun w hw => (List.mem_filter.mp hw).1
  rw [can_eq hm, betw_eq]
  have e : lostIn l t b x y = if cbl t (betweenL l t b x y) = true then some (betweenL l t b x y) else none := if_neg (by rw [hn]; decide)
  rw [e]
  split <;> rfl
end
end QD
namespace QL
open PySem PySem.Spec PyProof.Rows L2
theorem jgr_tup2L {K : PySem.W.Frag} {i j : Nat} {d d' : PyData} : JGr (gLst K 2 (gCons (gName i) (gCons (gName j) gNil))) (DatV (.list [d, d'])) [(i, DatV d), (j, DatV d')] := fun I H σ v Q sm p q => by
  cases (show Dt I v (.list [d, d']) from p) with
  | lst h1 h2 =>
    cases h2 with
    | cons a h2 =>
      cases h2 with
      | cons b h2 =>
        cases h2
        exact ⟨_, [_, _], rfl, SqL.of (sm _ _ h1), rfl, _, [_], rfl, _, [], rfl, rfl, q [_, _] ⟨a, b, True.intro⟩⟩
theorem qg_lst2 {X : Cx} {pos : Pos} {i j : Nat} {x y : Str} {p1 p2 : Pos} {k : Nat} (hc : X.calm = true) (hN : X.N.Nodup) (n : Nm X x i) (m : Nm X y j) : PG X (.Tuple [.Name x p1, .Name y p2] k pos) (gLst X.K 2 (gCons (gName i) (gCons (gName j) gNil))) :=
  pg_lst hc (pgs_cons (qg_name hN n) (pgs_cons (qg_name hN m) pgs_nil))
end QL
namespace QD
open PySem PySem.Spec PyProof.Rows L2 QL
section
variable {l : Line} {t : Tk} {b : Nat} {x y z : Let}
theorem lost_self : (lostIn l t b x x).isSome = false := by
  rw [lost_none (by unfold noGap; simp)]; rfl
theorem gone_is {k : Bool} (h : (!decide (x = y) && !(!(lostIn l t b x y).isSome)) = k) : (lostIn l t b x y).isSome = k := by
  rw [← h]
  by_cases e : x = y
  · subst e; rw [lost_self]; simp
  · simp [e]
theorem goneD_none (o : Option (List Let)) : (match goneD o with | .none => true | _ => false) = !o.isSome := by cases o <;> rfl
theorem pair_pos {p : Pair} (h : p ∈ pairsOf l t b) : 0 < p.1 := by
  unfold pairsOf at h
  obtain ⟨x, hx, h⟩ := List.mem_flatMap.mp h
  obtain ⟨y, hy, h⟩ := List.mem_filterMap.mp h
  unfold pair1 at h
  split at h
  · rename_i hs
    cases h
    have hn : noGap l t b x y = false := by
      cases q : noGap l t b x y with
      | false => rfl
      | true => rw [lost_none q] at hs; cases hs
    unfold noGap at hn
    have : decide ((win l t b y).2 ≤ (win l t b x).1) = false := by
      cases q : decide ((win l t b y).2 ≤ (win l t b x).1) with
      | false => rfl
      | true => rw [q] at hn; simp at hn
    have := of_decide_eq_false this
    show 0 < (win l t b y).2 - (win l t b x).1
    omega
  · cases h
theorem gap_max : gapOf l t b ∈ (0 : Int) :: (pairsOf l t b).map (·.1) ∧ ∀ v ∈ (0 : Int) :: (pairsOf l t b).map (·.1), v ≤ gapOf l t b := by
  have h := mxD_is ((pairsOf l t b).map (·.1)) 0
  have e : mxD ((pairsOf l t b).map (·.1)) 0 = gapOf l t b := rfl
  rw [e] at h
  rcases h with ⟨h1, h2⟩ | ⟨h1, h2⟩
  · rw [h1, h2]
    exact ⟨List.mem_cons_self, fun v hv => by rw [List.mem_singleton.mp hv]; exact Int.le_refl _⟩
  · refine ⟨List.mem_cons_of_mem _ h1, fun v hv => ?_⟩
    rcases List.mem_cons.mp hv with e | hv
    · obtain ⟨p, hp, e2⟩ := List.mem_map.mp h1
      have := pair_pos hp
      rw [e, ← e2]; omega
    · exact h2 v hv
end
end QD
namespace QD
theorem ne_of_nd {x y : Let} (h : (!decide (x = y)) = true) : x ≠ y := fun e => by rw [decide_eq_true e] at h; cases h
end QD

/-! text QL14 -/
set_option Elab.async false
set_option linter.all false
set_option maxRecDepth 100000
set_option maxHeartbeats 4000000
/-! QL14: what is drawn: values of a family. -/
namespace QL
open PySem PySem.Spec PyProof.Rows L2
theorem FnOk.union {P : Program} {w : World} {K : PySem.W.Frag} {mg : Str → Option Value} {base : Heap} {CX : CXT} {k : Nat} {f : Addr} {fd : FuncData} {ps : List Str} {β : Type} {C : β → Prop} {sp : β → Sp} (h : ∀ b, C b → FnOk P w K mg base CX k f fd ps (sp b)) :
    FnOk P w K mg base CX k f fd ps (fun vs H Q E => ∃ b, C b ∧ sp b vs H Q E) :=
  ⟨fun vs H Q E ⟨b, hb, q⟩ => (h b hb).len vs H Q E q, fun A outer s H args us vs Q E hr he hbd hv ⟨b, hb, q⟩ => (h b hb).run A outer s H args us vs Q E hr he hbd hv q⟩
section
variable {X : Cx} {N : Ent} {M rq : OwnM} {Γ : Ctx} {a b c e : Expr} {es : List Expr} {P R R' : Pr} {pos p2 : Pos} {rest : List Stmt} {D : L2.Ends} {k : Nat} {ow : OwnM}
/-- a call by a promise of a family -/
theorem je_callU {β : Type} {C : β → Prop} {x : Str} {ps' : List Pr} {pf : β → List Pr} {Rf : β → Pr} {owf : β → OwnM} (F : Fd X.prog X.w X.K X.mg X.base x k (fun vs H Q E => ∃ b, C b ∧ FSp (owf b) (pf b) (Rf b) (owf b) vs H Q E)) (hr : Room k X.A) (ha : JA X N rq Γ (e :: es) ps')
    (hp : ∀ vs I, TyL ps' vs I → ∃ b, C b ∧ owf b = ow ∧ TyL (pf b) vs I ∧ ∀ v I', (Rf b).p v I' → R.p v I') (hw : Has ow rq) (nd : (ow.map (·.1)).Nodup) (hg : Gl X x) (hdb : (x == ("__debug__" : Str)) = false) (A : Ar X e es pos) : JE X N rq Γ (.Call (.Name x p2) (e :: es) [] pos) R := by
  obtain ⟨f, fd, pn, F, hm, hk, hb⟩ := F
  exact fun M I H σ Q hM s t q => we_of (pe_call F hr hg hm hk hb .nil passF wa_pa hdb A.he A.hpl) (ha M I H σ _ hM s t fun vs I1 H1 s1 e1 p => by
    rw [List.append_nil]
    obtain ⟨b, hb1, rfl, hb2, hb3⟩ := hp vs I1 p
    exact ⟨b, hb1, I1, s1.enter (fun q hq => hM q (hw q hq)) nd, hb2, fun v I' H' s' r => by
      obtain ⟨s2, e2⟩ := s1.back (fun q hq => hM q (hw q hq)) s'
      exact q v I' H' s2 (e1.trans e2) (hb3 v I' r)⟩)
/-- one of a list's items -/
theorem je_ixE {ds : List PyData} (ha : JE X N rq Γ a (DatV (.list ds))) (hb : JE X N rq Γ b (ExV (fun d : Int => 0 ≤ d ∧ d < ds.length) IntV)) (hs : PlainIx b) : JE X N rq Γ (.Subscript a b pos) (ExV (fun d => d ∈ ds) DatV) := fun M I H σ Q hm s t q =>
  we_of (pe_ix ix_seq we_pe we_pe hs) (je_bin ha hb hm s t fun x y I' H' s' e' p p' => by
    obtain ⟨i, ⟨hi0, hi1⟩, py⟩ := p'
    obtain ⟨j, rfl⟩ : ∃ j : Nat, i = (j : Int) := ⟨i.toNat, by omega⟩
    have lt : j < ds.length := by omega
    have he : atI ds (j : Int) = some ds[j] := atI_nat (List.getElem?_eq_getElem lt)
    cases (show Dt I' x (.list ds) from p) with
    | lst h1 h2 =>
      obtain ⟨v, h3, h4⟩ := h2.at he
      exact .inl ⟨_, _, j, v, rfl, py.int_inv, SqL.of (s'.sub _ _ h1), h3, q v I' H' s' e' ⟨ds[j], List.getElem_mem lt, h4⟩⟩)
theorem je_addE {C : Int → Prop} {i : Int} (ha : JE X N rq Γ a (IntV i)) (hb : JE X N rq Γ b (ExV C IntV)) : JE X N rq Γ (.BinOp a .Add b pos) (ExV (fun s : Int => ∃ d, C d ∧ s = i + d) IntV) :=
  je_op op_add ha hb fun M I H x y Q s p p' q => by
    obtain ⟨d, hd, py⟩ := p'
    exact ⟨i, d, p.int_inv, py.int_inv, q _ I H s (Same.refl _) ⟨i + d, ⟨d, hd, rfl⟩, .int _⟩⟩
theorem JE.ex {β : Type} {C : β → Prop} {Rf : β → Pr} {z : β} (h : JE X N rq Γ e (Rf z)) (hc : C z) : JE X N rq Γ e (ExV C Rf) := h.conv fun v I p => ⟨z, hc, p⟩
theorem TyL.fam {α β : Type} {C : β → Prop} {Rf : β → Pr} {I : Hp} : ∀ {zs : List α} {vs : List V}, TyL (zs.map fun _ => ExV C Rf) vs I → ∃ bs : List β, bs.length = zs.length ∧ (∀ b ∈ bs, C b) ∧ TyL (bs.map Rf) vs I
  | [], [], _ => ⟨[], rfl, (fun _ h => by cases h), True.intro⟩
  | _ :: zs, v :: vs, h => by
    obtain ⟨⟨b, hb, hp⟩, h2⟩ := h
    obtain ⟨bs, l, c, t⟩ := TyL.fam (zs := zs) h2
    exact ⟨b :: bs, congrArg Nat.succ l, fun x hx => by
      rcases List.mem_cons.mp hx with e | hx
      · rw [e]; exact hb
      · exact c x hx, hp, t⟩
  | [], _ :: _, h => h.elim
  | _ :: _, [], h => h.elim
theorem TyL.split : ∀ {ps qs : List Pr} {vs : List V} {I : Hp}, TyL (ps ++ qs) vs I → ∃ us ws, vs = us ++ ws ∧ TyL ps us I ∧ TyL qs ws I
  | [], qs, vs, I, h => ⟨[], vs, rfl, True.intro, h⟩
  | P :: ps, qs, v :: vs, I, h => by
    obtain ⟨us, ws, e, h1, h2⟩ := TyL.split (ps := ps) h.2
    exact ⟨v :: us, ws, by rw [e]; rfl, ⟨h.1, h1⟩, h2⟩
  | P :: ps, qs, [], I, h => h.elim
/-- what was appended is of a family -/
theorem js_openL {β : Type} {C : β → Prop} {Rf : β → Pr} {p : Addr} {ps : List Pr} (h : ∀ b, C b → JS X (Tp N ((p, lstO (ps ++ [Rf b])) :: M) Γ) rest D) : JS X (Tp N ((p, lstO (ps ++ [ExV C Rf])) :: M) Γ) rest D := fun σ H ⟨l, I, s, t⟩ => by
  obtain ⟨⟨o, h1, h2, xs, rfl, h3⟩, h5⟩ := s.own (p, lstO (ps ++ [ExV C Rf])) List.mem_cons_self
  obtain ⟨us, ws, rfl, t1, t2⟩ := h3.split
  obtain ⟨v, rfl, b, hb, hv⟩ := ty1 t2
  refine h b hb σ H ⟨l, I, ?_, t⟩
  refine ⟨s.sub, fun q hq => ?_, s.nd, s.keep, s.ii, s.fr, fun q hq => ?_, s.tab, s.dmk, s.nt⟩
  · rcases List.mem_cons.mp hq with e | hq
    · rw [e]; exact ⟨⟨.lst (us ++ [v]), h1, h2, us ++ [v], rfl, t1.app (TyL.one hv)⟩, h5⟩
    · exact s.own q (List.mem_cons_of_mem _ hq)
  · rcases List.mem_cons.mp hq with e | hq
    · rw [e]; exact s.fm (p, lstO (ps ++ [ExV C Rf])) List.mem_cons_self
    · exact s.fm q (List.mem_cons_of_mem _ hq)
/-- a block's end, what is ours told less -/
theorem js_endO {p : Addr} {φ φ' : OwnP} {Γ' : Ctx} {r : L2.VK} {ct bk : St → Hp → Prop} (k : ∀ o I, φ.p o I → φ'.p o I) (w : Wk Γ' Γ) : JS X (Tp N ((p, φ) :: M) Γ) [] { nx := Tp N ((p, φ') :: M) Γ', rt := r, bk := bk, ct := ct } :=
  js_nil fun σ H ⟨l, I, s, t⟩ => ⟨l.trans w.len.symm, I, s.reown fun o => k o I, w.ty t⟩
theorem has1 {q : Addr × OwnP} {M : OwnM} (h : q ∈ M) : Has [q] M := fun r hr => by rw [List.mem_singleton.mp hr]; exact h
theorem nd1 {q : Addr × OwnP} : ([q].map (·.1)).Nodup := List.nodup_cons.mpr ⟨fun h => (by cases h), List.nodup_nil⟩
end
end QL
namespace QD
open PySem PySem.Spec PyProof.Rows L2 QL
/-- the law's source -/
abbrev srcA (c : List Int) (i : Nat) (a e : Int) : OwnP := lstO [DatV (.list (c.map PyData.int)), IntV (i : Int), IntV a, IntV e]
def srcO : OwnP := exO (fun _ : List Int × Nat × Int × Int => True) (fun q => srcA q.1 q.2.1 q.2.2.1 q.2.2.2)
theorem srcI {c : List Int} {i : Nat} {a e : Int} : ∀ (o : HO) (I : Hp), (srcA c i a e).p o I → srcO.p o I := fun o I h => ⟨(c, i, a, e), True.intro, h⟩
abbrev Drawn (n : Int) : Pr := ExV (fun d : Int => 0 ≤ d ∧ d < n) IntV
structure BoxOk (b : BoxD) : Prop where
  b1 : 1 ≤ b.lo
  b2 : b.lo ≤ b.hi
  b3 : b.hi ≤ 10000
  b4 : 0 ≤ b.rest
  b5 : b.rest ≤ 10000
  b6 : b.sees = "out" ∨ b.sees = "both"
theorem cell_at {c : List Int} {i : Nat} {k : Bool} (h : (decide (((i : Nat) : Int) < ((c.map PyData.int).length : Nat))) = true) : atI (c.map PyData.int) (i : Int) = some (.int (c.getD i 0)) := by
  have h := of_decide_eq_true h
  rw [List.length_map] at h
  have lt : i < c.length := by omega
  refine atI_map ?_
  rw [List.getD_eq_getElem?_getD, List.getElem?_eq_getElem lt]; rfl
end QD
namespace QL
open PySem PySem.Spec PyProof.Rows L2
theorem FnOk.union' {P : Program} {w : World} {K : PySem.W.Frag} {mg : Str → Option Value} {base : Heap} {CX : CXT} {k : Nat} {f : Addr} {fd : FuncData} {ps : List Str} {β : Type} {sp : β → Sp} (h : ∀ b, FnOk P w K mg base CX k f fd ps (sp b)) :
    FnOk P w K mg base CX k f fd ps (fun vs H Q E => ∃ b, sp b vs H Q E) :=
  ⟨fun vs H Q E ⟨b, q⟩ => (h b).len vs H Q E q, fun A outer s H args us vs Q E hr he hbd hv ⟨b, q⟩ => (h b).run A outer s H args us vs Q E hr he hbd hv q⟩
end QL
namespace QD
open PySem PySem.Spec PyProof.Rows L2 QL
def DrawSp : Sp := fun vs H Q E => ∃ q : Addr × Int, (0 < q.2 ∧ q.2 < 1073741824) ∧ FSp [(q.1, srcO)] [EqV (.ref q.1), IntV q.2] (Drawn q.2) [(q.1, srcO)] vs H Q E
section
variable {X : Cx} {N : Ent} {rq : OwnM} {Γ : QL.Ctx} {a b : Expr} {pos p2 : Pos} {p : Addr}
theorem je_draw {n : Int} (F : Fd X.prog X.w X.K X.mg X.base "_law_draw" 1 DrawSp) (hr : Room 1 X.A) (ha : JA X N rq Γ [a, b] [EqV (.ref p), IntV n]) (hn : 0 < n ∧ n < 1073741824) (hm : (p, srcO) ∈ rq) (hg : Gl X "_law_draw") (A : Ar X a [b] pos) : JE X N rq Γ (.Call (.Name "_law_draw" p2) [a, b] [] pos) (Drawn n) :=
  je_callU (C := fun q : Addr × Int => 0 < q.2 ∧ q.2 < 1073741824) (owf := fun q => [(q.1, srcO)]) (pf := fun q => [EqV (.ref q.1), IntV q.2]) (Rf := fun q => Drawn q.2) F hr ha (fun vs I t => ⟨(p, n), hn, rfl, t, fun _ _ h => h⟩) (has1 hm) nd1 hg rfl A
theorem je_drawE {ds : List PyData} {B : Int} (F : Fd X.prog X.w X.K X.mg X.base "_law_draw" 1 DrawSp) (hr : Room 1 X.A) (ha : JA X N rq Γ [a, b] [EqV (.ref p), ExV (fun d => d ∈ ds) DatV]) (hn : ∀ d ∈ ds, ∃ n, d = .int n ∧ 0 < n ∧ n ≤ B) (hB : B < 1073741824) (hm : (p, srcO) ∈ rq) (hg : Gl X "_law_draw") (A : Ar X a [b] pos) : JE X N rq Γ (.Call (.Name "_law_draw" p2) [a, b] [] pos) (Drawn B) :=
  je_callU (C := fun q : Addr × Int => 0 < q.2 ∧ q.2 < 1073741824) (owf := fun q => [(q.1, srcO)]) (pf := fun q => [EqV (.ref q.1), IntV q.2]) (Rf := fun q => Drawn q.2) F hr ha (fun vs I t => by
    obtain ⟨v, w, rfl, h1, d, hd, h2⟩ := ty2 t
    obtain ⟨n, rfl, n0, n1⟩ := hn d hd
    exact ⟨(p, n), ⟨n0, Int.lt_of_le_of_lt n1 hB⟩, rfl, ⟨h1, h2, True.intro⟩, fun v I' ⟨i, ⟨i0, i1⟩, hi⟩ => ⟨i, ⟨i0, Int.lt_of_lt_of_le i1 n1⟩, hi⟩⟩) (has1 hm) nd1 hg rfl A
end
abbrev Case : Pr := ExV BoxOk fun bx => DatV (caseD bx)
theorem case_of {lo hi : Int} {v : V} {I : Hp} (h1 : ∃ d, (0 ≤ d ∧ d < 200) ∧ lo = 1 + d) (h2 : ∃ d, (0 ≤ d ∧ d < 90) ∧ hi = lo + d) (h : (LiV [IntV lo, IntV hi, Drawn 20, ExV (fun d => d ∈ [PyData.str "out", .str "both"]) DatV]).p v I) : Case.p v I := by
  obtain ⟨d1, ⟨a1, a2⟩, rfl⟩ := h1
  obtain ⟨d2, ⟨b1, b2⟩, rfl⟩ := h2
  obtain ⟨a, xs, rfl, h3, h4⟩ := h
  match xs, h4 with
  | [x1, x2, x3, x4], ⟨g1, g2, ⟨r, ⟨r0, r1⟩, g3⟩, ⟨d, hd, g4⟩, _⟩ =>
    rcases List.mem_cons.mp hd with e | hd
    · subst e
      exact ⟨⟨1 + d1, 1 + d1 + d2, r, "out"⟩, ⟨by show 1 ≤ 1 + d1; omega, by show 1 + d1 ≤ 1 + d1 + d2; omega, by show 1 + d1 + d2 ≤ 10000; omega, r0, by show r ≤ 10000; omega, .inl rfl⟩, Dt.lst h3 (.cons g1 (.cons g2 (.cons g3 (.cons g4 .nil))))⟩
    · rw [List.mem_singleton] at hd
      subst hd
      exact ⟨⟨1 + d1, 1 + d1 + d2, r, "both"⟩, ⟨by show 1 ≤ 1 + d1; omega, by show 1 + d1 ≤ 1 + d1 + d2; omega, by show 1 + d1 + d2 ≤ 10000; omega, r0, by show r ≤ 10000; omega, .inr rfl⟩, Dt.lst h3 (.cons g1 (.cons g2 (.cons g3 (.cons g4 .nil))))⟩
abbrev StepOk (s : Int × Int) : Prop := 0 ≤ s.1 ∧ s.1 ≤ s.2 ∧ s.2 ≤ 1000
abbrev StepV : Pr := ExV StepOk fun s => DatV (linkD s)
theorem step_of {least : Int} {v : V} {I : Hp} (h1 : 0 ≤ least ∧ least < 4) (h : (TuV [IntV least, ExV (fun s : Int => ∃ d, (0 ≤ d ∧ d < 5) ∧ s = least + d) IntV]).p v I) : StepV.p v I := by
  obtain ⟨a, xs, rfl, h3, h4⟩ := h
  obtain ⟨x1, x2, rfl, g1, s, ⟨d, ⟨d0, d1⟩, rfl⟩, g2⟩ := ty2 h4
  exact ⟨(least, least + d), ⟨h1.1, by show least ≤ least + d; omega, by show least + d ≤ 1000; omega⟩, Dt.tup h3 (.cons g1 (.cons g2 .nil))⟩
abbrev LineV : Pr := ExV LineOk fun l => DatV (lineD l)
theorem line_of {m : Nat} {bs : List (Int × Int)} {v : V} {I : Hp} (hm : 1 ≤ m ∧ m ≤ 4) (hl : bs.length = m + 1) (hs : ∀ s ∈ bs, StepOk s) (h : (LiV [LiV ((List.range m).map fun _ => Case), DatV (.list (bs.map linkD))]).p v I) : LineV.p v I := by
  obtain ⟨a, xs, rfl, h3, h4⟩ := h
  obtain ⟨x1, x2, rfl, ⟨r, ys, rfl, g1, g2⟩, g3⟩ := ty2 h4
  obtain ⟨bx, l1, c1, t1⟩ := TyL.fam g2
  have l1 : bx.length = m := by rw [l1, List.length_range]
  refine ⟨⟨bx, bs⟩, ⟨by show 1 ≤ bx.length; omega, by show bx.length ≤ 4; omega, by show bs.length = bx.length + 1; omega, hs, fun b hb => ?_⟩, Dt.lst h3 (.cons (Dt.lst g1 ?_) (.cons g3 .nil))⟩
  · have := c1 b hb
    exact ⟨this.b1, this.b2, this.b3, this.b4, this.b5, this.b6⟩
  · refine DtA.of (ds := bx.map caseD) ?_
    rw [List.map_map]
    exact t1
structure TimesOk (m : Nat) (ns : List Int) : Prop where
  len : ns.length = m
  asc : Asc ns
  bd : ∀ x ∈ ns, 0 ≤ x ∧ x ≤ 10000
theorem asc_snoc : ∀ {ns : List Int} {t : Int}, Asc ns → (∀ x ∈ ns, x < t) → Asc (ns ++ [t])
  | [], _, _, _ => True.intro
  | [a], t, _, h => ⟨h a List.mem_cons_self, True.intro⟩
  | a :: b :: r, t, h, h2 => ⟨h.1, asc_snoc (ns := b :: r) h.2 fun x hx => h2 x (List.mem_cons_of_mem _ hx)⟩
def TimesSp : Sp := fun vs H Q E => ∃ q : Addr × Nat, q.2 ≤ 7 ∧ FSp [(q.1, srcO)] [EqV (.ref q.1), IntV ((q.2 : Nat) : Int), IntV 6] (ExV (TimesOk q.2) fun ns => DatV (.list (ns.map PyData.int))) [(q.1, srcO)] vs H Q E
abbrev TalkOkV : Pr := ExV TkOk fun t => DatV (talkD t)
theorem talk_of {v : V} {I : Hp} (h : (LiV [ExV (fun ns : List Int => ∃ m : Nat, (1 ≤ m ∧ m ≤ 7) ∧ TimesOk m ns) fun ns => DatV (.list (ns.map PyData.int)), ExV (fun ns : List Int => ∃ m : Nat, m ≤ 7 ∧ TimesOk m ns) fun ns => DatV (.list (ns.map PyData.int)), Drawn 3]).p v I) : TalkOkV.p v I := by
  obtain ⟨a, xs, rfl, h3, h4⟩ := h
  obtain ⟨x1, x2, x3, rfl, ⟨n1, ⟨m1, ⟨a1, a2⟩, t1⟩, g1⟩, ⟨n2, ⟨m2, a3, t2⟩, g2⟩, ⟨d, ⟨d0, d1⟩, g3⟩⟩ := ty3 h4
  obtain ⟨k, rfl⟩ : ∃ k : Nat, d = (k : Int) := ⟨d.toNat, by omega⟩
  have e1 := t1.len
  have e2 := t2.len
  exact ⟨⟨n1, n2, k⟩, ⟨by show 1 ≤ n1.length; omega, by show n1.length ≤ 7; omega, by show n2.length ≤ 7; omega, t1.asc, t2.asc, t1.bd, t2.bd, by show k ≤ 2; omega⟩, Dt.lst h3 (.cons g1 (.cons g2 (.cons g3 .nil)))⟩
end QD
namespace QD
open PySem PySem.Spec PyProof.Rows L2 QL
theorem line_len {m z : Nat} {d p : List Nat} (hm : 1 ≤ m ∧ m ≤ 4) (h : List.range (m + 1) = d ++ z :: p) : d.length ≤ 1000 := by
  have := congrArg List.length h
  rw [List.length_range, List.length_append] at this
  omega
theorem times_len {m z : Nat} {d p : List Nat} (hm : m ≤ 7) (h : List.range m = d ++ z :: p) : d.length ≤ 1000 := by
  have := congrArg List.length h
  rw [List.length_range, List.length_append] at this
  omega
theorem times_step {d : List Nat} {z : Nat} {b : List Int × Int} {t : Int} (h : b.1.length = d.length ∧ Asc b.1 ∧ (∀ x ∈ b.1, 0 ≤ x ∧ x < b.2) ∧ 0 ≤ b.2 ∧ b.2 ≤ 7 + 7 * (d.length : Int)) (ht : ∃ e, (0 ≤ e ∧ e < 6) ∧ t = b.2 + 1 + e) :
    (b.1 ++ [b.2]).length = (d ++ [z]).length ∧ Asc (b.1 ++ [b.2]) ∧ (∀ x ∈ b.1 ++ [b.2], 0 ≤ x ∧ x < t) ∧ 0 ≤ t ∧ t ≤ 7 + 7 * ((d ++ [z]).length : Int) := by
  obtain ⟨h1, h2, h3, h4, h5⟩ := h
  obtain ⟨e, ⟨e0, e1⟩, rfl⟩ := ht
  refine ⟨by rw [List.length_append, List.length_append, h1]; rfl, asc_snoc h2 fun x hx => (h3 x hx).2, fun x hx => ?_, by omega, ?_⟩
  · rcases List.mem_append.mp hx with hx | hx
    · have := h3 x hx; omega
    · rw [List.mem_singleton.mp hx]; omega
  · rw [List.length_append, List.length_singleton]; push_cast; omega
theorem times_done {m : Nat} {b : List Int × Int} (hm : m ≤ 7) (h : b.1.length = (List.range m).length ∧ Asc b.1 ∧ (∀ x ∈ b.1, 0 ≤ x ∧ x < b.2) ∧ 0 ≤ b.2 ∧ b.2 ≤ 7 + 7 * ((List.range m).length : Int)) : TimesOk m b.1 := by
  obtain ⟨h1, h2, h3, h4, h5⟩ := h
  rw [List.length_range] at h1 h5
  exact ⟨h1, h2, fun x hx => by have := h3 x hx; omega⟩
theorem times_hp1 {p : Addr} (vs : List V) (I : Hp) (h : TyL [EqV (.ref p), ExV (fun s : Int => ∃ d, (0 ≤ d ∧ d < 7) ∧ s = 1 + d) IntV, IntV 6] vs I) :
    ∃ b : Addr × Nat, b.2 ≤ 7 ∧ [(b.1, srcO)] = [(p, srcO)] ∧ TyL [EqV (.ref b.1), IntV ((b.2 : Nat) : Int), IntV 6] vs I ∧ ∀ v I', (ExV (TimesOk b.2) fun ns => DatV (.list (ns.map PyData.int))).p v I' → (ExV (fun ns : List Int => ∃ m : Nat, (1 ≤ m ∧ m ≤ 7) ∧ TimesOk m ns) fun ns => DatV (.list (ns.map PyData.int))).p v I' := by
  obtain ⟨x, y, z, rfl, h1, ⟨s, ⟨d, ⟨d0, d1⟩, rfl⟩, h2⟩, h3⟩ := ty3 h
  obtain ⟨m, hm⟩ : ∃ m : Nat, (1 : Int) + d = (m : Int) := ⟨(1 + d).toNat, by omega⟩
  rw [hm] at h2
  exact ⟨(p, m), by show m ≤ 7; omega, rfl, ⟨h1, h2, h3, True.intro⟩, fun v I' ⟨ns, t, hv⟩ => ⟨ns, ⟨m, ⟨by omega, by omega⟩, t⟩, hv⟩⟩
theorem times_hp2 {p : Addr} (vs : List V) (I : Hp) (h : TyL [EqV (.ref p), Drawn (7 + 1), IntV 6] vs I) :
    ∃ b : Addr × Nat, b.2 ≤ 7 ∧ [(b.1, srcO)] = [(p, srcO)] ∧ TyL [EqV (.ref b.1), IntV ((b.2 : Nat) : Int), IntV 6] vs I ∧ ∀ v I', (ExV (TimesOk b.2) fun ns => DatV (.list (ns.map PyData.int))).p v I' → (ExV (fun ns : List Int => ∃ m : Nat, m ≤ 7 ∧ TimesOk m ns) fun ns => DatV (.list (ns.map PyData.int))).p v I' := by
  obtain ⟨x, y, z, rfl, h1, ⟨d, ⟨d0, d1⟩, h2⟩, h3⟩ := ty3 h
  obtain ⟨m, rfl⟩ : ∃ m : Nat, d = (m : Int) := ⟨d.toNat, by omega⟩
  exact ⟨(p, m), by show m ≤ 7; omega, rfl, ⟨h1, h2, h3, True.intro⟩, fun v I' ⟨ns, t, hv⟩ => ⟨ns, ⟨m, by omega, t⟩, hv⟩⟩
end QD

/-! text QL15 -/
set_option Elab.async false
set_option linter.all false
set_option maxRecDepth 100000
set_option maxHeartbeats 4000000
/-! QL15: how objects are made. -/
namespace QD
open PySem PySem.Spec PyProof.Rows L2 QL
abbrev boxF (bx : BoxD) : List (Str × Pr) := [("kept_parts", DkV [(.inr "low", .int bx.lo), (.inr "high", .int bx.hi), (.inr "rest", .int bx.rest), (.inr "sees", .str bx.sees)])]
abbrev rowF (CB : Addr) (l : Line) : List (Str × Pr) := [("kept_boxes", TuV (l.boxes.map (BoxV CB))), ("kept_links", DatV (.tuple (l.links.map linkD)))]
abbrev talkF (t : Tk) : List (Str × Pr) := [("kept_out", DatV (.tuple (t.out.map PyData.int))), ("kept_back", DatV (.tuple (t.back.map PyData.int))), ("kept_losses", IntV (t.los : Int))]
section
variable (P : Program) (w : World) (K : PySem.W.Frag) (mg : Str → Option Value) (base : Heap)
/-- boxes can be made -/
def BoxMk (CB : Addr) : Prop := ∃ (f : Addr) (fd : FuncData) (g : List Value → List Value → List Value), Mk K CB f ∧
  (∀ bx, BoxOk bx → FnOk P w K mg base (L2.CX P w) 4 f fd ["self", "low", "high", "rest", "sees"] (fun vs H Q E => ∃ self, FSp [(self, insO CB [])] (EqV (.ref self) :: [IntV bx.lo, IntV bx.hi, IntV bx.rest, StrV bx.sees]) NonV [(self, insO CB (boxF bx))] vs H Q E)) ∧
  KBn K fd ["self", "low", "high", "rest", "sees"] 3 ["rest", "sees"] g (fun vs zs => vs ++ ([] ++ zs))
def RowMk (CR CB : Addr) : Prop := ∀ l, LineOk l → Fi P w K mg base CR 5 (fun vs H Q E => ∃ self, FSp [(self, insO CR [])] (EqV (.ref self) :: [LiV (l.boxes.map (BoxV CB)), DatV (.list (l.links.map linkD))]) NonV [(self, insO CR (rowF CB l))] vs H Q E)
def TalkMk (CT : Addr) : Prop := ∀ t, TkOk t → Fi P w K mg base CT 4 (fun vs H Q E => ∃ self, FSp [(self, insO CT [])] (EqV (.ref self) :: [DatV (.list (t.out.map PyData.int)), DatV (.list (t.back.map PyData.int)), IntV (t.los : Int)]) NonV [(self, insO CT (talkF t))] vs H Q E)
end
theorem gv_ok {bx : BoxD} (self : V) (vs zs : List V) (I : Hp) (h1 : TyL [IntV bx.lo, IntV bx.hi] vs I) (h2 : TyL [IntV bx.rest, StrV bx.sees] zs I) : ∃ ws, (self :: vs) ++ ([] ++ zs) = self :: ws ∧ TyL [IntV bx.lo, IntV bx.hi, IntV bx.rest, StrV bx.sees] ws I := ⟨vs ++ zs, rfl, h1.app h2⟩
end QD

/-! text QFA -/
set_option Elab.async false
set_option linter.all false
set_option maxRecDepth 100000
set_option maxHeartbeats 4000000
/-! QFA: boxes, rows, talks. Printed by fa.py (the walks) and written by hand (the laws). -/
namespace QD
open PySem PySem.Spec PyProof.Rows L2 QL
inductive Sc : PyData → Prop
  | none : Sc .none
  | bool (b : Bool) : Sc (.bool b)
  | int (i : Int) : Sc (.int i)
  | str (x : Str) : Sc (.str x)
def isI : PyData → Bool
  | .int _ => true | _ => false
def btw (d : PyData) (lo hi : Int) : Bool := match d with
  | .int i => decide (lo ≤ i) && decide (i ≤ hi) | _ => false
section
variable {P : Program} {w : World} {K : PySem.W.Frag} {mg : Str → Option Value} {base : Heap} {CB CR CT CN CL : Addr} {f : Addr} {fd : FuncData}

theorem sc_is_integer : FnScope ["value"] ["value"] (defScope (top 15)) := ⟨rfl, rfl, rfl, by decide +kernel, rfl, by decide +kernel, by decide +kernel⟩
theorem w_is_integer0 (ft : Ft K mg CB CR CT CN CL) (F : FunD K "is_integer" "is_integer" (defArgs (top 15)) (defBody (top 15)) (defScope (top 15)) [] [] f fd) (hm : mg "is_integer" = some (.ref f))  {d : PyData} {T : String} (hT : HasTy (DatV d) T) {b1 b2 : Bool} (h1 : kitB T "int" = some b1) (h2 : b1 = true → kitB T "bool" = some b2) : Fd P w K mg base "is_integer" 1 (FSp [] [DatV d] (BlV (b1 && !b2)) []) := by
  have fr := ft.fr
  refine ⟨f, fd, ["value"], ?_, hm, F.kp, F.bindsN fun _ _ _ _ _ _ us hl => match us, hl with | [_], _ => rfl⟩
  refine fn_rule F sc_is_integer rfl fun cdv A outer s H E hr N => ?_
  have nd := sc_is_integer.nd
  exact js_ret (je_and (je_isi (je_var (i := 0) rfl rfl (vis_by rfl) rfl rfl) hT (je_ty (bi_int fr rfl)) h1 (bi_isinstance fr rfl) ⟨rfl, rfl⟩ ⟨rfl, rfl⟩) (fun hb1 => (je_and1 (je_not (je_isi (je_var (i := 0) rfl rfl (vis_by rfl) rfl rfl) hT (je_ty (bi_bool fr rfl)) (h2 hb1) (bi_isinstance fr rfl) ⟨rfl, rfl⟩ ⟨rfl, rfl⟩))))) (fun v I H s p => ⟨I, s, p⟩)

theorem w_is_integer (ft : Ft K mg CB CR CT CN CL) (F : FunD K "is_integer" "is_integer" (defArgs (top 15)) (defBody (top 15)) (defScope (top 15)) [] [] f fd) (hm : mg "is_integer" = some (.ref f)) : ∀ d, Sc d → Fd P w K mg base "is_integer" 1 (FSp [] [DatV d] (BlV (isI d)) []) := fun d hd => by
  cases hd with
  | none => exact w_is_integer0 ft F hm .non (b1 := false) (b2 := false) (by decide +kernel) (fun h => nomatch h)
  | bool b => exact w_is_integer0 ft F hm (.bl b) (b1 := true) (b2 := true) (by decide +kernel) (fun _ => by decide +kernel)
  | int i => exact w_is_integer0 ft F hm (.int i) (b1 := true) (b2 := false) (by decide +kernel) (fun _ => by decide +kernel)
  | str x => exact w_is_integer0 ft F hm (.str x) (b1 := false) (b2 := false) (by decide +kernel) (fun h => nomatch h)

theorem sc_is_between : FnScope ["value", "low", "high"] ["value", "low", "high"] (defScope (top 16)) := ⟨rfl, rfl, rfl, by decide +kernel, rfl, by decide +kernel, by decide +kernel⟩
theorem w_is_between1 (ft : Ft K mg CB CR CT CN CL) (F : FunD K "is_between" "is_between" (defArgs (top 16)) (defBody (top 16)) (defScope (top 16)) [] [] f fd) (hm : mg "is_between" = some (.ref f)) (h_is_integer : ∀ d, Sc d → Fd P w K mg base "is_integer" 1 (FSp [] [DatV d] (BlV (isI d)) [])) {i lo hi : Int} : Fd P w K mg base "is_between" 2 (FSp [] [DatV (.int i), IntV lo, IntV hi] (BlV (true && (decide (lo ≤ i) && decide (i ≤ hi)))) []) := by
  have fr := ft.fr
  refine ⟨f, fd, ["value", "low", "high"], ?_, hm, F.kp, F.bindsN fun _ _ _ _ _ _ us hl => match us, hl with | [_, _, _], _ => rfl⟩
  refine fn_rule F sc_is_between rfl fun cdv A outer s H E hr N => ?_
  have nd := sc_is_between.nd
  exact js_ret (je_and (je_call (h_is_integer (.int i) (.int i)) (hr.mono (by decide)) (ja_cons (je_var (i := 0) rfl rfl (vis_by rfl) rfl rfl) ja_nil rfl) has_nil .nil rfl rfl ⟨rfl, rfl⟩) (fun hb1 => (je_and1 (jc_chain op_le op_le rfl (je_var (i := 1) rfl rfl (vis_by rfl) rfl rfl) (je_var (i := 0) rfl rfl (vis_by rfl) rfl rfl) (je_var (i := 2) rfl rfl (vis_by rfl) rfl rfl)).1))) (fun v I H s p => ⟨I, s, p⟩)

theorem w_is_between2 (ft : Ft K mg CB CR CT CN CL) (F : FunD K "is_between" "is_between" (defArgs (top 16)) (defBody (top 16)) (defScope (top 16)) [] [] f fd) (hm : mg "is_between" = some (.ref f)) (h_is_integer : ∀ d, Sc d → Fd P w K mg base "is_integer" 1 (FSp [] [DatV d] (BlV (isI d)) [])) {d : PyData} {lo hi : Int} (hd : Sc d) (hi0 : isI d = false) : Fd P w K mg base "is_between" 2 (FSp [] [DatV d, IntV lo, IntV hi] (BlV (false && false)) []) := by
  have fr := ft.fr
  refine ⟨f, fd, ["value", "low", "high"], ?_, hm, F.kp, F.bindsN fun _ _ _ _ _ _ us hl => match us, hl with | [_, _, _], _ => rfl⟩
  refine fn_rule F sc_is_between rfl fun cdv A outer s H E hr N => ?_
  have nd := sc_is_between.nd
  exact js_ret (je_and (je_call (hi0 ▸ h_is_integer d hd) (hr.mono (by decide)) (ja_cons (je_var (i := 0) rfl rfl (vis_by rfl) rfl rfl) ja_nil rfl) has_nil .nil rfl rfl ⟨rfl, rfl⟩) (fun hb1 => (je_and1 (absurd hb1 Bool.false_ne_true : JC _ _ _ _ _ false).1))) (fun v I H s p => ⟨I, s, p⟩)

theorem w_is_between (ft : Ft K mg CB CR CT CN CL) (F : FunD K "is_between" "is_between" (defArgs (top 16)) (defBody (top 16)) (defScope (top 16)) [] [] f fd) (hm : mg "is_between" = some (.ref f)) (h_is_integer : ∀ d, Sc d → Fd P w K mg base "is_integer" 1 (FSp [] [DatV d] (BlV (isI d)) [])) : ∀ d lo hi, Sc d → Fd P w K mg base "is_between" 2 (FSp [] [DatV d, IntV lo, IntV hi] (BlV (btw d lo hi)) []) := fun d lo hi hd => by
  cases hd with
  | none => exact w_is_between2 ft F hm h_is_integer .none rfl
  | bool b => exact w_is_between2 ft F hm h_is_integer (.bool b) rfl
  | int i => exact w_is_between1 ft F hm h_is_integer
  | str x => exact w_is_between2 ft F hm h_is_integer (.str x) rfl

end
end QD

/-! text QFB -/
set_option Elab.async false
set_option linter.all false
set_option maxRecDepth 100000
set_option maxHeartbeats 4000000
/-! QFB: boxes and rows. Printed by fb.py. -/
namespace QD
open PySem PySem.Spec PyProof.Rows L2 QL
section
variable {P : Program} {w : World} {K : PySem.W.Frag} {mg : Str → Option Value} {base : Heap} {CB CR CT CN CL : Addr} {f : Addr} {fd : FuncData}

theorem in_out : (kitG "str" "str" && [PyData.str "out", PyData.str "both"].any fun z => z.eqv (.str "out")) = true := by simp [PyData.eqv, kg_ss]
theorem in_both : (kitG "str" "str" && [PyData.str "out", PyData.str "both"].any fun z => z.eqv (.str "both")) = true := by simp [PyData.eqv, kg_ss]
theorem strs_shaped : SeqAt.shaped (.tuple [.str "out", .str "both"]) = true := by decide +kernel

theorem sc_is_part_value : FnScope ["part", "value"] ["part", "value"] (defScope (top 17)) := ⟨rfl, rfl, rfl, by decide +kernel, rfl, by decide +kernel, by decide +kernel⟩
theorem w_is_part_sees_out (ft : Ft K mg CB CR CT CN CL) (F : FunD K "is_part_value" "is_part_value" (defArgs (top 17)) (defBody (top 17)) (defScope (top 17)) [] [] f fd) (hm : mg "is_part_value" = some (.ref f)) (h_is_between : ∀ d lo hi, Sc d → Fd P w K mg base "is_between" 2 (FSp [] [DatV d, IntV lo, IntV hi] (BlV (btw d lo hi)) []))  : Fd P w K mg base "is_part_value" 3 (FSp [] [StrV "sees", StrV "out"] (BlV true) []) := by
  have fr := ft.fr
  refine ⟨f, fd, ["part", "value"], ?_, hm, F.kp, F.bindsN fun _ _ _ _ _ _ us hl => match us, hl with | [_, _], _ => rfl⟩
  refine fn_rule F sc_is_part_value rfl fun cdv A outer s H E hr N => ?_
  have nd := sc_is_part_value.nd
  exact js_guard (jc_eqS (je_var (i := 0) rfl rfl (vis_by rfl) rfl rfl) je_str).2 (fun hc1 => js_ret (je_and (je_isiG (je_var (i := 1) rfl rfl (vis_by rfl) rfl rfl) (by first | exact .int _ | exact .str _ | exact .lst _ | exact .tup _ | exact .bl _ | exact .non | exact .li _ | exact .tu _) (je_ty (bi_str fr rfl)) (by decide +kernel) (bi_isinstance fr rfl) ⟨rfl, rfl⟩ ⟨rfl, rfl⟩) (fun hb2 => (je_and1 (jc_inT (units65 hr) (je_var (i := 1) rfl rfl (vis_by rfl) rfl rfl) (je_tupD (jd_cons je_str (jd_cons je_str jd_nil rfl) rfl) (Nat.le_of_ble_eq_true rfl)) (by decide +kernel) strs_shaped rfl).1))) (by exact fun v I H s p => ⟨I, s, in_out ▸ p⟩))
      (fun hc1 => absurd hc1 (by decide))

theorem w_is_part_sees_both (ft : Ft K mg CB CR CT CN CL) (F : FunD K "is_part_value" "is_part_value" (defArgs (top 17)) (defBody (top 17)) (defScope (top 17)) [] [] f fd) (hm : mg "is_part_value" = some (.ref f)) (h_is_between : ∀ d lo hi, Sc d → Fd P w K mg base "is_between" 2 (FSp [] [DatV d, IntV lo, IntV hi] (BlV (btw d lo hi)) []))  : Fd P w K mg base "is_part_value" 3 (FSp [] [StrV "sees", StrV "both"] (BlV true) []) := by
  have fr := ft.fr
  refine ⟨f, fd, ["part", "value"], ?_, hm, F.kp, F.bindsN fun _ _ _ _ _ _ us hl => match us, hl with | [_, _], _ => rfl⟩
  refine fn_rule F sc_is_part_value rfl fun cdv A outer s H E hr N => ?_
  have nd := sc_is_part_value.nd
  exact js_guard (jc_eqS (je_var (i := 0) rfl rfl (vis_by rfl) rfl rfl) je_str).2 (fun hc1 => js_ret (je_and (je_isiG (je_var (i := 1) rfl rfl (vis_by rfl) rfl rfl) (by first | exact .int _ | exact .str _ | exact .lst _ | exact .tup _ | exact .bl _ | exact .non | exact .li _ | exact .tu _) (je_ty (bi_str fr rfl)) (by decide +kernel) (bi_isinstance fr rfl) ⟨rfl, rfl⟩ ⟨rfl, rfl⟩) (fun hb2 => (je_and1 (jc_inT (units65 hr) (je_var (i := 1) rfl rfl (vis_by rfl) rfl rfl) (je_tupD (jd_cons je_str (jd_cons je_str jd_nil rfl) rfl) (Nat.le_of_ble_eq_true rfl)) (by decide +kernel) strs_shaped rfl).1))) (by exact fun v I H s p => ⟨I, s, in_both ▸ p⟩))
      (fun hc1 => absurd hc1 (by decide))

theorem w_is_part_low (ft : Ft K mg CB CR CT CN CL) (F : FunD K "is_part_value" "is_part_value" (defArgs (top 17)) (defBody (top 17)) (defScope (top 17)) [] [] f fd) (hm : mg "is_part_value" = some (.ref f)) (h_is_between : ∀ d lo hi, Sc d → Fd P w K mg base "is_between" 2 (FSp [] [DatV d, IntV lo, IntV hi] (BlV (btw d lo hi)) [])) {i : Int} : Fd P w K mg base "is_part_value" 3 (FSp [] [StrV "low", IntV i] (BlV (btw (.int i) (if decide (("low" : Str) = "rest") = true then 0 else 1) 10000)) []) := by
  have fr := ft.fr
  refine ⟨f, fd, ["part", "value"], ?_, hm, F.kp, F.bindsN fun _ _ _ _ _ _ us hl => match us, hl with | [_, _], _ => rfl⟩
  refine fn_rule F sc_is_part_value rfl fun cdv A outer s H E hr N => ?_
  have nd := sc_is_part_value.nd
  exact js_guard (jc_eqS (je_var (i := 0) rfl rfl (vis_by rfl) rfl rfl) je_str).2 (fun hc1 => absurd hc1 (by decide))
      (fun hc1 => js_ret (je_call (h_is_between _ _ _ (.int i)) (hr.mono (by decide)) (ja_cons (je_var (i := 1) rfl rfl (vis_by rfl) rfl rfl) (ja_cons (je_ifI (jc_eqS (je_var (i := 0) rfl rfl (vis_by rfl) rfl rfl) je_str).2 (fun hb2 => je_int) (fun hb2 => je_int)) (ja_cons (je_gi ft.MOST_TIME rfl rfl) ja_nil rfl) rfl) rfl) has_nil .nil rfl rfl ⟨rfl, rfl⟩) (by exact fun v I H s p => ⟨I, s, p⟩))

theorem w_is_part_high (ft : Ft K mg CB CR CT CN CL) (F : FunD K "is_part_value" "is_part_value" (defArgs (top 17)) (defBody (top 17)) (defScope (top 17)) [] [] f fd) (hm : mg "is_part_value" = some (.ref f)) (h_is_between : ∀ d lo hi, Sc d → Fd P w K mg base "is_between" 2 (FSp [] [DatV d, IntV lo, IntV hi] (BlV (btw d lo hi)) [])) {i : Int} : Fd P w K mg base "is_part_value" 3 (FSp [] [StrV "high", IntV i] (BlV (btw (.int i) (if decide (("high" : Str) = "rest") = true then 0 else 1) 10000)) []) := by
  have fr := ft.fr
  refine ⟨f, fd, ["part", "value"], ?_, hm, F.kp, F.bindsN fun _ _ _ _ _ _ us hl => match us, hl with | [_, _], _ => rfl⟩
  refine fn_rule F sc_is_part_value rfl fun cdv A outer s H E hr N => ?_
  have nd := sc_is_part_value.nd
  exact js_guard (jc_eqS (je_var (i := 0) rfl rfl (vis_by rfl) rfl rfl) je_str).2 (fun hc1 => absurd hc1 (by decide))
      (fun hc1 => js_ret (je_call (h_is_between _ _ _ (.int i)) (hr.mono (by decide)) (ja_cons (je_var (i := 1) rfl rfl (vis_by rfl) rfl rfl) (ja_cons (je_ifI (jc_eqS (je_var (i := 0) rfl rfl (vis_by rfl) rfl rfl) je_str).2 (fun hb2 => je_int) (fun hb2 => je_int)) (ja_cons (je_gi ft.MOST_TIME rfl rfl) ja_nil rfl) rfl) rfl) has_nil .nil rfl rfl ⟨rfl, rfl⟩) (by exact fun v I H s p => ⟨I, s, p⟩))

theorem w_is_part_rest (ft : Ft K mg CB CR CT CN CL) (F : FunD K "is_part_value" "is_part_value" (defArgs (top 17)) (defBody (top 17)) (defScope (top 17)) [] [] f fd) (hm : mg "is_part_value" = some (.ref f)) (h_is_between : ∀ d lo hi, Sc d → Fd P w K mg base "is_between" 2 (FSp [] [DatV d, IntV lo, IntV hi] (BlV (btw d lo hi)) [])) {i : Int} : Fd P w K mg base "is_part_value" 3 (FSp [] [StrV "rest", IntV i] (BlV (btw (.int i) (if decide (("rest" : Str) = "rest") = true then 0 else 1) 10000)) []) := by
  have fr := ft.fr
  refine ⟨f, fd, ["part", "value"], ?_, hm, F.kp, F.bindsN fun _ _ _ _ _ _ us hl => match us, hl with | [_, _], _ => rfl⟩
  refine fn_rule F sc_is_part_value rfl fun cdv A outer s H E hr N => ?_
  have nd := sc_is_part_value.nd
  exact js_guard (jc_eqS (je_var (i := 0) rfl rfl (vis_by rfl) rfl rfl) je_str).2 (fun hc1 => absurd hc1 (by decide))
      (fun hc1 => js_ret (je_call (h_is_between _ _ _ (.int i)) (hr.mono (by decide)) (ja_cons (je_var (i := 1) rfl rfl (vis_by rfl) rfl rfl) (ja_cons (je_ifI (jc_eqS (je_var (i := 0) rfl rfl (vis_by rfl) rfl rfl) je_str).2 (fun hb2 => je_int) (fun hb2 => je_int)) (ja_cons (je_gi ft.MOST_TIME rfl rfl) ja_nil rfl) rfl) rfl) has_nil .nil rfl rfl ⟨rfl, rfl⟩) (by exact fun v I H s p => ⟨I, s, p⟩))

theorem sc_Box___init__ : FnScope ["self", "low", "high", "rest", "sees", "part", "value"] ["self", "low", "high", "rest", "sees"] (defScope (sub 18 0)) := ⟨rfl, rfl, rfl, by decide +kernel, rfl, by decide +kernel, by decide +kernel⟩
theorem w_Box_init (ft : Ft K mg CB CR CT CN CL) (F : FunD K "__init__" "Box.__init__" (defArgs (sub 18 0)) (defBody (sub 18 0)) (defScope (sub 18 0)) [] [("rest", .int 0), ("sees", .str "out")] f fd)  (h_sees : ∀ s : Str, s = "out" ∨ s = "both" → Fd P w K mg base "is_part_value" 3 (FSp [] [StrV "sees", StrV s] (BlV true) []))
  (h_low : ∀ i, Fd P w K mg base "is_part_value" 3 (FSp [] [StrV "low", IntV i] (BlV (btw (.int i) 1 10000)) []))
  (h_high : ∀ i, Fd P w K mg base "is_part_value" 3 (FSp [] [StrV "high", IntV i] (BlV (btw (.int i) 1 10000)) []))
  (h_rest : ∀ i, Fd P w K mg base "is_part_value" 3 (FSp [] [StrV "rest", IntV i] (BlV (btw (.int i) 0 10000)) [])) {b : BoxD} (hB : 1 ≤ b.lo ∧ b.lo ≤ b.hi ∧ b.hi ≤ 10000 ∧ 0 ≤ b.rest ∧ b.rest ≤ 10000 ∧ (b.sees = "out" ∨ b.sees = "both")) {self : Addr} : FnOk P w K mg base (L2.CX P w) 4 f fd ["self", "low", "high", "rest", "sees"] (FSp [(self, insO CB [])] [EqV (.ref self), IntV b.lo, IntV b.hi, IntV b.rest, StrV b.sees] NonV [(self, insO CB [("kept_parts", DkV [(.inr "low", .int b.lo), (.inr "high", .int b.hi), (.inr "rest", .int b.rest), (.inr "sees", .str b.sees)])])]) := by
  have fr := ft.fr
  refine ?_
  refine fn_rule F sc_Box___init__ rfl fun cdv A outer s H E hr N => ?_
  have nd := sc_Box___init__.nd
  exact (js_for (fun done b' => True) (fun done (b' : Unit) => [(self, insO CB [])]) (fun done b' => [some (EqV (.ref self)), some (IntV b.lo), some (IntV b.hi), some (IntV b.rest), some (StrV b.sees), none, none]) (ji_zipK (xs := ["low", "high", "rest", "sees"]) (qs := [IntV b.lo, IntV b.hi, IntV b.rest, StrV b.sees]) rfl ft.PARTS rfl (je_tup (ja_cons (je_var (i := 1) rfl rfl (vis_by rfl) rfl rfl) (ja_cons (je_var (i := 2) rfl rfl (vis_by rfl) rfl rfl) (ja_cons (je_var (i := 3) rfl rfl (vis_by rfl) rfl rfl) (ja_cons (je_var (i := 4) rfl rfl (vis_by rfl) rfl rfl) ja_nil rfl) rfl) rfl) rfl) (Nat.le_of_ble_eq_true rfl)) (bi_zip fr rfl) ⟨rfl, rfl⟩ ⟨rfl, rfl⟩) (qg_tup2 rfl nd (nm_by rfl rfl rfl) (nm_by rfl rfl rfl)) (fun z hz => (jgr_tup2 (i := 5) (j := 6))) passO rfl () trivial rfl (And.intro rfl (And.intro rfl (And.intro rfl (And.intro rfl (And.intro rfl True.intro))))) (fun z hz done b' => jp2 (Nat.le_of_ble_eq_true rfl) (Nat.le_of_ble_eq_true rfl))
        (fun N' sb done z post b' hz hC => by
          have hz' : z ∈ [(StrV "low", IntV b.lo), (StrV "high", IntV b.hi), (StrV "rest", IntV b.rest), (StrV "sees", StrV b.sees)] := by
            have : z ∈ ((["low", "high", "rest", "sees"] : List Str).map StrV).zip [IntV b.lo, IntV b.hi, IntV b.rest, StrV b.sees] := by rw [hz]; simp
            exact this
          simp only [List.mem_cons, List.not_mem_nil, or_false] at hz'
          rcases hz' with rfl | rfl | rfl | rfl
          · exact js_guard (jt_w (jw_or (jt_not (jt_val (je_call (h_low b.lo) (hr.mono (by decide)) (ja_cons (je_var (i := 5) rfl rfl (vis_by rfl) rfl rfl) (ja_cons (je_var (i := 6) rfl rfl (vis_by rfl) rfl rfl) ja_nil rfl) rfl) has_nil .nil rfl rfl ⟨rfl, rfl⟩) (fun _ => rfl))) (fun hb1 => (jw_or1 (jt_w (jw_and (jc_eqS (je_var (i := 5) rfl rfl (vis_by rfl) rfl rfl) je_str).2 (fun hb2 => (jw_and1 (absurd hb2 (by decide) : JC _ _ _ _ _ false).2)))))))) (fun hc1 => (by exact absurd hc1 (by simp [btw, hB.1, show b.lo ≤ 10000 by omega]))) (fun hc1 => js_turn () trivial rfl (And.intro rfl (And.intro rfl (And.intro rfl (And.intro rfl (And.intro rfl True.intro))))))
          · exact js_guard (jt_w (jw_or (jt_not (jt_val (je_call (h_high b.hi) (hr.mono (by decide)) (ja_cons (je_var (i := 5) rfl rfl (vis_by rfl) rfl rfl) (ja_cons (je_var (i := 6) rfl rfl (vis_by rfl) rfl rfl) ja_nil rfl) rfl) has_nil .nil rfl rfl ⟨rfl, rfl⟩) (fun _ => rfl))) (fun hb1 => (jw_or1 (jt_w (jw_and (jc_eqS (je_var (i := 5) rfl rfl (vis_by rfl) rfl rfl) je_str).2 (fun hb2 => (jw_and1 (jc_lt (je_var (i := 6) rfl rfl (vis_by rfl) rfl rfl) (je_var (i := 1) rfl rfl (vis_by rfl) rfl rfl)).2)))))))) (fun hc1 => (by exact absurd hc1 (by have := hB.2.1; have := hB.2.2.1; simp [btw]; omega))) (fun hc1 => js_turn () trivial rfl (And.intro rfl (And.intro rfl (And.intro rfl (And.intro rfl (And.intro rfl True.intro))))))
          · exact js_guard (jt_w (jw_or (jt_not (jt_val (je_call (h_rest b.rest) (hr.mono (by decide)) (ja_cons (je_var (i := 5) rfl rfl (vis_by rfl) rfl rfl) (ja_cons (je_var (i := 6) rfl rfl (vis_by rfl) rfl rfl) ja_nil rfl) rfl) has_nil .nil rfl rfl ⟨rfl, rfl⟩) (fun _ => rfl))) (fun hb1 => (jw_or1 (jt_w (jw_and (jc_eqS (je_var (i := 5) rfl rfl (vis_by rfl) rfl rfl) je_str).2 (fun hb2 => (jw_and1 (absurd hb2 (by decide) : JC _ _ _ _ _ false).2)))))))) (fun hc1 => (by exact absurd hc1 (by simp [btw, hB.2.2.2.1, hB.2.2.2.2.1]))) (fun hc1 => js_turn () trivial rfl (And.intro rfl (And.intro rfl (And.intro rfl (And.intro rfl (And.intro rfl True.intro))))))
          · exact js_guard (jt_w (jw_or (jt_not (jt_val (je_call (h_sees b.sees hB.2.2.2.2.2) (hr.mono (by decide)) (ja_cons (je_var (i := 5) rfl rfl (vis_by rfl) rfl rfl) (ja_cons (je_var (i := 6) rfl rfl (vis_by rfl) rfl rfl) ja_nil rfl) rfl) has_nil .nil rfl rfl ⟨rfl, rfl⟩) (fun _ => rfl))) (fun hb1 => (jw_or1 (jt_w (jw_and (jc_eqS (je_var (i := 5) rfl rfl (vis_by rfl) rfl rfl) je_str).2 (fun hb2 => (jw_and1 (absurd hb2 (by decide) : JC _ _ _ _ _ false).2)))))))) (fun hc1 => (by exact absurd hc1 (by simp))) (fun hc1 => js_turn () trivial rfl (And.intro rfl (And.intro rfl (And.intro rfl (And.intro rfl (And.intro rfl True.intro)))))))
        (fun N' sb b' hC => js_fld ft.cB ft.n_kept_parts (je_disp (jp_cons je_str (je_eqvI (je_var (i := 1) rfl rfl (vis_by rfl) rfl rfl)) (jp_cons je_str (je_eqvI (je_var (i := 2) rfl rfl (vis_by rfl) rfl rfl)) (jp_cons je_str (je_eqvI (je_var (i := 3) rfl rfl (vis_by rfl) rfl rfl)) (jp_cons je_str (je_eqvS (je_var (i := 4) rfl rfl (vis_by rfl) rfl rfl)) jp_nil)))) rfl rfl (by simp) (Nat.le_of_ble_eq_true rfl) (Nat.le_of_ble_eq_true rfl) rfl) (je_var (i := 0) rfl rfl (vis_by rfl) rfl rfl) (by decide) (Nat.le_of_ble_eq_true rfl)
          (js_nil (fun σ H ⟨_, I, s, _⟩ => ⟨I, sb.2.2.2 _ _ _ s, .non⟩)) rfl) (fun _ => rfl))

theorem sc_Box_low : FnScope ["self"] ["self"] (defScope (sub 18 1)) := ⟨rfl, rfl, rfl, by decide +kernel, rfl, by decide +kernel, by decide +kernel⟩
theorem w_Box_low (ft : Ft K mg CB CR CT CN CL) (F : FunD K "low" "Box.low" (defArgs (sub 18 1)) (defBody (sub 18 1)) (defScope (sub 18 1)) [] [] f fd) {p : Addr} (hm : PropOf K CB "low" p f)  {b : BoxD} : Fp P w K mg base CB "low" 1 (FSp [] [BoxV CB b] (IntV b.lo) []) := by
  have fr := ft.fr
  refine ⟨p, f, fd, ["self"], ?_, hm, F.bindsN fun _ _ _ _ _ _ us hl => match us, hl with | [_], _ => rfl⟩
  refine fn_rule F sc_Box_low rfl fun cdv A outer s H E hr N => ?_
  have nd := sc_Box_low.nd
  exact js_ret (je_dk (P := IntV _) (units1 hr) (je_fld ft.cB ft.n_kept_parts (je_var (i := 0) rfl rfl (vis_by rfl) rfl rfl) rfl rfl) je_str (fun _ _ => rfl) rfl (fun _ => .int _)) (by exact fun v I H s p => ⟨I, s, p⟩)

theorem sc_Box_sees : FnScope ["self"] ["self"] (defScope (sub 18 4)) := ⟨rfl, rfl, rfl, by decide +kernel, rfl, by decide +kernel, by decide +kernel⟩
theorem w_Box_sees (ft : Ft K mg CB CR CT CN CL) (F : FunD K "sees" "Box.sees" (defArgs (sub 18 4)) (defBody (sub 18 4)) (defScope (sub 18 4)) [] [] f fd) {p : Addr} (hm : PropOf K CB "sees" p f)  {b : BoxD} : Fp P w K mg base CB "sees" 1 (FSp [] [BoxV CB b] (StrV b.sees) []) := by
  have fr := ft.fr
  refine ⟨p, f, fd, ["self"], ?_, hm, F.bindsN fun _ _ _ _ _ _ us hl => match us, hl with | [_], _ => rfl⟩
  refine fn_rule F sc_Box_sees rfl fun cdv A outer s H E hr N => ?_
  have nd := sc_Box_sees.nd
  exact js_ret (je_dk (P := StrV _) (units1 hr) (je_fld ft.cB ft.n_kept_parts (je_var (i := 0) rfl rfl (vis_by rfl) rfl rfl) rfl rfl) je_str (fun _ _ => rfl) rfl (fun _ => .str _)) (by exact fun v I H s p => ⟨I, s, p⟩)

end
end QD

/-! text QFC -/
set_option Elab.async false
set_option linter.all false
set_option maxRecDepth 100000
set_option maxHeartbeats 4000000
/-! QFC: rows and talks. Printed by fc.py. -/
namespace QD
open PySem PySem.Spec PyProof.Rows L2 QL
section
variable {P : Program} {w : World} {K : PySem.W.Frag} {mg : Str → Option Value} {base : Heap} {CB CR CT CN CL : Addr} {f : Addr} {fd : FuncData}

theorem sc_is_link : FnScope ["value"] ["value"] (defScope (top 41)) := ⟨rfl, rfl, rfl, by decide +kernel, rfl, by decide +kernel, by decide +kernel⟩
theorem w_is_link (ft : Ft K mg CB CR CT CN CL) (F : FunD K "is_link" "is_link" (defArgs (top 41)) (defBody (top 41)) (defScope (top 41)) [] [] f fd) (hm : mg "is_link" = some (.ref f)) (h_is_between : ∀ d lo hi, Sc d → Fd P w K mg base "is_between" 2 (FSp [] [DatV d, IntV lo, IntV hi] (BlV (btw d lo hi)) [])) {l : Int × Int} (hl : 0 ≤ l.1 ∧ l.1 ≤ l.2 ∧ l.2 ≤ 1000) : Fd P w K mg base "is_link" 3 (FSp [] [DatV (linkD l)] (BlV true) []) := by
  have fr := ft.fr
  refine ⟨f, fd, ["value"], ?_, hm, F.kp, F.bindsN fun _ _ _ _ _ _ us hl => match us, hl with | [_], _ => rfl⟩
  refine fn_rule F sc_is_link rfl fun cdv A outer s H E hr N => ?_
  have nd := sc_is_link.nd
  exact js_guard (jt_w (jw_or (jt_not (jt_val (je_isiG (je_var (i := 0) rfl rfl (vis_by rfl) rfl rfl) (.tup _) (je_ty (bi_tuple fr rfl)) (by decide +kernel) (bi_isinstance fr rfl) ⟨rfl, rfl⟩ ⟨rfl, rfl⟩) (fun _ => rfl))) (fun hb2 => (jw_or (jct (jc_neI (je_len (je_var (i := 0) rfl rfl (vis_by rfl) rfl rfl) (by first | exact .dl _ | exact .dt _ | exact .tu _ | exact .li _) (bi_len fr rfl) ⟨rfl, rfl⟩) je_int)) (fun hb3 => (jw_or1 (jt_not (jt_val (je_call (h_is_between _ _ _ (.int _)) (hr.mono (by decide)) (ja_cons (je_ixT (je_var (i := 0) rfl rfl (vis_by rfl) rfl rfl) je_int rfl (fun _ _ => rfl)) (ja_cons je_int (ja_cons (je_gi ft.MOST_LINK rfl rfl) ja_nil rfl) rfl) rfl) has_nil .nil rfl rfl ⟨rfl, rfl⟩) (fun _ => rfl))))))))) (fun hc1 => absurd hc1 (by simp [kg_tt, btw]; omega))
      (fun hc1 => js_ret (P := (BlV true)) (JE.cast (je_call (h_is_between _ _ _ (.int _)) (hr.mono (by decide)) (ja_cons (je_ixT (je_var (i := 0) rfl rfl (vis_by rfl) rfl rfl) je_int rfl (fun _ _ => rfl)) (ja_cons (je_ixT (je_var (i := 0) rfl rfl (vis_by rfl) rfl rfl) je_int rfl (fun _ _ => rfl)) (ja_cons (je_gi ft.MOST_LINK rfl rfl) ja_nil rfl) rfl) rfl) has_nil .nil rfl rfl ⟨rfl, rfl⟩) (by rw [show btw (.int l.2) l.1 1000 = true by simp [btw]; omega])) (by exact fun v I H s p => ⟨I, (s.fewer has_nil .nil), p⟩))

theorem sc_are_boxes : FnScope ["value", "box"] ["value"] (defScope (top 42)) := ⟨rfl, rfl, rfl, by decide +kernel, rfl, by decide +kernel, by decide +kernel⟩
theorem w_are_boxes (ft : Ft K mg CB CR CT CN CL) (F : FunD K "are_boxes" "are_boxes" (defArgs (top 42)) (defBody (top 42)) (defScope (top 42)) [] [] f fd) (hm : mg "are_boxes" = some (.ref f))  {l : Line} (h1 : 1 ≤ l.boxes.length) (h4 : l.boxes.length ≤ 4) : Fd P w K mg base "are_boxes" 1 (FSp [] [LiV (l.boxes.map (BoxV CB))] (BlV true) []) := by
  have fr := ft.fr
  refine ⟨f, fd, ["value"], ?_, hm, F.kp, F.bindsN fun _ _ _ _ _ _ us hl => match us, hl with | [_], _ => rfl⟩
  refine fn_rule F sc_are_boxes rfl fun cdv A outer s H E hr N => ?_
  have nd := sc_are_boxes.nd
  exact js_guard (jt_w (jw_or (jt_not (jt_val (je_isi2G (je_var (i := 0) rfl rfl (vis_by rfl) rfl rfl) (.li _) (je_tup (ja_cons (je_ty (bi_list fr rfl)) (ja_cons (je_ty (bi_tuple fr rfl)) ja_nil rfl) rfl) (Nat.le_of_ble_eq_true rfl)) (by decide +kernel) (by decide +kernel) (bi_isinstance fr rfl) ⟨rfl, rfl⟩ ⟨rfl, rfl⟩) (fun _ => rfl))) (fun hb2 => (jw_or1 (jt_not (jct (jc_chain op_le op_le rfl je_int (je_len (je_var (i := 0) rfl rfl (vis_by rfl) rfl rfl) (by first | exact .dl _ | exact .dt _ | exact .tu _ | exact .li _) (bi_len fr rfl) ⟨rfl, rfl⟩) (je_gi ft.MOST_BOXES rfl rfl)))))))) (fun hc1 => absurd hc1 (by simp [kg_ll, len_map]; omega))
      (fun hc1 => js_ret (P := (BlV true)) (JE.cast (je_all rfl (je_lcB (Lc.of (own := [("box", 1)]) (p := fun _ => true) (ji_liM (je_var (i := 0) rfl rfl (vis_by rfl) rfl rfl)) rfl (fun _ _ _ _ _ => qg_name nd (nm_by rfl rfl rfl)) (fun z hz => (jgr_name (i := 1))) (fun z hz => jq1 ⟨by decide, Nat.le_of_ble_eq_true rfl⟩) (fun z hz _ _ _ _ _ => jts_nil) (fun z hz hpz _ _ _ _ _ => (je_isiO ft.oB (je_var (i := 1) rfl rfl (vis_by rfl) rfl rfl) rfl ft.mB rfl (bi_isinstance fr rfl) ⟨rfl, rfl⟩ ⟨rfl, rfl⟩)) (by omega)) rfl nd (fun _ => rfl)) (bi_all fr rfl) ⟨rfl, rfl⟩) (by refine congrArg BlV ?_; simp [List.all_eq_true])) (by exact fun v I H s p => ⟨I, (s.fewer has_nil .nil), p⟩))

theorem sc_are_links : FnScope ["value", "many", "link"] ["value", "many"] (defScope (top 43)) := ⟨rfl, rfl, rfl, by decide +kernel, rfl, by decide +kernel, by decide +kernel⟩
theorem w_are_links (ft : Ft K mg CB CR CT CN CL) (F : FunD K "are_links" "are_links" (defArgs (top 43)) (defBody (top 43)) (defScope (top 43)) [] [] f fd) (hm : mg "are_links" = some (.ref f)) (h_is_link : ∀ l : Int × Int, 0 ≤ l.1 ∧ l.1 ≤ l.2 ∧ l.2 ≤ 1000 → Fd P w K mg base "is_link" 3 (FSp [] [DatV (linkD l)] (BlV true) [])) {ls : List (Int × Int)} (hl : ∀ l ∈ ls, 0 ≤ l.1 ∧ l.1 ≤ l.2 ∧ l.2 ≤ 1000) (h4 : ls.length ≤ 5) : Fd P w K mg base "are_links" 4 (FSp [] [DatV (.list (ls.map linkD)), IntV (ls.length : Int)] (BlV true) []) := by
  have fr := ft.fr
  refine ⟨f, fd, ["value", "many"], ?_, hm, F.kp, F.bindsN fun _ _ _ _ _ _ us hl => match us, hl with | [_, _], _ => rfl⟩
  refine fn_rule F sc_are_links rfl fun cdv A outer s H E hr N => ?_
  have nd := sc_are_links.nd
  exact js_ret (P := (BlV true)) (JE.cast (je_and (je_isi2G (je_var (i := 0) rfl rfl (vis_by rfl) rfl rfl) (.lst _) (je_tup (ja_cons (je_ty (bi_list fr rfl)) (ja_cons (je_ty (bi_tuple fr rfl)) ja_nil rfl) rfl) (Nat.le_of_ble_eq_true rfl)) (by decide +kernel) (by decide +kernel) (bi_isinstance fr rfl) ⟨rfl, rfl⟩ ⟨rfl, rfl⟩) (fun hb1 => (je_and (jcv (jc_eqI (je_len (je_var (i := 0) rfl rfl (vis_by rfl) rfl rfl) (by first | exact .dl _ | exact .dt _ | exact .tu _ | exact .li _) (bi_len fr rfl) ⟨rfl, rfl⟩) (je_var (i := 1) rfl rfl (vis_by rfl) rfl rfl))) (fun hb2 => (je_and1 (je_all rfl (je_lcB (Lc.of (own := [("link", 2)]) (p := fun _ => true) (ji_dlM (je_var (i := 0) rfl rfl (vis_by rfl) rfl rfl)) rfl (fun _ _ _ _ _ => qg_name nd (nm_by rfl rfl rfl)) (fun z hz => (jgr_name (i := 2))) (fun z hz => jq1 ⟨by decide, Nat.le_of_ble_eq_true rfl⟩) (fun z hz _ _ _ _ _ => jts_nil) (fun z hz hpz _ _ _ _ _ => (je_call (h_is_link z (hl z hz)) (hr.mono (by decide)) (ja_cons (je_var (i := 2) rfl rfl (vis_by rfl) rfl rfl) ja_nil rfl) has_nil .nil rfl rfl ⟨rfl, rfl⟩)) (by omega)) rfl nd (fun _ => rfl)) (bi_all fr rfl) ⟨rfl, rfl⟩)))))) (by refine congrArg BlV ?_; simp [kg_ll, List.all_eq_true])) (by exact fun v I H s p => ⟨I, (s.fewer has_nil .nil), p⟩)

theorem sc_summed : FnScope ["links", "least", "most"] ["links"] (defScope (top 44)) := ⟨rfl, rfl, rfl, by decide +kernel, rfl, by decide +kernel, by decide +kernel⟩
theorem w_summed (ft : Ft K mg CB CR CT CN CL) (F : FunD K "summed" "summed" (defArgs (top 44)) (defBody (top 44)) (defScope (top 44)) [] [] f fd) (hm : mg "summed" = some (.ref f))  {ls : List (Int × Int)} (h4 : ls.length ≤ 5) : Fd P w K mg base "summed" 1 (FSp [] [DatV (.tuple (ls.map linkD))] (DatV (linkD (sums ls))) []) := by
  have fr := ft.fr
  refine ⟨f, fd, ["links"], ?_, hm, F.kp, F.bindsN fun _ _ _ _ _ _ us hl => match us, hl with | [_], _ => rfl⟩
  refine fn_rule F sc_summed rfl fun cdv A outer s H E hr N => ?_
  have nd := sc_summed.nd
  exact js_ret (P := (DatV (linkD (sums ls)))) (JE.cast (je_tupD (jd_cons (je_sum rfl (je_lcI (Lc.of (own := [("least", 1), ("most", 2)]) (p := fun _ => true) (ji_dtM (je_var (i := 0) rfl rfl (vis_by rfl) rfl rfl)) rfl (fun _ _ _ _ _ => qg_tup2 rfl nd (nm_by rfl rfl rfl) (nm_by rfl rfl rfl)) (fun z hz => (jgr_tup2D (i := 1) (j := 2))) (fun z hz => jq2 ⟨by decide, Nat.le_of_ble_eq_true rfl⟩ ⟨by decide, Nat.le_of_ble_eq_true rfl⟩) (fun z hz _ _ _ _ _ => jts_nil) (fun z hz hpz _ _ _ _ _ => (je_var (i := 1) rfl rfl (vis_by rfl) rfl rfl)) (by omega)) rfl nd (fun _ => rfl)) (bi_sum fr rfl) ⟨rfl, rfl⟩) (jd_cons (je_sum rfl (je_lcI (Lc.of (own := [("least", 1), ("most", 2)]) (p := fun _ => true) (ji_dtM (je_var (i := 0) rfl rfl (vis_by rfl) rfl rfl)) rfl (fun _ _ _ _ _ => qg_tup2 rfl nd (nm_by rfl rfl rfl) (nm_by rfl rfl rfl)) (fun z hz => (jgr_tup2D (i := 1) (j := 2))) (fun z hz => jq2 ⟨by decide, Nat.le_of_ble_eq_true rfl⟩ ⟨by decide, Nat.le_of_ble_eq_true rfl⟩) (fun z hz _ _ _ _ _ => jts_nil) (fun z hz hpz _ _ _ _ _ => (je_var (i := 2) rfl rfl (vis_by rfl) rfl rfl)) (by omega)) rfl nd (fun _ => rfl)) (bi_sum fr rfl) ⟨rfl, rfl⟩) jd_nil rfl) rfl) (Nat.le_of_ble_eq_true rfl)) (by simp only [linkD, sums, filter_tt])) (by exact fun v I H s p => ⟨I, (s.fewer has_nil .nil), p⟩)

theorem sc_Row_boxes : FnScope ["self"] ["self"] (defScope (sub 45 1)) := ⟨rfl, rfl, rfl, by decide +kernel, rfl, by decide +kernel, by decide +kernel⟩
theorem w_Row_boxes (ft : Ft K mg CB CR CT CN CL) (F : FunD K "boxes" "Row.boxes" (defArgs (sub 45 1)) (defBody (sub 45 1)) (defScope (sub 45 1)) [] [] f fd) {p : Addr} (hm : PropOf K CR "boxes" p f)  {l : Line} : Fp P w K mg base CR "boxes" 1 (FSp [] [RowV CR CB l] (TuV (l.boxes.map (BoxV CB))) []) := by
  have fr := ft.fr
  refine ⟨p, f, fd, ["self"], ?_, hm, F.bindsN fun _ _ _ _ _ _ us hl => match us, hl with | [_], _ => rfl⟩
  refine fn_rule F sc_Row_boxes rfl fun cdv A outer s H E hr N => ?_
  have nd := sc_Row_boxes.nd
  exact js_ret (je_fld ft.cR ft.n_kept_boxes (je_var (i := 0) rfl rfl (vis_by rfl) rfl rfl) rfl rfl) (by exact fun v I H s p => ⟨I, (s.fewer has_nil .nil), p⟩)

theorem sc_Row___len__ : FnScope ["self"] ["self"] (defScope (sub 45 3)) := ⟨rfl, rfl, rfl, by decide +kernel, rfl, by decide +kernel, by decide +kernel⟩
theorem w_Row___len__ (ft : Ft K mg CB CR CT CN CL) (F : FunD K "__len__" "Row.__len__" (defArgs (sub 45 3)) (defBody (sub 45 3)) (defScope (sub 45 3)) [] [] f fd) (hm : Meth K CR "__len__" f)  {l : Line} : Fm P w K mg base CR "__len__" 1 (FSp [] [RowV CR CB l] (IntV (l.boxes.length : Int)) []) := by
  have fr := ft.fr
  refine ⟨f, fd, ["self"], ?_, hm, F.bindsN fun _ _ _ _ _ _ us hl => match us, hl with | [_], _ => rfl⟩
  refine fn_rule F sc_Row___len__ rfl fun cdv A outer s H E hr N => ?_
  have nd := sc_Row___len__.nd
  exact js_ret (P := (IntV (l.boxes.length : Int))) (JE.cast (je_len (je_fld ft.cR ft.n_kept_boxes (je_var (i := 0) rfl rfl (vis_by rfl) rfl rfl) rfl rfl) (by first | exact .dl _ | exact .dt _ | exact .tu _ | exact .li _) (bi_len fr rfl) ⟨rfl, rfl⟩) (by simp)) (by exact fun v I H s p => ⟨I, (s.fewer has_nil .nil), p⟩)

theorem sc_Row_check : FnScope ["self", "box"] ["self", "box"] (defScope (sub 45 4)) := ⟨rfl, rfl, rfl, by decide +kernel, rfl, by decide +kernel, by decide +kernel⟩
theorem w_Row_check (ft : Ft K mg CB CR CT CN CL) (F : FunD K "check" "Row.check" (defArgs (sub 45 4)) (defBody (sub 45 4)) (defScope (sub 45 4)) [] [] f fd) (hm : Meth K CR "check" f) (h_is_between : ∀ d lo hi, Sc d → Fd P w K mg base "is_between" 2 (FSp [] [DatV d, IntV lo, IntV hi] (BlV (btw d lo hi)) [])) {l : Line} {b : Nat} (hb : b < l.boxes.length) : Fm P w K mg base CR "check" 3 (FSp [] [RowV CR CB l, IntV (b : Int)] NonV []) := by
  have fr := ft.fr
  refine ⟨f, fd, ["self", "box"], ?_, hm, F.bindsN fun _ _ _ _ _ _ us hl => match us, hl with | [_, _], _ => rfl⟩
  refine fn_rule F sc_Row_check rfl fun cdv A outer s H E hr N => ?_
  have nd := sc_Row_check.nd
  exact js_guard (jt_not (jt_val (je_call (h_is_between _ _ _ (.int _)) (hr.mono (by decide)) (ja_cons (je_var (i := 1) rfl rfl (vis_by rfl) rfl rfl) (ja_cons je_int (ja_cons (je_sub (je_len (je_fld ft.cR ft.n_kept_boxes (je_var (i := 0) rfl rfl (vis_by rfl) rfl rfl) rfl rfl) (by first | exact .dl _ | exact .dt _ | exact .tu _ | exact .li _) (bi_len fr rfl) ⟨rfl, rfl⟩) je_int) ja_nil rfl) rfl) rfl) has_nil .nil rfl rfl ⟨rfl, rfl⟩) (fun _ => rfl))) (fun hc1 => absurd hc1 (by simp [btw, len_map]; omega))
      (fun hc1 => js_nil (fun σ H ⟨_, I, s, _⟩ => ⟨I, s, .non⟩))

theorem sc_Row_out_delay : FnScope ["self", "box"] ["self", "box"] (defScope (sub 45 10)) := ⟨rfl, rfl, rfl, by decide +kernel, rfl, by decide +kernel, by decide +kernel⟩
theorem w_Row_out_delay (ft : Ft K mg CB CR CT CN CL) (F : FunD K "out_delay" "Row.out_delay" (defArgs (sub 45 10)) (defBody (sub 45 10)) (defScope (sub 45 10)) [] [] f fd) (hm : Meth K CR "out_delay" f) (h_summed : ∀ ls : List (Int × Int), ls.length ≤ 5 → Fd P w K mg base "summed" 1 (FSp [] [DatV (.tuple (ls.map linkD))] (DatV (linkD (sums ls))) [])) (h_check : ∀ (l : Line) (b : Nat), b < l.boxes.length → Fm P w K mg base CR "check" 3 (FSp [] [RowV CR CB l, IntV (b : Int)] NonV [])) {l : Line} {b : Nat} (hb : b < l.boxes.length) (h4 : l.boxes.length ≤ 4) (hn : l.links.length = l.boxes.length + 1) : Fm P w K mg base CR "out_delay" 4 (FSp [] [RowV CR CB l, IntV (b : Int)] (DatV (linkD (sums (l.links.take (b + 1))))) []) := by
  have fr := ft.fr
  refine ⟨f, fd, ["self", "box"], ?_, hm, F.bindsN fun _ _ _ _ _ _ us hl => match us, hl with | [_, _], _ => rfl⟩
  refine fn_rule F sc_Row_out_delay rfl fun cdv A outer s H E hr N => ?_
  have nd := sc_Row_out_delay.nd
  exact js_expr (je_meth (h_check l b hb) ft.cR (hr.mono (by decide)) (je_var (i := 0) rfl rfl (vis_by rfl) rfl rfl) (ja_cons (je_var (i := 1) rfl rfl (vis_by rfl) rfl rfl) ja_nil rfl) has_nil .nil (nin_by rfl) ⟨rfl, rfl⟩ rfl)
      (js_ret (je_call (h_summed (l.links.take (b + 1)) (by simp; omega)) (hr.mono (by decide)) (ja_cons (je_cutTo (je_fld ft.cR ft.n_kept_links (je_var (i := 0) rfl rfl (vis_by rfl) rfl rfl) rfl rfl) (je_add (je_var (i := 1) rfl rfl (vis_by rfl) rfl rfl) je_int) (by omega)) ja_nil rfl) has_nil .nil rfl rfl ⟨rfl, rfl⟩) (by exact fun v I H s p => ⟨I, (s.fewer has_nil .nil), p⟩)) rfl

theorem sc_Row_back_delay : FnScope ["self", "box"] ["self", "box"] (defScope (sub 45 11)) := ⟨rfl, rfl, rfl, by decide +kernel, rfl, by decide +kernel, by decide +kernel⟩
theorem w_Row_back_delay (ft : Ft K mg CB CR CT CN CL) (F : FunD K "back_delay" "Row.back_delay" (defArgs (sub 45 11)) (defBody (sub 45 11)) (defScope (sub 45 11)) [] [] f fd) (hm : Meth K CR "back_delay" f) (h_summed : ∀ ls : List (Int × Int), ls.length ≤ 5 → Fd P w K mg base "summed" 1 (FSp [] [DatV (.tuple (ls.map linkD))] (DatV (linkD (sums ls))) [])) (h_check : ∀ (l : Line) (b : Nat), b < l.boxes.length → Fm P w K mg base CR "check" 3 (FSp [] [RowV CR CB l, IntV (b : Int)] NonV [])) {l : Line} {b : Nat} (hb : b < l.boxes.length) (h4 : l.boxes.length ≤ 4) (hn : l.links.length = l.boxes.length + 1) : Fm P w K mg base CR "back_delay" 4 (FSp [] [RowV CR CB l, IntV (b : Int)] (DatV (linkD (sums (l.links.drop (b + 1))))) []) := by
  have fr := ft.fr
  refine ⟨f, fd, ["self", "box"], ?_, hm, F.bindsN fun _ _ _ _ _ _ us hl => match us, hl with | [_, _], _ => rfl⟩
  refine fn_rule F sc_Row_back_delay rfl fun cdv A outer s H E hr N => ?_
  have nd := sc_Row_back_delay.nd
  exact js_expr (je_meth (h_check l b hb) ft.cR (hr.mono (by decide)) (je_var (i := 0) rfl rfl (vis_by rfl) rfl rfl) (ja_cons (je_var (i := 1) rfl rfl (vis_by rfl) rfl rfl) ja_nil rfl) has_nil .nil (nin_by rfl) ⟨rfl, rfl⟩ rfl)
      (js_ret (je_call (h_summed (l.links.drop (b + 1)) (by simp; omega)) (hr.mono (by decide)) (ja_cons (je_cutFrom (je_fld ft.cR ft.n_kept_links (je_var (i := 0) rfl rfl (vis_by rfl) rfl rfl) rfl rfl) (je_add (je_var (i := 1) rfl rfl (vis_by rfl) rfl rfl) je_int) (by omega)) ja_nil rfl) has_nil .nil rfl rfl ⟨rfl, rfl⟩) (by exact fun v I H s p => ⟨I, (s.fewer has_nil .nil), p⟩)) rfl

theorem sc_Row___init__ : FnScope ["self", "boxes", "links"] ["self", "boxes", "links"] (defScope (sub 45 0)) := ⟨rfl, rfl, rfl, by decide +kernel, rfl, by decide +kernel, by decide +kernel⟩
theorem w_Row___init__ (ft : Ft K mg CB CR CT CN CL) (F : FunD K "__init__" "Row.__init__" (defArgs (sub 45 0)) (defBody (sub 45 0)) (defScope (sub 45 0)) [] [] f fd)  (h_are_boxes : ∀ l : Line, 1 ≤ l.boxes.length → l.boxes.length ≤ 4 → Fd P w K mg base "are_boxes" 1 (FSp [] [LiV (l.boxes.map (BoxV CB))] (BlV true) [])) (h_are_links : ∀ ls : List (Int × Int), (∀ l ∈ ls, 0 ≤ l.1 ∧ l.1 ≤ l.2 ∧ l.2 ≤ 1000) → ls.length ≤ 5 → Fd P w K mg base "are_links" 4 (FSp [] [DatV (.list (ls.map linkD)), IntV (ls.length : Int)] (BlV true) [])) {l : Line} (hl : LineOk l) {self : Addr} : FnOk P w K mg base (L2.CX P w) 5 f fd ["self", "boxes", "links"] (FSp [(self, insO CR [])] [EqV (.ref self), LiV (l.boxes.map (BoxV CB)), DatV (.list (l.links.map linkD))] NonV [(self, insO CR [("kept_boxes", TuV (l.boxes.map (BoxV CB))), ("kept_links", DatV (.tuple (l.links.map linkD)))])]) := by
  have fr := ft.fr
  refine ?_
  refine FnOk.imp (fn_rule (ow := [(self, insO CR [])]) (ps := [EqV (.ref self), LiV (l.boxes.map (BoxV CB)), DatV (.list (l.links.map linkD))]) (R := NonV) (ow' := [(self, insO CR [("kept_boxes", TuV (l.boxes.map (BoxV CB))), ("kept_links", DatV (.tuple (l.links.map linkD)))])]) F sc_Row___init__ rfl fun cdv A outer s H E hr N => ?_) (fun vs H Q E h => h)
  have nd := sc_Row___init__.nd
  exact js_guard (jt_not (jt_val (je_call (h_are_boxes l hl.n1 hl.n4) (hr.mono (by decide)) (ja_cons (je_var (i := 1) rfl rfl (vis_by rfl) rfl rfl) ja_nil rfl) has_nil .nil rfl rfl ⟨rfl, rfl⟩) (fun _ => rfl))) (fun hc1 => absurd hc1 (by simp))
      (fun hc1 => js_guard (jt_not (jt_val (je_call (h_are_links l.links hl.lb (by have := hl.ln; have := hl.n4; omega)) (hr.mono (by decide)) (ja_cons (je_var (i := 2) rfl rfl (vis_by rfl) rfl rfl) (ja_cons (JE.cast (je_add (je_len (je_var (i := 1) rfl rfl (vis_by rfl) rfl rfl) (.li _) (bi_len fr rfl) ⟨rfl, rfl⟩) je_int) (by rw [len_map, hl.ln]; rfl)) ja_nil rfl) rfl) has_nil .nil rfl rfl ⟨rfl, rfl⟩) (fun _ => rfl))) (fun hc2 => absurd hc2 (by simp))
      (fun hc2 => js_fld ft.cR ft.n_kept_boxes (je_tuplec (je_var (i := 1) rfl rfl (vis_by rfl) rfl rfl) (by first | exact .dl _ | exact .dt _ | exact .tu _ | exact .li _) (bi_tuple fr rfl) ⟨rfl, rfl⟩) (je_var (i := 0) rfl rfl (vis_by rfl) rfl rfl) (nin_by rfl) (Nat.le_of_ble_eq_true rfl)
      (js_fld ft.cR ft.n_kept_links (je_tupleD (je_var (i := 2) rfl rfl (vis_by rfl) rfl rfl) (by first | exact .dl _ | exact .dt _ | exact .tu _ | exact .li _) (bi_tuple fr rfl) ⟨rfl, rfl⟩) (je_var (i := 0) rfl rfl (vis_by rfl) rfl rfl) (nin_by rfl) (Nat.le_of_ble_eq_true rfl)
      (js_nil (fun σ H ⟨_, I, s, _⟩ => ⟨I, s, .non⟩)) rfl) rfl))

end
end QD

/-! text QFD -/
set_option Elab.async false
set_option linter.all false
set_option maxRecDepth 100000
set_option maxHeartbeats 4000000
/-! QFD: talks, letters, windows. Printed by fd.py. -/
namespace QD
open PySem PySem.Spec PyProof.Rows L2 QL
section
variable {P : Program} {w : World} {K : PySem.W.Frag} {mg : Str → Option Value} {base : Heap} {CB CR CT CN CL : Addr} {f : Addr} {fd : FuncData}

theorem sc_Talk_losses : FnScope ["self"] ["self"] (defScope (sub 51 3)) := ⟨rfl, rfl, rfl, by decide +kernel, rfl, by decide +kernel, by decide +kernel⟩
theorem w_Talk_losses (ft : Ft K mg CB CR CT CN CL) (F : FunD K "losses" "Talk.losses" (defArgs (sub 51 3)) (defBody (sub 51 3)) (defScope (sub 51 3)) [] [] f fd) {p : Addr} (hm : PropOf K CT "losses" p f)  {t : Tk} : Fp P w K mg base CT "losses" 1 (FSp [] [TalkV CT t] (IntV (t.los : Int)) []) := by
  have fr := ft.fr
  refine ⟨p, f, fd, ["self"], ?_, hm, F.bindsN fun _ _ _ _ _ _ us hl => match us, hl with | [_], _ => rfl⟩
  refine fn_rule F sc_Talk_losses rfl fun cdv A outer s H E hr N => ?_
  have nd := sc_Talk_losses.nd
  exact js_ret (je_fld ft.cT ft.n_kept_losses (je_var (i := 0) rfl rfl (vis_by rfl) rfl rfl) rfl rfl) (by exact fun v I H s p => ⟨I, (s.fewer has_nil .nil), p⟩)

theorem sc_Talk_letters : FnScope ["self", "found", "at"] ["self"] (defScope (sub 51 5)) := ⟨rfl, rfl, rfl, by decide +kernel, rfl, by decide +kernel, by decide +kernel⟩
theorem w_Talk_letters (ft : Ft K mg CB CR CT CN CL) (F : FunD K "letters" "Talk.letters" (defArgs (sub 51 5)) (defBody (sub 51 5)) (defScope (sub 51 5)) [] [] f fd) (hm : Meth K CT "letters" f)  {t : Tk} (ht : TkOk t) : Fm P w K mg base CT "letters" 1 (FSp [] [TalkV CT t] (DatV (.tuple ((letters t).map letD))) []) := by
  have fr := ft.fr
  refine ⟨f, fd, ["self"], ?_, hm, F.bindsN fun _ _ _ _ _ _ us hl => match us, hl with | [_], _ => rfl⟩
  refine fn_rule F sc_Talk_letters rfl fun cdv A outer s H E hr N => ?_
  have nd := sc_Talk_letters.nd
  exact js_setLcD (i := 1) (Lc.of (own := [("at", 2)]) (E := fun k => DatV (letD (true, k))) (p := fun _ => true) (ji_range (n := t.out.length) (JE.cast (je_len (je_fld ft.cT ft.n_kept_out (je_var (i := 0) rfl rfl (vis_by rfl) rfl rfl) rfl rfl) (by first | exact .dl _ | exact .dt _ | exact .tu _ | exact .li _) (bi_len fr rfl) ⟨rfl, rfl⟩) (by rw [len_map])) (by have := ht.o7; omega) (bi_range fr rfl) rfl) rfl (fun _ _ _ _ _ => qg_name nd (nm_by rfl rfl rfl)) (fun z hz => (jgr_name (i := 2))) (fun z hz => jq1 ⟨by decide, Nat.le_of_ble_eq_true rfl⟩) (fun z hz _ _ _ _ _ => jts_nil) (fun z hz hpz _ _ _ _ _ => (je_tupD (jd_cons je_str (jd_cons (je_var (i := 2) rfl rfl (vis_by rfl) rfl rfl) jd_nil rfl) rfl) (Nat.le_of_ble_eq_true rfl))) (by have := ht.o7; simp; omega))
      (js_ret (P := (DatV (.tuple ((letters t).map letD)))) (JE.cast (je_tupleD (je_catL (je_var (i := 1) rfl rfl (vis_by rfl) rfl rfl) (je_lcD (Lc.of (own := [("at", 2)]) (E := fun k => DatV (letD (false, k))) (p := fun _ => true) (ji_range (n := t.back.length) (JE.cast (je_len (je_fld ft.cT ft.n_kept_back (je_var (i := 0) rfl rfl (vis_by rfl) rfl rfl) rfl rfl) (by first | exact .dl _ | exact .dt _ | exact .tu _ | exact .li _) (bi_len fr rfl) ⟨rfl, rfl⟩) (by rw [len_map])) (by have := ht.b7; omega) (bi_range fr rfl) rfl) rfl (fun _ _ _ _ _ => qg_name nd (nm_by rfl rfl rfl)) (fun z hz => (jgr_name (i := 2))) (fun z hz => jq1 ⟨by decide, Nat.le_of_ble_eq_true rfl⟩) (fun z hz _ _ _ _ _ => jts_nil) (fun z hz hpz _ _ _ _ _ => (je_tupD (jd_cons je_str (jd_cons (je_var (i := 2) rfl rfl (vis_by rfl) rfl rfl) jd_nil rfl) rfl) (Nat.le_of_ble_eq_true rfl))) (by have := ht.b7; simp; omega)) rfl nd (fun _ => rfl)) (by have := ht.o7; have := ht.b7; simp [filter_tt]; omega)) (by first | exact .dl _ | exact .dt _ | exact .tu _ | exact .li _) (bi_tuple fr rfl) ⟨rfl, rfl⟩) (by simp only [letters, filter_tt, List.map_append, List.map_map, Function.comp_def])) (by exact fun v I H s p => ⟨I, (s.fewer has_nil .nil), p⟩)) rfl nd rfl rfl (Nat.le_of_ble_eq_true rfl) (sw_true rfl rfl rfl rfl) (fun _ => rfl)

theorem sc_Talk___contains__ : FnScope ["self", "letter"] ["self", "letter"] (defScope (sub 51 6)) := ⟨rfl, rfl, rfl, by decide +kernel, rfl, by decide +kernel, by decide +kernel⟩
theorem w_contains_let (ft : Ft K mg CB CR CT CN CL) (F : FunD K "__contains__" "Talk.__contains__" (defArgs (sub 51 6)) (defBody (sub 51 6)) (defScope (sub 51 6)) [] [] f fd) (hm : Meth K CT "__contains__" f) (h_is_integer : ∀ d, Sc d → Fd P w K mg base "is_integer" 1 (FSp [] [DatV d] (BlV (isI d)) [])) (h_letters : ∀ t, TkOk t → Fm P w K mg base CT "letters" 1 (FSp [] [TalkV CT t] (DatV (.tuple ((letters t).map letD))) [])) {t : Tk} (ht : TkOk t) {x : Let} : Fm P w K mg base CT "__contains__" 2 (FSp [] [TalkV CT t, DatV (letD x)] (BlV (decide (x ∈ letters t))) []) := by
  have fr := ft.fr
  refine ⟨f, fd, ["self", "letter"], ?_, hm, F.bindsN fun _ _ _ _ _ _ us hl => match us, hl with | [_, _], _ => rfl⟩
  refine fn_rule F sc_Talk___contains__ rfl fun cdv A outer s H E hr N => ?_
  have nd := sc_Talk___contains__.nd
  exact js_guard (jt_w (jw_or (jt_not (jt_val (je_isiG (je_var (i := 1) rfl rfl (vis_by rfl) rfl rfl) (.tup _) (je_ty (bi_tuple fr rfl)) (by decide +kernel) (bi_isinstance fr rfl) ⟨rfl, rfl⟩ ⟨rfl, rfl⟩) (fun _ => rfl))) (fun hb2 => (jw_or (jct (jc_neI (je_len (je_var (i := 1) rfl rfl (vis_by rfl) rfl rfl) (by first | exact .dl _ | exact .dt _ | exact .tu _ | exact .li _) (bi_len fr rfl) ⟨rfl, rfl⟩) je_int)) (fun hb3 => (jw_or1 (jt_not (jt_val (je_isiG (je_ixT (je_var (i := 1) rfl rfl (vis_by rfl) rfl rfl) je_int rfl (fun _ _ => rfl)) (by first | exact .int _ | exact .str _ | exact .lst _ | exact .tup _ | exact .bl _ | exact .non | exact .li _ | exact .tu _) (je_ty (bi_str fr rfl)) (by decide +kernel) (bi_isinstance fr rfl) ⟨rfl, rfl⟩ ⟨rfl, rfl⟩) (fun _ => rfl))))))))) (fun hc1 => absurd hc1 (by simp [kg_tt, kg_ss]))
      (fun hc1 => js_ret (P := (BlV (decide (x ∈ letters t)))) (JE.cast (je_and (je_call (h_is_integer _ (by constructor)) (hr.mono (by decide)) (ja_cons (je_ixT (je_var (i := 1) rfl rfl (vis_by rfl) rfl rfl) je_int rfl (fun _ _ => rfl)) ja_nil rfl) has_nil .nil rfl rfl ⟨rfl, rfl⟩) (fun hb4 => (je_and1 (jcv (jc_inT (units65 hr) (je_var (i := 1) rfl rfl (vis_by rfl) rfl rfl) (je_meth0 (h_letters t ht) ft.cT (hr.mono (by decide)) (je_var (i := 0) rfl rfl (vis_by rfl) rfl rfl) (nin_by rfl) rfl) (letD_shaped x) (letsT_shaped _) rfl))))) (by rw [lets_any]; simp [isI])) (by exact fun v I H s p => ⟨I, (s.fewer has_nil .nil), p⟩))

theorem w_contains_in (ft : Ft K mg CB CR CT CN CL) (F : FunD K "__contains__" "Talk.__contains__" (defArgs (sub 51 6)) (defBody (sub 51 6)) (defScope (sub 51 6)) [] [] f fd) (hm : Meth K CT "__contains__" f) (h_is_integer : ∀ d, Sc d → Fd P w K mg base "is_integer" 1 (FSp [] [DatV d] (BlV (isI d)) [])) (h_letters : ∀ t, TkOk t → Fm P w K mg base CT "letters" 1 (FSp [] [TalkV CT t] (DatV (.tuple ((letters t).map letD))) [])) {t : Tk} (ht : TkOk t) : Fm P w K mg base CT "__contains__" 2 (FSp [] [TalkV CT t, DatV (.tuple [.str "in", .int 0])] (BlV false) []) := by
  have fr := ft.fr
  refine ⟨f, fd, ["self", "letter"], ?_, hm, F.bindsN fun _ _ _ _ _ _ us hl => match us, hl with | [_, _], _ => rfl⟩
  refine fn_rule F sc_Talk___contains__ rfl fun cdv A outer s H E hr N => ?_
  have nd := sc_Talk___contains__.nd
  exact js_guard (jt_w (jw_or (jt_not (jt_val (je_isiG (je_var (i := 1) rfl rfl (vis_by rfl) rfl rfl) (.tup _) (je_ty (bi_tuple fr rfl)) (by decide +kernel) (bi_isinstance fr rfl) ⟨rfl, rfl⟩ ⟨rfl, rfl⟩) (fun _ => rfl))) (fun hb2 => (jw_or (jct (jc_neI (je_len (je_var (i := 1) rfl rfl (vis_by rfl) rfl rfl) (by first | exact .dl _ | exact .dt _ | exact .tu _ | exact .li _) (bi_len fr rfl) ⟨rfl, rfl⟩) je_int)) (fun hb3 => (jw_or1 (jt_not (jt_val (je_isiG (je_ixT (je_var (i := 1) rfl rfl (vis_by rfl) rfl rfl) je_int rfl (fun _ _ => rfl)) (by first | exact .int _ | exact .str _ | exact .lst _ | exact .tup _ | exact .bl _ | exact .non | exact .li _ | exact .tu _) (je_ty (bi_str fr rfl)) (by decide +kernel) (bi_isinstance fr rfl) ⟨rfl, rfl⟩ ⟨rfl, rfl⟩) (fun _ => rfl))))))))) (fun hc1 => absurd hc1 (by simp [kg_tt, kg_ss]))
      (fun hc1 => js_ret (P := (BlV false)) (JE.cast (je_and (je_call (h_is_integer _ (by constructor)) (hr.mono (by decide)) (ja_cons (je_ixT (je_var (i := 1) rfl rfl (vis_by rfl) rfl rfl) je_int rfl (fun _ _ => rfl)) ja_nil rfl) has_nil .nil rfl rfl ⟨rfl, rfl⟩) (fun hb4 => (je_and1 (jcv (jc_inT (units65 hr) (je_var (i := 1) rfl rfl (vis_by rfl) rfl rfl) (je_meth0 (h_letters t ht) ft.cT (hr.mono (by decide)) (je_var (i := 0) rfl rfl (vis_by rfl) rfl rfl) (nin_by rfl) rfl) (by decide +kernel) (letsT_shaped _) rfl))))) (by rw [in_not_let]; simp)) (by exact fun v I H s p => ⟨I, (s.fewer has_nil .nil), p⟩))

theorem w_contains_bool (ft : Ft K mg CB CR CT CN CL) (F : FunD K "__contains__" "Talk.__contains__" (defArgs (sub 51 6)) (defBody (sub 51 6)) (defScope (sub 51 6)) [] [] f fd) (hm : Meth K CT "__contains__" f) (h_is_integer : ∀ d, Sc d → Fd P w K mg base "is_integer" 1 (FSp [] [DatV d] (BlV (isI d)) [])) (h_letters : ∀ t, TkOk t → Fm P w K mg base CT "letters" 1 (FSp [] [TalkV CT t] (DatV (.tuple ((letters t).map letD))) [])) {t : Tk} (ht : TkOk t) : Fm P w K mg base CT "__contains__" 2 (FSp [] [TalkV CT t, DatV (.tuple [.str "out", .bool true])] (BlV false) []) := by
  have fr := ft.fr
  refine ⟨f, fd, ["self", "letter"], ?_, hm, F.bindsN fun _ _ _ _ _ _ us hl => match us, hl with | [_, _], _ => rfl⟩
  refine fn_rule F sc_Talk___contains__ rfl fun cdv A outer s H E hr N => ?_
  have nd := sc_Talk___contains__.nd
  exact js_guard (jt_w (jw_or (jt_not (jt_val (je_isiG (je_var (i := 1) rfl rfl (vis_by rfl) rfl rfl) (.tup _) (je_ty (bi_tuple fr rfl)) (by decide +kernel) (bi_isinstance fr rfl) ⟨rfl, rfl⟩ ⟨rfl, rfl⟩) (fun _ => rfl))) (fun hb2 => (jw_or (jct (jc_neI (je_len (je_var (i := 1) rfl rfl (vis_by rfl) rfl rfl) (by first | exact .dl _ | exact .dt _ | exact .tu _ | exact .li _) (bi_len fr rfl) ⟨rfl, rfl⟩) je_int)) (fun hb3 => (jw_or1 (jt_not (jt_val (je_isiG (je_ixT (je_var (i := 1) rfl rfl (vis_by rfl) rfl rfl) je_int rfl (fun _ _ => rfl)) (by first | exact .int _ | exact .str _ | exact .lst _ | exact .tup _ | exact .bl _ | exact .non | exact .li _ | exact .tu _) (je_ty (bi_str fr rfl)) (by decide +kernel) (bi_isinstance fr rfl) ⟨rfl, rfl⟩ ⟨rfl, rfl⟩) (fun _ => rfl))))))))) (fun hc1 => absurd hc1 (by simp [kg_tt, kg_ss]))
      (fun hc1 => js_ret (P := (BlV false)) (JE.cast (je_and (je_call (h_is_integer _ (by constructor)) (hr.mono (by decide)) (ja_cons (je_ixT (je_var (i := 1) rfl rfl (vis_by rfl) rfl rfl) je_int rfl (fun _ _ => rfl)) ja_nil rfl) has_nil .nil rfl rfl ⟨rfl, rfl⟩) (fun hb4 => (je_and1 (jcv (absurd hb4 Bool.false_ne_true : JC _ _ _ _ _ false))))) (by simp [isI])) (by exact fun v I H s p => ⟨I, (s.fewer has_nil .nil), p⟩))

theorem w_contains_none (ft : Ft K mg CB CR CT CN CL) (F : FunD K "__contains__" "Talk.__contains__" (defArgs (sub 51 6)) (defBody (sub 51 6)) (defScope (sub 51 6)) [] [] f fd) (hm : Meth K CT "__contains__" f) (h_is_integer : ∀ d, Sc d → Fd P w K mg base "is_integer" 1 (FSp [] [DatV d] (BlV (isI d)) [])) (h_letters : ∀ t, TkOk t → Fm P w K mg base CT "letters" 1 (FSp [] [TalkV CT t] (DatV (.tuple ((letters t).map letD))) [])) {t : Tk} (ht : TkOk t) : Fm P w K mg base CT "__contains__" 2 (FSp [] [TalkV CT t, DatV (.none)] (BlV false) []) := by
  have fr := ft.fr
  refine ⟨f, fd, ["self", "letter"], ?_, hm, F.bindsN fun _ _ _ _ _ _ us hl => match us, hl with | [_, _], _ => rfl⟩
  refine fn_rule F sc_Talk___contains__ rfl fun cdv A outer s H E hr N => ?_
  have nd := sc_Talk___contains__.nd
  exact js_guard (jt_w (jw_or (jt_not (jt_val (je_isiG (je_var (i := 1) rfl rfl (vis_by rfl) rfl rfl) .non (je_ty (bi_tuple fr rfl)) (by decide +kernel) (bi_isinstance fr rfl) ⟨rfl, rfl⟩ ⟨rfl, rfl⟩) (fun _ => rfl))) (fun hb => absurd hb (by simp [kg_nt]) : _ → JW _ _ _ _ _ false))) (fun hc1 => js_ret je_bl (by exact fun v I H s p => ⟨I, (s.fewer has_nil .nil), p⟩))
      (fun hc1 => absurd hc1 (by simp [kg_nt]))

theorem w_contains_list (ft : Ft K mg CB CR CT CN CL) (F : FunD K "__contains__" "Talk.__contains__" (defArgs (sub 51 6)) (defBody (sub 51 6)) (defScope (sub 51 6)) [] [] f fd) (hm : Meth K CT "__contains__" f) (h_is_integer : ∀ d, Sc d → Fd P w K mg base "is_integer" 1 (FSp [] [DatV d] (BlV (isI d)) [])) (h_letters : ∀ t, TkOk t → Fm P w K mg base CT "letters" 1 (FSp [] [TalkV CT t] (DatV (.tuple ((letters t).map letD))) [])) {t : Tk} (ht : TkOk t) : Fm P w K mg base CT "__contains__" 2 (FSp [] [TalkV CT t, DatV (.list [.str "out", .int 0])] (BlV false) []) := by
  have fr := ft.fr
  refine ⟨f, fd, ["self", "letter"], ?_, hm, F.bindsN fun _ _ _ _ _ _ us hl => match us, hl with | [_, _], _ => rfl⟩
  refine fn_rule F sc_Talk___contains__ rfl fun cdv A outer s H E hr N => ?_
  have nd := sc_Talk___contains__.nd
  exact js_guard (jt_w (jw_or (jt_not (jt_val (je_isiG (je_var (i := 1) rfl rfl (vis_by rfl) rfl rfl) (.lst _) (je_ty (bi_tuple fr rfl)) (by decide +kernel) (bi_isinstance fr rfl) ⟨rfl, rfl⟩ ⟨rfl, rfl⟩) (fun _ => rfl))) (fun hb => absurd hb (by simp [kg_lt]) : _ → JW _ _ _ _ _ false))) (fun hc1 => js_ret je_bl (by exact fun v I H s p => ⟨I, (s.fewer has_nil .nil), p⟩))
      (fun hc1 => absurd hc1 (by simp [kg_lt]))

theorem sc_Talk_time : FnScope ["self", "letter"] ["self", "letter"] (defScope (sub 51 7)) := ⟨rfl, rfl, rfl, by decide +kernel, rfl, by decide +kernel, by decide +kernel⟩
theorem w_Talk_time (ft : Ft K mg CB CR CT CN CL) (F : FunD K "time" "Talk.time" (defArgs (sub 51 7)) (defBody (sub 51 7)) (defScope (sub 51 7)) [] [] f fd) (hm : Meth K CT "time" f)  {t : Tk} {x : Let} (hx : x ∈ letters t) : Fm P w K mg base CT "time" 1 (FSp [] [TalkV CT t, DatV (letD x)] (IntV (time t x)) []) := by
  have fr := ft.fr
  refine ⟨f, fd, ["self", "letter"], ?_, hm, F.bindsN fun _ _ _ _ _ _ us hl => match us, hl with | [_, _], _ => rfl⟩
  refine fn_rule F sc_Talk_time rfl fun cdv A outer s H E hr N => ?_
  have nd := sc_Talk_time.nd
  exact js_ret (je_if (jct (jc_eqS (je_ixT (je_var (i := 1) rfl rfl (vis_by rfl) rfl rfl) je_int rfl (fun _ _ => rfl)) je_str)) (fun hb1 => (je_ixT (je_fld ft.cT ft.n_kept_out (je_var (i := 0) rfl rfl (vis_by rfl) rfl rfl) rfl rfl) (je_ixT (je_var (i := 1) rfl rfl (vis_by rfl) rfl rfl) je_int rfl (fun _ _ => rfl)) (time_out hx hb1) (fun _ _ => rfl))) (fun hb1 => (je_ixT (je_fld ft.cT ft.n_kept_back (je_var (i := 0) rfl rfl (vis_by rfl) rfl rfl) rfl rfl) (je_ixT (je_var (i := 1) rfl rfl (vis_by rfl) rfl rfl) je_int rfl (fun _ _ => rfl)) (time_back hx hb1) (fun _ _ => rfl)))) (by exact fun v I H s p => ⟨I, (s.fewer has_nil .nil), p⟩)

theorem sc_are_times : FnScope ["value", "least", "time", "one", "other"] ["value", "least"] (defScope (top 49)) := ⟨rfl, rfl, rfl, by decide +kernel, rfl, by decide +kernel, by decide +kernel⟩
theorem w_are_times (ft : Ft K mg CB CR CT CN CL) (F : FunD K "are_times" "are_times" (defArgs (top 49)) (defBody (top 49)) (defScope (top 49)) [] [] f fd) (hm : mg "are_times" = some (.ref f)) (h_is_between : ∀ d lo hi, Sc d → Fd P w K mg base "is_between" 2 (FSp [] [DatV d, IntV lo, IntV hi] (BlV (btw d lo hi)) [])) {ns : List Int} {m : Int} (h1 : m ≤ (ns.length : Int)) (h7 : ns.length ≤ 7) (ha : Asc ns) (hb : ∀ x ∈ ns, 0 ≤ x ∧ x ≤ 10000) : Fd P w K mg base "are_times" 3 (FSp [] [DatV (.list (ns.map PyData.int)), IntV m] (BlV true) []) := by
  have fr := ft.fr
  refine ⟨f, fd, ["value", "least"], ?_, hm, F.kp, F.bindsN fun _ _ _ _ _ _ us hl => match us, hl with | [_, _], _ => rfl⟩
  refine fn_rule F sc_are_times rfl fun cdv A outer s H E hr N => ?_
  have nd := sc_are_times.nd
  exact js_guard (jt_w (jw_or (jt_not (jt_val (je_isi2G (je_var (i := 0) rfl rfl (vis_by rfl) rfl rfl) (.lst _) (je_tup (ja_cons (je_ty (bi_list fr rfl)) (ja_cons (je_ty (bi_tuple fr rfl)) ja_nil rfl) rfl) (Nat.le_of_ble_eq_true rfl)) (by decide +kernel) (by decide +kernel) (bi_isinstance fr rfl) ⟨rfl, rfl⟩ ⟨rfl, rfl⟩) (fun _ => rfl))) (fun hb2 => (jw_or1 (jt_not (jct (jc_chain op_le op_le rfl (je_var (i := 1) rfl rfl (vis_by rfl) rfl rfl) (je_len (je_var (i := 0) rfl rfl (vis_by rfl) rfl rfl) (by first | exact .dl _ | exact .dt _ | exact .tu _ | exact .li _) (bi_len fr rfl) ⟨rfl, rfl⟩) (je_gi ft.MOST_TIMES rfl rfl)))))))) (fun hc1 => absurd hc1 (by rw [len_map]; simp [kg_ll]; omega))
      (fun hc1 => js_guard (jt_not (jt_val (je_all rfl (je_lcB (Lc.of (own := [("time", 2)]) (p := fun _ => true) (ji_dlM (je_var (i := 0) rfl rfl (vis_by rfl) rfl rfl)) rfl (fun _ _ _ _ _ => qg_name nd (nm_by rfl rfl rfl)) (fun z hz => (jgr_name (i := 2))) (fun z hz => jq1 ⟨by decide, Nat.le_of_ble_eq_true rfl⟩) (fun z hz _ _ _ _ _ => jts_nil) (fun z hz hpz _ _ _ _ _ => (je_call (h_is_between _ _ _ (.int _)) (hr.mono (by decide)) (ja_cons (je_var (i := 2) rfl rfl (vis_by rfl) rfl rfl) (ja_cons je_int (ja_cons (je_gi ft.MOST_TIME rfl rfl) ja_nil rfl) rfl) rfl) has_nil .nil rfl rfl ⟨rfl, rfl⟩)) (by omega)) rfl nd (fun _ => rfl)) (bi_all fr rfl) ⟨rfl, rfl⟩) (fun _ => rfl))) (fun hc3 => absurd hc3 (by simp [btw, List.all_eq_true]; exact hb))
      (fun hc3 => js_ret (P := (BlV true)) (JE.cast (je_all rfl (je_lcB (Lc.of (own := [("one", 3), ("other", 4)]) (p := fun _ => true) (ji_zipI (je_var (i := 0) rfl rfl (vis_by rfl) rfl rfl) (je_cutL1 (je_var (i := 0) rfl rfl (vis_by rfl) rfl rfl) je_int) (bi_zip fr rfl) ⟨rfl, rfl⟩ ⟨rfl, rfl⟩) rfl (fun _ _ _ _ _ => qg_tup2 rfl nd (nm_by rfl rfl rfl) (nm_by rfl rfl rfl)) (fun z hz => (jgr_tup2D (i := 3) (j := 4))) (fun z hz => jq2 ⟨by decide, Nat.le_of_ble_eq_true rfl⟩ ⟨by decide, Nat.le_of_ble_eq_true rfl⟩) (fun z hz _ _ _ _ _ => jts_nil) (fun z hz hpz _ _ _ _ _ => (jcv (jc_lt (je_var (i := 3) rfl rfl (vis_by rfl) rfl rfl) (je_var (i := 4) rfl rfl (vis_by rfl) rfl rfl)))) (by simp; omega)) rfl nd (fun _ => rfl)) (bi_all fr rfl) ⟨rfl, rfl⟩) (by refine congrArg BlV ?_; simp only [filter_tt]; exact asc_all ha)) (by exact fun v I H s p => ⟨I, (s.fewer has_nil .nil), p⟩)))

theorem sc_Talk___init__ : FnScope ["self", "out", "back", "losses"] ["self", "out", "back", "losses"] (defScope (sub 51 0)) := ⟨rfl, rfl, rfl, by decide +kernel, rfl, by decide +kernel, by decide +kernel⟩
theorem w_Talk___init__ (ft : Ft K mg CB CR CT CN CL) (F : FunD K "__init__" "Talk.__init__" (defArgs (sub 51 0)) (defBody (sub 51 0)) (defScope (sub 51 0)) dv [] f fd)  (h_is_between : ∀ d lo hi, Sc d → Fd P w K mg base "is_between" 2 (FSp [] [DatV d, IntV lo, IntV hi] (BlV (btw d lo hi)) [])) (h_are_times : ∀ (ns : List Int) (m : Int), m ≤ (ns.length : Int) → ns.length ≤ 7 → Asc ns → (∀ x ∈ ns, 0 ≤ x ∧ x ≤ 10000) → Fd P w K mg base "are_times" 3 (FSp [] [DatV (.list (ns.map PyData.int)), IntV m] (BlV true) [])) {t : Tk} (ht : TkOk t) {self : Addr} : FnOk P w K mg base (L2.CX P w) 4 f fd ["self", "out", "back", "losses"] (FSp [(self, insO CT [])] [EqV (.ref self), DatV (.list (t.out.map PyData.int)), DatV (.list (t.back.map PyData.int)), IntV (t.los : Int)] NonV [(self, insO CT [("kept_out", DatV (.tuple (t.out.map PyData.int))), ("kept_back", DatV (.tuple (t.back.map PyData.int))), ("kept_losses", IntV (t.los : Int))])]) := by
  have fr := ft.fr
  refine ?_
  refine fn_rule F sc_Talk___init__ rfl fun cdv A outer s H E hr N => ?_
  have nd := sc_Talk___init__.nd
  exact js_guard (jt_not (jt_val (je_call (h_are_times _ _ (by have := ht.o1; omega) (by first | exact ht.o7 | exact ht.b7) (by first | exact ht.oa | exact ht.ba) (by first | exact ht.ob | exact ht.bb)) (hr.mono (by decide)) (ja_cons (je_var (i := 1) rfl rfl (vis_by rfl) rfl rfl) (ja_cons je_int ja_nil rfl) rfl) has_nil .nil rfl rfl ⟨rfl, rfl⟩) (fun _ => rfl))) (fun hc1 => absurd hc1 (by simp))
      (fun hc1 => js_guard (jt_not (jt_val (je_call (h_are_times _ _ (by have := ht.o1; omega) (by first | exact ht.o7 | exact ht.b7) (by first | exact ht.oa | exact ht.ba) (by first | exact ht.ob | exact ht.bb)) (hr.mono (by decide)) (ja_cons (je_var (i := 2) rfl rfl (vis_by rfl) rfl rfl) (ja_cons je_int ja_nil rfl) rfl) has_nil .nil rfl rfl ⟨rfl, rfl⟩) (fun _ => rfl))) (fun hc2 => absurd hc2 (by simp))
      (fun hc2 => js_guard (jt_not (jt_val (je_call (h_is_between _ _ _ (.int _)) (hr.mono (by decide)) (ja_cons (je_var (i := 3) rfl rfl (vis_by rfl) rfl rfl) (ja_cons je_int (ja_cons (je_gi ft.MOST_LOSSES rfl rfl) ja_nil rfl) rfl) rfl) has_nil .nil rfl rfl ⟨rfl, rfl⟩) (fun _ => rfl))) (fun hc3 => absurd hc3 (by have := ht.l2; simp [btw]; omega))
      (fun hc3 => js_fld ft.cT ft.n_kept_out (je_tupleD (je_var (i := 1) rfl rfl (vis_by rfl) rfl rfl) (by first | exact .dl _ | exact .dt _ | exact .tu _ | exact .li _) (bi_tuple fr rfl) ⟨rfl, rfl⟩) (je_var (i := 0) rfl rfl (vis_by rfl) rfl rfl) (nin_by rfl) (Nat.le_of_ble_eq_true rfl)
      (js_fld ft.cT ft.n_kept_back (je_tupleD (je_var (i := 2) rfl rfl (vis_by rfl) rfl rfl) (by first | exact .dl _ | exact .dt _ | exact .tu _ | exact .li _) (bi_tuple fr rfl) ⟨rfl, rfl⟩) (je_var (i := 0) rfl rfl (vis_by rfl) rfl rfl) (nin_by rfl) (Nat.le_of_ble_eq_true rfl)
      (js_fld ft.cT ft.n_kept_losses (je_var (i := 3) rfl rfl (vis_by rfl) rfl rfl) (je_var (i := 0) rfl rfl (vis_by rfl) rfl rfl) (nin_by rfl) (Nat.le_of_ble_eq_true rfl)
      (js_nil (fun σ H ⟨_, I, s, _⟩ => ⟨I, s, .non⟩)) rfl) rfl) rfl)))

theorem sc_check_letter : FnScope ["talk", "letter"] ["talk", "letter"] (defScope (top 20)) := ⟨rfl, rfl, rfl, by decide +kernel, rfl, by decide +kernel, by decide +kernel⟩
theorem w_check_letter (ft : Ft K mg CB CR CT CN CL) (F : FunD K "check_letter" "check_letter" (defArgs (top 20)) (defBody (top 20)) (defScope (top 20)) [] [] f fd) (hm : mg "check_letter" = some (.ref f)) (h_contains : ∀ t x, TkOk t → Fm P w K mg base CT "__contains__" 2 (FSp [] [TalkV CT t, DatV (letD x)] (BlV (decide (x ∈ letters t))) [])) {t : Tk} (ht : TkOk t) {x : Let} (hx : x ∈ letters t) : Fd P w K mg base "check_letter" 3 (FSp [] [TalkV CT t, DatV (letD x)] NonV []) := by
  have fr := ft.fr
  refine ⟨f, fd, ["talk", "letter"], ?_, hm, F.kp, F.bindsN fun _ _ _ _ _ _ us hl => match us, hl with | [_, _], _ => rfl⟩
  refine fn_rule F sc_check_letter rfl fun cdv A outer s H E hr N => ?_
  have nd := sc_check_letter.nd
  exact js_guard (jct (jc_notInK (h_contains t x ht) (hr.mono (by decide)) (je_var (i := 1) rfl rfl (vis_by rfl) rfl rfl) (je_var (i := 0) rfl rfl (vis_by rfl) rfl rfl) rfl)) (fun hc1 => absurd hc1 (by simp [hx]))
      (fun hc1 => js_nil (fun σ H ⟨_, I, s, _⟩ => ⟨I, s, .non⟩))

theorem sc_window_of : FnScope ["row", "talk", "box", "letter", "delay", "time"] ["row", "talk", "box", "letter"] (defScope (top 21)) := ⟨rfl, rfl, rfl, by decide +kernel, rfl, by decide +kernel, by decide +kernel⟩
theorem w_window_of (ft : Ft K mg CB CR CT CN CL) (F : FunD K "window_of" "window_of" (defArgs (top 21)) (defBody (top 21)) (defScope (top 21)) [] [] f fd) (hm : mg "window_of" = some (.ref f)) (h_out : ∀ (l : Line) (b : Nat), b < l.boxes.length → l.boxes.length ≤ 4 → l.links.length = l.boxes.length + 1 → Fm P w K mg base CR "out_delay" 4 (FSp [] [RowV CR CB l, IntV (b : Int)] (DatV (linkD (sums (l.links.take (b + 1))))) []))
  (h_back : ∀ (l : Line) (b : Nat), b < l.boxes.length → l.boxes.length ≤ 4 → l.links.length = l.boxes.length + 1 → Fm P w K mg base CR "back_delay" 4 (FSp [] [RowV CR CB l, IntV (b : Int)] (DatV (linkD (sums (l.links.drop (b + 1))))) []))
  (h_time : ∀ t x, x ∈ letters t → Fm P w K mg base CT "time" 1 (FSp [] [TalkV CT t, DatV (letD x)] (IntV (time t x)) [])) {l : Line} (hl : LineOk l) {t : Tk} {b : Nat} (hb : b < l.boxes.length) {x : Let} (hx : x ∈ letters t) : Fd P w K mg base "window_of" 5 (FSp [] [RowV CR CB l, TalkV CT t, IntV (b : Int), DatV (letD x)] (DatV (linkD (win l t b x))) []) := by
  have fr := ft.fr
  refine ⟨f, fd, ["row", "talk", "box", "letter"], ?_, hm, F.kp, F.bindsN fun _ _ _ _ _ _ us hl => match us, hl with | [_, _, _, _], _ => rfl⟩
  refine fn_rule F sc_window_of rfl fun cdv A outer s H E hr N => ?_
  have nd := sc_window_of.nd
  exact js_set (i := 4) (JE.cast (P' := DatV (linkD (delay l b x))) (je_ifD (jct (jc_eqS (je_ixT (je_var (i := 3) rfl rfl (vis_by rfl) rfl rfl) je_int rfl (fun _ _ => rfl)) je_str)) (fun _ => (je_meth (h_out l b hb hl.n4 hl.ln) ft.cR (hr.mono (by decide)) (je_var (i := 0) rfl rfl (vis_by rfl) rfl rfl) (ja_cons (je_var (i := 2) rfl rfl (vis_by rfl) rfl rfl) ja_nil rfl) has_nil .nil (nin_by rfl) ⟨rfl, rfl⟩ rfl)) (fun _ => (je_meth (h_back l b hb hl.n4 hl.ln) ft.cR (hr.mono (by decide)) (je_var (i := 0) rfl rfl (vis_by rfl) rfl rfl) (ja_cons (je_var (i := 2) rfl rfl (vis_by rfl) rfl rfl) ja_nil rfl) has_nil .nil (nin_by rfl) ⟨rfl, rfl⟩ rfl))) (delay_eq l b x))
      (js_set (i := 5) (je_meth (h_time t x hx) ft.cT (hr.mono (by decide)) (je_var (i := 1) rfl rfl (vis_by rfl) rfl rfl) (ja_cons (je_var (i := 3) rfl rfl (vis_by rfl) rfl rfl) ja_nil rfl) has_nil .nil (nin_by rfl) ⟨rfl, rfl⟩ rfl)
      (js_ret (je_tupD (jd_cons (je_add (je_var (i := 5) rfl rfl (vis_by rfl) rfl rfl) (je_ixT (je_var (i := 4) rfl rfl (vis_by rfl) rfl rfl) je_int rfl (fun _ _ => rfl))) (jd_cons (je_add (je_var (i := 5) rfl rfl (vis_by rfl) rfl rfl) (je_ixT (je_var (i := 4) rfl rfl (vis_by rfl) rfl rfl) je_int rfl (fun _ _ => rfl))) jd_nil rfl) rfl) (Nat.le_of_ble_eq_true rfl)) (by exact fun v I H s p => ⟨I, (s.fewer has_nil .nil), p⟩)) nd (nm_by rfl rfl rfl) (Nat.le_of_ble_eq_true rfl) rfl) nd (nm_by rfl rfl rfl) (Nat.le_of_ble_eq_true rfl) rfl

theorem sc_is_sight : FnScope ["row", "box", "letter"] ["row", "box", "letter"] (defScope (top 25)) := ⟨rfl, rfl, rfl, by decide +kernel, rfl, by decide +kernel, by decide +kernel⟩
theorem w_is_sight (ft : Ft K mg CB CR CT CN CL) (F : FunD K "is_sight" "is_sight" (defArgs (top 25)) (defBody (top 25)) (defScope (top 25)) [] [] f fd) (hm : mg "is_sight" = some (.ref f)) (h_boxes : ∀ l, Fp P w K mg base CR "boxes" 1 (FSp [] [RowV CR CB l] (TuV (l.boxes.map (BoxV CB))) []))
  (h_sees : ∀ bx : BoxD, Fp P w K mg base CB "sees" 1 (FSp [] [BoxV CB bx] (StrV bx.sees) [])) {l : Line} {b : Nat} (hb : b < l.boxes.length) {x : Let} : Fd P w K mg base "is_sight" 3 (FSp [] [RowV CR CB l, IntV (b : Int), DatV (letD x)] (BlV (sight l b x)) []) := by
  have fr := ft.fr
  refine ⟨f, fd, ["row", "box", "letter"], ?_, hm, F.kp, F.bindsN fun _ _ _ _ _ _ us hl => match us, hl with | [_, _, _], _ => rfl⟩
  refine fn_rule F sc_is_sight rfl fun cdv A outer s H E hr N => ?_
  have nd := sc_is_sight.nd
  exact js_ret (P := (BlV (sight l b x))) (JE.cast (je_or (jcv (jc_eqS (je_ixT (je_var (i := 2) rfl rfl (vis_by rfl) rfl rfl) je_int rfl (fun _ _ => rfl)) je_str)) (fun hb1 => (je_and1 (jcv (jc_eqS (je_prop (h_sees _) ft.cB (hr.mono (by decide)) (je_ixTu (je_prop (h_boxes l) ft.cR (hr.mono (by decide)) (je_var (i := 0) rfl rfl (vis_by rfl) rfl rfl) rfl) (je_var (i := 1) rfl rfl (vis_by rfl) rfl rfl) (atI_map (List.getElem?_eq_getElem hb)) (fun _ _ => rfl)) rfl) je_str))))) (by rw [sight_eq hb])) (by exact fun v I H s p => ⟨I, (s.fewer has_nil .nil), p⟩)

end
end QD

/-! text QFJ -/
set_option Elab.async false
set_option linter.all false
set_option maxRecDepth 100000
set_option maxHeartbeats 4000000
/-! QFJ: objects that the law makes. Printed by fj.py. -/
namespace QD
open PySem PySem.Spec PyProof.Rows L2 QL
section
variable {P : Program} {w : World} {K : PySem.W.Frag} {mg : Str → Option Value} {base : Heap} {CB CR CT CN CL : Addr} {f : Addr} {fd : FuncData}

theorem boxMk (ft : Ft K mg CB CR CT CN CL) (F : FunD K "__init__" "Box.__init__" (defArgs (sub 18 0)) (defBody (sub 18 0)) (defScope (sub 18 0)) [] [("rest", .int 0), ("sees", .str "out")] f fd) (hm : Mk K CB f)
    (h_sees : ∀ s : Str, s = "out" ∨ s = "both" → Fd P w K mg base "is_part_value" 3 (FSp [] [StrV "sees", StrV s] (BlV true) []))
    (h_low : ∀ i, Fd P w K mg base "is_part_value" 3 (FSp [] [StrV "low", IntV i] (BlV (btw (.int i) 1 10000)) []))
    (h_high : ∀ i, Fd P w K mg base "is_part_value" 3 (FSp [] [StrV "high", IntV i] (BlV (btw (.int i) 1 10000)) []))
    (h_rest : ∀ i, Fd P w K mg base "is_part_value" 3 (FSp [] [StrV "rest", IntV i] (BlV (btw (.int i) 0 10000)) [])) : BoxMk P w K mg base CB := by
  obtain ⟨mv, hk⟩ := F.kbinds0 (ps := ["self", "low", "high", "rest", "sees"]) 3 ["rest", "sees"] [] (fun vs mz zs => vs ++ (mz ++ zs)) (by simp) (fun q hq => by cases hq) (fun r1 r2 r3 => r1.append (r2.append r3)) (fun D doc pm an cdv ct us mv ws l1 l2 l3 => by
    match us, mv, ws, l1, l2, l3 with
    | [_, _, _], [], [_, _], _, _, _ => exact rfl)
  exact ⟨f, fd, _, hm, fun bx hb => FnOk.union' fun self => w_Box_init ft F h_sees h_low h_high h_rest ⟨hb.b1, hb.b2, hb.b3, hb.b4, hb.b5, hb.b6⟩, hk⟩
theorem box_ok {l : Line} (hl : LineOk l) {z : BoxD} (hz : z ∈ l.boxes) : BoxOk z := let ⟨a, b, c, d, e, f⟩ := hl.bx z hz; ⟨a, b, c, d, e, f⟩

theorem sc__law_box : FnScope ["_law_one"] ["_law_one"] (defScope (top 57)) := ⟨rfl, rfl, rfl, by decide +kernel, rfl, by decide +kernel, by decide +kernel⟩
theorem w__law_box (ft : Ft K mg CB CR CT CN CL) (F : FunD K "_law_box" "_law_box" (defArgs (top 57)) (defBody (top 57)) (defScope (top 57)) [] [] f fd) (hm : mg "_law_box" = some (.ref f)) (hbox : BoxMk P w K mg base CB) {bx : BoxD} (hb : BoxOk bx) : Fd P w K mg base "_law_box" 6 (FSp [] [DatV (caseD bx)] (BoxV CB bx) []) := by
  have fr := ft.fr
  refine ⟨f, fd, ["_law_one"], ?_, hm, F.kp, F.bindsN fun _ _ _ _ _ _ us hl => match us, hl with | [_], _ => rfl⟩
  refine fn_rule F sc__law_box rfl fun cdv A outer s H E hr N => ?_
  have nd := sc__law_box.nd
  exact by
    obtain ⟨fb, fdb, gb, hmk, hF, hK⟩ := hbox
    exact js_ret (je_makeK (fs := boxF bx) (ps := [IntV bx.lo, IntV bx.hi]) (ps' := [IntV bx.lo, IntV bx.hi, IntV bx.rest, StrV bx.sees]) (qs := [IntV bx.rest, StrV bx.sees]) hmk (hF bx hb) hK (hr.mono (by decide)) (fun self vs zs I h1 h2 => gv_ok self vs zs I h1 h2) rfl (ja_cons (je_ixL (je_var (i := 0) rfl rfl (vis_by rfl) rfl rfl) je_int rfl (fun _ _ => rfl)) (ja_cons (je_ixL (je_var (i := 0) rfl rfl (vis_by rfl) rfl rfl) je_int rfl (fun _ _ => rfl)) ja_nil rfl) rfl) (jk_cons (je_ixL (je_var (i := 0) rfl rfl (vis_by rfl) rfl rfl) je_int rfl (fun _ _ => rfl)) (jk_cons (je_ixL (je_var (i := 0) rfl rfl (vis_by rfl) rfl rfl) je_int rfl (fun _ _ => rfl)) jk_nil)) rfl ft.mB rfl rfl rfl rfl rfl) (fun v I H s p => ⟨I, s, p⟩)

theorem sc__law_row : FnScope ["_law_line_here", "_law_one"] ["_law_line_here"] (defScope (top 59)) := ⟨rfl, rfl, rfl, by decide +kernel, rfl, by decide +kernel, by decide +kernel⟩
theorem w__law_row (ft : Ft K mg CB CR CT CN CL) (F : FunD K "_law_row" "_law_row" (defArgs (top 59)) (defBody (top 59)) (defScope (top 59)) [] [] f fd) (hm : mg "_law_row" = some (.ref f)) (h_box : ∀ bx, BoxOk bx → Fd P w K mg base "_law_box" 6 (FSp [] [DatV (caseD bx)] (BoxV CB bx) [])) (hrow : RowMk P w K mg base CR CB) {l : Line} (hl : LineOk l) : Fd P w K mg base "_law_row" 7 (FSp [] [DatV (lineD l)] (RowV CR CB l) []) := by
  have fr := ft.fr
  refine ⟨f, fd, ["_law_line_here"], ?_, hm, F.kp, F.bindsN fun _ _ _ _ _ _ us hl => match us, hl with | [_], _ => rfl⟩
  refine fn_rule F sc__law_row rfl fun cdv A outer s H E hr N => ?_
  have nd := sc__law_row.nd
  exact js_ret (je_make (fs := rowF CB l) (hrow l hl) (hr.mono (by decide)) (ja_cons (je_lc0 (Lc.of (own := [("_law_one", 1)]) (E := fun z => BoxV CB z) (p := fun _ => true) (ji_dlM (zs := l.boxes) (f := caseD) (je_ixL (je_var (i := 0) rfl rfl (vis_by rfl) rfl rfl) je_int rfl (fun _ _ => rfl))) rfl (fun _ _ _ _ _ => qg_name nd (nm_by rfl rfl rfl)) (fun z hz => (jgr_name (i := 1))) (fun z hz => jq1 ⟨by decide, Nat.le_of_ble_eq_true rfl⟩) (fun z hz _ _ _ _ _ => jts_nil) (fun z hz hpz _ _ _ _ _ => (je_call (h_box z (box_ok hl hz)) (hr.mono (by decide)) (ja_cons (je_var (i := 1) rfl rfl (vis_by rfl) rfl rfl) ja_nil rfl) has_nil .nil rfl rfl ⟨rfl, rfl⟩)) (by have := hl.n4; omega)) rfl nd (fun _ => rfl)) (ja_cons (je_listD (je_ixL (je_var (i := 0) rfl rfl (vis_by rfl) rfl rfl) je_int rfl (fun _ _ => rfl)) (by first | exact .dl _ | exact .dt _ | exact .tu _ | exact .li _) (bi_list fr rfl) ⟨rfl, rfl⟩) ja_nil rfl) rfl) rfl ft.mR rfl ⟨rfl, rfl⟩) (by exact fun v I H s p => ⟨I, s, p⟩)

theorem sc__law_made_talk : FnScope ["_law_talk_here"] ["_law_talk_here"] (defScope (top 62)) := ⟨rfl, rfl, rfl, by decide +kernel, rfl, by decide +kernel, by decide +kernel⟩
theorem w__law_made_talk (ft : Ft K mg CB CR CT CN CL) (F : FunD K "_law_made_talk" "_law_made_talk" (defArgs (top 62)) (defBody (top 62)) (defScope (top 62)) [] [] f fd) (hm : mg "_law_made_talk" = some (.ref f)) (htalk : TalkMk P w K mg base CT) {t : Tk} (ht : TkOk t) : Fd P w K mg base "_law_made_talk" 6 (FSp [] [DatV (talkD t)] (TalkV CT t) []) := by
  have fr := ft.fr
  refine ⟨f, fd, ["_law_talk_here"], ?_, hm, F.kp, F.bindsN fun _ _ _ _ _ _ us hl => match us, hl with | [_], _ => rfl⟩
  refine fn_rule F sc__law_made_talk rfl fun cdv A outer s H E hr N => ?_
  have nd := sc__law_made_talk.nd
  exact js_ret (je_make (fs := talkF t) (htalk t ht) (hr.mono (by decide)) (ja_cons (je_listD (je_ixL (je_var (i := 0) rfl rfl (vis_by rfl) rfl rfl) je_int rfl (fun _ _ => rfl)) (by first | exact .dl _ | exact .dt _ | exact .tu _ | exact .li _) (bi_list fr rfl) ⟨rfl, rfl⟩) (ja_cons (je_listD (je_ixL (je_var (i := 0) rfl rfl (vis_by rfl) rfl rfl) je_int rfl (fun _ _ => rfl)) (by first | exact .dl _ | exact .dt _ | exact .tu _ | exact .li _) (bi_list fr rfl) ⟨rfl, rfl⟩) (ja_cons (je_ixL (je_var (i := 0) rfl rfl (vis_by rfl) rfl rfl) je_int rfl (fun _ _ => rfl)) ja_nil rfl) rfl) rfl) rfl ft.mT rfl ⟨rfl, rfl⟩) (by exact fun v I H s p => ⟨I, s, p⟩)

end
end QD

/-! text QG1 -/
set_option Elab.async false
set_option linter.all false
set_option maxRecDepth 100000
set_option maxHeartbeats 4000000
/-! QG1: __init__ of an own exception: super().__init__(text), then self.value = value. -/
namespace QX
open PySem PySem.Spec PyProof.Rows L2 NdefX
section
variable {X : Cx} {pins : List (Addr × Obj)} {σ : L2.St} {H : Hp} {s : Shared} {A : Around} {a C u : Addr} {us : List Value} {E : Value → Shared → Prop} {Q : Value → Shared → Prop}
/-- the bound ValueError.__init__ called -/
theorem mw_call (T : OexC X.K C) (qx : PySem.W.excInitIn X.K C bmB "ValueError.__new__" = true) (FB : ExcBaseFacts "ValueError" "ValueError.__new__" "ValueError.__init__" bmB) (I : Inv X pins σ H s) (e : H a = some (exo a C none)) (hu : s.heap.get? u = some (PySem.W.kxs_mw "ValueError.__init__" a)) (hl : us.length ≤ sizeLine) (h : ∀ s', Inv X pins σ H s' → Q .none s') :
    wpAny (model X.prog X.w) A (call (.ref u) us) Q E s := by
  obtain ⟨nm, N', qn, bs, bm, hdct, sn, sub, ab, col, dd, k0, k1, k2, k3, k5, hC, hT⟩ := PySem.W.excInit_of I.kIn qx
  obtain ⟨t1, ho⟩ := exo_at I.hok e
  obtain ⟨hp, g, d, t, os⟩ := s
  refine wpAny_call (codeAny_of_tree ?_)
  show wpAny _ A.in1 (callAny (.ref u) ⟨us, []⟩) _ _ _
  simp only [callAny]
  refine wpAny_bind (wpAny_load hu ?_)
  simp only [PySem.W.kxs_mw, show (Value.type "method-wrapper" == Value.type "method" || Value.type "method-wrapper" == Value.type "builtin_function_or_method" || Value.type "method-wrapper" == Value.type "method-wrapper") = true by decide, if_true]
  refine PySem.W.KFB.if_so (by decide) ?_
  refine wpAny_bind (PySem.W.check_bound_init FB.toExcCallFacts hC ho rfl ?_)
  refine wpAny_bind (wpAny_pure (wpAny_pure ?_))
  refine ⟨plainId_quiet FB.init.plain _, codeAny_builtin FB.initEntry ?_⟩
  refine PySem.W.exc_init_tree (cls := .ref C) (t0 := t1) (dv := none) (c2 := .none) (c3 := .none) (b4 := .bool false) ho hl fun h' k hx ht => ?_
  have J := I.write (t' := t) (x := a) (e := a) (o := exo a C none) (by rw [e]; exact True.intro) (.inl rfl) k ⟨_, hx⟩ (exo_ok hx)
  have eu : upd H a (exo a C none) = H := by
    funext b
    by_cases hb : b = a
    · rw [hb, upd_same, e]
    · rw [upd_ne hb]
  rw [eu] at J
  exact h _ J
end
/-- what the text tells of an own exception class whose __init__ is so -/
structure ExF (P : Program) (K : PySem.W.Frag) (mg : Str → Option Value) (C f cc cda : Addr) (fd : FuncData) (qual : Str) (scope : Scope) (cl : List (Str × Addr)) : Prop where
  lk : ∃ oc od osl, K.lookup f = some ⟨oc, od, .func fd, osl⟩
  cd : PySem.W.codeIn K (.ref cda) qual = true
  code : ∃ ccl cdd vs ccs file tf, K.lookup cda = some ⟨ccl, cdd, .fields vs, ccs⟩ ∧ vs[2]? = some (.str file tf) ∧ ((P.main.file : Str) == file) = true
  top : (P.main.scope.names.lookup ("super" : Str)).isSome = false
  cell : ∃ cl0 cld csl, K.lookup cc = some ⟨cl0, cld, .cell (some (.ref C)), csl⟩
  ox : OexC K C
  sup : PySem.W.ks_superIn K C C "__init__" = some (some (.builtin "ValueError.__init__"))
  isV : PySem.W.subIn K (.ref C) (.type "ValueError") = some true
  mro : PySem.W.mroIn K C (.ref C) = some true
  op : PySem.W.nsIn K cStatics "thirdparty.any" = some none
  exi : ∃ bmB, ExcBaseFacts "ValueError" "ValueError.__new__" "ValueError.__init__" bmB ∧ PySem.W.excInitIn K C bmB "ValueError.__new__" = true
  noa : PySem.W.findIn K (.ref C) "value" = some none
  nos : mg "super" = none
  sc : NScope ["self", "value", "__class__"] ["self", "value"] ["__class__"] scope
  sg : scope.names.lookup ("super" : Str) = some .globalImplicit
  hd : ∃ ar, (fd.params.posonlyargs ++ fd.params.args).head? = some ar ∧ ar.arg = "self"
/-- what it promises -/
def SpX (C : Addr) : Sp := fun vs H Q _ => ∃ (a : Addr) (y : V), vs = [.ref a, y] ∧ H a = some (exo a C none) ∧ ∀ dx, H dx = none → dx ≠ a → Q .non (upd (upd H dx (exd dx [("value", y)])) a (exo a C (some dx)))
/-- its body -/
abbrev exB (msg : Str) (j : Nat) (p0 p1 p2 p3 p4 p5 p6 p7 p8 p9 : Pos) : List Stmt := [.Expr (.Call (.Attribute (.Call (.Name "super" p0) [] [] p1) "__init__" p2) [.Constant (.str msg) j p3] [] p4) p5, .Assign [.Attribute (.Name "self" p6) "value" p7] (.Name "value" p8) p9]
/-- how the call of super's __init__ is read (by rfl, at a written place) -/
def SupRd (msg : Str) (j : Nat) (p0 p1 p2 p3 p4 : Pos) : Prop := ∀ env : Env, ∃ pl : Sem Bool, eval (.Call (.Attribute (.Call (.Name "super" p0) [] [] p1) "__init__" p2) [.Constant (.str msg) j p3] [] p4) env = (do
      let ov ← attributeBase (.Call (.Name "super" p0) [] [] p1) "__init__" env (eval (.Call (.Name "super" p0) [] [] p1) env)
      standAt p2.atName
      let (f, first) ← holding [ov] (getMethod ov "__init__" pl)
      callWith p4 f first (backTo p4 (starEach [.Constant (.str msg) j p3] env)) [])
theorem exc_fn {CX : CXT} {P : Program} {w : World} {K : PySem.W.Frag} {mg : Str → Option Value} {base : Heap} {k : Nat} {C f cc cda : Addr} {name qual msg : Str} {params : Arguments} {scope : Scope} {dV kV doc pm ct : Value} {an : Option Addr} {j : Nat} {p0 p1 p2 p3 p4 p5 p6 p7 p8 p9 : Pos}
    (RD : SupRd msg j p0 p1 p2 p3 p4) (T : ExF P K mg C f cc cda (PySem.W.fnX name qual params (exB msg j p0 p1 p2 p3 p4 p5 p6 p7 p8 p9) scope [("__class__", cc)] dV kV doc pm an (.ref cda) ct) qual scope [("__class__", cc)]) :
    FnOk P w K mg base CX (k + 1) f (PySem.W.fnX name qual params (exB msg j p0 p1 p2 p3 p4 p5 p6 p7 p8 p9) scope [("__class__", cc)] dV kV doc pm an (.ref cda) ct) ["self", "value"] (SpX C) := by
  refine ⟨fun vs H Q E h => ?_, fun A outer s H args us vs Q E hr e0 hb r hsp => ?_⟩
  · obtain ⟨a, y, e, _⟩ := h
    rw [e]
    rfl
  obtain ⟨a, y, ev, ea, q⟩ := hsp
  subst ev
  obtain ⟨oc, od, osl, lk⟩ := T.lk
  obtain ⟨ccl, cdd, cvs, ccs, file, tf, hcode, hvs, hfile⟩ := T.code
  obtain ⟨cl0, cld, csl, hcell⟩ := T.cell
  obtain ⟨bmB, FB, qx⟩ := T.exi
  obtain ⟨ar, har, eself⟩ := T.hd
  have bk : ∀ b o, base.get? b = some o → s.heap.get? b = some o := fun b o e => (e0.bs b o e).1
  have KX : K.In s.heap := e0.mod.kin.keeps bk
  have lim : s.heap.NoLimit := e0.mod.nolimit.keeps bk
  refine ks_codeAny_call_defAt hr.depth (KX _ _ lk) rfl lim (PySem.W.codeRec_of KX T.cd) rfl hb T.sc.nocell (fun x hx => T.sc.par _ (List.of_mem_zip hx).1) (fun h₀ hns kp => ?_) T.sc.co T.sc.gen T.sc.kind
  cases r with
  | @cons _ u0 _ ur ra rw' =>
  cases rw' with
  | @cons _ u1 _ ur2 ry rn =>
  cases rn
  obtain rfl : u0 = Value.ref a := ra
  obtain ⟨cd0, hcD⟩ : ∃ cd0, PySem.W.clsIn K C = some cd0 := by
    have z := T.sup
    unfold PySem.W.ks_superIn at z
    cases hc : PySem.W.clsIn K C with
    | none => rw [hc] at z; cases z
    | some cd0 => exact ⟨cd0, rfl⟩
  have hmr : PySem.W.alongIn K "__init__" ((cd0.mro.dropWhile (· != .ref C)).drop 1) = some (some (.builtin "ValueError.__init__")) := by
    have z := T.sup
    unfold PySem.W.ks_superIn at z
    rw [hcD] at z
    exact z
  have hcc : s.heap.get? cc = some ⟨cl0, cld, .cell (some (.ref C)), csl⟩ := KX _ _ hcell
  have hccH : H cc = none := (e0.bs cc _ (e0.mod.kin _ _ hcell)).2
  obtain ⟨oD, bD, hD2⟩ : ∃ oD, base.get? C = some oD ∧ oD.data = .cls cd0 := by
    have hcD' := hcD
    unfold PySem.W.clsIn at hcD'
    split at hcD'
    · rename_i c d cd' sl ho
      cases hcD'
      exact ⟨_, e0.mod.kin _ _ ho, rfl⟩
    · cases hcD'
  have hCH : H C = none := (e0.bs C _ bD).2
  have haC : a ≠ C := fun z => by rw [z, hCH] at ea; cases ea
  have look1 : ∀ {z : Str} {c : Addr}, [(("__class__" : Str), cc)].lookup z = some c → c = cc ∧ z = "__class__" := fun {z c} hz => by
    by_cases h : z = "__class__"
    · subst h
      simp [List.lookup] at hz
      exact ⟨hz.symm, rfl⟩
    · have e : (z == ("__class__" : Str)) = false := by simpa using h
      simp [List.lookup, e] at hz
  have CA : CellsAt [(("__class__" : Str), cc)] ["__class__"] [some (V.ref C)] s.heap H := ⟨rfl, fun z c hz => by
      rw [(look1 hz).1]
      exact ⟨hccH, _, ⟨_, hcc, rfl⟩⟩, fun x z c h1 h2 => (look1 h1).2.trans (look1 h2).2.symm, fun i z hi => by
      match i, hi with
      | 0, hi =>
        have hz : "__class__" = z := by simpa using hi
        subst hz
        refine ⟨cc, by simp [List.lookup], fun v hv => ?_⟩
        have e : V.ref C = v := by simpa using hv
        subst e
        exact ⟨.ref C, rfl, ⟨_, hcc, rfl⟩⟩
      | i + 1, hi => simp at hi⟩
  have I0 := inv_startN (CX := CX) (P := P) (w := w) (K := K) (mg := mg) (base := base) (N := ["self", "value", "__class__"]) (ps := ["self", "value"]) (fr := ["__class__"]) (F := (⟨name, qual, params, exB msg j p0 p1 p2 p3 p4 p5 p6 p7 p8 p9, scope, [("__class__", cc)], cda⟩ : NF)) (f := f) (A := A) (outer := outer) (s := s) (H := H) (E := E) (us := [Value.ref a, u1]) (vs := [V.ref a, y]) (ws := [some (V.ref C)]) (h₁ := h₀) (tk := s.toks + (([("self" : Str), "value"] : List Str).zip [Value.ref a, u1]).length) T.sc hr.hd e0 rfl (.cons (show RelV (.ref a) (.ref a) from rfl) (.cons ry .nil)) CA hns kp
  have hks : scope.names.lookup ("super" : Str) = some .globalImplicit := T.sg
  have hkc : scope.names.lookup ("__class__" : Str) = some .free := T.sc.frk _ (by simp)
  have hka : scope.names.lookup ("self" : Str) = some .local := T.sc.par _ (by simp)
  have hkv : scope.names.lookup ("value" : Str) = some .local := T.sc.par _ (by simp)
  have hk : scope.kind = .function := T.sc.kind
  have kb : ∀ b o, s.heap.get? b = some o → h₀.get? b = some o := kp
  have KX0 : K.In h₀ := KX.keeps kp
  obtain ⟨t1, ho⟩ := exo_at e0.hok ea
  obtain ⟨pl, he⟩ := RD (callEnv (PySem.W.fnX name qual params (exB msg j p0 p1 p2 p3 p4 p5 p6 p7 p8 p9) scope [("__class__", cc)] dV kV doc pm an (.ref cda) ct) s.heap.objs.size f)
  have hself : (([("self" : Str), "value"] : List Str).zip [Value.ref a, u1]).reverse.lookup ar.arg = some (Value.ref a) := by
    rw [eself]
    rfl
  obtain ⟨mb, hmb1, hmb2⟩ := e0.mod.blt
  have bk0 : ∀ b o, base.get? b = some o → h₀.get? b = some o := fun b o e => kp b o (bk b o e)
  have hint : interactive (callEnv (PySem.W.fnX name qual params (exB msg j p0 p1 p2 p3 p4 p5 p6 p7 p8 p9) scope [("__class__", cc)] dV kV doc pm an (.ref cda) ct) s.heap.objs.size f) = false := by
    unfold interactive
    rw [show (callEnv (PySem.W.fnX name qual params (exB msg j p0 p1 p2 p3 p4 p5 p6 p7 p8 p9) scope [("__class__", cc)] dV kV doc pm an (.ref cda) ct) s.heap.objs.size f).scope.kind = .function from hk]
    rfl
  refine ks_wpAt_execs_cons (ks_wpAt_Expr_any (ks_wpAt_MethodCall (pl := pl) (ks_wpAt_super_base (file := file) (tf := tf) hks hkc (by decide) rfl (KX0 _ _ lk) rfl har rfl (KX0 _ _ hcode) rfl hvs hfile T.top ?_) he) hint)
  refine PySem.W.ks_loadName_global hk hks (Calls.loadGlobal_builtin (e0.mod.glob.keeps bk0) T.nos (hmb1.keeps bk0) ((hmb2 "super" (by decide)).trans (by rfl)) ⟨rfl, ?_⟩)
  refine wpAny_loadName_free hk hkc (c := cc) (v := .ref C) (by show [(("__class__" : Str), cc)].lookup ("__class__" : Str) = some cc; simp [List.lookup]) ⟨_, kp _ _ hcc, rfl⟩ ?_
  refine wpAny_loadName_local hk (by rw [eself]; exact hka) hns hself ?_
  refine ks_wpAny_isType_cls (bk0 _ _ bD) hD2 ⟨rfl, ?_⟩
  refine ks_wpAny_call_super (bk0 _ _ bD) hD2 (kp _ _ ho) rfl (fun c e => by cases e) (PySem.W.looks_mroIn KX0 T.mro) (fun h1 e1 k1 => ?_)
  have J1 := I0.kept (h' := h1) (t' := s.toks + (([("self" : Str), "value"] : List Str).zip [Value.ref a, u1]).length) k1
  have hI : PySem.W.Looks (model P w) h1 (isInstance (.ref a) (.type "ValueError")) true := (show PySem.W.InstAt h1 a _ C none from ⟨k1 _ _ (kp _ _ ho), rfl, rfl, trivial⟩).type.andThen (PySem.W.looks_subIn J1.kIn T.isV)
  refine PySem.W.kxs_getMethod (K := K) (l₀ := cd0.mro) (l := (cd0.mro.dropWhile (· != .ref C)).drop 1) PySem.W.kxs_ValueError e1 (PySem.W.looks_opaque J1.kIn T.op) (fun A Q E s k q => wpAny_bind ((PySem.W.looks_clsIn J1.kIn hcD) A _ E s k (wpAny_pure q))) rfl J1.kIn hmr hI haC (by decide) ?_
  refine PySem.W.kxs_callWith (i := "ValueError.__init__") (x := a) (by rfl) (Calls.evalArgs_plain (Calls.spliced_cons (Calls.Constant_str (k := j) (pos := p3) (Calls.spliced_nil ⟨Heap.get?_push_size _ rfl, ?_⟩))))
  have J2 := J1.kept (h' := h1.push (PySem.W.kxs_mw "ValueError.__init__" a)) (t' := s.toks + (([("self" : Str), "value"] : List Str).zip [Value.ref a, u1]).length + 1 + 1) (fun b u e => Heap.get?_push_of_some _ e)
  refine mw_call (X := ncx CX P w K mg base ["self", "value", "__class__"] ⟨name, qual, params, exB msg j p0 p1 p2 p3 p4 p5 p6 p7 p8 p9, scope, [("__class__", cc)], cda⟩ f A outer s H E) T.ox qx FB J2 ea (Heap.get?_push_size _ rfl) (by simp [sizeLine_eq]) fun s2 J3 => ?_
  have PV : ∀ {i : Nat} {x : Str} {pos : Pos}, (["self", "value", "__class__"] : List Str)[i]? = some x → scope.names.lookup x = some .local → (x == ("__debug__" : Str)) = false → (x == ("__classdict__" : Str)) = false → PE (ncx CX P w K mg base ["self", "value", "__class__"] ⟨name, qual, params, exB msg j p0 p1 p2 p3 p4 p5 p6 p7 p8 p9, scope, [("__class__", cc)], cda⟩ f A outer s H E) (.Name x pos) (tVar i) := fun h1 h2 h3 h4 => pe_var h1 (.inl h2) h3 h4
  have PO := ps_ost (p' := p7) (pos := p9) (f := "value") (PV (i := 0) (x := "self") (pos := p6) rfl hka (by decide) (by decide)) (PV (i := 1) (x := "value") (pos := p8) rfl hkv (by decide) (by decide)) (by rfl)
  refine ks_wpAt_execs_cons (wpAt_of_wpAny (wpAny_mono (PO.run [] s2 _ H { nx := fun _ H' => Q .non H', rt := fun _ _ => False } J3 ⟨y, rfl, .ref a, rfl, a, C, rfl, T.ox, T.noa, .inl ⟨ea, fun dx h1 h2 => q dx h1 h2⟩⟩) (fun fl s' hs => ?_) fun e s' hs => hs))
  cases fl with
  | next =>
    obtain ⟨σ', H', J, q'⟩ := hs
    refine wpAt_of_wpAny ?_
    refine wpAny_execs_nil ⟨.non, H', J.os, J.bare, J.base, J.hok, rfl, q'⟩
  | ret u =>
    obtain ⟨_, _, _, _, _, q'⟩ := hs
    exact False.elim q'
  | brk =>
    obtain ⟨_, _, _, q'⟩ := hs
    exact False.elim q'
  | cont =>
    obtain ⟨_, _, _, q'⟩ := hs
    exact False.elim q'
end QX

/-! text QG2 -/
set_option Elab.async false
set_option linter.all false
set_option maxRecDepth 100000
set_option maxHeartbeats 4000000
/-! QG2: raise C(e). -/
namespace QX
open PySem PySem.Spec PyProof.Rows L2 QL
/-- an own exception class with such an __init__ -/
structure Xf (P : Program) (w : World) (K : PySem.W.Frag) (mg : Str → Option Value) (base : Heap) (x : Str) (C : Addr) (k : Nat) : Prop where
  ox : OexC K C
  fn : ∃ (fI : Addr) (fd : FuncData), PySem.W.findIn K (.ref C) "__init__" = some (some (.ref fI)) ∧ PySem.W.typeIn K (.ref fI) = some (.type "function") ∧ FnOk P w K mg base (L2.CX P w) k fI fd ["self", "value"] (SpX C) ∧ Binds K fd ["self", "value"] []
  mgx : mg x = some (.ref C)
theorem Xf.mono {P : Program} {w : World} {K : PySem.W.Frag} {mg : Str → Option Value} {base : Heap} {x : Str} {C : Addr} {j k : Nat} (h : Xf P w K mg base x C j) (l : j ≤ k) : Xf P w K mg base x C k := ⟨h.ox, let ⟨fI, fd, a, b, F, c⟩ := h.fn; ⟨fI, fd, a, b, F.mono l, c⟩, h.mgx⟩
theorem del_upd {H : Hp} {a d : Addr} {o1 o2 o3 o4 : HO} (ha : H a = none) (hne : d ≠ a) : upd (del (upd (upd (upd H a o1) d o2) a o3) a) d o4 = upd H d o4 := by
  funext b
  by_cases hb : b = d
  · rw [hb, upd_same, upd_same]
  · rw [upd_ne hb, upd_ne hb]
    by_cases h2 : b = a
    · rw [h2, del_same, ha]
    · rw [del_ne h2, upd_ne h2, upd_ne hb, upd_ne h2]
section
variable {X : Cx} {N : Ent} {M : OwnM} {Γ : QL.Ctx} {e : Expr} {R : Pr} {p pos pos2 : Pos} {k : Nat} {rest : List Stmt} {D : L2.Ends} {E : XK} {C : Addr} {x : Str}
theorem noT_xd {fs : List (Str × V)} : NoT (.xd fs) := by
  refine ⟨fun xs h => ?_, fun ps h => ?_, fun c h => ?_⟩ <;> cases h
theorem js_raise (F : Xf X.prog X.w X.K X.mg X.base x C k) (hc : X.calm = true) (tk : Takes X (fun cls d _ H => E cls d H)) (hr : Room (k + 1) X.A) (hg : Gl X x) (ha : JE X N M Γ e R) (lv : Lv N M C R E) (hdb : (x == ("__debug__" : Str)) = false) (A : Ar X e [] pos) :
    JS X (Tp N M Γ) (.Raise (some (.Call (.Name x p) [e] [] pos)) none pos2 :: rest) D := by
  obtain ⟨fI, fd, h1, h2, F1, hb⟩ := F.fn
  refine js_of (ps_raise hc tk (pmk_oex F.ox h1 h2 F1 hr hb .nil passF hg F.mgx wa_pa hdb A.he A.hpl)) fun σ H ⟨hlen, I, s, t⟩ => ?_
  refine ja_cons ha ja_nil A.he M I H σ _ (fun q hq => hq) s t fun vs I1 H1 s1 e1 tv => ?_
  obtain ⟨v, rfl, hv⟩ := ty1 tv
  refine ⟨by simp, fun a hn => ⟨a, v, rfl, upd_same, fun dx hdx hne => ?_⟩⟩
  have hd1 : H1 dx = none := by rw [upd_ne hne] at hdx; exact hdx
  refine ⟨rfl, dx, [("value", v)], upd_same, by rw [upd_ne hne, upd_same], hd1, ?_⟩
  rw [del_upd hn hne]
  exact lv dx v _ _ (s1.new hd1) upd_same (R.up (same_upd (fresh_of s1 hd1)) hv)
end
end QX

/-! text QFF -/
set_option Elab.async false
set_option linter.all false
set_option maxRecDepth 100000
set_option maxHeartbeats 4000000
/-! QFF: gap, ends, must_lose, gaps, is_kept. Printed by ff.py. -/
namespace QD
open PySem PySem.Spec PyProof.Rows L2 QL
section
variable {P : Program} {w : World} {K : PySem.W.Frag} {mg : Str → Option Value} {base : Heap} {CB CR CT CN CL : Addr} {f : Addr} {fd : FuncData}

theorem sc_gap : FnScope ["row", "talk", "box", "found", "first", "last"] ["row", "talk", "box"] (defScope (top 31)) := ⟨rfl, rfl, rfl, by decide +kernel, rfl, by decide +kernel, by decide +kernel⟩
theorem w_gap (ft : Ft K mg CB CR CT CN CL) (F : FunD K "gap" "gap" (defArgs (top 31)) (defBody (top 31)) (defScope (top 31)) [] [] f fd) (hm : mg "gap" = some (.ref f)) (h_check : ∀ (l : Line) (b : Nat), b < l.boxes.length → Fm P w K mg base CR "check" 3 (FSp [] [RowV CR CB l, IntV (b : Int)] NonV [])) (h_pairs_of : ∀ (l : Line) (t : Tk) (b : Nat), LineOk l → TkOk t → b < l.boxes.length → Fd P w K mg base "pairs_of" 7 (FSp [] [RowV CR CB l, TalkV CT t, IntV (b : Int)] (DatV (.list ((pairsOf l t b).map pairD))) [])) {l : Line} (hl : LineOk l) {t : Tk} (ht : TkOk t) {b : Nat} (hb : b < l.boxes.length) : Fd P w K mg base "gap" 8 (FSp [] [RowV CR CB l, TalkV CT t, IntV (b : Int)] (IntV (gapOf l t b)) []) := by
  have fr := ft.fr
  refine ⟨f, fd, ["row", "talk", "box"], ?_, hm, F.kp, F.bindsN fun _ _ _ _ _ _ us hl => match us, hl with | [_, _, _], _ => rfl⟩
  refine fn_rule F sc_gap rfl fun cdv A outer s H E hr N => ?_
  have nd := sc_gap.nd
  exact js_expr (je_meth (h_check l b hb) ft.cR (hr.mono (by decide)) (je_var (i := 0) rfl rfl (vis_by rfl) rfl rfl) (ja_cons (je_var (i := 2) rfl rfl (vis_by rfl) rfl rfl) ja_nil rfl) has_nil .nil (nin_by rfl) ⟨rfl, rfl⟩ rfl)
      (js_ret (je_maxD rfl (je_lcI0 (Lc.of (own := [("found", 3), ("first", 4), ("last", 5)]) (E := fun z : Pair => DatV (.int z.1)) (p := fun _ => true) (ji_dlM (zs := pairsOf l t b) (f := pairD) (je_call (h_pairs_of l t b hl ht hb) (hr.mono (by decide)) (ja_cons (je_var (i := 0) rfl rfl (vis_by rfl) rfl rfl) (ja_cons (je_var (i := 1) rfl rfl (vis_by rfl) rfl rfl) (ja_cons (je_var (i := 2) rfl rfl (vis_by rfl) rfl rfl) ja_nil rfl) rfl) rfl) has_nil .nil rfl rfl ⟨rfl, rfl⟩)) rfl (fun _ _ _ _ _ => qg_tup3 rfl nd (nm_by rfl rfl rfl) (nm_by rfl rfl rfl) (nm_by rfl rfl rfl)) (fun z hz => (jgr_tup3D (i := 3) (j := 4) (l := 5))) (fun z hz => jq3 ⟨by decide, Nat.le_of_ble_eq_true rfl⟩ ⟨by decide, Nat.le_of_ble_eq_true rfl⟩ ⟨by decide, Nat.le_of_ble_eq_true rfl⟩) (fun z hz _ _ _ _ _ => jts_nil) (fun z hz hpz _ _ _ _ _ => (je_var (i := 3) rfl rfl (vis_by rfl) rfl rfl)) (by have := pairs_len (l := l) (b := b) ht; omega)) rfl nd (fun _ => rfl)) (mxD_is _ _) (bi_max fr rfl) ⟨rfl, rfl⟩ rfl) (by exact fun v I H s p => ⟨I, (s.fewer has_nil .nil), p⟩)) rfl

theorem sc_ends : FnScope ["row", "talk", "box", "pairs", "most", "found", "first", "last"] ["row", "talk", "box"] (defScope (top 32)) := ⟨rfl, rfl, rfl, by decide +kernel, rfl, by decide +kernel, by decide +kernel⟩
theorem w_ends (ft : Ft K mg CB CR CT CN CL) (F : FunD K "ends" "ends" (defArgs (top 32)) (defBody (top 32)) (defScope (top 32)) [] [] f fd) (hm : mg "ends" = some (.ref f)) (h_check : ∀ (l : Line) (b : Nat), b < l.boxes.length → Fm P w K mg base CR "check" 3 (FSp [] [RowV CR CB l, IntV (b : Int)] NonV [])) (h_pairs_of : ∀ (l : Line) (t : Tk) (b : Nat), LineOk l → TkOk t → b < l.boxes.length → Fd P w K mg base "pairs_of" 7 (FSp [] [RowV CR CB l, TalkV CT t, IntV (b : Int)] (DatV (.list ((pairsOf l t b).map pairD))) [])) {l : Line} (hl : LineOk l) {t : Tk} (ht : TkOk t) {b : Nat} (hb : b < l.boxes.length) : Fd P w K mg base "ends" 8 (FSp [] [RowV CR CB l, TalkV CT t, IntV (b : Int)] (DatV (endsD (endsOf l t b))) []) := by
  have fr := ft.fr
  refine ⟨f, fd, ["row", "talk", "box"], ?_, hm, F.kp, F.bindsN fun _ _ _ _ _ _ us hl => match us, hl with | [_, _, _], _ => rfl⟩
  refine fn_rule F sc_ends rfl fun cdv A outer s H E hr N => ?_
  have nd := sc_ends.nd
  exact js_expr (je_meth (h_check l b hb) ft.cR (hr.mono (by decide)) (je_var (i := 0) rfl rfl (vis_by rfl) rfl rfl) (ja_cons (je_var (i := 2) rfl rfl (vis_by rfl) rfl rfl) ja_nil rfl) has_nil .nil (nin_by rfl) ⟨rfl, rfl⟩ rfl)
      (js_set (i := 3) (je_call (h_pairs_of l t b hl ht hb) (hr.mono (by decide)) (ja_cons (je_var (i := 0) rfl rfl (vis_by rfl) rfl rfl) (ja_cons (je_var (i := 1) rfl rfl (vis_by rfl) rfl rfl) (ja_cons (je_var (i := 2) rfl rfl (vis_by rfl) rfl rfl) ja_nil rfl) rfl) rfl) has_nil .nil rfl rfl ⟨rfl, rfl⟩)
      (js_set (i := 4) (je_maxD rfl (je_lcI0 (Lc.of (own := [("found", 5), ("first", 6), ("last", 7)]) (E := fun z : Pair => DatV (.int z.1)) (p := fun _ => true) (ji_dlM (zs := pairsOf l t b) (f := pairD) (je_var (i := 3) rfl rfl (vis_by rfl) rfl rfl)) rfl (fun _ _ _ _ _ => qg_tup3 rfl nd (nm_by rfl rfl rfl) (nm_by rfl rfl rfl) (nm_by rfl rfl rfl)) (fun z hz => (jgr_tup3D (i := 5) (j := 6) (l := 7))) (fun z hz => jq3 ⟨by decide, Nat.le_of_ble_eq_true rfl⟩ ⟨by decide, Nat.le_of_ble_eq_true rfl⟩ ⟨by decide, Nat.le_of_ble_eq_true rfl⟩) (fun z hz _ _ _ _ _ => jts_nil) (fun z hz hpz _ _ _ _ _ => (je_var (i := 5) rfl rfl (vis_by rfl) rfl rfl)) (by have := pairs_len (l := l) (b := b) ht; omega)) rfl nd (fun _ => rfl)) (mxD_is _ _) (bi_max fr rfl) ⟨rfl, rfl⟩ rfl)
      (js_for (fun done bt => (∀ p ∈ done, decide (p.1 = gapOf l t b) = false)) (fun done bt => ([] : OwnM)) (fun done bt => [some (RowV CR CB l), some (TalkV CT t), some (IntV (b : Int)), some (DatV (.list ((pairsOf l t b).map pairD))), some (IntV (gapOf l t b)), none, none, none]) (ji_dlM (je_var (i := 3) rfl rfl (vis_by rfl) rfl rfl)) (qg_tup3 rfl nd (nm_by rfl rfl rfl) (nm_by rfl rfl rfl) (nm_by rfl rfl rfl)) (fun z hz => (jgr_tup3D (i := 5) (j := 6) (l := 7))) passO rfl () (by intro p hp; cases hp) rfl (And.intro rfl (And.intro rfl (And.intro rfl (And.intro rfl (And.intro rfl True.intro))))) (fun z hz done bt => jp3 (Nat.le_of_ble_eq_true rfl) (Nat.le_of_ble_eq_true rfl) (Nat.le_of_ble_eq_true rfl))
      (fun N1 sb1 done1 z1 post1 b1 hz1 hC1 => js_guard (jct (jc_eqI (je_var (i := 5) rfl rfl (vis_by rfl) rfl rfl) (je_var (i := 4) rfl rfl (vis_by rfl) rfl rfl))) (fun hc2 => js_ret (P := (DatV (endsD (endsOf l t b)))) (JE.cast (je_tupD (jd_cons (je_var (i := 6) rfl rfl (vis_by rfl) rfl rfl) (jd_cons (je_var (i := 7) rfl rfl (vis_by rfl) rfl rfl) jd_nil rfl) rfl) (Nat.le_of_ble_eq_true rfl)) (ends_some hz1 hC1 hc2)) (by exact fun v I H s p => ⟨I, sb1.2.2.2 _ _ _ s, p⟩))
      (fun hc2 => js_turn () (by intro p hp; rcases List.mem_append.mp hp with h | h; exact hC1 p h; rw [List.mem_singleton.mp h]; exact hc2) rfl (And.intro rfl (And.intro rfl (And.intro rfl (And.intro rfl (And.intro rfl True.intro)))))))
      (fun N1 sb1 b1 hC1 => js_sub sb1 (js_ret (P := (DatV (endsD (endsOf l t b)))) (JE.cast je_non (ends_none hC1)) (by exact fun v I H s p => ⟨I, s, p⟩))) (fun _ => rfl)) nd (nm_by rfl rfl rfl) (Nat.le_of_ble_eq_true rfl) rfl) nd (nm_by rfl rfl rfl) (Nat.le_of_ble_eq_true rfl) rfl) rfl

theorem sc_must_lose : FnScope ["row", "talk", "box", "first", "last"] ["row", "talk", "box", "first", "last"] (defScope (top 33)) := ⟨rfl, rfl, rfl, by decide +kernel, rfl, by decide +kernel, by decide +kernel⟩
theorem w_must_lose (ft : Ft K mg CB CR CT CN CL) (F : FunD K "must_lose" "must_lose" (defArgs (top 33)) (defBody (top 33)) (defScope (top 33)) [] [] f fd) (hm : mg "must_lose" = some (.ref f)) (h_check : ∀ (l : Line) (b : Nat), b < l.boxes.length → Fm P w K mg base CR "check" 3 (FSp [] [RowV CR CB l, IntV (b : Int)] NonV [])) (h_check_letter : ∀ (t : Tk) (x : Let), TkOk t → x ∈ letters t → Fd P w K mg base "check_letter" 3 (FSp [] [TalkV CT t, DatV (letD x)] NonV [])) (h_lost_between : ∀ (l : Line) (t : Tk) (b : Nat) (x y : Let), LineOk l → TkOk t → b < l.boxes.length → x ∈ letters t → y ∈ letters t → Fd P w K mg base "lost_between" 7 (FSp [] [RowV CR CB l, TalkV CT t, IntV (b : Int), DatV (letD x), DatV (letD y)] (DatV (lostD (lostIn l t b x y))) [])) {l : Line} (hl : LineOk l) {t : Tk} (ht : TkOk t) {b : Nat} (hb : b < l.boxes.length) {x y : Let} (hx : x ∈ letters t) (hy : y ∈ letters t) (hxy : x ≠ y) : Fd P w K mg base "must_lose" 8 (FSp [] [RowV CR CB l, TalkV CT t, IntV (b : Int), DatV (letD x), DatV (letD y)] (DatV (lostD (lostIn l t b x y))) []) := by
  have fr := ft.fr
  refine ⟨f, fd, ["row", "talk", "box", "first", "last"], ?_, hm, F.kp, F.bindsN fun _ _ _ _ _ _ us hl => match us, hl with | [_, _, _, _, _], _ => rfl⟩
  refine fn_rule F sc_must_lose rfl fun cdv A outer s H E hr N => ?_
  have nd := sc_must_lose.nd
  exact js_expr (je_meth (h_check l b hb) ft.cR (hr.mono (by decide)) (je_var (i := 0) rfl rfl (vis_by rfl) rfl rfl) (ja_cons (je_var (i := 2) rfl rfl (vis_by rfl) rfl rfl) ja_nil rfl) has_nil .nil (nin_by rfl) ⟨rfl, rfl⟩ rfl)
      (js_expr (je_call (h_check_letter t x ht hx) (hr.mono (by decide)) (ja_cons (je_var (i := 1) rfl rfl (vis_by rfl) rfl rfl) (ja_cons (je_var (i := 3) rfl rfl (vis_by rfl) rfl rfl) ja_nil rfl) rfl) has_nil .nil rfl rfl ⟨rfl, rfl⟩)
      (js_expr (je_call (h_check_letter t y ht hy) (hr.mono (by decide)) (ja_cons (je_var (i := 1) rfl rfl (vis_by rfl) rfl rfl) (ja_cons (je_var (i := 4) rfl rfl (vis_by rfl) rfl rfl) ja_nil rfl) rfl) has_nil .nil rfl rfl ⟨rfl, rfl⟩)
      (js_guard (jct (jc_cast (jc_eqD hr.units (je_var (i := 3) rfl rfl (vis_by rfl) rfl rfl) (je_var (i := 4) rfl rfl (vis_by rfl) rfl rfl) (letD_shaped _) (letD_shaped _)) (letD_eqv x y))) (fun hc1 => absurd hc1 (by simp [hxy]))
      (fun hc1 => js_ret (je_call (h_lost_between l t b x y hl ht hb hx hy) (hr.mono (by decide)) (ja_cons (je_var (i := 0) rfl rfl (vis_by rfl) rfl rfl) (ja_cons (je_var (i := 1) rfl rfl (vis_by rfl) rfl rfl) (ja_cons (je_var (i := 2) rfl rfl (vis_by rfl) rfl rfl) (ja_cons (je_var (i := 3) rfl rfl (vis_by rfl) rfl rfl) (ja_cons (je_var (i := 4) rfl rfl (vis_by rfl) rfl rfl) ja_nil rfl) rfl) rfl) rfl) rfl) has_nil .nil rfl rfl ⟨rfl, rfl⟩) (by exact fun v I H s p => ⟨I, (s.fewer has_nil .nil), p⟩))) rfl) rfl) rfl

theorem sc_gaps : FnScope ["row", "talk", "box"] ["row", "talk"] (defScope (top 36)) := ⟨rfl, rfl, rfl, by decide +kernel, rfl, by decide +kernel, by decide +kernel⟩
theorem w_gaps (ft : Ft K mg CB CR CT CN CL) (F : FunD K "gaps" "gaps" (defArgs (top 36)) (defBody (top 36)) (defScope (top 36)) [] [] f fd) (hm : mg "gaps" = some (.ref f)) (h_gap : ∀ (l : Line) (t : Tk) (b : Nat), LineOk l → TkOk t → b < l.boxes.length → Fd P w K mg base "gap" 8 (FSp [] [RowV CR CB l, TalkV CT t, IntV (b : Int)] (IntV (gapOf l t b)) [])) (h_len : ∀ l : Line, Fm P w K mg base CR "__len__" 1 (FSp [] [RowV CR CB l] (IntV (l.boxes.length : Int)) [])) {l : Line} (hl : LineOk l) {t : Tk} (ht : TkOk t) : Fd P w K mg base "gaps" 9 (FSp [] [RowV CR CB l, TalkV CT t] (DatV (.tuple (((List.range l.boxes.length).map (gapOf l t)).map PyData.int))) []) := by
  have fr := ft.fr
  refine ⟨f, fd, ["row", "talk"], ?_, hm, F.kp, F.bindsN fun _ _ _ _ _ _ us hl => match us, hl with | [_, _], _ => rfl⟩
  refine fn_rule F sc_gaps rfl fun cdv A outer s H E hr N => ?_
  have nd := sc_gaps.nd
  exact js_ret (je_tupleD (je_lcI0 (Lc.of (own := [("box", 2)]) (E := fun z => DatV (.int (gapOf l t z))) (p := fun _ => true) (ji_range (n := l.boxes.length) (je_lenK (h_len l) (hr.mono (by decide)) (je_var (i := 0) rfl rfl (vis_by rfl) rfl rfl) (by have := hl.n4; omega) (bi_len fr rfl) ⟨rfl, rfl⟩) (by have := hl.n4; omega) (bi_range fr rfl) rfl) rfl (fun _ _ _ _ _ => qg_name nd (nm_by rfl rfl rfl)) (fun z hz => (jgr_name (i := 2))) (fun z hz => jq1 ⟨by decide, Nat.le_of_ble_eq_true rfl⟩) (fun z hz _ _ _ _ _ => jts_nil) (fun z hz hpz _ _ _ _ _ => (je_call (h_gap l t z hl ht (by simpa using hz)) (hr.mono (by decide)) (ja_cons (je_var (i := 0) rfl rfl (vis_by rfl) rfl rfl) (ja_cons (je_var (i := 1) rfl rfl (vis_by rfl) rfl rfl) (ja_cons (je_var (i := 2) rfl rfl (vis_by rfl) rfl rfl) ja_nil rfl) rfl) rfl) has_nil .nil rfl rfl ⟨rfl, rfl⟩)) (by have := hl.n4; simp; omega)) rfl nd (fun _ => rfl)) (by first | exact .dl _ | exact .dt _ | exact .tu _ | exact .li _) (bi_tuple fr rfl) ⟨rfl, rfl⟩) (by exact fun v I H s p => ⟨I, (s.fewer has_nil .nil), p⟩)

theorem sc_is_kept : FnScope ["row", "talk", "found", "box"] ["row", "talk"] (defScope (top 37)) := ⟨rfl, rfl, rfl, by decide +kernel, rfl, by decide +kernel, by decide +kernel⟩
theorem w_is_kept (ft : Ft K mg CB CR CT CN CL) (F : FunD K "is_kept" "is_kept" (defArgs (top 37)) (defBody (top 37)) (defScope (top 37)) [] [] f fd) (hm : mg "is_kept" = some (.ref f)) (h_gaps : ∀ (l : Line) (t : Tk), LineOk l → TkOk t → Fd P w K mg base "gaps" 9 (FSp [] [RowV CR CB l, TalkV CT t] (DatV (.tuple (((List.range l.boxes.length).map (gapOf l t)).map PyData.int))) [])) (h_boxes : ∀ l, Fp P w K mg base CR "boxes" 1 (FSp [] [RowV CR CB l] (TuV (l.boxes.map (BoxV CB))) []))
  (h_low : ∀ bx : BoxD, Fp P w K mg base CB "low" 1 (FSp [] [BoxV CB bx] (IntV bx.lo) [])) {l : Line} (hl : LineOk l) {t : Tk} (ht : TkOk t) : Fd P w K mg base "is_kept" 10 (FSp [] [RowV CR CB l, TalkV CT t] (BlV (keptOf l t)) []) := by
  have fr := ft.fr
  refine ⟨f, fd, ["row", "talk"], ?_, hm, F.kp, F.bindsN fun _ _ _ _ _ _ us hl => match us, hl with | [_, _], _ => rfl⟩
  refine fn_rule F sc_is_kept rfl fun cdv A outer s H E hr N => ?_
  have nd := sc_is_kept.nd
  exact js_ret (je_all rfl (je_lcB0 (Lc.of (own := [("found", 2), ("box", 3)]) (E := fun z : Int × BoxD => DatV (.bool (decide (z.1 < z.2.lo)))) (p := fun _ => true) (ji_zipTM (f := IntV) (g := BoxV CB) (xs := (List.range l.boxes.length).map (gapOf l t)) (ys := l.boxes) (JE.conv (je_call (h_gaps l t hl ht) (hr.mono (by decide)) (ja_cons (je_var (i := 0) rfl rfl (vis_by rfl) rfl rfl) (ja_cons (je_var (i := 1) rfl rfl (vis_by rfl) rfl rfl) ja_nil rfl) rfl) has_nil .nil rfl rfl ⟨rfl, rfl⟩) (fun v I p => tuV_ints p)) (je_prop (h_boxes l) ft.cR (hr.mono (by decide)) (je_var (i := 0) rfl rfl (vis_by rfl) rfl rfl) rfl) (bi_zip fr rfl) ⟨rfl, rfl⟩ ⟨rfl, rfl⟩) rfl (fun _ _ _ _ _ => qg_tup2 rfl nd (nm_by rfl rfl rfl) (nm_by rfl rfl rfl)) (fun z hz => (jgr_tup2 (i := 2) (j := 3))) (fun z hz => jq2 ⟨by decide, Nat.le_of_ble_eq_true rfl⟩ ⟨by decide, Nat.le_of_ble_eq_true rfl⟩) (fun z hz _ _ _ _ _ => jts_nil) (fun z hz hpz _ _ _ _ _ => (jcv (jc_lt (je_var (i := 2) rfl rfl (vis_by rfl) rfl rfl) (je_prop (h_low _) ft.cB (hr.mono (by decide)) (je_var (i := 3) rfl rfl (vis_by rfl) rfl rfl) rfl)))) (by have := hl.n4; simp; omega)) rfl nd (fun _ => rfl)) (bi_all fr rfl) ⟨rfl, rfl⟩) (by exact fun v I H s p => ⟨I, (s.fewer has_nil .nil), p⟩)

end
end QD

/-! text QFK -/
set_option Elab.async false
set_option linter.all false
set_option maxRecDepth 100000
set_option maxHeartbeats 4000000
/-! QFK: what raises. Printed by fk.py. -/
namespace QD
open PySem PySem.Spec PyProof.Rows L2 QL QX
section
variable {P : Program} {w : World} {K : PySem.W.Frag} {mg : Str → Option Value} {base : Heap} {CB CR CT CN CL : Addr} {f : Addr} {fd : FuncData}

theorem w_Row_check_bad (ft : Ft K mg CB CR CT CN CL) (F : FunD K "check" "Row.check" (defArgs (sub 45 4)) (defBody (sub 45 4)) (defScope (sub 45 4)) [] [] f fd) (hm : Meth K CR "check" f) (h_is_between : ∀ d lo hi, Sc d → Fd P w K mg base "is_between" 2 (FSp [] [DatV d, IntV lo, IntV hi] (BlV (btw d lo hi)) [])) (hxN : Xf P w K mg base "InvalidNumber" CN 1) {l : Line} {d : PyData} (hd : Sc d) (hb : btw d 0 ((l.boxes.length : Int) - 1) = false) : Fm P w K mg base CR "check" 3 (FSx [] [RowV CR CB l, DatV d] CN (DatV d)) := by
  have fr := ft.fr
  refine ⟨f, fd, ["self", "box"], ?_, hm, F.bindsN fun _ _ _ _ _ _ us hl => match us, hl with | [_, _], _ => rfl⟩
  refine fnx_rule F sc_Row_check rfl fun cdv A outer s H E hr N lv => ?_
  have nd := sc_Row_check.nd
  exact js_guard (jt_not (jt_val (je_call (h_is_between _ _ _ hd) (hr.mono (by decide)) (ja_cons (je_var (i := 1) rfl rfl (vis_by rfl) rfl rfl) (ja_cons je_int (ja_cons (je_sub (je_len (je_fld ft.cR ft.n_kept_boxes (je_var (i := 0) rfl rfl (vis_by rfl) rfl rfl) rfl rfl) (by first | exact .dl _ | exact .dt _ | exact .tu _ | exact .li _) (bi_len fr rfl) ⟨rfl, rfl⟩) je_int) ja_nil rfl) rfl) rfl) has_nil .nil rfl rfl ⟨rfl, rfl⟩) (fun _ => rfl))) (fun hc1 => js_raise (E := E) hxN rfl (takes_of rfl rfl rfl rfl) (hr.mono (by decide)) rfl (je_var (i := 1) rfl rfl (vis_by rfl) rfl rfl) lv rfl ⟨rfl, rfl⟩)
      (fun hc1 => js_nil (fun _ _ _ => absurd hc1 (by rw [len_map, hb]; decide)))

theorem w_gap_bad (ft : Ft K mg CB CR CT CN CL) (F : FunD K "gap" "gap" (defArgs (top 31)) (defBody (top 31)) (defScope (top 31)) [] [] f fd) (hm : mg "gap" = some (.ref f)) (h_check_bad : ∀ (l : Line) (d : PyData), Sc d → btw d 0 ((l.boxes.length : Int) - 1) = false → Fm P w K mg base CR "check" 3 (FSx [] [RowV CR CB l, DatV d] CN (DatV d))) {l : Line} {d : PyData} (hd : Sc d) (hb : btw d 0 ((l.boxes.length : Int) - 1) = false){t : Tk}  : Fd P w K mg base "gap" 4 (FSx [] [RowV CR CB l, TalkV CT t, DatV d] CN (DatV d)) := by
  have fr := ft.fr
  refine ⟨f, fd, ["row", "talk", "box"], ?_, hm, F.kp, F.bindsN fun _ _ _ _ _ _ us hl => match us, hl with | [_, _, _], _ => rfl⟩
  refine fnx_rule F sc_gap rfl fun cdv A outer s H E hr N lv => ?_
  have nd := sc_gap.nd
  exact js_exprX (jx_meth (h_check_bad l d hd hb) ft.cR passX lv (hr.mono (by decide)) (je_var (i := 0) rfl rfl (vis_by rfl) rfl rfl) (ja_cons (je_var (i := 2) rfl rfl (vis_by rfl) rfl rfl) ja_nil rfl) has_nil .nil (nin_by rfl) ⟨rfl, rfl⟩ rfl) rfl

theorem w_ends_bad (ft : Ft K mg CB CR CT CN CL) (F : FunD K "ends" "ends" (defArgs (top 32)) (defBody (top 32)) (defScope (top 32)) [] [] f fd) (hm : mg "ends" = some (.ref f)) (h_check_bad : ∀ (l : Line) (d : PyData), Sc d → btw d 0 ((l.boxes.length : Int) - 1) = false → Fm P w K mg base CR "check" 3 (FSx [] [RowV CR CB l, DatV d] CN (DatV d))) {l : Line} {d : PyData} (hd : Sc d) (hb : btw d 0 ((l.boxes.length : Int) - 1) = false){t : Tk}  : Fd P w K mg base "ends" 4 (FSx [] [RowV CR CB l, TalkV CT t, DatV d] CN (DatV d)) := by
  have fr := ft.fr
  refine ⟨f, fd, ["row", "talk", "box"], ?_, hm, F.kp, F.bindsN fun _ _ _ _ _ _ us hl => match us, hl with | [_, _, _], _ => rfl⟩
  refine fnx_rule F sc_ends rfl fun cdv A outer s H E hr N lv => ?_
  have nd := sc_ends.nd
  exact js_exprX (jx_meth (h_check_bad l d hd hb) ft.cR passX lv (hr.mono (by decide)) (je_var (i := 0) rfl rfl (vis_by rfl) rfl rfl) (ja_cons (je_var (i := 2) rfl rfl (vis_by rfl) rfl rfl) ja_nil rfl) has_nil .nil (nin_by rfl) ⟨rfl, rfl⟩ rfl) rfl

theorem w_must_lose_bad (ft : Ft K mg CB CR CT CN CL) (F : FunD K "must_lose" "must_lose" (defArgs (top 33)) (defBody (top 33)) (defScope (top 33)) [] [] f fd) (hm : mg "must_lose" = some (.ref f)) (h_check_bad : ∀ (l : Line) (d : PyData), Sc d → btw d 0 ((l.boxes.length : Int) - 1) = false → Fm P w K mg base CR "check" 3 (FSx [] [RowV CR CB l, DatV d] CN (DatV d))) {l : Line} {d : PyData} (hd : Sc d) (hb : btw d 0 ((l.boxes.length : Int) - 1) = false){t : Tk} {x y : PyData}  : Fd P w K mg base "must_lose" 4 (FSx [] [RowV CR CB l, TalkV CT t, DatV d, DatV x, DatV y] CN (DatV d)) := by
  have fr := ft.fr
  refine ⟨f, fd, ["row", "talk", "box", "first", "last"], ?_, hm, F.kp, F.bindsN fun _ _ _ _ _ _ us hl => match us, hl with | [_, _, _, _, _], _ => rfl⟩
  refine fnx_rule F sc_must_lose rfl fun cdv A outer s H E hr N lv => ?_
  have nd := sc_must_lose.nd
  exact js_exprX (jx_meth (h_check_bad l d hd hb) ft.cR passX lv (hr.mono (by decide)) (je_var (i := 0) rfl rfl (vis_by rfl) rfl rfl) (ja_cons (je_var (i := 2) rfl rfl (vis_by rfl) rfl rfl) ja_nil rfl) has_nil .nil (nin_by rfl) ⟨rfl, rfl⟩ rfl) rfl

theorem sc_worst_course : FnScope ["row", "talk", "box", "pair", "letter", "lost", "start", "found", "is_late", "many"] ["row", "talk", "box"] (defScope (top 35)) := ⟨rfl, rfl, rfl, by decide +kernel, rfl, by decide +kernel, by decide +kernel⟩
theorem w_worst_course_bad (ft : Ft K mg CB CR CT CN CL) (F : FunD K "worst_course" "worst_course" (defArgs (top 35)) (defBody (top 35)) (defScope (top 35)) [] [] f fd) (hm : mg "worst_course" = some (.ref f)) (h_ends_bad : ∀ (l : Line) (t : Tk) (d : PyData), Sc d → btw d 0 ((l.boxes.length : Int) - 1) = false → Fd P w K mg base "ends" 4 (FSx [] [RowV CR CB l, TalkV CT t, DatV d] CN (DatV d))) {l : Line} {d : PyData} (hd : Sc d) (hb : btw d 0 ((l.boxes.length : Int) - 1) = false){t : Tk}  : Fd P w K mg base "worst_course" 5 (FSx [] [RowV CR CB l, TalkV CT t, DatV d] CN (DatV d)) := by
  have fr := ft.fr
  refine ⟨f, fd, ["row", "talk", "box"], ?_, hm, F.kp, F.bindsN fun _ _ _ _ _ _ us hl => match us, hl with | [_, _, _], _ => rfl⟩
  refine fnx_rule F sc_worst_course rfl fun cdv A outer s H E hr N lv => ?_
  have nd := sc_worst_course.nd
  exact js_setX (i := 3) (jx_call (h_ends_bad l t d hd hb) passX lv (hr.mono (by decide)) (ja_cons (je_var (i := 0) rfl rfl (vis_by rfl) rfl rfl) (ja_cons (je_var (i := 1) rfl rfl (vis_by rfl) rfl rfl) (ja_cons (je_var (i := 2) rfl rfl (vis_by rfl) rfl rfl) ja_nil rfl) rfl) rfl) has_nil .nil rfl rfl ⟨rfl, rfl⟩) nd (nm_by rfl rfl rfl) rfl

theorem w_check_letter_bad (ft : Ft K mg CB CR CT CN CL) (F : FunD K "check_letter" "check_letter" (defArgs (top 20)) (defBody (top 20)) (defScope (top 20)) [] [] f fd) (hm : mg "check_letter" = some (.ref f)) (hxL : Xf P w K mg base "InvalidLetter" CL 1) {t : Tk} {x : PyData} (h_cont : Fm P w K mg base CT "__contains__" 2 (FSp [] [TalkV CT t, DatV x] (BlV false) [])) : Fd P w K mg base "check_letter" 3 (FSx [] [TalkV CT t, DatV x] CL (DatV x)) := by
  have fr := ft.fr
  refine ⟨f, fd, ["talk", "letter"], ?_, hm, F.kp, F.bindsN fun _ _ _ _ _ _ us hl => match us, hl with | [_, _], _ => rfl⟩
  refine fnx_rule F sc_check_letter rfl fun cdv A outer s H E hr N lv => ?_
  have nd := sc_check_letter.nd
  exact js_guard (jct (jc_notInK h_cont (hr.mono (by decide)) (je_var (i := 1) rfl rfl (vis_by rfl) rfl rfl) (je_var (i := 0) rfl rfl (vis_by rfl) rfl rfl) rfl)) (fun hc1 => js_raise (E := E) hxL rfl (takes_of rfl rfl rfl rfl) (hr.mono (by decide)) rfl (je_var (i := 1) rfl rfl (vis_by rfl) rfl rfl) lv rfl ⟨rfl, rfl⟩)
      (fun hc1 => js_nil (fun _ _ _ => absurd hc1 (by decide)))

theorem w_must_lose_first (ft : Ft K mg CB CR CT CN CL) (F : FunD K "must_lose" "must_lose" (defArgs (top 33)) (defBody (top 33)) (defScope (top 33)) [] [] f fd) (hm : mg "must_lose" = some (.ref f)) (h_check : ∀ (l : Line) (b : Nat), b < l.boxes.length → Fm P w K mg base CR "check" 3 (FSp [] [RowV CR CB l, IntV (b : Int)] NonV [])) {l : Line} {t : Tk} {b : Nat} (hb : b < l.boxes.length) {x y : PyData} (h_letter_bad : Fd P w K mg base "check_letter" 3 (FSx [] [TalkV CT t, DatV x] CL (DatV x))) : Fd P w K mg base "must_lose" 4 (FSx [] [RowV CR CB l, TalkV CT t, IntV (b : Int), DatV x, DatV y] CL (DatV x)) := by
  have fr := ft.fr
  refine ⟨f, fd, ["row", "talk", "box", "first", "last"], ?_, hm, F.kp, F.bindsN fun _ _ _ _ _ _ us hl => match us, hl with | [_, _, _, _, _], _ => rfl⟩
  refine fnx_rule F sc_must_lose rfl fun cdv A outer s H E hr N lv => ?_
  have nd := sc_must_lose.nd
  exact js_expr (je_meth (h_check l b hb) ft.cR (hr.mono (by decide)) (je_var (i := 0) rfl rfl (vis_by rfl) rfl rfl) (ja_cons (je_var (i := 2) rfl rfl (vis_by rfl) rfl rfl) ja_nil rfl) has_nil .nil (nin_by rfl) ⟨rfl, rfl⟩ rfl)
      (js_exprX (jx_call h_letter_bad passX lv (hr.mono (by decide)) (ja_cons (je_var (i := 1) rfl rfl (vis_by rfl) rfl rfl) (ja_cons (je_var (i := 3) rfl rfl (vis_by rfl) rfl rfl) ja_nil rfl) rfl) has_nil .nil rfl rfl ⟨rfl, rfl⟩) rfl) rfl

theorem w_must_lose_last (ft : Ft K mg CB CR CT CN CL) (F : FunD K "must_lose" "must_lose" (defArgs (top 33)) (defBody (top 33)) (defScope (top 33)) [] [] f fd) (hm : mg "must_lose" = some (.ref f)) (h_check : ∀ (l : Line) (b : Nat), b < l.boxes.length → Fm P w K mg base CR "check" 3 (FSp [] [RowV CR CB l, IntV (b : Int)] NonV [])) (h_check_letter : ∀ (t : Tk) (x : Let), TkOk t → x ∈ letters t → Fd P w K mg base "check_letter" 3 (FSp [] [TalkV CT t, DatV (letD x)] NonV [])) {l : Line} {t : Tk} {b : Nat} (hb : b < l.boxes.length) {x : PyData} {z : Let} (ht : TkOk t) (hz : z ∈ letters t) (h_letter_bad : Fd P w K mg base "check_letter" 3 (FSx [] [TalkV CT t, DatV x] CL (DatV x))) : Fd P w K mg base "must_lose" 4 (FSx [] [RowV CR CB l, TalkV CT t, IntV (b : Int), DatV (letD z), DatV x] CL (DatV x)) := by
  have fr := ft.fr
  refine ⟨f, fd, ["row", "talk", "box", "first", "last"], ?_, hm, F.kp, F.bindsN fun _ _ _ _ _ _ us hl => match us, hl with | [_, _, _, _, _], _ => rfl⟩
  refine fnx_rule F sc_must_lose rfl fun cdv A outer s H E hr N lv => ?_
  have nd := sc_must_lose.nd
  exact js_expr (je_meth (h_check l b hb) ft.cR (hr.mono (by decide)) (je_var (i := 0) rfl rfl (vis_by rfl) rfl rfl) (ja_cons (je_var (i := 2) rfl rfl (vis_by rfl) rfl rfl) ja_nil rfl) has_nil .nil (nin_by rfl) ⟨rfl, rfl⟩ rfl)
      (js_expr (je_call (h_check_letter t z ht hz) (hr.mono (by decide)) (ja_cons (je_var (i := 1) rfl rfl (vis_by rfl) rfl rfl) (ja_cons (je_var (i := 3) rfl rfl (vis_by rfl) rfl rfl) ja_nil rfl) rfl) has_nil .nil rfl rfl ⟨rfl, rfl⟩)
      (js_exprX (jx_call h_letter_bad passX lv (hr.mono (by decide)) (ja_cons (je_var (i := 1) rfl rfl (vis_by rfl) rfl rfl) (ja_cons (je_var (i := 4) rfl rfl (vis_by rfl) rfl rfl) ja_nil rfl) rfl) has_nil .nil rfl rfl ⟨rfl, rfl⟩) rfl) rfl) rfl

theorem w_must_lose_same (ft : Ft K mg CB CR CT CN CL) (F : FunD K "must_lose" "must_lose" (defArgs (top 33)) (defBody (top 33)) (defScope (top 33)) [] [] f fd) (hm : mg "must_lose" = some (.ref f)) (hxL : Xf P w K mg base "InvalidLetter" CL 1) (h_check : ∀ (l : Line) (b : Nat), b < l.boxes.length → Fm P w K mg base CR "check" 3 (FSp [] [RowV CR CB l, IntV (b : Int)] NonV [])) (h_check_letter : ∀ (t : Tk) (x : Let), TkOk t → x ∈ letters t → Fd P w K mg base "check_letter" 3 (FSp [] [TalkV CT t, DatV (letD x)] NonV [])) {l : Line} {t : Tk} {b : Nat} (hb : b < l.boxes.length) {z : Let} (ht : TkOk t) (hz : z ∈ letters t)  : Fd P w K mg base "must_lose" 4 (FSx [] [RowV CR CB l, TalkV CT t, IntV (b : Int), DatV (letD z), DatV (letD z)] CL (DatV (letD z))) := by
  have fr := ft.fr
  refine ⟨f, fd, ["row", "talk", "box", "first", "last"], ?_, hm, F.kp, F.bindsN fun _ _ _ _ _ _ us hl => match us, hl with | [_, _, _, _, _], _ => rfl⟩
  refine fnx_rule F sc_must_lose rfl fun cdv A outer s H E hr N lv => ?_
  have nd := sc_must_lose.nd
  exact js_expr (je_meth (h_check l b hb) ft.cR (hr.mono (by decide)) (je_var (i := 0) rfl rfl (vis_by rfl) rfl rfl) (ja_cons (je_var (i := 2) rfl rfl (vis_by rfl) rfl rfl) ja_nil rfl) has_nil .nil (nin_by rfl) ⟨rfl, rfl⟩ rfl)
      (js_expr (je_call (h_check_letter t z ht hz) (hr.mono (by decide)) (ja_cons (je_var (i := 1) rfl rfl (vis_by rfl) rfl rfl) (ja_cons (je_var (i := 3) rfl rfl (vis_by rfl) rfl rfl) ja_nil rfl) rfl) has_nil .nil rfl rfl ⟨rfl, rfl⟩)
      (js_expr (je_call (h_check_letter t z ht hz) (hr.mono (by decide)) (ja_cons (je_var (i := 1) rfl rfl (vis_by rfl) rfl rfl) (ja_cons (je_var (i := 4) rfl rfl (vis_by rfl) rfl rfl) ja_nil rfl) rfl) has_nil .nil rfl rfl ⟨rfl, rfl⟩)
      (js_guard (jct (jc_eqD hr.units (je_var (i := 3) rfl rfl (vis_by rfl) rfl rfl) (je_var (i := 4) rfl rfl (vis_by rfl) rfl rfl) (letD_shaped z) (letD_shaped z))) (fun hc1 => js_raise (E := E) hxL rfl (takes_of rfl rfl rfl rfl) (hr.mono (by decide)) rfl (je_var (i := 4) rfl rfl (vis_by rfl) rfl rfl) lv rfl ⟨rfl, rfl⟩)
      (fun hc1 => absurd hc1 (by rw [letD_eqv]; simp))) rfl) rfl) rfl

end
end QD

/-! text QG3 -/
set_option Elab.async false
set_option linter.all false
set_option maxRecDepth 100000
set_option maxHeartbeats 4000000
/-! QG3: tables, guards, repr, index and count of lists of data. -/
namespace QX
open PySem PySem.Spec PyProof.Rows L2 QL
/-! ### a ground without tables -/
def noT (H : Hp) : Hp := fun b => match H b with | some (.tbl _) => none | x => x
theorem noT_some {H : Hp} {a : Addr} {o : HO} (h : noT H a = some o) : H a = some o ∧ ∀ ps, o ≠ .tbl ps := by
  unfold noT at h
  split at h
  · cases h
  · rename_i x hx
    exact ⟨h, fun ps e => hx ps (by rw [h, e])⟩
theorem noT_of {H : Hp} {a : Addr} {o : HO} (h : H a = some o) (n : ∀ ps, o ≠ .tbl ps) : noT H a = some o := by
  unfold noT
  split
  · rename_i ps hx
    rw [hx] at h
    exact absurd (Option.some.inj h).symm (n ps)
  · exact h
theorem noT_none {H : Hp} {a : Addr} (h : noT H a = none) : H a = none ∨ ∃ ps, H a = some (.tbl ps) := by
  cases q : H a with
  | none => exact .inl rfl
  | some o =>
    by_cases t : ∃ ps, o = .tbl ps
    · obtain ⟨ps, rfl⟩ := t
      exact .inr ⟨ps, rfl⟩
    · rw [noT_of q fun ps e => t ⟨ps, e⟩] at h
      cases h
abbrev NoTb (N : Ent) : Prop := ∀ b ps, N.H b ≠ some (.tbl ps)
def callT (I H : Hp) (ow : OwnM) (T : List (Addr × Str)) : Ent := { I := I, H := noT H, dm := ow.map (·.1), T := T }
theorem callT_nt {I H : Hp} {ow : OwnM} {T : List (Addr × Str)} : NoTb (callT I H ow T) := fun b ps h => (noT_some h).2 ps rfl
section
variable {N : Ent} {M ow : OwnM} {I H I' H' H1 : Hp}
/-- the tables have changed -/
theorem _root_.QL.S3.ext (s : S3 N M I H) (hN : NoTb N) (e : LamX.ExtN H H1) (t : LamX.Tabs N.T H1) : S3 N M I H1 :=
  ⟨fun b u h => e _ _ (s.sub b u h) fun ps z => s.nt b ps (by rw [h, z]), fun q hq => by
    obtain ⟨⟨o, h1, h2, h3⟩, h4⟩ := s.own q hq
    exact ⟨⟨o, e _ _ h1 h2.2.1, h2, h3⟩, h4⟩, s.nd, fun a o h1 h2 => e _ _ (s.keep a o h1 h2) fun ps z => hN a ps (by rw [h2, z]), s.ii, s.fr, s.fm, t, s.dmk, s.nt⟩
theorem _root_.QL.S3.enterT (s : S3 N M I H) (h : Has ow M) (nd : (ow.map (·.1)).Nodup) : S3 (callT I H ow N.T) ow I H :=
  ⟨s.sub, fun q hq => s.own q (h q hq), nd, fun a o _ e => (noT_some e).1, Same.refl _, fun a h => .inl h, fun q hq => .inl (List.mem_map.mpr ⟨q, hq, rfl⟩), s.tab, fun a ha o e => by
    obtain ⟨q, hq, rfl⟩ := List.mem_map.mp ha
    obtain ⟨⟨o', h1, h2, _⟩, _⟩ := s.own q (h q hq)
    have e := (noT_some (show noT H q.1 = some o from e)).1
    rw [h1] at e
    cases e; exact h2, s.nt⟩
theorem _root_.QL.S3.backT (s : S3 N M I H) (hN : NoTb N) (h : Has ow M) (t : S3 (callT I H ow N.T) ow I' H') : S3 N M I' H' ∧ Same I I' := by
  have e : Same I I' := t.ii
  have kp : ∀ a o, H a = some o → (∀ ps, o ≠ .tbl ps) → a ∉ ow.map (·.1) → H' a = some o := fun a o h1 h2 h3 => t.keep a o h3 (noT_of h1 h2)
  refine ⟨⟨t.sub, fun q hq => ?_, s.nd, fun a o h1 h2 => ?_, s.ii.trans e, fun a hn => ?_, s.fm, t.tab, s.dmk, t.nt⟩, e⟩
  · by_cases hw : q.1 ∈ ow.map (·.1)
    · obtain ⟨r, hr, er⟩ := List.mem_map.mp hw
      have eq : r = q := Nt_mem s.nd (h r hr) hq er
      rw [← eq]
      exact t.own r hr
    · obtain ⟨⟨o, h1, h2, h3⟩, h4⟩ := s.own q hq
      refine ⟨⟨o, kp _ _ h1 h2.2.1 hw, h2, q.2.up e h3⟩, ?_⟩
      cases z : I' q.1 with
      | none => rfl
      | some u =>
        rcases t.fr q.1 (by rw [z]; simp) with w | w | w | ⟨xs, w⟩
        · exact absurd h4 w
        · rw [show (callT I H ow N.T).H q.1 = noT H q.1 from rfl, noT_of h1 h2.2.1] at w; cases w
        · exact absurd w hw
        · rw [show (callT I H ow N.T).H q.1 = noT H q.1 from rfl, noT_of h1 h2.2.1] at w
          cases w; exact absurd rfl (h2.1 xs)
  · have z := s.keep a o h1 h2
    refine kp _ _ z (fun ps q => hN a ps (by rw [h2, q])) fun hm => ?_
    obtain ⟨r, hr, er⟩ := List.mem_map.mp hm
    subst er
    rcases s.fm r (h r hr) with w | w
    · exact h1 w
    · rw [w] at h2; cases h2
  · by_cases hi : I a = none
    · have nn : ∀ {a}, H a = none → N.H a = none ∨ a ∈ N.dm := fun {a} w => s.nh w
      rcases t.fr a hn with w | w | w | w
      · exact absurd hi w
      · rcases noT_none (show noT H a = none from w) with w | ⟨ps, w⟩
        · exact (nn w).elim (fun z => .inr (.inl z)) fun z => .inr (.inr (.inl z))
        · by_cases hd : a ∈ N.dm
          · exact .inr (.inr (.inl hd))
          · cases q : N.H a with
            | none => exact .inr (.inl rfl)
            | some o =>
              have z := s.keep a o hd q
              rw [w] at z
              cases z
              exact absurd q (hN a ps)
      · obtain ⟨r, hr, er⟩ := List.mem_map.mp (show a ∈ ow.map (·.1) from w)
        subst er
        rcases s.fm r (h r hr) with z | z
        · exact .inr (.inr (.inl z))
        · exact .inr (.inl z)
      · obtain ⟨xs, w⟩ := w
        have w := (noT_some (show noT H a = some (.tup xs) from w)).1
        by_cases hd : a ∈ N.dm
        · exact .inr (.inr (.inl hd))
        · cases q : N.H a with
          | none => exact .inr (.inl rfl)
          | some o =>
            have z := s.keep a o hd q
            rw [w] at z; cases z
            exact .inr (.inr (.inr ⟨xs, rfl⟩))
    · exact s.fr a hi
end
/-! ### guards -/
/-- a promise where no guard runs -/
structure FnG (P : Program) (w : World) (K : PySem.W.Frag) (mg : Str → Option Value) (base : Heap) (k : Nat) (f : Addr) (fd : FuncData) (ps : List Str) (sp : Sp) : Prop where
  len : ∀ vs H Q E, sp vs H Q E → vs.length = ps.length
  run : ∀ (A : Around) (outer : List Env) (s : Shared) (H : Hp) (args : Args) (us : List Value) (vs : List V) (Q : VK) (E : XK), Room k A → A.guards = some [] → Env0 P w K mg base A outer s H → BindsTo s fd args (ps.zip us) → Vals vs us → sp vs H Q E →
    codeAny (model P w) A (.call (.ref f) args) (CR (L2.CX P w) outer P w H s Q E) s
section
variable {P : Program} {w : World} {K : PySem.W.Frag} {mg : Str → Option Value} {base : Heap} {f : Addr} {fd : FuncData} {x qual : Str} {params : Arguments} {body : List Stmt} {scope : Scope} {dvs : List V} {kws : List (Str × V)} {Ns pn : List Str} {k : Nat} {ow ow' : OwnM} {ps : List Pr} {R : Pr}
theorem FnG.of {sp : Sp} (F : FnOk P w K mg base (L2.CX P w) k f fd pn sp) : FnG P w K mg base k f fd pn sp := ⟨F.len, fun A outer s H args us vs Q E hr _ e0 hb r h => F.run A outer s H args us vs Q E hr e0 hb r h⟩
def FdG (P : Program) (w : World) (K : PySem.W.Frag) (mg : Str → Option Value) (base : Heap) (x : Str) (k : Nat) (sp : Sp) : Prop := ∃ (f : Addr) (fd : FuncData) (ps : List Str), FnG P w K mg base k f fd ps sp ∧ mg x = some (.ref f) ∧ PySem.W.keepIn K (.ref f) = true ∧ Binds K fd ps []
/-- the rule: the ground of the body is told -/
theorem fnG_raw {sp : Sp} (F : FunD K x qual params body scope dvs kws f fd) (S : FnScope Ns pn scope) (len : ∀ vs H Q E, sp vs H Q E → vs.length = pn.length)
    (hb : ∀ (cdv : Value) (A : Around) (outer : List Env) (s : Shared) (H : Hp) (vs : List V) (Q : VK) (E : XK), Room k (bx P w K mg base Ns qual scope f cdv A outer s H E).A → (bx P w K mg base Ns qual scope f cdv A outer s H E).A.guards = some [] → sp vs H Q E →
      WS (bx P w K mg base Ns qual scope f cdv A outer s H E) body { nx := fun _ H' => Q .non H', rt := Q } (L2.start Ns vs) H) :
    FnG P w K mg base (k + 1) f fd pn sp := by
  obtain ⟨oc, od, dV, kV, doc, pm, an, cdv, ct, osl, rfl, lk, hcd, _, _⟩ := F.ex
  refine ⟨len, fun A outer s H args us vs Q E hr hg e0 hb' r h => ?_⟩
  exact LamX.run_ofS lk hcd S hr e0 hb' r (len _ _ _ _ h) fun hr' => ⟨_, ws_ps, hb cdv A outer s H vs Q E hr' hg h⟩
theorem fnG_rule (F : FunD K x qual params body scope dvs kws f fd) (S : FnScope Ns pn scope) (hl : ps.length = pn.length)
    (hb : ∀ (cdv : Value) (A : Around) (outer : List Env) (s : Shared) (H : Hp) (E : XK), Room k (bx P w K mg base Ns qual scope f cdv A outer s H E).A → (bx P w K mg base Ns qual scope f cdv A outer s H E).A.guards = some [] → ∀ N : Ent, JS (bx P w K mg base Ns qual scope f cdv A outer s H E) (Tp N ow (startC Ns.length ps)) body (RetD N ow' R)) :
    FnG P w K mg base (k + 1) f fd pn (FSp ow ps R ow') :=
  fnG_raw F S (fun vs H Q E h => by
      obtain ⟨I, _, t, _⟩ := h
      rw [← t.length]; exact hl) fun cdv A outer s H vs Q E hr hg h => by
    obtain ⟨I, s3, t, q⟩ := h
    have B := hb cdv A outer s H E hr hg (Ent.call I H ow)
    have hlen : (L2.start Ns vs).length = (startC Ns.length ps).length := by
      unfold L2.start startC
      simp only [List.length_append, List.length_map, List.length_replicate]
      rw [t.length]
    exact (B.weakD (D' := { nx := fun _ H' => Q .non H', rt := Q }) (fun _ H' ⟨I', s', r⟩ => q .non I' H' s' r) fun v H' ⟨I', s', r⟩ => q v I' H' s' r) _ _ ⟨hlen, I, s3, ty_start t⟩
/-- a promise of a def that changes tables -/
def FSt (T : List (Addr × Str)) (ow : OwnM) (ps : List Pr) (R : Pr) : Sp := fun vs H Q _ => ∃ I, S3 (callT I H ow T) ow I H ∧ TyL ps vs I ∧ ∀ v I' H', S3 (callT I H ow T) ow I' H' → R.p v I' → Q v H'
theorem fnT_rule {T : List (Addr × Str)} (F : FunD K x qual params body scope dvs kws f fd) (S : FnScope Ns pn scope) (hl : ps.length = pn.length)
    (hb : ∀ (oc : Value) (od : Option Addr) (dV kV doc pm : Value) (an : Option Addr) (cdv ct : Value) (osl : Array (Option Value)), fd = PySem.W.fnOf x qual params body scope dV kV doc pm an cdv ct → K.lookup f = some ⟨oc, od, .func fd, osl⟩ →
      ∀ (A : Around) (outer : List Env) (s : Shared) (H : Hp) (E : XK), Room k (bx P w K mg base Ns qual scope f cdv A outer s H E).A → (bx P w K mg base Ns qual scope f cdv A outer s H E).A.guards = some [] → ∀ N : Ent, NoTb N → N.T = T → JS (bx P w K mg base Ns qual scope f cdv A outer s H E) (Tp N ow (startC Ns.length ps)) body (RetD N ow R)) :
    FnG P w K mg base (k + 1) f fd pn (FSt T ow ps R) := by
  obtain ⟨oc, od, dV, kV, doc, pm, an, cdv, ct, osl, rfl, lk, hcd, _, _⟩ := F.ex
  have len : ∀ vs H (Q : VK) (E : XK), FSt T ow ps R vs H Q E → vs.length = pn.length := fun vs H Q E h => by
    obtain ⟨I, _, t, _⟩ := h
    rw [← t.length]; exact hl
  refine ⟨len, fun A outer s H args us vs Q E hr hg e0 hb' r h => ?_⟩
  refine LamX.run_ofS lk hcd S hr e0 hb' r (len _ _ _ _ h) fun hr' => ⟨_, ws_ps, ?_⟩
  obtain ⟨I, s3, t, q⟩ := h
  have B := hb oc od dV kV doc pm an cdv ct osl rfl lk A outer s H E hr' hg (callT I H ow T) callT_nt rfl
  have hlen : (L2.start Ns vs).length = (startC Ns.length ps).length := by
    unfold L2.start startC
    simp only [List.length_append, List.length_map, List.length_replicate]
    rw [t.length]
  exact (B.weakD (D' := { nx := fun _ H' => Q .non H', rt := Q }) (fun _ H' ⟨I', s', r⟩ => q .non I' H' s' r) fun v H' ⟨I', s', r⟩ => q v I' H' s' r) _ _ ⟨hlen, I, s3, ty_start t⟩
end
section
variable {X : Cx} {N : Ent} {M rq : OwnM} {Γ : QL.Ctx} {a b c e o : Expr} {es : List Expr} {P P' R : Pr} {pos p2 apos : Pos} {k : Nat} {ow : OwnM} {ps : List Pr} {f : Addr} {fd : FuncData} {pn : List Str} {sp : Sp} {x : Str} {E : XK} {t : TA}
theorem run_fnG {pins : List (Addr × Obj)} {σ : L2.St} {H : Hp} {s : Shared} {Q : VK} {us : List Value} {vs : List V} (F : FnG X.prog X.w X.K X.mg X.base k f fd pn sp) (hr : Room k X.A) (hG : X.A.guards = some []) (hb : Binds X.K fd pn []) (hx : Passes (L2.CX X.prog X.w) X E)
    (I : Inv X pins σ H s) (r : Vals vs us) (h : sp vs H Q E) : wpAny (model X.prog X.w) X.A (call (.ref f) us) (EP X pins σ Q) X.xe s := by
  have hl : us.length = pn.length := by rw [← r.length]; exact F.len _ _ _ _ h
  have b := hb s us I.kIn (by rw [List.append_nil]; exact hl)
  rw [List.append_nil] at b
  refine wpAny_call (codeAny_mono (F.run X.A X.stack s H ⟨us, []⟩ us vs Q E hr hG I.env0 b r h) fun r s' hq => ?_)
  cases r with
  | error e => exact hx pins σ H s e s' I hq
  | ok fl =>
    cases fl with
    | ret u => exact I.after hq
    | next => exact False.elim hq
    | brk => exact False.elim hq
    | cont => exact False.elim hq
theorem pe_callG (F : FnG X.prog X.w X.K X.mg X.base k f fd pn sp) (hr : Room k X.A) (hG : X.A.guards = some []) (hg : Gl X x) (hm : X.mg x = some (.ref f)) (hk : PySem.W.keepIn X.K (.ref f) = true) (hb : Binds X.K fd pn []) (hx : Passes (L2.CX X.prog X.w) X E)
    (ha : PA X (e :: es) t) (hdb : (x == ("__debug__" : Str)) = false) (he : starEach (e :: es) X.env = (false, eval e X.env) :: starEach es X.env) (hpl : (backTo pos (starEach es X.env)).any (·.1) = false) :
    PE X (.Call (.Name x p2) (e :: es) [] pos) (fun σ H Q => t σ H fun vs H1 => sp vs H1 Q E) := by
  refine ⟨fun pins s σ H Q I h => ?_⟩
  refine wpAny_Call_Name_kw (ld_glob I hg hm ?_ hdb)
  refine PySem.W.callWith_K (h₀ := X.base) I.ok.mod.kin hk (thn (ha.run pos pins s σ H _ I h) fun us s1 ⟨vs, H1, I1, r, q⟩ => ⟨I1.kIn, ?_⟩) he hpl
  exact run_fnG F hr hG hb hx I1 r q
/-- f(e, ..) where no guard runs -/
theorem je_callG (F : FdG X.prog X.w X.K X.mg X.base x k (FSp ow ps R ow)) (hr : Room k X.A) (hG : X.A.guards = some []) (ha : JA X N rq Γ (e :: es) ps) (hw : Has ow rq) (nd : (ow.map (·.1)).Nodup) (hg : Gl X x) (hdb : (x == ("__debug__" : Str)) = false) (A : Ar X e es pos) :
    JE X N rq Γ (.Call (.Name x p2) (e :: es) [] pos) R := by
  obtain ⟨f, fd, pn, F, hm, hk, hb⟩ := F
  exact fun M I H σ Q hM s t q => we_of (pe_callG F hr hG hg hm hk hb passF wa_pa hdb A.he A.hpl) (ha M I H σ _ hM s t fun vs I1 H1 s1 e1 p =>
    ⟨I1, s1.enter (fun q hq => hM q (hw q hq)) nd, p, fun v I' H' s' r => by
      obtain ⟨s2, e2⟩ := s1.back (fun q hq => hM q (hw q hq)) s'
      exact q v I' H' s2 (e1.trans e2) r⟩)
/-- .. of a def that changes tables -/
theorem je_callT {T : List (Addr × Str)} (F : FdG X.prog X.w X.K X.mg X.base x k (FSt T ow ps R)) (hN : NoTb N) (hT : N.T = T) (hr : Room k X.A) (hG : X.A.guards = some []) (ha : JA X N rq Γ (e :: es) ps) (hw : Has ow rq) (nd : (ow.map (·.1)).Nodup) (hg : Gl X x) (hdb : (x == ("__debug__" : Str)) = false) (A : Ar X e es pos) :
    JE X N rq Γ (.Call (.Name x p2) (e :: es) [] pos) R := by
  obtain ⟨f, fd, pn, F, hm, hk, hb⟩ := F
  subst hT
  exact fun M I H σ Q hM s t q => we_of (pe_callG F hr hG hg hm hk hb passF wa_pa hdb A.he A.hpl) (ha M I H σ _ hM s t fun vs I1 H1 s1 e1 p =>
    ⟨I1, s1.enterT (fun q hq => hM q (hw q hq)) nd, p, fun v I' H' s' r => by
      obtain ⟨s2, e2⟩ := s1.backT hN (fun q hq => hM q (hw q hq)) s'
      exact q v I' H' s2 (e1.trans e2) r⟩)
/-! ### repr -/
structure ShowOk (d : PyData) : Prop where
  sh : d.showable = true
  nd : d.hasDict = false
  dp : d.depth ≤ 60
  sz : d.shown.length ≤ sizeLine
theorem cr_reprD (hG : X.A.guards = some []) (hu : X.A.units + 65 < cLine) : CallR X (.builtin "repr") (fun xs H Q => ∃ x d, xs = [x] ∧ Dp X.K H x d ∧ ShowOk d ∧ Q (.str d.shown) H) := by
  intro pins s σ H xs us Q I r h
  obtain ⟨x, d, rfl, hd, ok, q⟩ := h
  obtain ⟨u, rfl, ru⟩ := vals1 r
  have big : ∀ (v : Addr), u = .ref v → wpAny (model X.prog X.w) X.A (call (.builtin "repr") [u]) (EP X pins σ Q) X.xe s := fun v e => by
    obtain ⟨as, r1⟩ := Dp.reads I d x u hd ru
    subst e
    refine repr_of_reads' r1 ok.sh (PyData.noDict_hsm ok.nd) hG (by have := ok.dp; omega) (fun _ _ e => e) (fun h' u tk hk => ?_) ok.sz
    exact ⟨.str d.shown, H, I.kept (t' := tk) hk, ⟨_, rfl⟩, q⟩
  have fin : ∀ {z : Str}, d.shown = z → EP X pins σ Q (.str z s.toks) { s with toks := s.toks + 1 } := fun {z} e => ⟨.str d.shown, H, I.tok _, ⟨_, by rw [e]⟩, q⟩
  cases hd with
  | non => obtain rfl := ru; exact PySem.P.repr_of_none (fin (by simp [PyData.shown]))
  | bl b => obtain rfl := ru; exact PySem.P.repr_of_bool (fin (by simp [PyData.shown]))
  | int i =>
    obtain ⟨t, rfl⟩ := ru
    exact PySem.P.repr_of_int (by simpa [PyData.showable] using ok.sh) (fin (by simp [PyData.shown]))
  | str y =>
    obtain ⟨t, rfl⟩ := ru
    exact PySem.P.repr_of_str (fin (by simp [PyData.shown])) (by simpa [PyData.shown] using ok.sz)
  | lst h1 h2 => exact big _ ru
  | tup h1 h2 => exact big _ ru
theorem je_repr {d : PyData} {p : Pos} (hG : X.A.guards = some []) (hu : X.A.units + 65 < cLine) (ok : ShowOk d) (ha : JE X N rq Γ e (DatV d)) (B : Bi X "repr" (.builtin "repr")) (A : Ar X e [] pos) : JE X N rq Γ (.Call (.Name "repr" p) [e] [] pos) (StrV d.shown) :=
  je_callB (cr_reprD hG hu) B.gl B.free B.boot (ja_cons ha ja_nil A.he) (fun M I H vs Q hm s h q => by
    obtain ⟨v, rfl, hv⟩ := ty1 h
    exact ⟨v, d, rfl, Dt.dp s.sub hv, ok, q _ I H s (Same.refl _) (.str _)⟩) B.n1 B.n2 A.he A.hpl
end
end QX

/-! text QG4 -/
set_option Elab.async false
set_option linter.all false
set_option maxRecDepth 100000
set_option maxHeartbeats 4000000
/-! QG4: l.index(x), l.count(x); isinstance of a caught exception that has a dict. -/
namespace QX
open PySem PySem.Spec PyProof.Rows L2 QL
section
variable {X : Cx}
def rCountD (K : PySem.W.Frag) : V → List V → Hp → VK → Prop := fun x xs H Q => ∃ (a : Addr) (y : V) (d : PyData) (ds : List PyData), x = V.ref a ∧ xs = [y] ∧ Dp K H (V.ref a) (.list ds) ∧ Dp K H y d ∧ SeqAt.shaped (.list ds) = true ∧ SeqAt.shaped d = true ∧ Q (.int (ds.countP fun z => PyData.eqv z d : Nat)) H
theorem mt_countD (hu : X.A.units + 65 < cLine) : MtR X "list.count" (rCountD X.K) := by
  intro pins s σ H x xs v us Q I rx rxs h
  obtain ⟨a, y, d, ds, rfl, rfl, hl, hy, sl, sd, q⟩ := h
  cases rx
  obtain ⟨uy, rfl, ry⟩ := rxs.one
  obtain ⟨bs, r1⟩ := Dp.reads I d y uy hy ry
  have hxs : PyData.canLayAll0 ds = true := SeqAt.canLay_of_shaped sl
  have hroom : X.A.units + 1 + min (PyData.depthAll ds) d.depth < cLine := room_in_shaped sd hu
  cases hl with
  | lst hs ha =>
    obtain ⟨its, rv, ⟨⟨cls, dd, data, sls⟩, n, ho, hc, hdn, hdt⟩, hlen⟩ := I.list hs
    simp only at hc hdt
    subst hc hdt
    obtain ⟨as, h4⟩ := Dp.readsAll I ds _ its ha rv
    have hmap : its.map (SeqAt.readOf s.heap) = ds := SeqAt.readsAll_map ds its as hxs h4
    refine call_meets PySem.F.slot_list_count ⟨_, ho, rfl⟩ PySem.F.entry_list_count (PySem.F.args_list_count_2 _ _)
      (SeqAt.list_countAt a its.toArray n dd sls uy (fun u => PyData.eqv (SeqAt.readOf s.heap u) d)) ⟨ho, SeqAt.items_eqAt (vs := its.toArray) (show ReadsAll s.heap its.toArray.toList ds as from h4) r1 hxs (SeqAt.canLay_of_shaped sd) hroom, ?_⟩
    have ec : its.toArray.toList.countP (fun u => PyData.eqv (SeqAt.readOf s.heap u) d) = ds.countP fun z => PyData.eqv z d := by
      rw [← hmap, List.countP_map]
      rfl
    refine ⟨.int (ds.countP fun z => PyData.eqv z d : Nat), H, I.tok _, ⟨s.toks, ?_⟩, q⟩
    show Value.int ((its.toArray.toList.countP (fun u => PyData.eqv (SeqAt.readOf s.heap u) d) : Nat) : Int) s.toks = _
    rw [ec]
variable {N : Ent} {rq : OwnM} {Γ : QL.Ctx} {a b e o : Expr} {es : List Expr} {P P' R : Pr} {pos p2 apos : Pos}
theorem je_count {ds : List PyData} {d : PyData} (hu : X.A.units + 65 < cLine) (hv : JE X N rq Γ o (DatV (.list ds))) (ha : JE X N rq Γ e (DatV d)) (sl : SeqAt.shaped (.list ds) = true) (sd : SeqAt.shaped d = true) (A : Ar X e [] pos)
    (hbase : attributeBase o "count" X.env (eval o X.env) = eval o X.env)
    (hfew : ((backTo pos (starEach [e] X.env)).all (fun x => !x.1) && (backToKw pos (keywordEach [] X.env)).all (fun x => x.1.isSome)
      && decide ([e].length + ([] : List Keyword).length + (if ([] : List Keyword).isEmpty then 0 else 1) < 30)) = true)
    (hline : (apos.endLine == pos.line) = true) : JE X N rq Γ (.Call (.Attribute o "count" apos) [e] [] pos) (IntV (ds.countP fun z => PyData.eqv z d : Nat)) := fun M I H σ Q hM s t q =>
  we_of (pe_bm PySem.F.plainAttrs_list PySem.F.slot_list_count PySem.F.type_list_count (mt_countD hu) we_pe wa_pa hbase hfew hline A.he A.hpl) (hv M I H σ _ hM s t fun v I1 H1 s1 e1 p1 => by
    cases (show Dt I1 v (.list ds) from p1) with
    | @lst a ys _ h1 h2 =>
      refine ⟨.inl ⟨rfl, ys, SqL.of (s1.sub _ _ h1)⟩, ja_cons ha ja_nil A.he M I1 H1 σ _ hM s1 (t.up e1) fun vs I2 H2 s2 e2 tv => ?_⟩
      obtain ⟨y, rfl, hy⟩ := ty1 tv
      exact ⟨a, y, d, ds, rfl, rfl, Dt.dp s2.sub (Dt.up e2 (.lst h1 h2)), Dt.dp s2.sub hy, sl, sd, q _ I2 H2 s2 (e1.trans e2) (.int _)⟩)
theorem je_index {ds : List PyData} {d z : PyData} {j : Nat} (hu : X.A.units + 65 < cLine) (hv : JE X N rq Γ o (DatV (.list ds))) (ha : JE X N rq Γ e (DatV d)) (sl : SeqAt.shaped (.list ds) = true) (sd : SeqAt.shaped d = true) (hz : ds[j]? = some z) (hj : PyData.eqv z d = true)
    (hno : ∀ (m : Nat) (z' : PyData), m < j → ds[m]? = some z' → PyData.eqv z' d = false) (A : Ar X e [] pos)
    (hbase : attributeBase o "index" X.env (eval o X.env) = eval o X.env)
    (hfew : ((backTo pos (starEach [e] X.env)).all (fun x => !x.1) && (backToKw pos (keywordEach [] X.env)).all (fun x => x.1.isSome)
      && decide ([e].length + ([] : List Keyword).length + (if ([] : List Keyword).isEmpty then 0 else 1) < 30)) = true)
    (hline : (apos.endLine == pos.line) = true) : JE X N rq Γ (.Call (.Attribute o "index" apos) [e] [] pos) (IntV (j : Nat)) := fun M I H σ Q hM s t q =>
  we_of (pe_bm PySem.F.plainAttrs_list PySem.F.slot_list_index PySem.F.type_list_index (mt_indexD hu) we_pe wa_pa hbase hfew hline A.he A.hpl) (hv M I H σ _ hM s t fun v I1 H1 s1 e1 p1 => by
    cases (show Dt I1 v (.list ds) from p1) with
    | @lst a ys _ h1 h2 =>
      refine ⟨.inl ⟨rfl, ys, SqL.of (s1.sub _ _ h1)⟩, ja_cons ha ja_nil A.he M I1 H1 σ _ hM s1 (t.up e1) fun vs I2 H2 s2 e2 tv => ?_⟩
      obtain ⟨y, rfl, hy⟩ := ty1 tv
      exact ⟨a, y, d, ds, j, z, rfl, rfl, Dt.dp s2.sub (Dt.up e2 (.lst h1 h2)), Dt.dp s2.sub hy, sl, sd, hz, hj, hno, q _ I2 H2 s2 (e1.trans e2) (.int _)⟩)
end
end QX

/-! text QG5 -/
set_option Elab.async false
set_option linter.all false
set_option maxRecDepth 100000
set_option maxHeartbeats 4000000
/-! QG5: isinstance of a caught exception that has a dict. -/
namespace QX
section
open PySem PySem.W PySem.Spec PySem.Calls PyProof.Rows
variable {prog : Program} {w : World} {A : Around} {E : Value → Shared → Prop} {s : Shared} {K : Frag} {x D : Addr} {ox : Obj} {od : Option Obj}
theorem obj_data {C : Addr} {name : Str} {a g : Value} (hc : (clsIn K C).isSome = true) (ha : findIn K (.ref C) name = some (some a)) (hg : specialIn K a "__get__" = some (some g)) (ht : takesIn K a = some true) : findObj K C od name = some (.bind g a) := by
  obtain ⟨cd, hc⟩ := Option.isSome_iff_exists.mp hc
  unfold findObj
  rw [hc, Option.bind_some, ha, Option.bind_some]
  simp [hg, ht]
theorem cls_of_exc {Q : Option Value → Shared → Prop} (C : L2.ExcC K D) (X : K.In s.heap) (I : InstAt s.heap x ox D od) (h : Q (some (.ref D)) { s with toks := s.toks + 1 }) : wpAny (model prog w) A (getAttr? (.ref x) "__class__") Q E s := by
  have hf : findObj K D od "__class__" = some (.bind (.builtin "getset_descriptor.__get__") (.builtin "object.__class__")) := obj_data (by obtain ⟨cd, hc, _⟩ := any_some C.hd; rw [hc]; rfl) C.ha C.hn C.ht
  obtain ⟨hp, g, d, t, os⟩ := s
  have L0 := I.type (M := model prog w)
  have L1 := looks_findIn (M := model prog w) X C.hg
  have L2 := looks_findIn (M := model prog w) X C.hk
  have L3 := looks_find (M := model prog w) X I hf
  have sub : Looks (model prog w) hp (isInstance (.ref x) (.type "BaseException")) true := L0.andThen (looks_subIn X C.hs)
  have hx0 : (false && onTheHeap (Value.builtin "BaseException.__getattribute__")) = false := rfl
  have hx2 : (Value.builtin "BaseException.__getattribute__" == Value.builtin "object.__getattribute__") = false := by decide +kernel
  have hx1 : (onTheHeap (Value.ref D) && Value.builtin "BaseException.__getattribute__" == Value.builtin "object.__getattribute__") = false := by rw [hx2]; rfl
  unfold getAttr? getAttrBy? getAttrBy
  refine wpAny_bind (wpAny_mkText (wpAny_bind (wpAny_attempt (wpAny_holding (wpAny_bind (L0.at (wpAny_bind (L1.at ?_))))))))
  show wpAny _ _ (if (onTheHeap (Value.ref D) && Value.builtin "BaseException.__getattribute__" == Value.builtin "object.__getattribute__") = true then _ else _) _ _ _
  rw [hx1, if_neg Bool.false_ne_true]
  unfold getAttrByItsOwn hookBefore
  refine wpAny_bind ?_
  rw [if_pos (show onTheHeap (Value.ref D) = true from rfl)]
  refine L2.at ?_
  refine wpAny_bind (wpAny_attempt (wpAny_holding ?_))
  unfold callGetattribute
  rw [hx0, if_neg Bool.false_ne_true]
  unfold boundAndCalled
  rw [PySem.F.excAttr_ValueError.ga.bind (.ref x)]
  refine wpAny_bind (wpAny_pure ?_)
  show wpAny _ _ (call (.builtin "BaseException.__getattribute__") [.ref x, .str "__class__" t]) _ _ _
  refine wpAny_call (codeAny_call_builtin PySem.F.excAttr_ValueError.ga.plain PySem.F.entry_bexc_ga ?_)
  refine @check_slot (model prog w) _ _ ⟨hp, g, d, t + 1, os⟩ "BaseException.__getattribute__" "BaseException" "__getattribute__" (.ref x) [.str "__class__" t] [] _ (by decide +kernel) (by decide +kernel) sub (PySem.F.args_bexc_ga (.ref x) (.str "__class__" t)) ?_
  unfold Builtin.«object.__getattribute__»
  refine wpAny_bind (wpAny_of_eq (a := ((Value.ref x : Value), [Value.str "__class__" t])) (by first | rfl | (simp only [slotArgs]; rfl)) ?_)
  refine wpAny_bind (wpAny_pure (wpAny_bind (L0.at (wpAny_bind (L3.at ?_)))))
  show wpAny _ _ (holding [Value.builtin "object.__class__"] (call (.builtin "getset_descriptor.__get__") [.builtin "object.__class__", .ref x, .ref D]) >>= ret) _ _ _
  refine wpAny_bind (wpAny_holding (wpAny_call (class_get (s := ⟨hp, g, d, t + 1, os⟩) (ox := ox) (od := od) X I C.hm ?_)))
  refine wpAny_pure ?_
  show wpAny _ _ (handedOut (.ref D)) _ _ _
  rw [handedOut_of (v := .ref D) rfl]
  first
    | exact wpAny_pure (wpAny_pure h)
    | exact wpAny_pure h
    | exact wpAny_pure (wpAny_bind (wpAny_pure (wpAny_pure h)))
theorem kit_exc (C : L2.ExcC K D) : KitX K (.ref x) (.ref D) (fun h => ∃ od, InstAt h x ox D od) where
  ty := fun _ _ _ ⟨_, I⟩ => I.type
  it := fun _ _ X _ => by
    obtain ⟨cdD, hcD, _⟩ := any_some C.hd
    unfold clsIn at hcD
    split at hcD
    · rename_i c' d' cd' sl' ho
      intro A' Q' E' s' k q
      unfold isType loadHead
      exact wpAny_bind (wpAny_loadPart (k _ _ (X _ _ ho)) (wpAny_pure q))
    · cases hcD
  ne := fun h tp dd its n sl X htp => by
    obtain ⟨cdD, hcD, _⟩ := any_some C.hd
    refine Bool.eq_false_iff.mpr fun q => ?_
    have e : D = tp := Value.ref.inj (beq_iff_eq.mp q)
    subst e
    unfold clsIn at hcD
    split at hcD
    · rename_i c' d' cd' sl' ho
      have z := (X _ _ ho).symm.trans htp
      cases z
    · cases hcD
  ca := fun X ⟨_, I⟩ k => cls_of_exc C X I k
end
open PySem PySem.Spec PyProof.Rows L2 QL
/-- the exception at a, of the class at C, its dict at dd, is what the context holds -/
structure Held (X : Cx) (a C dd : Addr) : Prop where
  ex : ∃ oe : Obj, (a, oe) ∈ X.pn ∧ Zc (.ref C) (some dd) oe ∧ ∃ vs, oe.data = .fields vs
/-- the caught exception, its fields -/
def XcV (a dd : Addr) (fs : List (Str × V)) : Pr := ⟨fun v I => v = .ref a ∧ I dd = some (.xd fs), fun e ⟨h1, h2⟩ => ⟨h1, e _ _ h2⟩⟩
section
variable {X : Cx} {N : Ent} {rq : OwnM} {Γ : QL.Ctx} {e : Expr} {pos : Pos} {a C dd : Addr} {fs : List (Str × V)}
theorem call_isX (hc : ExcC X.K C) (h : Held X a C dd) : CallR X (.builtin "isinstance") (fun xs H Q => ∃ (c : V) (cv : Value) (b : Bool), xs = [.ref a, c] ∧ (∀ u, RelV c u → u = cv) ∧ PySem.W.kitOne X.K (.ref C) cv = some b ∧ H dd = some (.xd fs) ∧ Q (.bl b) H) := by
  intro pins s σ H xs us Q I r h'
  obtain ⟨oe, hp, hz, hf⟩ := h.ex
  obtain ⟨c, cv, b, rfl, hcv, e, ed, q⟩ := h'
  cases r with
  | cons rx rr =>
    cases rr with
    | cons rt rr =>
      cases rr
      cases rx
      have ec := hcv _ rt
      subst ec
      obtain ⟨hget, _⟩ := I.pin (a, oe) (List.mem_append_left _ hp)
      obtain ⟨vs, hv⟩ := hf
      have hx : ObjOk X.prog X.w H s.heap dd (.xd fs) := I.hok dd _ ed
      obtain ⟨mA, hns, _⟩ := hx
      obtain ⟨od, ho, _⟩ := lookIn_ns hns
      have J : PySem.W.InstAt s.heap a oe C (some od) := ⟨hget, hz.1, by unfold PySem.W.notCls; rw [hv], by rw [hz.2]; exact ho⟩
      exact PySem.W.kia_one (kit_exc (ox := oe) hc) I.kIn ⟨_, J⟩ e (fun z => nomatch z) fun tk => ⟨.bl b, H, I.kept (t' := tk) fun _ _ z => z, rfl, q⟩
theorem je_isX {p np : Pos} {D : Addr} {x : Str} {b : Bool} (hc : ExcC X.K C) (h : Held X a C dd) (hk : PySem.W.kitOne X.K (.ref C) (.ref D) = some b) (ha : JE X N rq Γ e (XcV a dd fs)) (hg : Gl X x) (hm : X.mg x = some (.ref D)) (hd : (x == ("__debug__" : Str)) = false) (B : Bi X "isinstance" (.builtin "isinstance")) (A : Ar X e [.Name x np] pos) (A2 : Ar X (.Name x np) [] pos) :
    JE X N rq Γ (.Call (.Name "isinstance" p) [e, .Name x np] [] pos) (BlV b) :=
  je_callB (call_isX (fs := fs) hc h) B.gl B.free B.boot (ja_cons ha (ja_cons (je_glob (P := EqV (.ref D)) (v := .ref D) hg hm rfl (fun _ => rfl) hd) ja_nil A2.he) A.he) (fun M I H vs Q hm s h q => by
    obtain ⟨v, w, rfl, ⟨rfl, h1⟩, hw⟩ := ty2 h
    exact ⟨w, .ref D, b, rfl, fun u r => by rw [show w = V.ref D from hw] at r; exact r, hk, s.sub _ _ h1, q _ I H s (Same.refl _) (.bl _)⟩) B.n1 B.n2 A.he A.hpl
/-- e.value -/
theorem je_val {n : Str} {d : PyData} {v : V} (T : XfC X.K C) (hno : PySem.W.findIn X.K (.ref C) n = some none) (h : Held X a C dd) (hl : fs.lookup n = some v) (ha : JE X N rq Γ e ⟨fun u I => (XcV a dd fs).p u I ∧ Dt I v d, fun e ⟨h1, h2⟩ => ⟨(XcV a dd fs).up e h1, Dt.up e h2⟩⟩) (hb : attributeBase e n X.env (eval e X.env) = eval e X.env) :
    JE X N rq Γ (.Attribute e n pos) (DatV d) := fun M I H σ Q hM s t q => by
  intro pins s0 I0
  obtain ⟨oe, hp, hz, hf⟩ := h.ex
  refine attr_of hb (thn (ha M I H σ (fun x H1 => x = .ref a ∧ ∃ I1, S3 N M I1 H1 ∧ Same I I1 ∧ I1 dd = some (.xd fs) ∧ Dt I1 v d) hM s t (fun x I1 H1 s1 e1 p1 => ⟨p1.1.1, I1, s1, e1, p1.1.2, p1.2⟩) pins s0 I0) fun u s1 hh => ?_)
  obtain ⟨x, H1, J1, rx, ex, I1, t1, e1, ed, dv⟩ := hh
  subst ex
  obtain rfl : u = Value.ref a := rx
  obtain ⟨hget, _⟩ := J1.pin (a, oe) (List.mem_append_left _ hp)
  obtain ⟨vs, hd⟩ := hf
  have hx : ObjOk X.prog X.w H1 s1.heap dd (.xd fs) := J1.hok dd _ (t1.sub _ _ ed)
  obtain ⟨mA, hns, hr⟩ := hx
  obtain ⟨od, ho, hlk⟩ := lookIn_ns hns
  obtain ⟨u, hu, ru⟩ := RelO.some_of (v := v) (o := mA n) (by rw [← hl]; exact hr n)
  have J : PySem.W.InstAt s1.heap a oe C (some od) := ⟨hget, hz.1, by unfold PySem.W.notCls; rw [hd], by rw [hz.2]; exact ho⟩
  exact HandSPX.exc_get J1.kIn J T.ga T.gg T.exC (PySem.W.findObj_own T.hdC hno rfl (by rw [hlk, hu])) (handed_of ru) ⟨v, H1, J1.tok _, ru, q v I1 H1 t1 e1 dv⟩
end
end QX

/-! text QG6 -/
set_option Elab.async false
set_option linter.all false
set_option maxRecDepth 100000
set_option maxHeartbeats 4000000
/-! QG6: a def called in an except suite. -/
namespace QX
open PySem PySem.Spec PyProof.Rows L2 QL L2H
/-- the context of such a def's body -/
abbrev hx (P : Program) (w : World) (K : PySem.W.Frag) (mg : Str → Option Value) (base : Heap) (Ns : List Str) (qual : Str) (scope : Scope) (f : Addr) (cdv : Value) (A : Around) (outer : List Env) (s : Shared) (H : Hp) (E : XK) (p : Addr × Obj) : Cx :=
  cxH (L2.CX P w) P w K mg base Ns qual scope f cdv A outer s H E p
/-- its promise: the held exception of the class at C is its one argument, it gives the text nm -/
structure FnP (P : Program) (w : World) (K : PySem.W.Frag) (mg : Str → Option Value) (base : Heap) (k : Nat) (f : Addr) (fd : FuncData) (pn : List Str) (C : Addr) (R : Pr) : Prop where
  one : pn.length = 1
  run : ∀ (A : Around) (outer : List Env) (s : Shared) (H : Hp) (args : Args) (us : List Value) (p : Addr × Obj) (dd : Addr) (fs : List (Str × V)) (I : Hp) (Q : VK), RoomH k A → PinOk outer H s p → Zc (.ref C) (some dd) p.2 → (∃ vs, p.2.data = .fields vs) → Env0 P w K mg base A outer s H → BindsTo s fd args (pn.zip us) → Vals [V.ref p.1] us →
    S3 (Ent.call I H []) [] I H → I dd = some (.xd fs) → (∀ v I' H', S3 (Ent.call I H []) [] I' H' → R.p v I' → Q v H') → codeAny (model P w) A (.call (.ref f) args) (CR (L2.CX P w) outer P w H s Q QL.E0) s
section
variable {P : Program} {w : World} {K : PySem.W.Frag} {mg : Str → Option Value} {base : Heap} {f : Addr} {fd : FuncData} {x qual : Str} {params : Arguments} {body : List Stmt} {scope : Scope} {dvs : List V} {kws : List (Str × V)} {Ns pn : List Str} {k : Nat} {R : Pr} {C : Addr}
theorem fnp_rule (F : FunD K x qual params body scope dvs kws f fd) (S : FnScope Ns pn scope) (hl : pn.length = 1)
    (hb : ∀ (cdv : Value) (A : Around) (outer : List Env) (s : Shared) (H : Hp) (p : Addr × Obj) (dd : Addr) (fs : List (Str × V)), RoomH k (hx P w K mg base Ns qual scope f cdv A outer s H QL.E0 p).A → Held (hx P w K mg base Ns qual scope f cdv A outer s H QL.E0 p) p.1 C dd →
      ∀ N : Ent, JS (hx P w K mg base Ns qual scope f cdv A outer s H QL.E0 p) (Tp N [] (startC Ns.length [XcV p.1 dd fs])) body (RetD N [] R)) : FnP P w K mg base (k + 1) f fd pn C R := by
  obtain ⟨oc, od, dV, kV, doc, pm, an, cdv, ct, osl, rfl, lk, hcd, _, _⟩ := F.ex
  refine ⟨hl, fun A outer s H args us p dd fs I Q hr hpin hz hf e0 hb' r s3 hd q => ?_⟩
  have KX : K.In s.heap := e0.mod.kin.keeps fun b o e => (e0.bs b o e).1
  have lim : s.heap.NoLimit := e0.mod.nolimit.keeps fun b o e => (e0.bs b o e).1
  have hkind : ∀ y ∈ pn.zip us, scope.names.lookup y.1 = some .local ∨ (scope.names.lookup y.1 = some .cell ∧ ((cellsFrom (s.heap.objs.size + 1) scope.names []).lookup y.1).isSome = true) := fun ⟨n, v⟩ hy => by
    rcases S.par n (List.of_mem_zip hy).1 with q | q
    · exact .inl q
    · exact .inr ⟨q, PySem.W.cellsFrom_some _ _ _ (.inl q)⟩
  refine codeAny_call_function hr.depth (KX _ _ lk) rfl S.co S.gen rfl (PySem.W.codeRec_of KX hcd) (hb' _ _ _ _ ?_)
  refine wpAny_newFunctionEnv_cells S.kind hkind fun env he s1 x => ?_
  subst he
  refine ⟨lim.keeps x.toInCall.keep, codeAny_func ?_⟩
  have J : Inv (hx P w K mg base Ns qual scope f cdv A outer s H QL.E0 p) [] (L2.start Ns [V.ref p.1]) H s1 := inv_startH S hpin e0 hl.symm r x
  have B := hb cdv A outer s H p dd fs (hr.deeper _) ⟨p.2, List.mem_singleton.mpr rfl, hz, hf⟩ (Ent.call I H [])
  have hlen : (L2.start Ns [V.ref p.1]).length = (startC Ns.length [XcV p.1 dd fs]).length := by
    unfold L2.start startC
    simp only [List.length_append, List.length_map, List.length_replicate]
    rfl
  have z := (B.weakD (D' := { nx := fun _ H' => Q .non H', rt := Q }) (fun _ H' ⟨I', s', r⟩ => q .non I' H' s' r) fun v H' ⟨I', s', r⟩ => q v I' H' s' r) _ _ ⟨hlen, I, s3, ty_start (ps := [XcV p.1 dd fs]) (vs := [V.ref p.1]) ⟨⟨rfl, hd⟩, True.intro⟩⟩
  refine wpAny_mono (z [] s1 J) (fun fl s' hs => ?_) fun e s' hs => hs
  have fin : ∀ {σ' : L2.St} {H' : Hp} {v : V} {u : Value}, Inv (hx P w K mg base Ns qual scope f cdv A outer s H QL.E0 p) [] σ' H' s' → RelV v u → Q v H' → CE outer P w H s Q u s' :=
    fun {σ' H' v u} J rv q => ⟨v, H', J.os, J.bare, J.base, J.hok, rv, q⟩
  cases fl with
  | ret u =>
    obtain ⟨v, σ', H', J, rv, q⟩ := hs
    exact fin J rv q
  | next =>
    obtain ⟨σ', H', J, q⟩ := hs
    exact fin (v := V.non) (u := Value.none) J rfl q
  | brk =>
    obtain ⟨_, _, _, q⟩ := hs
    exact False.elim q
  | cont =>
    obtain ⟨_, _, _, q⟩ := hs
    exact False.elim q
end
section
variable {X : Cx} {N : Ent} {rq : OwnM} {Γ : QL.Ctx} {e : Expr} {pos p2 : Pos} {a C dd : Addr} {fs : List (Str × V)} {x : Str} {k : Nat} {R : Pr}
/-- the def x in a suite -/
def FdP (P : Program) (w : World) (K : PySem.W.Frag) (mg : Str → Option Value) (base : Heap) (x : Str) (k : Nat) (C : Addr) (R : Pr) : Prop := ∃ (f : Addr) (fd : FuncData) (ps : List Str), FnP P w K mg base k f fd ps C R ∧ mg x = some (.ref f) ∧ PySem.W.keepIn K (.ref f) = true ∧ Binds K fd ps []
theorem je_callP (F : FdP X.prog X.w X.K X.mg X.base x k C R) (hr : RoomH k X.A) (h : Held X a C dd) (ha : JE X N rq Γ e (XcV a dd fs)) (hg : Gl X x) (hdb : (x == ("__debug__" : Str)) = false) (A : Ar X e [] pos) : JE X N rq Γ (.Call (.Name x p2) [e] [] pos) R := fun M I H σ Q hM s t q => by
  intro pins s0 I0
  obtain ⟨f, fd, pn, F, hm, hk, hb⟩ := F
  obtain ⟨oe, hp, hz, hf⟩ := h.ex
  refine wpAny_Call_Name_kw (ld_glob I0 hg hm ?_ hdb)
  have z := ja_cons ha ja_nil A.he M I H σ (fun vs H1 => vs = [V.ref a] ∧ ∃ I1, S3 N M I1 H1 ∧ Same I I1 ∧ I1 dd = some (.xd fs)) hM s t fun vs I1 H1 s1 e1 tv => by
    obtain ⟨v, rfl, hv⟩ := ty1 tv
    exact ⟨by rw [show v = V.ref a from hv.1], I1, s1, e1, hv.2⟩
  refine PySem.W.callWith_K (h₀ := X.base) I0.ok.mod.kin hk (thn (wa_pa.run pos pins s0 σ H _ I0 z) fun us s1 ⟨vs, H1, J1, r, q1⟩ => ⟨J1.kIn, ?_⟩) A.he A.hpl
  obtain ⟨rfl, I1, t1, e1, hd1⟩ := q1
  have P1 := J1.pin (a, oe) (List.mem_append_left _ hp)
  have hpin : PinOk X.stack H1 s1 (a, oe) := ⟨P1.1, P1.2.1, fun hm => (List.mem_cons.mp (J1.stkSub a hm)).elim P1.2.2.1 P1.2.2.2.1, P1.2.2.2.2⟩
  have hl : us.length = pn.length := by rw [F.one, ← r.length]; rfl
  have b := hb s1 us J1.kIn (by rw [List.append_nil]; exact hl)
  rw [List.append_nil] at b
  refine wpAny_call (codeAny_mono (F.run X.A X.stack s1 H1 ⟨us, []⟩ us (a, oe) dd fs I1 Q hr hpin hz hf J1.env0 b r (t1.enter has_nil .nil) hd1 (fun v I' H' s' r' => by
      obtain ⟨s2, e2⟩ := t1.back has_nil s'
      exact q v I' H' s2 (e1.trans e2) r')) fun r s' hq => ?_)
  cases r with
  | error e => exact passF pins σ H1 s1 e s' J1 hq
  | ok fl =>
    cases fl with
    | ret u => exact J1.after hq
    | next => exact False.elim hq
    | brk => exact False.elim hq
    | cont => exact False.elim hq
end
end QX

/-! text QFL -/
set_option Elab.async false
set_option linter.all false
set_option maxRecDepth 100000
set_option maxHeartbeats 4000000
/-! QFL: the kind of a caught exception. Printed by fl.py. -/
namespace QD
open PySem PySem.Spec PyProof.Rows L2 QL QX
section
variable {P : Program} {w : World} {K : PySem.W.Frag} {mg : Str → Option Value} {base : Heap} {CB CR CT CN CL : Addr} {f : Addr} {fd : FuncData}

theorem no6 : ∀ (m : Nat) (z' : PyData), m < 6 → (([PyData.bool false, PyData.bool false, PyData.bool false] ++ [PyData.bool false, PyData.bool false, PyData.bool false] ++ [PyData.bool true, PyData.bool false])[m]? = some z') → PyData.eqv z' (PyData.bool true) = false := fun m z' h hz => by
  have h6 : m = 0 ∨ m = 1 ∨ m = 2 ∨ m = 3 ∨ m = 4 ∨ m = 5 := by omega
  rcases h6 with rfl | rfl | rfl | rfl | rfl | rfl <;> (cases hz; decide +kernel)
theorem sc__law_kind : FnScope ["_law_error", "_law_kinds", "_law_names"] ["_law_error"] (defScope (top 72)) := ⟨rfl, rfl, rfl, by decide +kernel, rfl, by decide +kernel, by decide +kernel⟩
theorem w_law_kind_number (ft : Ft K mg CB CR CT CN CL) (F : FunD K "_law_kind" "_law_kind" (defArgs (top 72)) (defBody (top 72)) (defScope (top 72)) [] [] f fd) (hm : mg "_law_kind" = some (.ref f)) (hc : ExcC K CN) {D0 : Addr} (k0 : mg "InvalidNumber" = some (.ref D0) ∧ PySem.W.kitOne K (.ref CN) (.ref D0) = some true) {D1 : Addr} (k1 : mg "InvalidName" = some (.ref D1) ∧ PySem.W.kitOne K (.ref CN) (.ref D1) = some false) {D2 : Addr} (k2 : mg "InvalidBox" = some (.ref D2) ∧ PySem.W.kitOne K (.ref CN) (.ref D2) = some false) {D3 : Addr} (k3 : mg "InvalidRow" = some (.ref D3) ∧ PySem.W.kitOne K (.ref CN) (.ref D3) = some false) {D4 : Addr} (k4 : mg "InvalidTalk" = some (.ref D4) ∧ PySem.W.kitOne K (.ref CN) (.ref D4) = some false) {D5 : Addr} (k5 : mg "InvalidText" = some (.ref D5) ∧ PySem.W.kitOne K (.ref CN) (.ref D5) = some false) {D6 : Addr} (k6 : mg "InvalidLetter" = some (.ref D6) ∧ PySem.W.kitOne K (.ref CN) (.ref D6) = some false) {D7 : Addr} (k7 : mg "InvalidCourse" = some (.ref D7) ∧ PySem.W.kitOne K (.ref CN) (.ref D7) = some false) : FdP P w K mg base "_law_kind" 1 CN (StrV "number") := by
  have fr := ft.fr
  refine ⟨f, fd, ["_law_error"], ?_, hm, F.kp, F.bindsN fun _ _ _ _ _ _ us hl => match us, hl with | [_], _ => rfl⟩
  refine fnp_rule F sc__law_kind rfl fun cdv A outer s H p dd fs hr held N => ?_
  have nd := sc__law_kind.nd
  exact js_set (i := 1) (je_lstD (jd_cons (je_isX hc held k0.2 (je_var (i := 0) rfl rfl (vis_by rfl) rfl rfl) rfl k0.1 rfl (bi_isinstance fr rfl) ⟨rfl, rfl⟩ ⟨rfl, rfl⟩) (jd_cons (je_isX hc held k1.2 (je_var (i := 0) rfl rfl (vis_by rfl) rfl rfl) rfl k1.1 rfl (bi_isinstance fr rfl) ⟨rfl, rfl⟩ ⟨rfl, rfl⟩) (jd_cons (je_isX hc held k2.2 (je_var (i := 0) rfl rfl (vis_by rfl) rfl rfl) rfl k2.1 rfl (bi_isinstance fr rfl) ⟨rfl, rfl⟩ ⟨rfl, rfl⟩) jd_nil rfl) rfl) rfl) (Nat.le_of_ble_eq_true rfl))
      (js_set (i := 1) (je_catL (je_var (i := 1) rfl rfl (vis_by rfl) rfl rfl) (je_lstD (jd_cons (je_isX hc held k3.2 (je_var (i := 0) rfl rfl (vis_by rfl) rfl rfl) rfl k3.1 rfl (bi_isinstance fr rfl) ⟨rfl, rfl⟩ ⟨rfl, rfl⟩) (jd_cons (je_isX hc held k4.2 (je_var (i := 0) rfl rfl (vis_by rfl) rfl rfl) rfl k4.1 rfl (bi_isinstance fr rfl) ⟨rfl, rfl⟩ ⟨rfl, rfl⟩) (jd_cons (je_isX hc held k5.2 (je_var (i := 0) rfl rfl (vis_by rfl) rfl rfl) rfl k5.1 rfl (bi_isinstance fr rfl) ⟨rfl, rfl⟩ ⟨rfl, rfl⟩) jd_nil rfl) rfl) rfl) (Nat.le_of_ble_eq_true rfl)) (by decide))
      (js_set (i := 1) (je_catL (je_var (i := 1) rfl rfl (vis_by rfl) rfl rfl) (je_lstD (jd_cons (je_isX hc held k6.2 (je_var (i := 0) rfl rfl (vis_by rfl) rfl rfl) rfl k6.1 rfl (bi_isinstance fr rfl) ⟨rfl, rfl⟩ ⟨rfl, rfl⟩) (jd_cons (je_isX hc held k7.2 (je_var (i := 0) rfl rfl (vis_by rfl) rfl rfl) rfl k7.1 rfl (bi_isinstance fr rfl) ⟨rfl, rfl⟩ ⟨rfl, rfl⟩) jd_nil rfl) rfl) (Nat.le_of_ble_eq_true rfl)) (by decide))
      (js_set (i := 2) (je_lstD (jd_cons je_str (jd_cons je_str (jd_cons je_str (jd_cons je_str (jd_cons je_str (jd_cons je_str (jd_cons je_str (jd_cons je_str jd_nil rfl) rfl) rfl) rfl) rfl) rfl) rfl) rfl) (Nat.le_of_ble_eq_true rfl))
      (js_ret (je_if (jct (jc_eqI (je_count (by have := hr.un; omega) (je_var (i := 1) rfl rfl (vis_by rfl) rfl rfl) je_bl (by decide +kernel) (by decide +kernel) ⟨rfl, rfl⟩ rfl rfl rfl) je_int)) (fun hp => (je_ixL (je_var (i := 2) rfl rfl (vis_by rfl) rfl rfl) (je_index (j := 0) (z := .bool true) (by have := hr.un; omega) (je_var (i := 1) rfl rfl (vis_by rfl) rfl rfl) je_bl (by decide +kernel) (by decide +kernel) rfl (by decide +kernel) (fun m z' h hz => absurd h (Nat.not_lt_zero _)) ⟨rfl, rfl⟩ rfl rfl rfl) rfl (fun _ _ => rfl))) (fun hp => absurd hp (by decide +kernel))) (by exact fun v I H s p => ⟨I, (s.fewer has_nil .nil), p⟩)) nd (nm_by rfl rfl rfl) (Nat.le_of_ble_eq_true rfl) rfl) nd (nm_by rfl rfl rfl) (Nat.le_of_ble_eq_true rfl) rfl) nd (nm_by rfl rfl rfl) (Nat.le_of_ble_eq_true rfl) rfl) nd (nm_by rfl rfl rfl) (Nat.le_of_ble_eq_true rfl) rfl

theorem w_law_kind_letter (ft : Ft K mg CB CR CT CN CL) (F : FunD K "_law_kind" "_law_kind" (defArgs (top 72)) (defBody (top 72)) (defScope (top 72)) [] [] f fd) (hm : mg "_law_kind" = some (.ref f)) (hc : ExcC K CL) {D0 : Addr} (k0 : mg "InvalidNumber" = some (.ref D0) ∧ PySem.W.kitOne K (.ref CL) (.ref D0) = some false) {D1 : Addr} (k1 : mg "InvalidName" = some (.ref D1) ∧ PySem.W.kitOne K (.ref CL) (.ref D1) = some false) {D2 : Addr} (k2 : mg "InvalidBox" = some (.ref D2) ∧ PySem.W.kitOne K (.ref CL) (.ref D2) = some false) {D3 : Addr} (k3 : mg "InvalidRow" = some (.ref D3) ∧ PySem.W.kitOne K (.ref CL) (.ref D3) = some false) {D4 : Addr} (k4 : mg "InvalidTalk" = some (.ref D4) ∧ PySem.W.kitOne K (.ref CL) (.ref D4) = some false) {D5 : Addr} (k5 : mg "InvalidText" = some (.ref D5) ∧ PySem.W.kitOne K (.ref CL) (.ref D5) = some false) {D6 : Addr} (k6 : mg "InvalidLetter" = some (.ref D6) ∧ PySem.W.kitOne K (.ref CL) (.ref D6) = some true) {D7 : Addr} (k7 : mg "InvalidCourse" = some (.ref D7) ∧ PySem.W.kitOne K (.ref CL) (.ref D7) = some false) : FdP P w K mg base "_law_kind" 1 CL (StrV "letter") := by
  have fr := ft.fr
  refine ⟨f, fd, ["_law_error"], ?_, hm, F.kp, F.bindsN fun _ _ _ _ _ _ us hl => match us, hl with | [_], _ => rfl⟩
  refine fnp_rule F sc__law_kind rfl fun cdv A outer s H p dd fs hr held N => ?_
  have nd := sc__law_kind.nd
  exact js_set (i := 1) (je_lstD (jd_cons (je_isX hc held k0.2 (je_var (i := 0) rfl rfl (vis_by rfl) rfl rfl) rfl k0.1 rfl (bi_isinstance fr rfl) ⟨rfl, rfl⟩ ⟨rfl, rfl⟩) (jd_cons (je_isX hc held k1.2 (je_var (i := 0) rfl rfl (vis_by rfl) rfl rfl) rfl k1.1 rfl (bi_isinstance fr rfl) ⟨rfl, rfl⟩ ⟨rfl, rfl⟩) (jd_cons (je_isX hc held k2.2 (je_var (i := 0) rfl rfl (vis_by rfl) rfl rfl) rfl k2.1 rfl (bi_isinstance fr rfl) ⟨rfl, rfl⟩ ⟨rfl, rfl⟩) jd_nil rfl) rfl) rfl) (Nat.le_of_ble_eq_true rfl))
      (js_set (i := 1) (je_catL (je_var (i := 1) rfl rfl (vis_by rfl) rfl rfl) (je_lstD (jd_cons (je_isX hc held k3.2 (je_var (i := 0) rfl rfl (vis_by rfl) rfl rfl) rfl k3.1 rfl (bi_isinstance fr rfl) ⟨rfl, rfl⟩ ⟨rfl, rfl⟩) (jd_cons (je_isX hc held k4.2 (je_var (i := 0) rfl rfl (vis_by rfl) rfl rfl) rfl k4.1 rfl (bi_isinstance fr rfl) ⟨rfl, rfl⟩ ⟨rfl, rfl⟩) (jd_cons (je_isX hc held k5.2 (je_var (i := 0) rfl rfl (vis_by rfl) rfl rfl) rfl k5.1 rfl (bi_isinstance fr rfl) ⟨rfl, rfl⟩ ⟨rfl, rfl⟩) jd_nil rfl) rfl) rfl) (Nat.le_of_ble_eq_true rfl)) (by decide))
      (js_set (i := 1) (je_catL (je_var (i := 1) rfl rfl (vis_by rfl) rfl rfl) (je_lstD (jd_cons (je_isX hc held k6.2 (je_var (i := 0) rfl rfl (vis_by rfl) rfl rfl) rfl k6.1 rfl (bi_isinstance fr rfl) ⟨rfl, rfl⟩ ⟨rfl, rfl⟩) (jd_cons (je_isX hc held k7.2 (je_var (i := 0) rfl rfl (vis_by rfl) rfl rfl) rfl k7.1 rfl (bi_isinstance fr rfl) ⟨rfl, rfl⟩ ⟨rfl, rfl⟩) jd_nil rfl) rfl) (Nat.le_of_ble_eq_true rfl)) (by decide))
      (js_set (i := 2) (je_lstD (jd_cons je_str (jd_cons je_str (jd_cons je_str (jd_cons je_str (jd_cons je_str (jd_cons je_str (jd_cons je_str (jd_cons je_str jd_nil rfl) rfl) rfl) rfl) rfl) rfl) rfl) rfl) (Nat.le_of_ble_eq_true rfl))
      (js_ret (je_if (jct (jc_eqI (je_count (by have := hr.un; omega) (je_var (i := 1) rfl rfl (vis_by rfl) rfl rfl) je_bl (by decide +kernel) (by decide +kernel) ⟨rfl, rfl⟩ rfl rfl rfl) je_int)) (fun hp => (je_ixL (je_var (i := 2) rfl rfl (vis_by rfl) rfl rfl) (je_index (j := 6) (z := .bool true) (by have := hr.un; omega) (je_var (i := 1) rfl rfl (vis_by rfl) rfl rfl) je_bl (by decide +kernel) (by decide +kernel) rfl (by decide +kernel) no6 ⟨rfl, rfl⟩ rfl rfl rfl) rfl (fun _ _ => rfl))) (fun hp => absurd hp (by decide +kernel))) (by exact fun v I H s p => ⟨I, (s.fewer has_nil .nil), p⟩)) nd (nm_by rfl rfl rfl) (Nat.le_of_ble_eq_true rfl) rfl) nd (nm_by rfl rfl rfl) (Nat.le_of_ble_eq_true rfl) rfl) nd (nm_by rfl rfl rfl) (Nat.le_of_ble_eq_true rfl) rfl) nd (nm_by rfl rfl rfl) (Nat.le_of_ble_eq_true rfl) rfl

end
end QD

/-! text QG7 -/
set_option Elab.async false
set_option linter.all false
set_option maxRecDepth 100000
set_option maxHeartbeats 4000000
/-! QG7: a try whose first clause takes what comes; a lambda handed to it. -/
namespace QX
open PySem PySem.Spec PyProof.Rows L2 QL
/-- what the first clause wishes: it takes the exception -/
def wFst (X : Cx) (c : Value) (i : Nat) (suite : List Stmt) (D : L2.Ends) : WX := fun cls d σ H => PySem.W.exmOne X.K cls c = some true ∧ ∀ (a : Addr) (oe : Obj) (pn : List (Addr × Obj)), H a = none → Zc cls d oe → (∃ vs, oe.data = .fields vs) →
  WS (X.suite a ((a, oe) :: pn)) suite { nx := fun σ' H' => D.nx (σ'.set i none) H', rt := D.rt, bk := fun σ' H' => D.bk (σ'.set i none) H', ct := fun σ' H' => D.ct (σ'.set i none) H' } (σ.set i (some (.ref a))) H
section
variable {X : Cx} {x n : Str} {c : Value} {i : Nat} {body suite : List Stmt} {b₀ : Stmt} {hs : List ExceptHandler} {np pos pos' : Pos} {tb : WX → TS}
theorem ps_try_fst (hs0 : X.stack = X.env :: X.outer) (hf : X.env.frame = some X.env.locals) (hN : X.N.Nodup) (hi : X.N[i]? = some n) (hln : X.env.kindOf n = some .local) (hc : Names X x c)
    (hb : ∀ (W : WX) (pn : List (Addr × Obj)) (xe : Value → Shared → Prop), Takes (X.tr pn xe) W → PassesOwn (model X.prog X.w) X.A X.env xe → PSs (X.tr pn xe) body (tb W)) :
    PS X (.Try body (.ExceptHandler (some (.Name x np)) (some n) (b₀ :: suite) pos' :: hs) [] [] pos) (fun D σ H => tb (wFst X c i (b₀ :: suite) D) D σ H) := by
  refine ⟨fun pins s σ H D I h => ?_⟩
  have ok := I.ok
  have hfr : X.A.frames = some (X.env :: X.outer) := by rw [ok.frames, hs0]
  have hloc : Loc X.env.scope n := .inl hln
  refine wpAny_Try_except ?_
  refine wpAny_mono ((hb (wFst X c i (b₀ :: suite) D) (X.pn ++ pins) (fun e s₁ => wpAny (model X.prog X.w) X.A (noteFrame e X.env) (fun _ s₂ => wpAny (model X.prog X.w) X.A (setFlight e none) (fun _ s₃ =>
    wpAny (model X.prog X.w) X.A (handleBy e X.env (.ExceptHandler (some (.Name x np)) (some n) (b₀ :: suite) pos' :: hs)) (SP X pins D) X.xe s₃) X.xe s₂) X.xe s₁) (fun u s' xx => ?_) PassesOwn.looking).run [] s σ H D (I.toTry _) h) (fun f s1 hsp => ?_) (fun e s1 he => he)
  · obtain ⟨a, B, sI, pins', σ', H', cls, d, rfl, J', nb, up, sky, na, os, ag, hb1, hyes⟩ := xx
    have J : Inv X pins σ' H' sI := J'.ofTry ok
    have sky' : Sky B (X.env :: X.outer) a (Zc cls d) X.env.locals s'.heap := by rw [← hs0]; exact sky
    show wpAny (model X.prog X.w) X.A (noteFrame (.ref a) X.env) _ _ _
    refine Sky.land Zc.steady hfr hf sky' fun h3 fl3 up3 => ?_
    have J3 : Inv X pins σ' H' { s' with heap := h3 } := J.landed nb fl3.1 (up.trans up3) os ag
    obtain ⟨oe3, vs3, he3, hz3, hd3⟩ := fl3.there
    have nfr : a ∉ frs (X.env :: X.outer) := fun hm => by
      obtain ⟨_, o', e', hnf⟩ := fl3.2.2.1.mem hm
      rw [he3] at e'; cases e'
      exact hnf _ hd3
    have nL : a ≠ X.env.locals := fun z => nfr (List.mem_filterMap.mpr ⟨X.env, List.mem_cons_self, by rw [hf, z]⟩)
    have nF : a ∉ X.fs := fun hm => by
      obtain ⟨e, he, q⟩ := List.mem_filterMap.mp hm
      exact nfr (List.mem_filterMap.mpr ⟨e, List.mem_cons_of_mem _ he, q⟩)
    have S3 := J3.suite he3 hd3 na nL nF
    refine wpAny_handleBy_cons (codeAny_handlers_test ?_) (by intro q; cases q)
    have LT : PySem.W.Looks (model X.prog X.w) h3 (typeOf (.ref a)) cls := fun A Q E s k q => wpAny_typeOf_ref (k _ _ he3) (by rw [hz3.1]; exact q)
    have LM := PySem.W.exm_one (M := model X.prog X.w) (J3.kIn) LT hb1
    have test : ∀ {Q : Value → Shared → Prop} {E : Value → Shared → Prop}, Q c { s' with heap := h3 } → wpAny (model X.prog X.w) (X.A.mark (some (.ref a))) (eval (.Name x np) X.env) Q E { s' with heap := h3 } := fun {Q E} q => by
      obtain ⟨hg, hdbg, hm | ⟨hm, hv, hnn⟩⟩ := hc
      · exact ld_glob (X := X.suite a ((a, oe3) :: (X.pn ++ pins))) S3 hg hm q hdbg
      · exact ld_blt (X := X.suite a ((a, oe3) :: (X.pn ++ pins))) S3 hg hm hv q hnn hdbg
    refine test (LM.here ?_)
    refine codeAny_handlers_suite_as ?_
    refine HandSPX.lands_againZ fl3 fun h4 fl4 up4 => ?_
    have J4 : Inv X pins σ' H' { s' with heap := h4 } := J.landed nb fl4.1 ((up.trans up3).trans up4) os ag
    obtain ⟨oe4, vs4, he4, hz4, hd4⟩ := fl4.there
    have S4 := J4.suite he4 hd4 na nL nF
    refine store_ok (X := X.suite a ((a, oe4) :: (X.pn ++ pins))) (v := .ref a) S4 hN hi hloc rfl (fun s5 S5 => ?_) (.inr hln)
    refine wpAny_mono (hyes a oe4 (X.pn ++ pins) na hz4 ⟨_, hd4⟩ [] s5 S5) (fun f s6 hsp => ?_) (fun _ _ z => False.elim z)
    have end_ : ∀ {σ6 : L2.St} {H6 : Hp} {Q : Shared → Prop}, Inv (X.suite a ((a, oe4) :: (X.pn ++ pins))) [] σ6 H6 s6 → (∀ s7, Inv X pins (σ6.set i none) H6 s7 → Q s7) →
        wpAny (model X.prog X.w) X.A (do bindName X.env n .none; unbindBehindTheSuite X.env n pos') (fun _ s7 => Q s7) X.xe s6 := fun {σ6 H6 Q} S6 hq => gone_ok (S6.unsuite ok) hN hi hln hq
    cases f with
    | next =>
      obtain ⟨σ6, H6, S6, q6⟩ := hsp
      exact end_ S6 fun s7 J7 => ⟨_, _, J7, q6⟩
    | brk =>
      obtain ⟨σ6, H6, S6, q6⟩ := hsp
      exact end_ S6 fun s7 J7 => ⟨_, _, J7, q6⟩
    | cont =>
      obtain ⟨σ6, H6, S6, q6⟩ := hsp
      exact end_ S6 fun s7 J7 => ⟨_, _, J7, q6⟩
    | ret u =>
      obtain ⟨v6, σ6, H6, S6, r6, q6⟩ := hsp
      exact end_ S6 fun s7 J7 => ⟨_, _, _, J7, r6, q6⟩
  · cases f with
    | next =>
      obtain ⟨σ', H', J', q⟩ := hsp
      exact wpAny_execs_nil ⟨σ', H', J'.ofTry ok, q⟩
    | brk =>
      obtain ⟨σ', H', J', q⟩ := hsp
      exact ⟨σ', H', J'.ofTry ok, q⟩
    | cont =>
      obtain ⟨σ', H', J', q⟩ := hsp
      exact ⟨σ', H', J'.ofTry ok, q⟩
    | ret u =>
      obtain ⟨v, σ', H', J', r, q⟩ := hsp
      exact ⟨v, σ', H', J'.ofTry ok, r, q⟩
end
/-- what is told of the def that catches: x() raises C with the value d; [kind, repr] is given -/
def TTw (N : Ent) (M : OwnM) (C : Addr) (d : PyData) (nm : Str) : (XK → Hp → VK → Prop) → Hp → VK → Prop := fun tl H Q =>
  ∀ Q0 : VK, tl (fun cls dx H' => cls = .ref C ∧ ∃ (dd : Addr) (v : V) (I' : Hp), dx = some dd ∧ S3 N M I' H' ∧ I' dd = some (.xd [("value", v)]) ∧ Dt I' v d ∧ ∀ v2 I2 H2, S3 N M I2 H2 → Same I' I2 → Dt I2 v2 (.list [.str nm, .str d.shown]) → Q v2 H2) H Q0
theorem bi_repr {X : Cx} (f : Free X.mg) (g : Gl X "repr") : Bi X "repr" (.builtin "repr") := ⟨g, f.repr, by rfl, by decide, rfl⟩
section
variable {X : Cx} {N : Ent} {M : OwnM} {C CS : Addr} {d : PyData} {nm q : Str} {k : Nat} {sg : Scope} {g : Addr} {cdg : Value}
theorem wrong_gives {h2 : ExceptHandler} {j : Nat} {p1 p2 p3 p4 p5 p6 p7 p8 p9 p10 p11 p12 p13 p14 p15 p16 p17 : Pos} (hr : Room (k + 2) X.A) (hG : X.A.guards = some []) (kind : FdP X.prog X.w X.K X.mg X.base "_law_kind" 1 C (StrV nm)) (ok : ShowOk d) (T : XfC X.K C) (hno : PySem.W.findIn X.K (.ref C) "value" = some none) (fr : Free X.mg)
    (hq : X.mg "QuietError" = some (.ref CS)) (he : PySem.W.exmOne X.K (.ref C) (.ref CS) = some true) (ge : sg.names.lookup ("e" : Str) = some .local) (gq : sg.names.lookup ("QuietError" : Str) = some .globalImplicit) (gk : sg.names.lookup ("_law_kind" : Str) = some .globalImplicit) (gr : sg.names.lookup ("repr" : Str) = some .globalImplicit) :
    LamX.GivesTo X ["_law_call", "e"] "_law_wrong" sg g cdg [.Try [.Expr (.Call (.Name "_law_call" p1) [] [] p2) p3] [.ExceptHandler (some (.Name "QuietError" p4)) (some "e") [.Return (some (.List [.Call (.Name "_law_kind" p5) [.Name "e" p6] [] p7, .Call (.Name "repr" p8) [.Attribute (.Name "e" p9) "value" p10] [] p11] p12)) p13] p14, h2] [] [] p15, .Return (some (.Constant .none j p16)) p17] "_law_call" q (TTw N M C d nm) := by
  intro f c' s H Q tl act hc h
  refine ⟨_, pss_cons (ps_try_fst (X := (cxOf C8.CX0 X.prog X.w X.K X.mg X.base ["_law_call", "e"] "_law_wrong" sg g cdg X.A X.stack s H C8.E0).nox) (c := .ref CS) (i := 1)
      (tb := fun W D σ H => ∃ Ech : XK, (∀ cls d σ' H', Ech cls d H' → W cls d σ' H') ∧ σ[0]? = some (some (.ref f)) ∧ H c' = some (LamX.CodeO c' q) ∧ ∀ Q0 : VK, tl Ech H Q0)
      rfl rfl (show (["_law_call", "e"] : List Str).Nodup by decide) rfl ge ⟨gq, by decide, .inl hq⟩ (fun W pn xe tk _ => ?_)) (pss_one (ps_ret pe_non)), ?_⟩
  · refine ⟨fun pins s' σ H' D I h' => ?_⟩
    obtain ⟨Ech, hW, h1, h2, h3⟩ := h'
    have hp := act W pn xe Ech p1 p2 tk hW
    exact (pss_one (ps_expr (pos := p3) hp rfl)).run pins s' σ H' D I ⟨h1, h2, h3 _⟩
  · refine ⟨_, fun cls dx σ' H' hE => ?_, rfl, hc, h⟩
    obtain ⟨rfl, dd, v, I', rfl, s3, hdd, hv, q'⟩ := hE
    refine ⟨he, fun a oe pn na hz hf => ?_⟩
    intro pins s0 I0
    have hl : σ'.length = 2 := by
      have z := I0.len
      rw [List.length_set] at z
      exact z
    obtain ⟨sb, s4⟩ := Sub.at s3
    have held : Held ((cxOf C8.CX0 X.prog X.w X.K X.mg X.base ["_law_call", "e"] "_law_wrong" sg g cdg X.A X.stack s H C8.E0).nox.suite a ((a, oe) :: pn)) a C dd := ⟨oe, List.mem_cons_self, hz, hf⟩
    let PV : Pr := ⟨fun u I => (XcV a dd [("value", v)]).p u I ∧ Dt I v d, fun e ⟨h1, h2⟩ => ⟨(XcV a dd [("value", v)]).up e h1, Dt.up e h2⟩⟩
    have jv : ∀ {p : Pos}, JE ((cxOf C8.CX0 X.prog X.w X.K X.mg X.base ["_law_call", "e"] "_law_wrong" sg g cdg X.A X.stack s H C8.E0).nox.suite a ((a, oe) :: pn)) { N with I := I' } M [none, some PV] (.Name "e" p) PV := fun {p} => je_var (i := 1) rfl rfl (.inl ge) rfl rfl
    have J : JS ((cxOf C8.CX0 X.prog X.w X.K X.mg X.base ["_law_call", "e"] "_law_wrong" sg g cdg X.A X.stack s H C8.E0).nox.suite a ((a, oe) :: pn)) (Tp { N with I := I' } M [none, some PV])
        [.Return (some (.List [.Call (.Name "_law_kind" p5) [.Name "e" p6] [] p7, .Call (.Name "repr" p8) [.Attribute (.Name "e" p9) "value" p10] [] p11] p12)) p13] { nx := fun _ _ => False, rt := Q } :=
      js_ret (je_lstD (jd_cons (je_callP (x := "_law_kind") (C := C) (dd := dd) (fs := [("value", v)]) kind ⟨by have := hr.dp; show X.A.depth + 1 + 3 * 1 + 5 < _; omega, by have := hr.un; show X.A.units + 3 + 16 * 1 + 200 < _; omega⟩ held (jv.conv fun _ _ h => h.1) gk rfl ⟨rfl, rfl⟩)
        (jd_cons (je_repr (d := d) hG (by have := hr.un; show X.A.units + 3 + 65 < _; omega) ok (je_val (C := C) (dd := dd) (fs := [("value", v)]) (v := v) T hno held rfl jv rfl) (bi_repr fr gr) ⟨rfl, rfl⟩) jd_nil rfl) rfl) (Nat.le_of_ble_eq_true rfl)) fun v2 I2 H2 s5 p5 => q' v2 I2 H2 (sb.2.2.2 _ _ _ s5) s5.ii p5
    refine wpAny_mono (J _ _ ⟨by rw [List.length_set]; exact hl, I', s4, fun i P e => ?_⟩ pins s0 I0) (fun fl s1 hs => ?_) fun _ _ z => z
    · match i, e with
      | 0, e => cases e
      | 1, e =>
        cases e
        exact ⟨.ref a, List.getElem?_set_self (by omega), ⟨rfl, hdd⟩, hv⟩
      | i + 2, e => cases e
    · cases fl with
      | ret u => exact hs
      | next => obtain ⟨_, _, _, z⟩ := hs; exact z.elim
      | brk => obtain ⟨_, _, _, z⟩ := hs; exact z.elim
      | cont => obtain ⟨_, _, _, z⟩ := hs; exact z.elim
end
end QX

/-! text QG8 -/
set_option Elab.async false
set_option linter.all false
set_option maxRecDepth 100000
set_option maxHeartbeats 4000000
/-! QG8: _law_wrong(lambda: ..). -/
namespace QX
open PySem PySem.Spec PyProof.Rows L2 QL QD
theorem sc__law_wrong : FnScope ["_law_call", "e"] ["_law_call"] (defScope (top 71)) := ⟨rfl, rfl, rfl, by decide +kernel, rfl, by decide +kernel, by decide +kernel⟩
/-- what the callers of _law_wrong are told -/
structure Wr (X : Cx) (N : Ent) (C : Addr) (nm : Str) (k : Nat) (c Pt : Addr) : Prop where
  fn : ∃ (g : Addr) (fd : FuncData), FunD X.K "_law_wrong" "_law_wrong" (defArgs (top 71)) (defBody (top 71)) (defScope (top 71)) [] [] g fd ∧ X.mg "_law_wrong" = some (.ref g)
  gl : Gl X "_law_wrong"
  room : Room (k + 2) X.A
  gd : X.A.guards = some []
  kind : FdP X.prog X.w X.K X.mg X.base "_law_kind" 1 C (StrV nm)
  xf : XfC X.K C
  noa : PySem.W.findIn X.K (.ref C) "value" = some none
  fr : Free X.mg
  qe : ∃ CS, X.mg "QuietError" = some (.ref CS) ∧ PySem.W.exmOne X.K (.ref C) (.ref CS) = some true
  tb : LamX.TabB X.base X.mg c Pt
  code : X.env.code = .ref c
  nt : NoTb N
  tabs : N.T = [(Pt, X.env.qual ++ "<lambda>")]
section
variable {X : Cx} {N : Ent} {rq : OwnM} {Γ : QL.Ctx} {C c Pt : Addr} {nm : Str} {k : Nat} {d : PyData} {params : Arguments} {body : Expr} {scope : Scope} {p lpos pos : Pos}
theorem je_wrong (W : Wr X N C nm k c Pt) (ok : ShowOk d) (L : LamX.LamS X.env.scope scope) (hdef : defaultsOf params X.env = ([], []))
    (hbind : ∀ (q : Str) (cl : List (Str × Addr)) (pm cv ctv : Value), bindArgs (PySem.W.kla_fn "<lambda>" q params body scope cl pm cv ctv) ⟨[], []⟩ = pure [])
    (hJ : ∀ (N' : Ent) (M' : OwnM) (A : Around) (outer : List Env) (s : Shared) (H : Hp) (E : XK) (f c' : Addr), Sub N' N → Room k (A.deeper (LamX.lamEnv X scope s.heap.objs.size f c')) → Lv N' M' C (DatV d) E → JX (LamX.lamCx X A outer s H E scope f c') N' M' Γ body) :
    JE X N rq Γ (.Call (.Name "_law_wrong" p) [.Lambda params body scope lpos] [] pos) (DatV (.list [.str nm, .str d.shown])) := fun M I H σ Q hM s t q => by
  obtain ⟨g, fd, F, hm⟩ := W.fn
  obtain ⟨CS, hq, he⟩ := W.qe
  have hb : Binds X.K fd ["_law_call"] [] := F.bindsN fun _ _ _ _ _ _ us hl => match us, hl with | [_], _ => rfl
  have kp := F.kp
  obtain ⟨oc, od, dV, kV, doc, pm, an, cdv, ct, osl, rfl, lk, hcd, _, _⟩ := F.ex
  obtain ⟨sb, s1⟩ := Sub.at s
  refine we_of (LamX.pe_lamcall (T := N.T) (TT := TTw { N with I := I } M C d nm) (k := k) (t := fun E σ H Q => ∀ (A : Around) (outer : List Env) (s0 : Shared) (H0 : Hp) (f c' : Addr), Room k (A.deeper (LamX.lamEnv X scope s0.heap.objs.size f c')) → WE (LamX.lamCx X A outer s0 H0 E scope f c') body σ H Q)
    W.gl hm kp lk hcd hb sc__law_wrong rfl (.inl (by decide +kernel)) (wrong_gives W.room W.gd W.kind ok W.xf W.noa W.fr hq he (by decide +kernel) (by decide +kernel) (by decide +kernel) (by decide +kernel)) W.tb W.code (by rw [W.tabs]; exact List.mem_singleton.mpr rfl) (fun r hr _ => by rw [W.tabs] at hr; rw [List.mem_singleton.mp hr]) W.room L hdef hbind
    (fun A outer s H E f c' hr => ⟨fun pins s' σ H' Q I' h => h A outer s H f c' hr pins s' I'⟩) (by decide) (by decide) (by decide)) ⟨s.tab, fun H1 eN T1 Q0 A outer s0 H0 f c' hr => ?_⟩
  have s2 : S3 { N with I := I } M I H1 := s1.ext W.nt eN T1
  refine hJ { N with I := I } M A outer s0 H0 _ f c' sb hr (fun dd v I' H' s' hd hv => ?_) I H1 σ Q0 s2 t
  exact ⟨rfl, dd, v, I', rfl, s', hd, hv, fun v2 I2 H2 s3 e3 dv => q v2 I2 H2 (sb.2.2.2 _ _ _ s3) (s'.ii.trans e3) dv⟩
end
end QX

/-! text QG9 -/
set_option Elab.async false
set_option linter.all false
set_option maxRecDepth 100000
set_option maxHeartbeats 4000000
/-! QG9: what repr is asked of can be shown. -/
namespace QX
open PySem PySem.Spec PyProof.Rows L2 QL QD
theorem show_of {d : PyData} (h1 : d.canLay0 = true) (h2 : d.depth ≤ 60) (h3 : d.weight ≤ 2 ^ 20) (h4 : d.intsShort 13 = true) (h5 : d.showable = true) : ShowOk d := by
  have hl : PyData.layable0 d = true := by
    unfold PyData.layable0
    rw [h1]
    simp only [Bool.true_and, Bool.and_eq_true, decide_eq_true_eq]
    exact ⟨by omega, h3⟩
  exact ⟨h5, PyData.hasDict_of_layable hl, h2, by have := shown_le13 hl h4; rw [sizeLine_eq]; omega⟩
theorem dirS_size (b : Bool) : (dirS b).cps.size ≤ 4 := by cases b <;> decide +kernel
theorem log_small {n : Nat} (h : n ≤ 100) : n.log2 ≤ 100 := Nat.le_trans (Nat.log2_le_self n) h
theorem weight_int {i : Int} (h : i.natAbs ≤ 100) : (PyData.int i).weight ≤ 101 := by
  simp only [PyData.weight]
  split
  · omega
  · have := log_small h; omega
theorem letD_w {x : Let} (h : x.2 ≤ 100) : (letD x).weight ≤ 107 := by
  have h1 := dirS_size x.1
  have h2 := weight_int (i := (x.2 : Int)) (by omega)
  simp only [letD, PyData.weight, PyData.weightAll] at h2 ⊢
  omega
theorem letD_is {x : Let} (h : x.2 ≤ 100) : (letD x).intsShort 13 = true := by
  simp only [letD, PyData.intsShort, PyData.intsShortAll, Bool.and_true, Bool.true_and, decide_eq_true_eq]
  exact PyData.shown_int_le2 (by omega) (by omega)
theorem letD_sh {x : Let} (h : x.2 ≤ 100) : (letD x).showable = true := by
  simp only [letD, PyData.showable, PyData.showableAll, Bool.and_true, Bool.true_and, decide_eq_true_eq]
  have := log_small (n := (x.2 : Int).natAbs) (by omega)
  omega
theorem show_let {x : Let} (h : x.2 ≤ 100) : ShowOk (letD x) := show_of (letD_lay x) (by rw [letD_depth]; omega) (by have := letD_w h; omega) (letD_is h) (letD_sh h)
theorem lets_w : ∀ {xs : List Let}, (∀ x ∈ xs, x.2 ≤ 100) → PyData.weightAll (xs.map letD) ≤ 108 * xs.length
  | [], _ => by simp [PyData.weightAll]
  | x :: xs, h => by
    have h1 := letD_w (h x List.mem_cons_self)
    have h2 := lets_w (xs := xs) fun y hy => h y (List.mem_cons_of_mem _ hy)
    simp only [List.map_cons, PyData.weightAll, List.length_cons]
    omega
theorem lets_d : ∀ {xs : List Let}, PyData.depthAll (xs.map letD) ≤ 1
  | [] => by simp [PyData.depthAll]
  | x :: xs => by
    have h2 := lets_d (xs := xs)
    simp only [List.map_cons, PyData.depthAll, letD_depth]
    omega
theorem lets_is : ∀ {xs : List Let}, (∀ x ∈ xs, x.2 ≤ 100) → PyData.intsShortAll 13 (xs.map letD) = true
  | [], _ => by simp [PyData.intsShortAll]
  | x :: xs, h => by simp only [List.map_cons, PyData.intsShortAll, letD_is (h x List.mem_cons_self), lets_is (xs := xs) fun y hy => h y (List.mem_cons_of_mem _ hy), Bool.and_self]
theorem lets_sh : ∀ {xs : List Let}, (∀ x ∈ xs, x.2 ≤ 100) → PyData.showableAll (xs.map letD) = true
  | [], _ => by simp [PyData.showableAll]
  | x :: xs, h => by simp only [List.map_cons, PyData.showableAll, letD_sh (h x List.mem_cons_self), lets_sh (xs := xs) fun y hy => h y (List.mem_cons_of_mem _ hy), Bool.and_self]
theorem show_lets {xs : List Let} (h : ∀ x ∈ xs, x.2 ≤ 100) (hl : xs.length ≤ 1000) : ShowOk (.tuple (xs.map letD)) :=
  show_of (by simp only [PyData.canLay0]; exact lets_lay) (by have := lets_d (xs := xs); simp only [PyData.depth]; omega) (by have := lets_w h; simp only [PyData.weight]; omega) (by simp only [PyData.intsShort]; exact lets_is h) (by simp only [PyData.showable]; exact lets_sh h)
theorem show_none : ShowOk .none := show_of rfl (by decide) (by decide) rfl rfl
theorem show_bool (b : Bool) : ShowOk (.bool b) := show_of rfl (by simp [PyData.depth]) (by simp [PyData.weight]) rfl rfl
theorem show_int {i : Int} (h : i.natAbs ≤ 100) : ShowOk (.int i) := show_of rfl (by simp [PyData.depth]) (by have := weight_int h; omega) (by simp only [PyData.intsShort, decide_eq_true_eq]; exact PyData.shown_int_le2 (by omega) (by omega)) (by simp only [PyData.showable, decide_eq_true_eq]; have := log_small h; omega)
theorem show_zero : ShowOk (.str "0") := show_of (by decide +kernel) (by decide) (by decide +kernel) rfl rfl
theorem show_in0 : ShowOk (.tuple [.str "in", .int 0]) := show_of (by decide +kernel) (by decide +kernel) (by decide +kernel) (by decide +kernel) (by decide +kernel)
theorem show_lout : ShowOk (.list [.str "out", .int 0]) := show_of (by decide +kernel) (by decide +kernel) (by decide +kernel) (by decide +kernel) (by decide +kernel)
theorem show_outT : ShowOk (.tuple [.str "out", .bool true]) := show_of (by decide +kernel) (by decide +kernel) (by decide +kernel) (by decide +kernel) (by decide +kernel)
theorem let_small {t : Tk} (ht : TkOk t) {x : Let} (hx : x ∈ letters t) : x.2 ≤ 100 := by
  have h := mem_letters.mp hx
  have h1 := ht.o7
  have h2 := ht.b7
  unfold times at h
  split at h <;> omega
theorem lets_len {t : Tk} (ht : TkOk t) : (letters t).length ≤ 14 := by
  have h1 := ht.o7
  have h2 := ht.b7
  simp [letters]
  omega
theorem show_lost {l : Line} {t : Tk} (ht : TkOk t) {b : Nat} {x y : Let} : ShowOk (lostD (lostIn l t b x y)) := by
  have key : ∀ {xs : List Let}, lostIn l t b x y = some xs → xs = betweenL l t b x y := fun {xs} h => by
    unfold lostIn at h
    split at h
    · cases h
    · split at h
      · exact (Option.some.inj h).symm
      · cases h
  cases h : lostIn l t b x y with
  | none => exact show_none
  | some xs =>
    have e := key h
    have sub : ∀ z ∈ xs, z ∈ letters t := fun z hz => by
      rw [e] at hz
      unfold betweenL at hz
      have z1 := (List.mem_filter.mp hz).1
      unfold insideL at z1
      exact (List.mem_filter.mp z1).1
    have len : xs.length ≤ 1000 := by
      have h1 := lets_len ht
      have h2 : xs.length ≤ (letters t).length := by
        rw [e]
        unfold betweenL
        refine Nat.le_trans (List.length_filter_le _ _) ?_
        unfold insideL
        exact List.length_filter_le _ _
      omega
    exact show_lets (fun z hz => let_small ht (sub z hz)) len
section
variable {X : Cx} {N : Ent} {rq : OwnM} {Γ : QL.Ctx} {e e2 : Expr} {p1 p2 p3 p4 p5 pos : Pos} {j j2 : Nat}
theorem je_due {o : Option (List Let)} (hv : JE X N rq Γ e (DatV (goneD o))) (hv2 : JE X N rq Γ e2 (DatV (goneD o))) (B : Bi X "tuple" (.type "tuple")) (A : Ar X e2 [] pos) : JE X N rq Γ (.IfExp (.Compare e [.Is] [.Constant .none j p1] p2) (.Constant .none j2 p3) (.Call (.Name "tuple" p4) [e2] [] pos) p5) (DatV (lostD o)) := by
  cases o with
  | none => exact je_if (jct (jc_isN hv (nonD _ _ rfl))) (fun _ => je_non) (fun h => by cases h)
  | some xs => exact je_if (jct (jc_isN hv (nonD _ _ rfl))) (fun h => by cases h) (fun _ => je_tupleD hv2 (.dl _) B A)
end
section
variable {X : Cx} {N : Ent} {rq : OwnM} {Γ : QL.Ctx} {a b : Expr} {pos : Pos}
theorem jc_neS {x y : Str} (ha : JE X N rq Γ a (StrV x)) (hb : JE X N rq Γ b (StrV y)) : JC X N rq Γ (.Compare a [.NotEq] [b] pos) (!decide (x = y)) :=
  jc_of op_ne ha hb (nomark b) fun M I H u v Q s p p' q => by
    rw [p.str_inv, p'.str_inv]
    refine ⟨rfl, ?_⟩
    rw [show decide (V.str x = V.str y) = decide (x = y) from by by_cases z : x = y <;> simp [z]]
    exact q
end
/-- a text that is compared deep -/
abbrev ShOk (d : PyData) : Prop := SeqAt.shaped (.str d.shown) = true
theorem shl {nm : Str} {d : PyData} (h1 : SeqAt.shaped (.str nm) = true) (h2 : ShOk d) : SeqAt.shaped (.list [.str nm, .str d.shown]) = true := by
  have e1 : (PyData.str nm).canLay0 = true := SeqAt.canLay_of_shaped h1
  have e2 : (PyData.str d.shown).canLay0 = true := SeqAt.canLay_of_shaped h2
  refine shaped_of ?_ ?_
  · simp only [PyData.canLay0, PyData.canLayAll0] at e1 e2 ⊢
    rw [e1, e2]
    rfl
  · simp [PyData.depth, PyData.depthAll]
theorem ints_sh : ((List.range 8).all fun n => SeqAt.shaped (.str (PyData.shown (.int (n : Int))))) = true := by decide +kernel
theorem lets_sh8 : ((List.range 8).all fun n => SeqAt.shaped (.str (letD (true, n)).shown)) = true := by decide +kernel
theorem int_sh {n : Nat} (h : n < 8) : ShOk (.int (n : Int)) := List.all_eq_true.mp ints_sh n (List.mem_range.mpr h)
theorem let_sh {n : Nat} (h : n < 8) : ShOk (letD (true, n)) := List.all_eq_true.mp lets_sh8 n (List.mem_range.mpr h)
/-- the odd boxes of a row of n boxes -/
def Odd (n : Nat) (d : PyData) : Prop := d = .int (-1) ∨ d = .int (n : Int) ∨ d = .bool true ∨ d = .none ∨ d = .str "0"
/-- the letters that are none, of a talk of n letters outward -/
def NoLet (n : Nat) (d : PyData) : Prop := d = .none ∨ d = letD (true, n) ∨ d = .tuple [.str "in", .int 0] ∨ d = .list [.str "out", .int 0] ∨ d = .tuple [.str "out", .bool true]
theorem odd_show {n : Nat} (h : n < 8) {d : PyData} (o : Odd n d) : ShowOk d ∧ ShOk d := by
  rcases o with rfl | rfl | rfl | rfl | rfl
  · exact ⟨show_int (by decide), by decide +kernel⟩
  · exact ⟨show_int (by omega), int_sh h⟩
  · exact ⟨show_bool _, by decide +kernel⟩
  · exact ⟨show_none, by decide +kernel⟩
  · exact ⟨show_zero, by decide +kernel⟩
theorem nolet_show {n : Nat} (h : n < 8) {d : PyData} (o : NoLet n d) : ShowOk d ∧ ShOk d := by
  rcases o with rfl | rfl | rfl | rfl | rfl
  · exact ⟨show_none, by decide +kernel⟩
  · exact ⟨show_let (by show n ≤ 100; omega), let_sh h⟩
  · exact ⟨show_in0, by decide +kernel⟩
  · exact ⟨show_lout, by decide +kernel⟩
  · exact ⟨show_outT, by decide +kernel⟩
theorem odd_sc {n : Nat} (h : 1 ≤ n) {d : PyData} (o : Odd n d) : Sc d ∧ btw d 0 ((n : Int) - 1) = false := by
  rcases o with rfl | rfl | rfl | rfl | rfl
  · exact ⟨.int _, by simp [btw] <;> omega⟩
  · exact ⟨.int _, by simp [btw] <;> omega⟩
  · exact ⟨.bool _, by simp [btw]⟩
  · exact ⟨.none, by simp [btw]⟩
  · exact ⟨.str _, by simp [btw]⟩
end QX

/-! text QFM -/
set_option Elab.async false
set_option linter.all false
set_option maxRecDepth 100000
set_option maxHeartbeats 4000000
/-! QFM: all pairs. Printed by fm.py. -/
namespace QD
open PySem PySem.Spec PyProof.Rows L2 QL QX
section
variable {P : Program} {w : World} {K : PySem.W.Frag} {mg : Str → Option Value} {base : Heap} {CB CR CT CN CL : Addr} {f : Addr} {fd : FuncData}

theorem sc__law_pairs_right : FnScope ["_law_line_here", "_law_talk_here", "_law_row_here", "_law_made", "_law_b", "_law_one", "_law_other", "_law_due"] ["_law_line_here", "_law_talk_here", "_law_row_here", "_law_made", "_law_b"] (defScope (top 73)) := ⟨rfl, rfl, rfl, by decide +kernel, rfl, by decide +kernel, by decide +kernel⟩
theorem w_pairs0 (ft : Ft K mg CB CR CT CN CL) (F : FunD K "_law_pairs_right" "_law_pairs_right" (defArgs (top 73)) (defBody (top 73)) (defScope (top 73)) [] [] f fd)  (h_letters : ∀ t, TkOk t → Fd P w K mg base "_law_letters" 1 (FSp [] [DatV (talkD t)] (DatV (.list ((letters t).map letD))) [])) (h_gone : ∀ (l : Line) (t : Tk) (b : Nat) (x y : Let), LineOk l → TkOk t → b < l.boxes.length → x ∈ letters t → y ∈ letters t → x ≠ y → Fd P w K mg base "_law_gone" 3 (FSp [] [DatV (lineD l), DatV (talkD t), IntV (b : Int), DatV (letD x), DatV (letD y)] (DatV (goneD (lostIn l t b x y))) [])) (h_must : ∀ (l : Line) (t : Tk) (b : Nat) (x y : Let), LineOk l → TkOk t → b < l.boxes.length → x ∈ letters t → y ∈ letters t → x ≠ y → Fd P w K mg base "must_lose" 8 (FSp [] [RowV CR CB l, TalkV CT t, IntV (b : Int), DatV (letD x), DatV (letD y)] (DatV (lostD (lostIn l t b x y))) [])) {l : Line} (hl : LineOk l) {t : Tk} (ht : TkOk t) {b : Nat} (hb : b < l.boxes.length) : FnG P w K mg base 9 f fd ["_law_line_here", "_law_talk_here", "_law_row_here", "_law_made", "_law_b"] (FSp [] [DatV (lineD l), DatV (talkD t), RowV CR CB l, TalkV CT t, IntV (b : Int)] (BlV true) []) := by
  have fr := ft.fr
  refine ?_
  refine fnG_rule F sc__law_pairs_right rfl fun cdv A outer s H E hr hG N => ?_
  have nd := sc__law_pairs_right.nd
  exact js_for (fun done bt => True) (fun done bt => ([] : OwnM)) (fun done bt => [some (DatV (lineD l)), some (DatV (talkD t)), some (RowV CR CB l), some (TalkV CT t), some (IntV (b : Int)), none, none, none]) (ji_dlM (je_call (h_letters t ht) (hr.mono (by decide)) (ja_cons (je_var (i := 1) rfl rfl (vis_by rfl) rfl rfl) ja_nil rfl) has_nil .nil rfl rfl ⟨rfl, rfl⟩)) (qg_name nd (nm_by rfl rfl rfl)) (fun z hz => (jgr_name (i := 5))) passO rfl () trivial rfl (And.intro rfl (And.intro rfl (And.intro rfl (And.intro rfl (And.intro rfl True.intro))))) (fun z hz done bt => jp1 (Nat.le_of_ble_eq_true rfl))
      (fun N1 sb1 done1 z1 post1 b1 hz1 hC1 => js_for (fun done bt => True) (fun done bt => ([] : OwnM)) (fun done bt => [some (DatV (lineD l)), some (DatV (talkD t)), some (RowV CR CB l), some (TalkV CT t), some (IntV (b : Int)), some (DatV (letD z1)), none, none]) (ji_dlM (je_call (h_letters t ht) (hr.mono (by decide)) (ja_cons (je_var (i := 1) rfl rfl (vis_by rfl) rfl rfl) ja_nil rfl) has_nil .nil rfl rfl ⟨rfl, rfl⟩)) (qg_name nd (nm_by rfl rfl rfl)) (fun z hz => (jgr_name (i := 6))) passO rfl () trivial rfl (And.intro rfl (And.intro rfl (And.intro rfl (And.intro rfl (And.intro rfl (And.intro rfl True.intro)))))) (fun z hz done bt => jp1 (Nat.le_of_ble_eq_true rfl))
      (fun N2 sb2 done2 z2 post2 b2 hz2 hC2 => js_ifL (jct (jc_cast (jc_neD hr.units (je_var (i := 5) rfl rfl (vis_by rfl) rfl rfl) (je_var (i := 6) rfl rfl (vis_by rfl) rfl rfl) (letD_shaped _) (letD_shaped _)) (congrArg (! ·) (letD_eqv z1 z2)))) (fun hc3 => js_set (i := 7) (je_call (h_gone l t b z1 z2 hl ht hb (by rw [hz1]; simp) (by rw [hz2]; simp) (ne_of_nd hc3)) (hr.mono (by decide)) (ja_cons (je_var (i := 0) rfl rfl (vis_by rfl) rfl rfl) (ja_cons (je_var (i := 1) rfl rfl (vis_by rfl) rfl rfl) (ja_cons (je_var (i := 4) rfl rfl (vis_by rfl) rfl rfl) (ja_cons (je_var (i := 5) rfl rfl (vis_by rfl) rfl rfl) (ja_cons (je_var (i := 6) rfl rfl (vis_by rfl) rfl rfl) ja_nil rfl) rfl) rfl) rfl) rfl) has_nil .nil rfl rfl ⟨rfl, rfl⟩)
      (js_guard (jct (jc_neS (je_repr hG (by have := hr.un; omega) (show_lost ht) (je_call (h_must l t b z1 z2 hl ht hb (by rw [hz1]; simp) (by rw [hz2]; simp) (ne_of_nd hc3)) (hr.mono (by decide)) (ja_cons (je_var (i := 2) rfl rfl (vis_by rfl) rfl rfl) (ja_cons (je_var (i := 3) rfl rfl (vis_by rfl) rfl rfl) (ja_cons (je_var (i := 4) rfl rfl (vis_by rfl) rfl rfl) (ja_cons (je_var (i := 5) rfl rfl (vis_by rfl) rfl rfl) (ja_cons (je_var (i := 6) rfl rfl (vis_by rfl) rfl rfl) ja_nil rfl) rfl) rfl) rfl) rfl) has_nil .nil rfl rfl ⟨rfl, rfl⟩) (QL.bi_repr fr rfl) ⟨rfl, rfl⟩) (je_repr hG (by have := hr.un; omega) (show_lost ht) (je_due (o := lostIn l t b z1 z2) (je_var (i := 7) rfl rfl (vis_by rfl) rfl rfl) (je_var (i := 7) rfl rfl (vis_by rfl) rfl rfl) (bi_tuple fr rfl) ⟨rfl, rfl⟩) (QL.bi_repr fr rfl) ⟨rfl, rfl⟩))) (fun hc4 => absurd hc4 (by simp))
      (fun hc4 => js_turn () trivial rfl (And.intro rfl (And.intro rfl (And.intro rfl (And.intro rfl (And.intro rfl (And.intro rfl True.intro)))))))) nd (nm_by rfl rfl rfl) (Nat.le_of_ble_eq_true rfl) rfl)
      (fun hc3 => js_turn () trivial rfl (And.intro rfl (And.intro rfl (And.intro rfl (And.intro rfl (And.intro rfl (And.intro rfl True.intro))))))))
      (fun N2 sb2 b2 hC2 => js_sub sb2 (js_turn () trivial rfl (And.intro rfl (And.intro rfl (And.intro rfl (And.intro rfl (And.intro rfl True.intro))))))) (fun _ => rfl))
      (fun N1 sb1 b1 hC1 => js_sub sb1 (js_ret je_bl (by exact fun v I H s p => ⟨I, (s.fewer has_nil .nil), p⟩))) (fun _ => rfl)

theorem FnG.union {k : Nat} {ps : List Str} {β : Type} {C : β → Prop} {sp : β → Sp} (h : ∀ b, C b → FnG P w K mg base k f fd ps (sp b)) : FnG P w K mg base k f fd ps (fun vs H Q E => ∃ b, C b ∧ sp b vs H Q E) :=
  ⟨fun vs H Q E ⟨b, hb, q⟩ => (h b hb).len vs H Q E q, fun A outer s H args us vs Q E hr hg e0 hb' r ⟨b, hb, q⟩ => (h b hb).run A outer s H args us vs Q E hr hg e0 hb' r q⟩
theorem w__law_pairs_right (ft : Ft K mg CB CR CT CN CL) (F : FunD K "_law_pairs_right" "_law_pairs_right" (defArgs (top 73)) (defBody (top 73)) (defScope (top 73)) [] [] f fd) (hm : mg "_law_pairs_right" = some (.ref f)) (h_letters : ∀ t, TkOk t → Fd P w K mg base "_law_letters" 1 (FSp [] [DatV (talkD t)] (DatV (.list ((letters t).map letD))) [])) (h_gone : ∀ (l : Line) (t : Tk) (b : Nat) (x y : Let), LineOk l → TkOk t → b < l.boxes.length → x ∈ letters t → y ∈ letters t → x ≠ y → Fd P w K mg base "_law_gone" 3 (FSp [] [DatV (lineD l), DatV (talkD t), IntV (b : Int), DatV (letD x), DatV (letD y)] (DatV (goneD (lostIn l t b x y))) [])) (h_must : ∀ (l : Line) (t : Tk) (b : Nat) (x y : Let), LineOk l → TkOk t → b < l.boxes.length → x ∈ letters t → y ∈ letters t → x ≠ y → Fd P w K mg base "must_lose" 8 (FSp [] [RowV CR CB l, TalkV CT t, IntV (b : Int), DatV (letD x), DatV (letD y)] (DatV (lostD (lostIn l t b x y))) [])) {l : Line} (hl : LineOk l) {t : Tk} (ht : TkOk t) :
    FdG P w K mg base "_law_pairs_right" 9 (fun vs H Q E => ∃ b : Nat, b < l.boxes.length ∧ FSp [] [DatV (lineD l), DatV (talkD t), RowV CR CB l, TalkV CT t, IntV (b : Int)] (BlV true) [] vs H Q E) :=
  ⟨f, fd, ["_law_line_here", "_law_talk_here", "_law_row_here", "_law_made", "_law_b"], FnG.union fun b hb => w_pairs0 ft F h_letters h_gone h_must hl ht hb, hm, F.kp, F.bindsN fun _ _ _ _ _ _ us hl => match us, hl with | [_, _, _, _, _], _ => rfl⟩

end
end QD

/-! text QG10 -/
set_option Elab.async false
set_option linter.all false
set_option maxRecDepth 100000
set_option maxHeartbeats 4000000
/-! QG10: letters that are none. -/
namespace QX
open PySem PySem.Spec PyProof.Rows L2 QL QD
theorem nolet_lay {n : Nat} {d : PyData} (o : NoLet n d) : d.canLay0 = true ∧ d.depth ≤ 1 := by
  rcases o with rfl | rfl | rfl | rfl | rfl
  · exact ⟨rfl, by decide⟩
  · exact ⟨letD_lay _, by rw [letD_depth]; omega⟩
  · exact ⟨by decide +kernel, by decide +kernel⟩
  · exact ⟨by decide +kernel, by decide +kernel⟩
  · exact ⟨by decide +kernel, by decide +kernel⟩
theorem sd_of {d : PyData} (h : d.canLay0 = true ∧ d.depth ≤ 1) : SeqAt.shaped d = true := shaped_of h.1 (by have := h.2; omega)
theorem sd_pair {a b : PyData} (h1 : a.canLay0 = true ∧ a.depth ≤ 1) (h2 : b.canLay0 = true ∧ b.depth ≤ 1) : SeqAt.shaped (.tuple [a, b]) = true := by
  refine shaped_of ?_ ?_
  · simp only [PyData.canLay0, PyData.canLayAll0, h1.1, h2.1, Bool.and_self]
  · have a1 := h1.2
    have a2 := h2.2
    simp only [PyData.depth, PyData.depthAll]
    omega
abbrev F0 : PyData := letD (true, 0)
theorem f0_lay : F0.canLay0 = true ∧ F0.depth ≤ 1 := ⟨letD_lay _, by rw [letD_depth]; omega⟩
def zsOf (x : PyData) : List (PyData × PyData) := [(x, F0), (F0, x), (F0, F0)]
def dueOf (x : PyData) (z : PyData × PyData) : PyData := if ([z.1, z.2].any fun w => PyData.eqv w x) = true then x else F0
theorem eqv_self {n : Nat} {d : PyData} (o : NoLet n d) : PyData.eqv d d = true := by
  rcases o with rfl | rfl | rfl | rfl | rfl
  · decide +kernel
  · rw [letD_eqv]; simp
  · decide +kernel
  · decide +kernel
  · decide +kernel
theorem eqv_f0 {n : Nat} (h : 1 ≤ n) {d : PyData} (o : NoLet n d) : PyData.eqv F0 d = false := by
  rcases o with rfl | rfl | rfl | rfl | rfl
  · decide +kernel
  · rw [letD_eqv]
    simp
    omega
  · decide +kernel
  · decide +kernel
  · decide +kernel
theorem z_cases {n : Nat} (h : 1 ≤ n) {x : PyData} (o : NoLet n x) {z : PyData × PyData} (hz : z ∈ zsOf x) : (z = (x, F0) ∧ dueOf x z = x) ∨ (z = (F0, x) ∧ dueOf x z = x) ∨ (z = (F0, F0) ∧ dueOf x z = F0) := by
  simp only [zsOf, List.mem_cons, List.not_mem_nil, or_false] at hz
  rcases hz with rfl | rfl | rfl
  · exact .inl ⟨rfl, by simp [dueOf, eqv_self o]⟩
  · exact .inr (.inl ⟨rfl, by simp [dueOf, eqv_self o]⟩)
  · exact .inr (.inr ⟨rfl, by simp [dueOf, eqv_f0 h o]⟩)
theorem z_lay {n : Nat} {x : PyData} (o : NoLet n x) {z : PyData × PyData} (hz : z ∈ zsOf x) : (z.1.canLay0 = true ∧ z.1.depth ≤ 1) ∧ (z.2.canLay0 = true ∧ z.2.depth ≤ 1) := by
  simp only [zsOf, List.mem_cons, List.not_mem_nil, or_false] at hz
  rcases hz with rfl | rfl | rfl
  · exact ⟨nolet_lay o, f0_lay⟩
  · exact ⟨f0_lay, nolet_lay o⟩
  · exact ⟨f0_lay, f0_lay⟩
theorem due_show {n : Nat} (h : 1 ≤ n) (h8 : n < 8) {x : PyData} (o : NoLet n x) {z : PyData × PyData} (hz : z ∈ zsOf x) : ShowOk (dueOf x z) ∧ ShOk (dueOf x z) := by
  rcases z_cases h o hz with ⟨_, e⟩ | ⟨_, e⟩ | ⟨_, e⟩
  · rw [e]; exact nolet_show h8 o
  · rw [e]; exact nolet_show h8 o
  · rw [e]; exact ⟨show_let (by decide), let_sh (by decide)⟩
theorem eqv_two (a b : Str) : PyData.eqv (.list [.str a, .str b]) (.list [.str a, .str b]) = true := by simp [PyData.eqv, PyData.eqvAll]
theorem nm_number : SeqAt.shaped (.str "number") = true := by decide +kernel
theorem nm_letter : SeqAt.shaped (.str "letter") = true := by decide +kernel
/-- what is told: the wrong kind of a letter -/
theorem ne_two (a b : Str) : (!PyData.eqv (.list [.str a, .str b]) (.list [.str a, .str b])) = false := by rw [eqv_two]; rfl
theorem Wr.sub {X : Cx} {N N' : Ent} {C c Pt : Addr} {nm : Str} {k : Nat} (W : Wr X N C nm k c Pt) (s : Sub N' N) : Wr X N' C nm k c Pt :=
  ⟨W.fn, W.gl, W.room, W.gd, W.kind, W.xf, W.noa, W.fr, W.qe, W.tb, W.code, fun b ps => by rw [show N'.H = N.H from s.1]; exact W.nt b ps, by rw [s.2.2.1]; exact W.tabs⟩
section
variable {X : Cx} {A : Around} {outer : List Env} {s : Shared} {H : Hp} {E : XK} {scope : Scope} {f c' : Addr}
theorem pass_lam : Passes (L2.CX X.prog X.w) (LamX.lamCx X A outer s H E scope f c') E := passes_call (W := fun cls d _ H => E cls d H) (takes_of rfl rfl rfl rfl) fun _ _ _ _ h => h
end
end QX

/-! text QG11 -/
set_option Elab.async false
set_option linter.all false
set_option maxRecDepth 100000
set_option maxHeartbeats 4000000
/-! QG11: a call in a lambda. -/
namespace QX
open PySem PySem.Spec PyProof.Rows L2 QL QD
section
variable {X : Cx} {A : Around} {outer : List Env} {s : Shared} {H : Hp} {E : XK} {scope : Scope} {f c' : Addr} {N : Ent} {M : OwnM} {Γ : QL.Ctx} {e : Expr} {es : List Expr} {x : Str} {k j : Nat} {ps : List Pr} {R : Pr} {C : Addr} {p2 pos : Pos}
theorem pass_lam2 : Passes (L2.CX (LamX.lamCx X A outer s H E scope f c').prog (LamX.lamCx X A outer s H E scope f c').w) (LamX.lamCx X A outer s H E scope f c') E := passes_call (X := LamX.lamCx X A outer s H E scope f c') (W := fun cls d _ H => E cls d H) (takes_of rfl rfl rfl rfl) fun _ _ _ _ h => h
theorem jx_lam (F : Fd X.prog X.w X.K X.mg X.base x k (FSx [] ps C R)) (hr : Room j (A.deeper (LamX.lamEnv X scope s.heap.objs.size f c'))) (hk : k ≤ j) (lv : Lv N M C R E) (ha : JA (LamX.lamCx X A outer s H E scope f c') N M Γ (e :: es) ps) (hg : scope.names.lookup x = some .globalImplicit) (hdb : (x == ("__debug__" : Str)) = false)
    (he : starEach (e :: es) (LamX.lamCx X A outer s H E scope f c').env = (false, eval e (LamX.lamCx X A outer s H E scope f c').env) :: starEach es (LamX.lamCx X A outer s H E scope f c').env) (hpl : (backTo pos (starEach es (LamX.lamCx X A outer s H E scope f c').env)).any (·.1) = false) :
    JX (LamX.lamCx X A outer s H E scope f c') N M Γ (.Call (.Name x p2) (e :: es) [] pos) :=
  jx_call (X := LamX.lamCx X A outer s H E scope f c') F pass_lam2 lv (hr.mono hk) ha has_nil .nil hg hdb ⟨he, hpl⟩
/-- a captured name -/
theorem je_cap {i : Nat} {P : Pr} (hΓ : Γ[i]? = some (some P)) (hN : X.N[i]? = some x) (hv : scope.names.lookup x = some .free) (h1 : (x == ("__debug__" : Str)) = false) (h2 : (x == ("__classdict__" : Str)) = false) : JE (LamX.lamCx X A outer s H E scope f c') N M Γ (.Name x p2) P :=
  je_var (X := LamX.lamCx X A outer s H E scope f c') (i := i) hN hΓ (.inr (.inr hv)) h1 h2
end
end QX

/-! text QFN -/
set_option Elab.async false
set_option linter.all false
set_option maxRecDepth 100000
set_option maxHeartbeats 4000000
/-! QFN: what is refused. Printed by fn.py. -/
namespace QD
open PySem PySem.Spec PyProof.Rows L2 QL QX
section
variable {P : Program} {w : World} {K : PySem.W.Frag} {mg : Str → Option Value} {base : Heap} {CB CR CT CN CL : Addr} {f : Addr} {fd : FuncData}

theorem sc__law_refuses : FnScope ["_law_source", "_law_row_here", "_law_made", "_law_talk_here", "_law_odd", "_law_none", "_law_first", "_law_one", "_law_other", "_law_due"] ["_law_source", "_law_row_here", "_law_made", "_law_talk_here"] (defScope (top 74)) := ⟨rfl, rfl, rfl, by decide +kernel, rfl, by decide +kernel, by decide +kernel⟩
theorem w__law_refuses (ft : Ft K mg CB CR CT CN CL) (F : FunD K "_law_refuses" "_law_refuses" (defArgs (top 74)) (defBody (top 74)) (defScope (top 74)) [] [] f fd) (hm : mg "_law_refuses" = some (.ref f)) (h_pick : ∀ (p : Addr) (ds : List PyData), 0 < ds.length → ds.length < 1000 → Fd P w K mg base "_law_pick" 2 (FSp [(p, srcO)] [EqV (.ref p), DatV (.list ds)] (ExV (fun d => d ∈ ds) DatV) [(p, srcO)])) (h_len : ∀ l : Line, Fm P w K mg base CR "__len__" 1 (FSp [] [RowV CR CB l] (IntV (l.boxes.length : Int)) [])) (h_gap : ∀ (l : Line) (t : Tk) (d : PyData), Sc d → btw d 0 ((l.boxes.length : Int) - 1) = false → Fd P w K mg base "gap" 4 (FSx [] [RowV CR CB l, TalkV CT t, DatV d] CN (DatV d))) (h_ends : ∀ (l : Line) (t : Tk) (d : PyData), Sc d → btw d 0 ((l.boxes.length : Int) - 1) = false → Fd P w K mg base "ends" 4 (FSx [] [RowV CR CB l, TalkV CT t, DatV d] CN (DatV d))) (h_worst : ∀ (l : Line) (t : Tk) (d : PyData), Sc d → btw d 0 ((l.boxes.length : Int) - 1) = false → Fd P w K mg base "worst_course" 5 (FSx [] [RowV CR CB l, TalkV CT t, DatV d] CN (DatV d))) (h_mlose : ∀ (l : Line) (t : Tk) (d x y : PyData), Sc d → btw d 0 ((l.boxes.length : Int) - 1) = false → Fd P w K mg base "must_lose" 4 (FSx [] [RowV CR CB l, TalkV CT t, DatV d, DatV x, DatV y] CN (DatV d))) (h_ml : ∀ (l : Line) (t : Tk) (x : PyData) (z : PyData × PyData), LineOk l → TkOk t → NoLet t.out.length x → z ∈ zsOf x → Fd P w K mg base "must_lose" 4 (FSx [] [RowV CR CB l, TalkV CT t, IntV (((0 : Nat)) : Int), DatV z.1, DatV z.2] CL (DatV (dueOf x z)))) {fw c Pt : Addr} {fdw : FuncData} (hW : FunD K "_law_wrong" "_law_wrong" (defArgs (top 71)) (defBody (top 71)) (defScope (top 71)) [] [] fw fdw) (hmW : mg "_law_wrong" = some (.ref fw))
  (kN : FdP P w K mg base "_law_kind" 1 CN (StrV "number")) (kL : FdP P w K mg base "_law_kind" 1 CL (StrV "letter")) (xN : XfC K CN) (xL : XfC K CL) (nN : PySem.W.findIn K (.ref CN) "value" = some none) (nL : PySem.W.findIn K (.ref CL) "value" = some none)
  {CS : Addr} (qe : mg "QuietError" = some (.ref CS)) (qN : PySem.W.exmOne K (.ref CN) (.ref CS) = some true) (qL : PySem.W.exmOne K (.ref CL) (.ref CS) = some true) (hcode : fd.code = .ref c) (TB : LamX.TabB base mg c Pt) {l : Line} (hl : LineOk l) {t : Tk} (ht : TkOk t) {p : Addr} : FdG P w K mg base "_law_refuses" 8 (FSt [(Pt, (("_law_refuses" : Str) ++ ".<locals>.") ++ "<lambda>")] [(p, srcO)] [EqV (.ref p), RowV CR CB l, TalkV CT t, DatV (talkD t)] (BlV true)) := by
  have fr := ft.fr
  refine ⟨f, fd, ["_law_source", "_law_row_here", "_law_made", "_law_talk_here"], ?_, hm, F.kp, F.bindsN fun _ _ _ _ _ _ us hl => match us, hl with | [_, _, _, _], _ => rfl⟩
  refine fnT_rule F sc__law_refuses rfl fun oc od dV kV doc pm an cdv ct osl efd lk A outer s H E hr hG N hNT hT => ?_
  have nd := sc__law_refuses.nd
  obtain rfl : cdv = .ref c := by rw [efd] at hcode; exact hcode
  have WN : Wr (bx P w K mg base ["_law_source", "_law_row_here", "_law_made", "_law_talk_here", "_law_odd", "_law_none", "_law_first", "_law_one", "_law_other", "_law_due"] "_law_refuses" (defScope (top 74)) f (.ref c) A outer s H E) N CN "number" 5 c Pt := ⟨⟨fw, fdw, hW, hmW⟩, rfl, hr, hG, kN, xN, nN, fr, ⟨CS, qe, qN⟩, TB, rfl, hNT, hT⟩
  have WL : Wr (bx P w K mg base ["_law_source", "_law_row_here", "_law_made", "_law_talk_here", "_law_odd", "_law_none", "_law_first", "_law_one", "_law_other", "_law_due"] "_law_refuses" (defScope (top 74)) f (.ref c) A outer s H E) N CL "letter" 5 c Pt := ⟨⟨fw, fdw, hW, hmW⟩, rfl, hr, hG, kL, xL, nL, fr, ⟨CS, qe, qL⟩, TB, rfl, hNT, hT⟩
  exact js_set (i := 4) (je_call (h_pick p _ (Nat.le_of_ble_eq_true rfl) (Nat.le_of_ble_eq_true rfl)) (hr.mono (by decide)) (ja_cons (je_var (i := 0) rfl rfl (vis_by rfl) rfl rfl) (ja_cons (je_lstD (jd_cons (je_neg je_int) (jd_cons (je_lenK (h_len l) (hr.mono (by decide)) (je_var (i := 1) rfl rfl (vis_by rfl) rfl rfl) (by have := hl.n4; omega) (bi_len fr rfl) ⟨rfl, rfl⟩) (jd_cons je_bl (jd_cons je_non (jd_cons je_str jd_nil rfl) rfl) rfl) rfl) rfl) (Nat.le_of_ble_eq_true rfl)) ja_nil rfl) rfl) (has1 List.mem_cons_self) nd1 rfl rfl ⟨rfl, rfl⟩)
      (js_openS (i := 4) rfl (fun odd hodd0 => have hodd : Odd l.boxes.length odd := (by simpa [Odd] using hodd0); js_set (i := 5) (je_call (h_pick p _ (Nat.le_of_ble_eq_true rfl) (Nat.le_of_ble_eq_true rfl)) (hr.mono (by decide)) (ja_cons (je_var (i := 0) rfl rfl (vis_by rfl) rfl rfl) (ja_cons (je_lstD (jd_cons je_non (jd_cons (je_tupD (jd_cons je_str (jd_cons (JE.cast (P' := IntV (t.out.length : Int)) (je_len (je_ixL (je_var (i := 3) rfl rfl (vis_by rfl) rfl rfl) je_int rfl (fun _ _ => rfl)) (by first | exact .dl _ | exact .dt _ | exact .tu _ | exact .li _) (bi_len fr rfl) ⟨rfl, rfl⟩) (by rw [len_map])) jd_nil rfl) rfl) (Nat.le_of_ble_eq_true rfl)) (jd_cons (je_tupD (jd_cons je_str (jd_cons je_int jd_nil rfl) rfl) (Nat.le_of_ble_eq_true rfl)) (jd_cons (je_lstD (jd_cons je_str (jd_cons je_int jd_nil rfl) rfl) (Nat.le_of_ble_eq_true rfl)) (jd_cons (je_tupD (jd_cons je_str (jd_cons je_bl jd_nil rfl) rfl) (Nat.le_of_ble_eq_true rfl)) jd_nil rfl) rfl) rfl) rfl) rfl) (Nat.le_of_ble_eq_true rfl)) ja_nil rfl) rfl) (has1 List.mem_cons_self) nd1 rfl rfl ⟨rfl, rfl⟩)
      (js_openS (i := 5) rfl (fun non hnon0 => have hnon : NoLet t.out.length non := (by simpa [NoLet, letD, dirS] using hnon0); js_guard (jct (jc_cast (jc_neD hr.units (je_wrong (d := odd) WN (odd_show (by have := hl.n4; omega) hodd).1 (LamX.lamS_by rfl) rfl (fun _ _ _ _ _ => rfl) (fun N' M' A' outer' s' H' E' f' c' sb' hr' lv' => jx_lam (h_gap l t odd (odd_sc (by have := hl.n1; omega) hodd).1 (odd_sc (by have := hl.n1; omega) hodd).2) hr' (by decide) lv' (ja_cons (je_cap (i := 1) rfl rfl rfl rfl rfl) (ja_cons (je_cap (i := 2) rfl rfl rfl rfl rfl) (ja_cons (je_cap (i := 4) rfl rfl rfl rfl rfl) ja_nil rfl) rfl) rfl) rfl rfl rfl rfl)) (je_lstD (jd_cons je_str (jd_cons (je_repr hG (by have := hr.un; omega) (odd_show (by have := hl.n4; omega) hodd).1 (je_var (i := 4) rfl rfl (vis_by rfl) rfl rfl) (QL.bi_repr fr rfl) ⟨rfl, rfl⟩) jd_nil rfl) rfl) (Nat.le_of_ble_eq_true rfl)) (shl nm_number (odd_show (by have := hl.n4; omega) hodd).2) (shl nm_number (odd_show (by have := hl.n4; omega) hodd).2)) (ne_two _ _))) (fun hc1 => absurd hc1 Bool.false_ne_true)
      (fun hc1 => js_guard (jct (jc_cast (jc_neD hr.units (je_wrong (d := odd) WN (odd_show (by have := hl.n4; omega) hodd).1 (LamX.lamS_by rfl) rfl (fun _ _ _ _ _ => rfl) (fun N' M' A' outer' s' H' E' f' c' sb' hr' lv' => jx_lam (h_ends l t odd (odd_sc (by have := hl.n1; omega) hodd).1 (odd_sc (by have := hl.n1; omega) hodd).2) hr' (by decide) lv' (ja_cons (je_cap (i := 1) rfl rfl rfl rfl rfl) (ja_cons (je_cap (i := 2) rfl rfl rfl rfl rfl) (ja_cons (je_cap (i := 4) rfl rfl rfl rfl rfl) ja_nil rfl) rfl) rfl) rfl rfl rfl rfl)) (je_lstD (jd_cons je_str (jd_cons (je_repr hG (by have := hr.un; omega) (odd_show (by have := hl.n4; omega) hodd).1 (je_var (i := 4) rfl rfl (vis_by rfl) rfl rfl) (QL.bi_repr fr rfl) ⟨rfl, rfl⟩) jd_nil rfl) rfl) (Nat.le_of_ble_eq_true rfl)) (shl nm_number (odd_show (by have := hl.n4; omega) hodd).2) (shl nm_number (odd_show (by have := hl.n4; omega) hodd).2)) (ne_two _ _))) (fun hc2 => absurd hc2 Bool.false_ne_true)
      (fun hc2 => js_guard (jct (jc_cast (jc_neD hr.units (je_wrong (d := odd) WN (odd_show (by have := hl.n4; omega) hodd).1 (LamX.lamS_by rfl) rfl (fun _ _ _ _ _ => rfl) (fun N' M' A' outer' s' H' E' f' c' sb' hr' lv' => jx_lam (h_worst l t odd (odd_sc (by have := hl.n1; omega) hodd).1 (odd_sc (by have := hl.n1; omega) hodd).2) hr' (by decide) lv' (ja_cons (je_cap (i := 1) rfl rfl rfl rfl rfl) (ja_cons (je_cap (i := 2) rfl rfl rfl rfl rfl) (ja_cons (je_cap (i := 4) rfl rfl rfl rfl rfl) ja_nil rfl) rfl) rfl) rfl rfl rfl rfl)) (je_lstD (jd_cons je_str (jd_cons (je_repr hG (by have := hr.un; omega) (odd_show (by have := hl.n4; omega) hodd).1 (je_var (i := 4) rfl rfl (vis_by rfl) rfl rfl) (QL.bi_repr fr rfl) ⟨rfl, rfl⟩) jd_nil rfl) rfl) (Nat.le_of_ble_eq_true rfl)) (shl nm_number (odd_show (by have := hl.n4; omega) hodd).2) (shl nm_number (odd_show (by have := hl.n4; omega) hodd).2)) (ne_two _ _))) (fun hc3 => absurd hc3 Bool.false_ne_true)
      (fun hc3 => js_guard (jct (jc_cast (jc_neD hr.units (je_wrong (d := odd) WN (odd_show (by have := hl.n4; omega) hodd).1 (LamX.lamS_by rfl) rfl (fun _ _ _ _ _ => rfl) (fun N' M' A' outer' s' H' E' f' c' sb' hr' lv' => jx_lam (h_mlose l t odd non non (odd_sc (by have := hl.n1; omega) hodd).1 (odd_sc (by have := hl.n1; omega) hodd).2) hr' (by decide) lv' (ja_cons (je_cap (i := 1) rfl rfl rfl rfl rfl) (ja_cons (je_cap (i := 2) rfl rfl rfl rfl rfl) (ja_cons (je_cap (i := 4) rfl rfl rfl rfl rfl) (ja_cons (je_cap (i := 5) rfl rfl rfl rfl rfl) (ja_cons (je_cap (i := 5) rfl rfl rfl rfl rfl) ja_nil rfl) rfl) rfl) rfl) rfl) rfl rfl rfl rfl)) (je_lstD (jd_cons je_str (jd_cons (je_repr hG (by have := hr.un; omega) (odd_show (by have := hl.n4; omega) hodd).1 (je_var (i := 4) rfl rfl (vis_by rfl) rfl rfl) (QL.bi_repr fr rfl) ⟨rfl, rfl⟩) jd_nil rfl) rfl) (Nat.le_of_ble_eq_true rfl)) (shl nm_number (odd_show (by have := hl.n4; omega) hodd).2) (shl nm_number (odd_show (by have := hl.n4; omega) hodd).2)) (ne_two _ _))) (fun hc4 => absurd hc4 Bool.false_ne_true)
      (fun hc4 => js_set (i := 6) (JE.cast (P' := DatV F0) (je_tupD (jd_cons je_str (jd_cons je_int jd_nil rfl) rfl) (Nat.le_of_ble_eq_true rfl)) rfl)
      (js_for (fun done bt => True) (fun done bt => [(p, srcO)]) (fun done bt => [some (EqV (.ref p)), some (RowV CR CB l), some (TalkV CT t), some (DatV (talkD t)), some (DatV odd), some (DatV non), some (DatV F0), none, none, none]) (ji_dlM (zs := zsOf non) (f := fun z => PyData.tuple [z.1, z.2]) (je_lstD (jd_cons (je_tupD (jd_cons (je_var (i := 5) rfl rfl (vis_by rfl) rfl rfl) (jd_cons (je_var (i := 6) rfl rfl (vis_by rfl) rfl rfl) jd_nil rfl) rfl) (Nat.le_of_ble_eq_true rfl)) (jd_cons (je_tupD (jd_cons (je_var (i := 6) rfl rfl (vis_by rfl) rfl rfl) (jd_cons (je_var (i := 5) rfl rfl (vis_by rfl) rfl rfl) jd_nil rfl) rfl) (Nat.le_of_ble_eq_true rfl)) (jd_cons (je_tupD (jd_cons (je_var (i := 6) rfl rfl (vis_by rfl) rfl rfl) (jd_cons (je_var (i := 6) rfl rfl (vis_by rfl) rfl rfl) jd_nil rfl) rfl) (Nat.le_of_ble_eq_true rfl)) jd_nil rfl) rfl) rfl) (Nat.le_of_ble_eq_true rfl))) (qg_tup2 rfl nd (nm_by rfl rfl rfl) (nm_by rfl rfl rfl)) (fun z hz => (jgr_tup2D (i := 7) (j := 8))) passO rfl () trivial rfl (And.intro rfl (And.intro rfl (And.intro rfl (And.intro rfl (And.intro rfl (And.intro rfl (And.intro rfl True.intro))))))) (fun z hz done bt => jp2 (Nat.le_of_ble_eq_true rfl) (Nat.le_of_ble_eq_true rfl))
      (fun N1 sb1 done1 z1 post1 b1 hz1 hC1 => js_set (i := 9) (JE.cast (P' := DatV (dueOf non z1)) (je_ifD (jct (jc_inT (units65 hr) (je_var (i := 5) rfl rfl (vis_by rfl) rfl rfl) (je_tupD (jd_cons (je_var (i := 7) rfl rfl (vis_by rfl) rfl rfl) (jd_cons (je_var (i := 8) rfl rfl (vis_by rfl) rfl rfl) jd_nil rfl) rfl) (Nat.le_of_ble_eq_true rfl)) (sd_of (nolet_lay hnon)) (sd_pair (z_lay hnon (by rw [hz1]; simp)).1 (z_lay hnon (by rw [hz1]; simp)).2) rfl)) (fun _ => (je_var (i := 5) rfl rfl (vis_by rfl) rfl rfl)) (fun _ => (je_var (i := 6) rfl rfl (vis_by rfl) rfl rfl))) rfl)
      (js_guard (jct (jc_cast (jc_neD hr.units (je_wrong (d := dueOf non z1) (WL.sub sb1) (due_show (by have := ht.o1; omega) (by have := ht.o7; omega) hnon (by rw [hz1]; simp)).1 (LamX.lamS_by rfl) rfl (fun _ _ _ _ _ => rfl) (fun N' M' A' outer' s' H' E' f' c' sb' hr' lv' => jx_lam (h_ml l t non z1 hl ht hnon (by rw [hz1]; simp)) hr' (by decide) lv' (ja_cons (je_cap (i := 1) rfl rfl rfl rfl rfl) (ja_cons (je_cap (i := 2) rfl rfl rfl rfl rfl) (ja_cons (JE.cast (P' := IntV (((0 : Nat)) : Int)) je_int rfl) (ja_cons (je_cap (i := 7) rfl rfl rfl rfl rfl) (ja_cons (je_cap (i := 8) rfl rfl rfl rfl rfl) ja_nil rfl) rfl) rfl) rfl) rfl) rfl rfl rfl rfl)) (je_lstD (jd_cons je_str (jd_cons (je_repr hG (by have := hr.un; omega) (due_show (by have := ht.o1; omega) (by have := ht.o7; omega) hnon (by rw [hz1]; simp)).1 (je_var (i := 9) rfl rfl (vis_by rfl) rfl rfl) (QL.bi_repr fr rfl) ⟨rfl, rfl⟩) jd_nil rfl) rfl) (Nat.le_of_ble_eq_true rfl)) (shl nm_letter (due_show (by have := ht.o1; omega) (by have := ht.o7; omega) hnon (by rw [hz1]; simp)).2) (shl nm_letter (due_show (by have := ht.o1; omega) (by have := ht.o7; omega) hnon (by rw [hz1]; simp)).2)) (ne_two _ _))) (fun hc6 => absurd hc6 Bool.false_ne_true)
      (fun hc6 => js_turn () trivial rfl (And.intro rfl (And.intro rfl (And.intro rfl (And.intro rfl (And.intro rfl (And.intro rfl (And.intro rfl True.intro))))))))) nd (nm_by rfl rfl rfl) (Nat.le_of_ble_eq_true rfl) rfl)
      (fun N1 sb1 b1 hC1 => js_sub sb1 (js_ret je_bl (by exact fun v I H s p => ⟨I, (s.fewer (fun q hq => hq) nd1), p⟩))) (fun _ => rfl)) nd (nm_by rfl rfl rfl) (Nat.le_of_ble_eq_true rfl) rfl)))))) nd (nm_by rfl rfl rfl) (Nat.le_of_ble_eq_true rfl) rfl)) nd (nm_by rfl rfl rfl) (Nat.le_of_ble_eq_true rfl) rfl

end
end QD

/-! text QFI -/
set_option Elab.async false
set_option linter.all false
set_option maxRecDepth 100000
set_option maxHeartbeats 4000000
/-! QFI: what the law draws. Printed by fi.py. -/
namespace QD
open PySem PySem.Spec PyProof.Rows L2 QL
section
variable {P : Program} {w : World} {K : PySem.W.Frag} {mg : Str → Option Value} {base : Heap} {CB CR CT CN CL : Addr} {f : Addr} {fd : FuncData}

theorem sc__law_draw : FnScope ["_law_source", "_law_limit", "_law_cell", "_law_digit"] ["_law_source", "_law_limit"] (defScope (top 54)) := ⟨rfl, rfl, rfl, by decide +kernel, rfl, by decide +kernel, by decide +kernel⟩
theorem w_draw0 (ft : Ft K mg CB CR CT CN CL) (F : FunD K "_law_draw" "_law_draw" (defArgs (top 54)) (defBody (top 54)) (defScope (top 54)) [] [] f fd)   {p : Addr} {n : Int} (hn0 : 0 < n) (hn1 : n < 1073741824) : FnOk P w K mg base (L2.CX P w) 1 f fd ["_law_source", "_law_limit"] (FSp [(p, srcO)] [EqV (.ref p), IntV n] (Drawn n) [(p, srcO)]) := by
  have fr := ft.fr
  refine ?_
  refine fn_rule F sc__law_draw rfl fun cdv A outer s H E hr N => ?_
  have nd := sc__law_draw.nd
  exact js_openO fun ⟨c, i, a, e⟩ _ => js_if (Ψ := Tp N [(p, srcO)] [some (EqV (.ref p)), some (IntV n), none, none]) (jt_w (jw_and (jct (jc_lt (je_ixO (je_var (i := 0) rfl rfl (vis_by rfl) rfl rfl) je_int List.mem_cons_self rfl (fun _ _ => rfl)) (je_pow je_int je_int ⟨by decide, by decide, by decide⟩))) (fun hb1 => (jw_and1 (jct (jc_lt (je_ixO (je_var (i := 0) rfl rfl (vis_by rfl) rfl rfl) je_int List.mem_cons_self rfl (fun _ _ => rfl)) (je_len (je_ixO (je_var (i := 0) rfl rfl (vis_by rfl) rfl rfl) je_int List.mem_cons_self rfl (fun _ _ => rfl)) (by first | exact .dl _ | exact .dt _ | exact .tu _ | exact .li _) (bi_len fr rfl) ⟨rfl, rfl⟩)))))))
        (fun hA => js_set (i := 2) (je_intc (je_ixL (je_ixO (je_var (i := 0) rfl rfl (vis_by rfl) rfl rfl) je_int List.mem_cons_self rfl (fun _ _ => rfl)) (je_ixO (je_var (i := 0) rfl rfl (vis_by rfl) rfl rfl) je_int List.mem_cons_self rfl (fun _ _ => rfl)) (cell_at (k := true) (Bool.and_eq_true_iff.mp hA).2) (fun _ _ => rfl)) (bi_int fr rfl) ⟨rfl, rfl⟩) (js_put (j := 1) (je_add (je_ixO (je_var (i := 0) rfl rfl (vis_by rfl) rfl rfl) je_int List.mem_cons_self rfl (fun _ _ => rfl)) je_int) (je_var (i := 0) rfl rfl (vis_by rfl) rfl rfl) je_int rfl
       (js_put (j := 2) je_int (je_var (i := 0) rfl rfl (vis_by rfl) rfl rfl) je_int rfl
       (js_if (Ψ := Tp N [(p, srcO)] [some (EqV (.ref p)), some (IntV n), some (IntV (c.getD i 0)), none]) (jct (jc_ge (je_var (i := 2) rfl rfl (vis_by rfl) rfl rfl) (je_pow je_int je_int ⟨by decide, by decide, by decide⟩))) (fun _ => js_put (j := 2) (je_var (i := 2) rfl rfl (vis_by rfl) rfl rfl) (je_var (i := 0) rfl rfl (vis_by rfl) rfl rfl) je_int rfl
       (js_endO srcI (And.intro rfl (And.intro rfl (And.intro rfl True.intro)))) (fun _ => rfl) rfl rfl rfl) (fun _ => js_endO (srcI (i := i + 1)) (And.intro rfl (And.intro rfl (And.intro rfl True.intro)))) (js_openO fun q2 _ => js_put (j := 3) (je_mod (je_intc (je_add (je_add (je_mul (je_ixO (je_var (i := 0) rfl rfl (vis_by rfl) rfl rfl) je_int List.mem_cons_self rfl (fun _ _ => rfl)) je_int (.inr ⟨by decide, by decide⟩)) (je_mod (je_var (i := 2) rfl rfl (vis_by rfl) rfl rfl) je_int (by decide))) je_int) (bi_int fr rfl) ⟨rfl, rfl⟩) je_int (by decide)) (je_var (i := 0) rfl rfl (vis_by rfl) rfl rfl) je_int rfl
       (js_endO srcI (And.intro rfl (And.intro rfl True.intro))) (fun _ => rfl) rfl rfl rfl)) (fun _ => rfl) rfl rfl rfl) (fun _ => rfl) rfl rfl rfl) nd (nm_by rfl rfl rfl) (Nat.le_of_ble_eq_true rfl) rfl)
        (fun _ => js_endO srcI (And.intro rfl (And.intro rfl True.intro)))
        (js_openO fun ⟨c, i, a, e⟩ _ => js_guard (jct (jc_ge (je_ixO (je_var (i := 0) rfl rfl (vis_by rfl) rfl rfl) je_int List.mem_cons_self rfl (fun _ _ => rfl)) (je_pow je_int je_int ⟨by decide, by decide, by decide⟩))) (fun _ => js_set (i := 3) (je_mod (je_intc (je_ixO (je_var (i := 0) rfl rfl (vis_by rfl) rfl rfl) je_int List.mem_cons_self rfl (fun _ _ => rfl)) (bi_int fr rfl) ⟨rfl, rfl⟩) (je_var (i := 1) rfl rfl (vis_by rfl) rfl rfl) hn0) (js_put (j := 2) (je_fdiv (je_ixO (je_var (i := 0) rfl rfl (vis_by rfl) rfl rfl) je_int List.mem_cons_self rfl (fun _ _ => rfl)) (je_var (i := 1) rfl rfl (vis_by rfl) rfl rfl) ⟨hn0, hn1⟩) (je_var (i := 0) rfl rfl (vis_by rfl) rfl rfl) je_int rfl
       (js_reown (φ' := srcO) (js_ret (JE.ex (Rf := IntV) (C := fun d : Int => 0 ≤ d ∧ d < n) (je_var (i := 3) rfl rfl (vis_by rfl) rfl rfl) ⟨Int.emod_nonneg _ (by omega), Int.emod_lt_of_pos _ hn0⟩) (by exact fun v I H s p => ⟨I, s, p⟩)) (fun o I h => srcI o I h)) (fun _ => rfl) rfl rfl rfl) nd (nm_by rfl rfl rfl) (Nat.le_of_ble_eq_true rfl) rfl) (fun _ => js_put (j := 3) (je_mod (je_intc (je_add (je_mul (je_ixO (je_var (i := 0) rfl rfl (vis_by rfl) rfl rfl) je_int List.mem_cons_self rfl (fun _ _ => rfl)) je_int (.inr ⟨by decide, by decide⟩)) je_int) (bi_int fr rfl) ⟨rfl, rfl⟩) je_int (by decide)) (je_var (i := 0) rfl rfl (vis_by rfl) rfl rfl) je_int rfl
       (js_ret (JE.ex (Rf := IntV) (C := fun d : Int => 0 ≤ d ∧ d < n) (je_mod (je_intc (je_fdiv (je_ixO (je_var (i := 0) rfl rfl (vis_by rfl) rfl rfl) je_int List.mem_cons_self rfl (fun _ _ => rfl)) je_int ⟨by decide, by decide⟩) (bi_int fr rfl) ⟨rfl, rfl⟩) (je_var (i := 1) rfl rfl (vis_by rfl) rfl rfl) hn0) ⟨Int.emod_nonneg _ (by omega), Int.emod_lt_of_pos _ hn0⟩) (by exact fun v I H s p => ⟨I, s.reown fun o => srcI o _, p⟩)) (fun _ => rfl) rfl rfl rfl))

theorem w_law_draw (ft : Ft K mg CB CR CT CN CL) (F : FunD K "_law_draw" "_law_draw" (defArgs (top 54)) (defBody (top 54)) (defScope (top 54)) [] [] f fd) (hm : mg "_law_draw" = some (.ref f)) : Fd P w K mg base "_law_draw" 1 DrawSp :=
  ⟨f, fd, ["_law_source", "_law_limit"], FnOk.union fun q hq => w_draw0 ft F hq.1 hq.2, hm, F.kp, F.bindsN fun _ _ _ _ _ _ us hl => match us, hl with | [_, _], _ => rfl⟩

theorem sc__law_pick : FnScope ["_law_source", "_law_items"] ["_law_source", "_law_items"] (defScope (top 55)) := ⟨rfl, rfl, rfl, by decide +kernel, rfl, by decide +kernel, by decide +kernel⟩
theorem w__law_pick (ft : Ft K mg CB CR CT CN CL) (F : FunD K "_law_pick" "_law_pick" (defArgs (top 55)) (defBody (top 55)) (defScope (top 55)) [] [] f fd) (hm : mg "_law_pick" = some (.ref f)) (h_draw : Fd P w K mg base "_law_draw" 1 DrawSp) {p : Addr} {ds : List PyData} (h0 : 0 < ds.length) (h1 : ds.length < 1000) : Fd P w K mg base "_law_pick" 2 (FSp [(p, srcO)] [EqV (.ref p), DatV (.list ds)] (ExV (fun d => d ∈ ds) DatV) [(p, srcO)]) := by
  have fr := ft.fr
  refine ⟨f, fd, ["_law_source", "_law_items"], ?_, hm, F.kp, F.bindsN fun _ _ _ _ _ _ us hl => match us, hl with | [_, _], _ => rfl⟩
  refine fn_rule F sc__law_pick rfl fun cdv A outer s H E hr N => ?_
  have nd := sc__law_pick.nd
  exact js_ret (je_ixE (je_var (i := 1) rfl rfl (vis_by rfl) rfl rfl) (je_draw (p := p) h_draw (hr.mono (by decide)) (ja_cons (je_var (i := 0) rfl rfl (vis_by rfl) rfl rfl) (ja_cons (je_len (je_var (i := 1) rfl rfl (vis_by rfl) rfl rfl) (by first | exact .dl _ | exact .dt _ | exact .tu _ | exact .li _) (bi_len fr rfl) ⟨rfl, rfl⟩) ja_nil rfl) rfl) ⟨by omega, by omega⟩ List.mem_cons_self rfl ⟨rfl, rfl⟩) (fun _ _ => rfl)) (by exact fun v I H s p => ⟨I, (s.fewer (fun q hq => hq) nd1), p⟩)

theorem sc__law_case : FnScope ["_law_source", "_law_least", "_law_most"] ["_law_source"] (defScope (top 56)) := ⟨rfl, rfl, rfl, by decide +kernel, rfl, by decide +kernel, by decide +kernel⟩
theorem w__law_case (ft : Ft K mg CB CR CT CN CL) (F : FunD K "_law_case" "_law_case" (defArgs (top 56)) (defBody (top 56)) (defScope (top 56)) [] [] f fd) (hm : mg "_law_case" = some (.ref f)) (h_draw : Fd P w K mg base "_law_draw" 1 DrawSp) (h_pick : ∀ (p : Addr) (ds : List PyData), 0 < ds.length → ds.length < 1000 → Fd P w K mg base "_law_pick" 2 (FSp [(p, srcO)] [EqV (.ref p), DatV (.list ds)] (ExV (fun d => d ∈ ds) DatV) [(p, srcO)])) {p : Addr} : Fd P w K mg base "_law_case" 3 (FSp [(p, srcO)] [EqV (.ref p)] Case [(p, srcO)]) := by
  have fr := ft.fr
  refine ⟨f, fd, ["_law_source"], ?_, hm, F.kp, F.bindsN fun _ _ _ _ _ _ us hl => match us, hl with | [_], _ => rfl⟩
  refine fn_rule F sc__law_case rfl fun cdv A outer s H E hr N => ?_
  have nd := sc__law_case.nd
  exact js_set (i := 1) (je_addE je_int (je_drawE (p := p) (B := 200) h_draw (hr.mono (by decide)) (ja_cons (je_var (i := 0) rfl rfl (vis_by rfl) rfl rfl) (ja_cons (je_ixE (je_lstD (jd_cons je_int (jd_cons je_int (jd_cons je_int jd_nil rfl) rfl) rfl) (Nat.le_of_ble_eq_true rfl)) (je_draw (p := p) h_draw (hr.mono (by decide)) (ja_cons (je_var (i := 0) rfl rfl (vis_by rfl) rfl rfl) (ja_cons je_int ja_nil rfl) rfl) ⟨by decide, by decide⟩ List.mem_cons_self rfl ⟨rfl, rfl⟩) (fun _ _ => rfl)) ja_nil rfl) rfl) (by intro d hd; simp at hd; rcases hd with rfl | rfl | rfl <;> exact ⟨_, rfl, by decide, by decide⟩) (by decide) List.mem_cons_self rfl ⟨rfl, rfl⟩))
      (js_openS (i := 1) rfl (fun lo hlo => js_set (i := 2) (je_addE (je_var (i := 1) rfl rfl (vis_by rfl) rfl rfl) (je_drawE (p := p) (B := 90) h_draw (hr.mono (by decide)) (ja_cons (je_var (i := 0) rfl rfl (vis_by rfl) rfl rfl) (ja_cons (je_ixE (je_lstD (jd_cons je_int (jd_cons je_int (jd_cons je_int jd_nil rfl) rfl) rfl) (Nat.le_of_ble_eq_true rfl)) (je_draw (p := p) h_draw (hr.mono (by decide)) (ja_cons (je_var (i := 0) rfl rfl (vis_by rfl) rfl rfl) (ja_cons je_int ja_nil rfl) rfl) ⟨by decide, by decide⟩ List.mem_cons_self rfl ⟨rfl, rfl⟩) (fun _ _ => rfl)) ja_nil rfl) rfl) (by intro d hd; simp at hd; rcases hd with rfl | rfl | rfl <;> exact ⟨_, rfl, by decide, by decide⟩) (by decide) List.mem_cons_self rfl ⟨rfl, rfl⟩))
      (js_openS (i := 2) rfl (fun hi hhi => js_ret (je_lst (ja_cons (je_var (i := 1) rfl rfl (vis_by rfl) rfl rfl) (ja_cons (je_var (i := 2) rfl rfl (vis_by rfl) rfl rfl) (ja_cons (je_draw (p := p) h_draw (hr.mono (by decide)) (ja_cons (je_var (i := 0) rfl rfl (vis_by rfl) rfl rfl) (ja_cons je_int ja_nil rfl) rfl) ⟨by decide, by decide⟩ List.mem_cons_self rfl ⟨rfl, rfl⟩) (ja_cons (je_call (h_pick p _ (by decide) (by decide)) (hr.mono (by decide)) (ja_cons (je_var (i := 0) rfl rfl (vis_by rfl) rfl rfl) (ja_cons (je_lstD (jd_cons je_str (jd_cons je_str jd_nil rfl) rfl) (Nat.le_of_ble_eq_true rfl)) ja_nil rfl) rfl) (has1 List.mem_cons_self) nd1 rfl rfl ⟨rfl, rfl⟩) ja_nil rfl) rfl) rfl) rfl) (Nat.le_of_ble_eq_true rfl)) (by exact fun v I H s p => ⟨I, s, case_of hlo hhi p⟩))) nd (nm_by rfl rfl rfl) (Nat.le_of_ble_eq_true rfl) rfl)) nd (nm_by rfl rfl rfl) (Nat.le_of_ble_eq_true rfl) rfl

theorem sc__law_line : FnScope ["_law_source", "_law_most", "_law_wide", "_law_many", "_law_steps", "_law_turn", "_law_least"] ["_law_source", "_law_most", "_law_wide"] (defScope (top 58)) := ⟨rfl, rfl, rfl, by decide +kernel, rfl, by decide +kernel, by decide +kernel⟩
theorem w__law_line (ft : Ft K mg CB CR CT CN CL) (F : FunD K "_law_line" "_law_line" (defArgs (top 58)) (defBody (top 58)) (defScope (top 58)) [] [] f fd) (hm : mg "_law_line" = some (.ref f)) (h_draw : Fd P w K mg base "_law_draw" 1 DrawSp) (h_case : ∀ p : Addr, Fd P w K mg base "_law_case" 3 (FSp [(p, srcO)] [EqV (.ref p)] Case [(p, srcO)])) {p : Addr} : Fd P w K mg base "_law_line" 4 (FSp [(p, srcO)] [EqV (.ref p), IntV 4, IntV 4] LineV [(p, srcO)]) := by
  have fr := ft.fr
  refine ⟨f, fd, ["_law_source", "_law_most", "_law_wide"], ?_, hm, F.kp, F.bindsN fun _ _ _ _ _ _ us hl => match us, hl with | [_, _, _], _ => rfl⟩
  refine fn_rule F sc__law_line rfl fun cdv A outer s H E hr N => ?_
  have nd := sc__law_line.nd
  exact js_set (i := 3) (je_addE je_int (je_draw (p := p) h_draw (hr.mono (by decide)) (ja_cons (je_var (i := 0) rfl rfl (vis_by rfl) rfl rfl) (ja_cons (je_var (i := 1) rfl rfl (vis_by rfl) rfl rfl) ja_nil rfl) rfl) ⟨by decide, by decide⟩ List.mem_cons_self rfl ⟨rfl, rfl⟩))
        (js_openS (i := 3) rfl (fun mi hmi => by
          obtain ⟨d, ⟨d0, d1⟩, rfl⟩ := hmi
          obtain ⟨m, hme⟩ : ∃ m : Nat, (1 : Int) + d = (m : Int) := ⟨(1 + d).toNat, by omega⟩
          have hm : 1 ≤ m ∧ m ≤ 4 := ⟨by omega, by omega⟩
          rw [hme]
          exact js_new (i := 4) (fun pL => js_for (β := List (Int × Int)) (fun done bt => bt.length = done.length ∧ ∀ s ∈ bt, StepOk s) (fun done bt => [(pL, lstO ((bt.map linkD).map DatV)), (p, srcO)]) (fun done bt => [some (EqV (.ref p)), some (IntV 4), some (IntV 4), some (IntV ((m : Nat) : Int)), some (EqV (.ref pL)), none, none]) (ji_range (n := m + 1) (JE.cast (je_add (je_var (i := 3) rfl rfl (vis_by rfl) rfl rfl) je_int) (congrArg IntV (by omega))) (by omega) (bi_range fr rfl) rfl) (qg_name nd (nm_by rfl rfl rfl)) (fun z hz => (jgr_name (i := 5))) passO rfl [] ⟨rfl, fun s hs => (by cases hs)⟩ rfl (And.intro rfl (And.intro rfl (And.intro rfl (And.intro rfl (And.intro rfl True.intro))))) (fun z hz done bt => jp1 (Nat.le_of_ble_eq_true rfl))
            (fun N1 sb1 done1 z1 post1 b1 hz1 hC1 => js_set (i := 6) (je_draw (p := p) h_draw (hr.mono (by decide)) (ja_cons (je_var (i := 0) rfl rfl (vis_by rfl) rfl rfl) (ja_cons je_int ja_nil rfl) rfl) ⟨by decide, by decide⟩ (List.mem_cons_of_mem _ List.mem_cons_self) rfl ⟨rfl, rfl⟩) (js_openS (i := 6) rfl (fun le hle => js_append (P := StepV) (je_var (i := 4) rfl rfl (vis_by rfl) rfl rfl) (JE.conv (je_tup (ja_cons (je_var (i := 6) rfl rfl (vis_by rfl) rfl rfl) (ja_cons (je_addE (je_var (i := 6) rfl rfl (vis_by rfl) rfl rfl) (je_draw (p := p) h_draw (hr.mono (by decide)) (ja_cons (je_var (i := 0) rfl rfl (vis_by rfl) rfl rfl) (ja_cons (je_add (je_var (i := 2) rfl rfl (vis_by rfl) rfl rfl) je_int) ja_nil rfl) rfl) ⟨by decide, by decide⟩ (List.mem_cons_of_mem _ List.mem_cons_self) rfl ⟨rfl, rfl⟩)) ja_nil rfl) rfl) (Nat.le_of_ble_eq_true rfl)) (fun v I h => step_of hle h)) (by rw [len_map, len_map, hC1.1]; exact line_len hm hz1) (js_openL fun s hs => js_turn (b1 ++ [s]) ⟨by rw [List.length_append, List.length_append, hC1.1]; rfl, fun x hx => (List.mem_append.mp hx).elim (hC1.2 x) (fun h => by rw [List.mem_singleton.mp h]; exact hs)⟩ (by simp) (And.intro rfl (And.intro rfl (And.intro rfl (And.intro rfl (And.intro rfl True.intro)))))) ⟨rfl, rfl⟩ rfl rfl rfl rfl)) nd (nm_by rfl rfl rfl) (Nat.le_of_ble_eq_true rfl) rfl)
            (fun N1 sb1 bs hC => js_sub sb1 (js_freezeD (i := 4) (ds := bs.map linkD) rfl (js_ret (P := LiV [LiV ((List.range m).map fun _ => Case), DatV (.list (bs.map linkD))]) (je_lst (ja_cons (je_lc0 (Lc.of (own := [("_law_turn", 5)]) (p := fun _ => true) (E := fun _ => Case) (ji_range (n := m) (je_var (i := 3) rfl rfl (vis_by rfl) rfl rfl) (by omega) (bi_range fr rfl) rfl) rfl (fun _ _ _ _ _ => qg_name nd (nm_by rfl rfl rfl)) (fun z hz => (jgr_name (i := 5))) (fun z hz => jq1 ⟨by decide, Nat.le_of_ble_eq_true rfl⟩) (fun z hz _ _ _ _ _ => jts_nil) (fun z hz hpz _ _ _ _ _ => (je_call (h_case p) (hr.mono (by decide)) (ja_cons (je_var (i := 0) rfl rfl (vis_by rfl) rfl rfl) ja_nil rfl) (has1 List.mem_cons_self) nd1 rfl rfl ⟨rfl, rfl⟩)) (by simp; omega)) rfl nd (fun _ => rfl)) (ja_cons (je_var (i := 4) rfl rfl (vis_by rfl) rfl rfl) ja_nil rfl) rfl) (Nat.le_of_ble_eq_true rfl)) (by exact fun v I H s p => ⟨I, s, line_of hm (by simpa using hC.1) hC.2 p⟩)))) (fun _ => rfl)) nd (nm_by rfl rfl rfl) (Nat.le_of_ble_eq_true rfl) rfl)) nd (nm_by rfl rfl rfl) (Nat.le_of_ble_eq_true rfl) rfl

theorem sc__law_times : FnScope ["_law_source", "_law_many", "_law_step", "_law_found", "_law_time", "_law_turn"] ["_law_source", "_law_many", "_law_step"] (defScope (top 60)) := ⟨rfl, rfl, rfl, by decide +kernel, rfl, by decide +kernel, by decide +kernel⟩
theorem w_times0 (ft : Ft K mg CB CR CT CN CL) (F : FunD K "_law_times" "_law_times" (defArgs (top 60)) (defBody (top 60)) (defScope (top 60)) [] [] f fd)  (h_draw : Fd P w K mg base "_law_draw" 1 DrawSp) {p : Addr} {m : Nat} (hm : m ≤ 7) : FnOk P w K mg base (L2.CX P w) 2 f fd ["_law_source", "_law_many", "_law_step"] (FSp [(p, srcO)] [EqV (.ref p), IntV ((m : Nat) : Int), IntV 6] (ExV (TimesOk m) fun ns => DatV (.list (ns.map PyData.int))) [(p, srcO)]) := by
  have fr := ft.fr
  refine ?_
  refine fn_rule F sc__law_times rfl fun cdv A outer s H E hr N => ?_
  have nd := sc__law_times.nd
  exact js_parN1 (i := 3) (j := 4) (fun pL => (je_draw (p := p) h_draw (hr.mono (by decide)) (ja_cons (je_var (i := 0) rfl rfl (vis_by rfl) rfl rfl) (ja_cons je_int ja_nil rfl) rfl) ⟨by decide, by decide⟩ (List.mem_cons_of_mem _ List.mem_cons_self) rfl ⟨rfl, rfl⟩))
        (fun pL => js_openS (i := 4) rfl (fun t0 ht0 => js_for (β := List Int × Int) (fun done bt => bt.1.length = done.length ∧ Asc bt.1 ∧ (∀ x ∈ bt.1, 0 ≤ x ∧ x < bt.2) ∧ 0 ≤ bt.2 ∧ bt.2 ≤ 7 + 7 * (done.length : Int)) (fun done bt => [(pL, lstO ((bt.1.map PyData.int).map DatV)), (p, srcO)]) (fun done bt => [some (EqV (.ref p)), some (IntV ((m : Nat) : Int)), some (IntV 6), some (EqV (.ref pL)), some (IntV bt.2), none]) (ji_range (n := m) (je_var (i := 1) rfl rfl (vis_by rfl) rfl rfl) (by omega) (bi_range fr rfl) rfl) (qg_name nd (nm_by rfl rfl rfl)) (fun z hz => (jgr_name (i := 5))) passO rfl ([], t0) ⟨rfl, True.intro, (fun x hx => by cases hx), ht0.1, by show t0 ≤ 7 + 7 * ((([] : List Nat).length : Nat) : Int); simp; omega⟩ rfl (And.intro rfl (And.intro rfl (And.intro rfl (And.intro rfl (And.intro rfl True.intro))))) (fun z hz done bt => jp1 (Nat.le_of_ble_eq_true rfl))
            (fun N1 sb1 done1 z1 post1 b1 hz1 hC1 => js_append (P := IntV b1.2) (je_var (i := 3) rfl rfl (vis_by rfl) rfl rfl) (je_var (i := 4) rfl rfl (vis_by rfl) rfl rfl) (by rw [len_map, len_map, hC1.1]; exact times_len hm hz1) (js_set (i := 4) (je_addE (je_add (je_var (i := 4) rfl rfl (vis_by rfl) rfl rfl) je_int) (je_draw (p := p) h_draw (hr.mono (by decide)) (ja_cons (je_var (i := 0) rfl rfl (vis_by rfl) rfl rfl) (ja_cons (je_var (i := 2) rfl rfl (vis_by rfl) rfl rfl) ja_nil rfl) rfl) ⟨by decide, by decide⟩ (List.mem_cons_of_mem _ List.mem_cons_self) rfl ⟨rfl, rfl⟩)) (js_openS (i := 4) rfl (fun t1 ht1 => js_turn (b1.1 ++ [b1.2], t1) (times_step hC1 ht1) (by simp) (And.intro rfl (And.intro rfl (And.intro rfl (And.intro rfl (And.intro rfl True.intro))))))) nd (nm_by rfl rfl rfl) (Nat.le_of_ble_eq_true rfl) rfl) ⟨rfl, rfl⟩ rfl rfl rfl rfl)
            (fun N1 sb1 bs hC => js_sub sb1 (js_freezeD (i := 3) (ds := bs.1.map PyData.int) rfl (js_ret (JE.ex (Rf := fun ns : List Int => DatV (.list (ns.map PyData.int))) (C := TimesOk m) (z := bs.1) (je_var (i := 3) rfl rfl (vis_by rfl) rfl rfl) (times_done hm hC)) (by exact fun v I H s p => ⟨I, s, p⟩)))) (fun _ => rfl))) rfl nd rfl rfl (by decide) rfl rfl (Nat.le_of_ble_eq_true rfl) (Nat.le_of_ble_eq_true rfl) rfl rfl rfl rfl

theorem w_law_times (ft : Ft K mg CB CR CT CN CL) (F : FunD K "_law_times" "_law_times" (defArgs (top 60)) (defBody (top 60)) (defScope (top 60)) [] [] f fd) (hm : mg "_law_times" = some (.ref f)) (h_draw : Fd P w K mg base "_law_draw" 1 DrawSp) : Fd P w K mg base "_law_times" 2 TimesSp :=
  ⟨f, fd, ["_law_source", "_law_many", "_law_step"], FnOk.union fun q hq => w_times0 ft F h_draw hq, hm, F.kp, F.bindsN fun _ _ _ _ _ _ us hl => match us, hl with | [_, _, _], _ => rfl⟩

theorem sc__law_talk : FnScope ["_law_source", "_law_most", "_law_step", "_law_outward", "_law_inward"] ["_law_source", "_law_most", "_law_step"] (defScope (top 61)) := ⟨rfl, rfl, rfl, by decide +kernel, rfl, by decide +kernel, by decide +kernel⟩
theorem w__law_talk (ft : Ft K mg CB CR CT CN CL) (F : FunD K "_law_talk" "_law_talk" (defArgs (top 61)) (defBody (top 61)) (defScope (top 61)) [] [] f fd) (hm : mg "_law_talk" = some (.ref f)) (h_draw : Fd P w K mg base "_law_draw" 1 DrawSp) (h_times : Fd P w K mg base "_law_times" 2 TimesSp) {p : Addr} : Fd P w K mg base "_law_talk" 3 (FSp [(p, srcO)] [EqV (.ref p), IntV 7, IntV 6] TalkOkV [(p, srcO)]) := by
  have fr := ft.fr
  refine ⟨f, fd, ["_law_source", "_law_most", "_law_step"], ?_, hm, F.kp, F.bindsN fun _ _ _ _ _ _ us hl => match us, hl with | [_, _, _], _ => rfl⟩
  refine fn_rule F sc__law_talk rfl fun cdv A outer s H E hr N => ?_
  have nd := sc__law_talk.nd
  exact js_set (i := 3) (je_callU (C := fun q : Addr × Nat => q.2 ≤ 7) (owf := fun q => [(q.1, srcO)]) (pf := fun q => [EqV (.ref q.1), IntV ((q.2 : Nat) : Int), IntV 6]) (Rf := fun q => ExV (TimesOk q.2) fun ns => DatV (.list (ns.map PyData.int))) (R := ExV (fun ns : List Int => ∃ m : Nat, (1 ≤ m ∧ m ≤ 7) ∧ TimesOk m ns) fun ns => DatV (.list (ns.map PyData.int))) h_times (hr.mono (by decide)) (ja_cons (je_var (i := 0) rfl rfl (vis_by rfl) rfl rfl) (ja_cons (je_addE je_int (je_draw (p := p) h_draw (hr.mono (by decide)) (ja_cons (je_var (i := 0) rfl rfl (vis_by rfl) rfl rfl) (ja_cons (je_var (i := 1) rfl rfl (vis_by rfl) rfl rfl) ja_nil rfl) rfl) ⟨by decide, by decide⟩ List.mem_cons_self rfl ⟨rfl, rfl⟩)) (ja_cons (je_var (i := 2) rfl rfl (vis_by rfl) rfl rfl) ja_nil rfl) rfl) rfl) times_hp1 (has1 List.mem_cons_self) nd1 rfl rfl ⟨rfl, rfl⟩) (js_set (i := 4) (je_callU (C := fun q : Addr × Nat => q.2 ≤ 7) (owf := fun q => [(q.1, srcO)]) (pf := fun q => [EqV (.ref q.1), IntV ((q.2 : Nat) : Int), IntV 6]) (Rf := fun q => ExV (TimesOk q.2) fun ns => DatV (.list (ns.map PyData.int))) (R := ExV (fun ns : List Int => ∃ m : Nat, m ≤ 7 ∧ TimesOk m ns) fun ns => DatV (.list (ns.map PyData.int))) h_times (hr.mono (by decide)) (ja_cons (je_var (i := 0) rfl rfl (vis_by rfl) rfl rfl) (ja_cons (je_draw (p := p) h_draw (hr.mono (by decide)) (ja_cons (je_var (i := 0) rfl rfl (vis_by rfl) rfl rfl) (ja_cons (je_add (je_var (i := 1) rfl rfl (vis_by rfl) rfl rfl) je_int) ja_nil rfl) rfl) ⟨by decide, by decide⟩ List.mem_cons_self rfl ⟨rfl, rfl⟩) (ja_cons (je_var (i := 2) rfl rfl (vis_by rfl) rfl rfl) ja_nil rfl) rfl) rfl) times_hp2 (has1 List.mem_cons_self) nd1 rfl rfl ⟨rfl, rfl⟩) (js_ret (je_lst (ja_cons (je_var (i := 3) rfl rfl (vis_by rfl) rfl rfl) (ja_cons (je_var (i := 4) rfl rfl (vis_by rfl) rfl rfl) (ja_cons (je_draw (p := p) h_draw (hr.mono (by decide)) (ja_cons (je_var (i := 0) rfl rfl (vis_by rfl) rfl rfl) (ja_cons je_int ja_nil rfl) rfl) ⟨by decide, by decide⟩ List.mem_cons_self rfl ⟨rfl, rfl⟩) ja_nil rfl) rfl) rfl) (Nat.le_of_ble_eq_true rfl)) (by exact fun v I H s p => ⟨I, s, talk_of p⟩)) nd (nm_by rfl rfl rfl) (Nat.le_of_ble_eq_true rfl) rfl) nd (nm_by rfl rfl rfl) (Nat.le_of_ble_eq_true rfl) rfl

end
end QD

/-! text QG12 -/
set_option Elab.async false
set_option linter.all false
set_option maxRecDepth 100000
set_option maxHeartbeats 4000000
/-! QG12: the law's source is made. -/
namespace QX
open PySem PySem.Spec PyProof.Rows L2 QL QD
/-- a list of ints that stands somewhere -/
def SqV (K : PySem.W.Frag) (ns : List Int) : Pr := ⟨fun v I => ∃ a : Addr, v = .ref a ∧ SqL K I a (ns.map V.int), fun {v I I'} e ⟨a, h1, h2⟩ => ⟨a, h1, by
  rcases h2 with h2 | h2
  · refine .inl ?_
    rcases h2 with h2 | ⟨o, h2⟩
    · exact .inl (e _ _ h2)
    · exact .inr ⟨o, e _ _ h2⟩
  · exact .inr h2⟩⟩
theorem sq_up {K : PySem.W.Frag} {ns : List Int} {a : Addr} {I H : Hp} (e : Same I H) (h : SqL K I a (ns.map V.int)) : SqL K H a (ns.map V.int) := by
  obtain ⟨b, h1, h2⟩ := (SqV K ns).up (v := .ref a) e ⟨a, rfl, h⟩
  cases h1
  exact h2
theorem dta_ints {I : Hp} : ∀ ns : List Int, DtA I (ns.map V.int) (ns.map PyData.int)
  | [] => .nil
  | n :: ns => .cons (.int n) (dta_ints ns)
section
variable {X : Cx} {N : Ent} {M rq : OwnM} {Γ : QL.Ctx} {a e : Expr} {es : List Expr} {ps : List Pr} {P R : Pr} {pos p2 : Pos} {rest : List Stmt} {D : L2.Ends} {k : Nat} {x : Str}
theorem je_cutSq {ns : List Int} {hi : Option Expr} {m : Nat} (ha : JE X N rq Γ a (SqV X.K ns)) (hh : JO X N rq Γ hi (some (m : Int))) : JE X N rq Γ (.Subscript a (.Slice none hi none p2) pos) (DatV (.list ((ns.take m).map PyData.int))) := fun M I H σ Q hm s t q => by
  obtain ⟨th, ph, kh⟩ := hh
  obtain ⟨tl, pl, kl⟩ := jo_none (X := X) (N := N) (rq := rq) (Γ := Γ)
  refine we_of (pe_slice sl_list we_pe pl ph) (ha M I H σ _ hm s t fun v I1 H1 s1 e1 p => kl M I1 H1 σ _ hm s1 (t.up e1) fun I2 H2 s2 e2 => kh M I2 H2 σ _ hm s2 (t.up (e1.trans e2)) fun I3 H3 s3 e3 => ?_)
  obtain ⟨b, rfl, hb⟩ := p
  have hb3 : SqL X.K H3 b (ns.map V.int) := sq_up ((e2.trans e3).trans s3.sub) hb
  refine ⟨_, _, rfl, hb3, fun r hr => q _ _ _ (s3.new hr) (((e1.trans e2).trans e3).trans (same_upd (fresh_of s3 hr))) ?_⟩
  refine Dt.lst upd_same ?_
  have c := DtA.cut (I := upd I3 r (.lst (cutV (ns.map V.int) none (some (m : Int))))) (dta_ints ns) none (some (m : Int))
  rw [cutD_take, ← List.map_take] at c
  exact c
/-- return [..], the caller's from now on -/
theorem js_retO {φ : OwnP} (he : JA X N M Γ es ps) (hl : ps.length ≤ 1000) (hφ : ∀ o I, (lstO ps).p o I → φ.p o I) (hD : ∀ p I H, S3 N ((p, φ) :: M) I H → D.rt (.ref p) H) : JS X (Tp N M Γ) (.Return (some (.List es pos)) p2 :: rest) D :=
  js_of (ps_ret (pe_lst wa_pa)) fun σ H ⟨hlen, I, s, t⟩ => he M I H σ _ (fun q hq => hq) s t fun vs I1 H1 s1 e1 tv => ⟨by rw [← tv.length, sizeLine_eq]; omega, fun p hp => hD p I1 _ ((s1.newO (φ := lstO ps) hp noT_lst ⟨vs, rfl, tv⟩).reown fun o => hφ o I1)⟩
/-- a promise: a new object is given -/
def FSo (ps : List Pr) (φ : OwnP) : Sp := fun vs H Q _ => ∃ I, S3 (Ent.call I H []) [] I H ∧ TyL ps vs I ∧ ∀ p I' H', S3 (Ent.call I H []) [(p, φ)] I' H' → Q (.ref p) H'
/-- x = f(..), a new object that is ours -/
theorem js_setO {φ : OwnP} {i : Nat} {y : Str} {p' pos3 : Pos} (F : FdG X.prog X.w X.K X.mg X.base x k (FSo ps φ)) (hr : Room k X.A) (hG : X.A.guards = some []) (ha : JA X N M Γ (e :: es) ps) (hg : Gl X x) (hdb : (x == ("__debug__" : Str)) = false) (A : Ar X e es pos)
    (hrest : ∀ p : Addr, JS X (Tp N ((p, φ) :: M) (Γ.set i (some (EqV (.ref p))))) rest D) (hN : X.N.Nodup) (n : Nm X y i) (hi : i < Γ.length) (hs : swapsWith (.Call (.Name x p2) (e :: es) [] pos) (some (.Name y p')) pos3.line X.env = pure false) :
    JS X (Tp N M Γ) (.Assign [.Name y p'] (.Call (.Name x p2) (e :: es) [] pos) pos3 :: rest) D := by
  obtain ⟨f, fd, pn, F, hm, hk, hb⟩ := F
  refine js_of (ps_set hN n.hi n.hx (pe_callG F hr hG hg hm hk hb passF wa_pa hdb A.he A.hpl) hs n.hf) fun σ H ⟨hlen, I, s, t⟩ => ?_
  refine ha M I H σ _ (fun q hq => hq) s t fun vs I1 H1 s1 e1 p => ?_
  refine ⟨I1, s1.enter has_nil .nil, p, fun p I' H' s' => ?_⟩
  have e2 : Same I1 I' := s'.ii
  -- the callee's end, told without what it gives
  obtain ⟨s2, _⟩ := s1.back has_nil s'.forget
  obtain ⟨⟨o, h1, h2, h3⟩, h4⟩ := s'.own (p, φ) List.mem_cons_self
  have hp1 : H1 p = none := by
    rcases s'.fm (p, φ) List.mem_cons_self with z | z
    · cases z
    · exact z
  have hNp : N.H p = none ∨ p ∈ N.dm := s1.nh hp1
  refine hrest p _ _ ⟨by rw [List.length_set, List.length_set]; exact hlen, I', ?_, ((t.up (e1.trans e2)).set (by omega) rfl)⟩
  refine ⟨s2.sub, fun q hq => ?_, ?_, s2.keep, s2.ii, s2.fr, fun q hq => ?_, s2.tab, s2.dmk, s2.nt⟩
  · rcases List.mem_cons.mp hq with e | hq
    · rw [e]; exact ⟨⟨o, h1, h2, h3⟩, h4⟩
    · exact s2.own q hq
  · rw [List.map_cons]
    refine List.nodup_cons.mpr ⟨fun hm => ?_, s2.nd⟩
    obtain ⟨q, hq, e⟩ := List.mem_map.mp hm
    obtain ⟨⟨o', k1, _⟩, _⟩ := s1.own q hq
    rw [e, hp1] at k1
    cases k1
  · rcases List.mem_cons.mp hq with e | hq
    · rw [e]; exact hNp.elim .inr .inl
    · exact s2.fm q hq
end
section
variable {P : Program} {w : World} {K : PySem.W.Frag} {mg : Str → Option Value} {base : Heap} {f : Addr} {fd : FuncData} {x qual : Str} {params : Arguments} {body : List Stmt} {scope : Scope} {dvs : List V} {kws : List (Str × V)} {Ns pn : List Str} {k : Nat} {ps : List Pr} {φ : OwnP}
theorem fnO_rule (F : FunD K x qual params body scope dvs kws f fd) (S : FnScope Ns pn scope) (hl : ps.length = pn.length)
    (hb : ∀ (cdv : Value) (A : Around) (outer : List Env) (s : Shared) (H : Hp) (E : XK), Room k (bx P w K mg base Ns qual scope f cdv A outer s H E).A → ∀ N : Ent, JS (bx P w K mg base Ns qual scope f cdv A outer s H E) (Tp N [] (startC Ns.length ps)) body { nx := fun _ _ => False, rt := fun v H' => ∃ p I', v = .ref p ∧ S3 N [(p, φ)] I' H' }) :
    FnG P w K mg base (k + 1) f fd pn (FSo ps φ) :=
  fnG_raw F S (fun vs H Q E h => by
      obtain ⟨I, _, t, _⟩ := h
      rw [← t.length]; exact hl) fun cdv A outer s H vs Q E hr hg h => by
    obtain ⟨I, s3, t, q⟩ := h
    have B := hb cdv A outer s H E hr (Ent.call I H [])
    have hlen : (L2.start Ns vs).length = (startC Ns.length ps).length := by
      unfold L2.start startC
      simp only [List.length_append, List.length_map, List.length_replicate]
      rw [t.length]
    exact (B.weakD (D' := { nx := fun _ H' => Q .non H', rt := Q }) (fun _ H' z => z.elim) fun v H' ⟨p, I', e, s'⟩ => by rw [e]; exact q p I' H' s') _ _ ⟨hlen, I, s3, ty_start t⟩
end
theorem sc__law_begin : FnScope ["_law_script"] ["_law_script"] (defScope (top 53)) := ⟨rfl, rfl, rfl, by decide +kernel, rfl, by decide +kernel, by decide +kernel⟩
section
variable {P : Program} {w : World} {K : PySem.W.Frag} {mg : Str → Option Value} {base : Heap} {CB CR CT CN CL : Addr} {f : Addr} {fd : FuncData}
theorem w_law_begin (ft : Ft K mg CB CR CT CN CL) (F : FunD K "_law_begin" "_law_begin" (defArgs (top 53)) (defBody (top 53)) (defScope (top 53)) [] [] f fd) (hm : mg "_law_begin" = some (.ref f)) {ns : List Int} : FdG P w K mg base "_law_begin" 1 (FSo [SqV K ns] srcO) := by
  have fr := ft.fr
  refine ⟨f, fd, ["_law_script"], ?_, hm, F.kp, F.bindsN fun _ _ _ _ _ _ us hl => match us, hl with | [_], _ => rfl⟩
  refine fnO_rule F sc__law_begin rfl fun cdv A outer s H E hr N => ?_
  exact js_retO (ps := [DatV (.list ((ns.take 63).map PyData.int)), IntV 0, IntV 0, IntV 7]) (ja_cons (je_listD (je_cutSq (m := 63) (je_var (i := 0) rfl rfl (vis_by rfl) rfl rfl) (jo_some je_int)) (.dl _) (bi_list fr rfl) ⟨rfl, rfl⟩) (ja_cons je_int (ja_cons je_int (ja_cons je_int ja_nil rfl) rfl) rfl) rfl) (Nat.le_of_ble_eq_true rfl) (fun o I h => srcI (c := ns.take 63) (i := 0) (a := 0) (e := 7) o I h) (fun p I H s => ⟨p, I, rfl, s⟩)
end
end QX

/-! text QG13 -/
set_option Elab.async false
set_option linter.all false
set_option maxRecDepth 100000
set_option maxHeartbeats 4000000
/-! QG13: x, y, z = a, b, [] by the tuple. -/
namespace QX
open PySem PySem.Spec PyProof.Rows L2 QL QD
section
variable {X : Cx} {N : Ent} {M : OwnM} {Γ : QL.Ctx} {a b : Expr} {P P' : Pr} {pos : Pos} {rest : List Stmt} {D : L2.Ends} {tg : Expr}
theorem js_asgN {g : TG} {jp : Addr → List (Nat × Pr)} {p2 pt2 : Pos} {k2 : Nat} (ha : JE X N M Γ a P) (hb : JE X N M Γ b P') (hg : PG X tg g) (hj : ∀ p, JGr g (TuV [P, P', EqV (.ref p)]) (jp p))
    (hr : ∀ p : Addr, JS X (Tp N ((p, lstO []) :: M) (setC Γ (jp p))) rest D) (hi : ∀ p, ∀ q ∈ jp p, q.1 < Γ.length)
    (he : starEach [a, b, .List [] p2] X.env = (false, eval a X.env) :: starEach [b, .List [] p2] X.env) (he2 : starEach [b, .List [] p2] X.env = (false, eval b X.env) :: starEach [.List [] p2] X.env) (he3 : starEach [.List [] p2] X.env = (false, eval (.List [] p2) X.env) :: starEach [] X.env)
    (hs : swapsWithSole [tg] (.Tuple [a, b, .List [] p2] k2 pt2) pos.line X.env = pure false) (hw : swappedStores [tg] (.Tuple [a, b, .List [] p2] k2 pt2) X.env = pure none) (h1 : (assignEach [tg] X.env).map (·.2) = [assign tg X.env]) : JS X (Tp N M Γ) (.Assign [tg] (.Tuple [a, b, .List [] p2] k2 pt2) pos :: rest) D :=
  js_of (ps_asg (pe_tup (pa_cons we_pe (pa_cons we_pe (pa_cons (pe_lst pa_nil) pa_nil he3) he2) he)) hg hs hw h1) fun σ H ⟨hl, I, s, t⟩ =>
    ha M I H σ _ (fun q hq => hq) s t fun x I1 H1 s1 e1 px => hb M I1 H1 σ _ (fun q hq => hq) s1 (t.up e1) fun y I2 H2 s2 e2 py => ⟨Nat.zero_le _, fun p hp => by
      have s3 := s2.newO (φ := lstO []) hp noT_lst ⟨[], rfl, True.intro⟩
      refine ⟨by rw [sizeLine_eq]; show (3 : Nat) ≤ 16777216; decide, fun q hq => ?_⟩
      have s4 := s3.new (o := .tup [x, y, .ref p]) hq
      have e3 := same_upd (o := HO.tup [x, y, .ref p]) (fresh_of s3 hq)
      refine hj p _ _ σ (.ref q) _ s4.sub ⟨q, [x, y, .ref p], rfl, upd_same, P.up (e2.trans e3) px, P'.up e3 py, rfl, True.intro⟩ fun ws tw => nx_keep (hr p) (by rw [setAll_len, setC_len]; exact hl) s4 (Ty.setAll (t.up ((e1.trans e2).trans e3)) (fun q hq => by rw [hl]; exact hi p q hq) tw)⟩
/-- a call by a promise of a family, where no guard runs -/
theorem je_callGU {rq : OwnM} {β : Type} {C : β → Prop} {x : Str} {ps' : List Pr} {pf : β → List Pr} {R : Pr} {e : Expr} {es : List Expr} {k : Nat} {p2 pos : Pos} (F : FdG X.prog X.w X.K X.mg X.base x k (fun vs H Q E => ∃ b, C b ∧ FSp [] (pf b) R [] vs H Q E)) (hr : Room k X.A) (hG : X.A.guards = some []) (ha : JA X N rq Γ (e :: es) ps')
    (hp : ∀ vs I, TyL ps' vs I → ∃ b, C b ∧ TyL (pf b) vs I) (hg : Gl X x) (hdb : (x == ("__debug__" : Str)) = false) (A : Ar X e es pos) : JE X N rq Γ (.Call (.Name x p2) (e :: es) [] pos) R := by
  obtain ⟨f, fd, pn, F, hm, hk, hb⟩ := F
  exact fun M I H σ Q hM s t q => we_of (pe_callG F hr hG hg hm hk hb passF wa_pa hdb A.he A.hpl) (ha M I H σ _ hM s t fun vs I1 H1 s1 e1 p => by
    obtain ⟨b, hb1, hb2⟩ := hp vs I1 p
    exact ⟨b, hb1, I1, s1.enter has_nil .nil, hb2, fun v I' H' s' r => by
      obtain ⟨s2, e2⟩ := s1.back has_nil s'
      exact q v I' H' s2 (e1.trans e2) r⟩)
end
theorem pre_range {n z : Nat} {done post : List Nat} (h : List.range n = done ++ z :: post) : done = List.range z ∧ done.length = z ∧ z < n := by
  have hz : (List.range n)[done.length]? = some z := by rw [h, List.getElem?_append_right (Nat.le_refl _)]; simp
  rw [List.getElem?_range (by
    have := congrArg List.length h
    simp at this
    omega)] at hz
  have hl : done.length = z := Option.some.inj hz
  have hn : z < n := by
    have := congrArg List.length h
    simp at this
    omega
  refine ⟨?_, hl, hn⟩
  have h2 := congrArg (List.take z) h
  rw [← hl, List.take_left, hl, List.take_range, Nat.min_eq_left (Nat.le_of_lt hn)] at h2
  rw [← h2]
end QX

/-! text QG14 -/
set_option Elab.async false
set_option linter.all false
set_option maxRecDepth 100000
set_option maxHeartbeats 4000000
/-! QG14: facts for the law's own body. -/
namespace QX
open PySem PySem.Spec PyProof.Rows L2 QL QD
def twoD (q : Pair) : PyData := .tuple [letD q.2.1, letD q.2.2]
theorem twoD_lay (q : Pair) : (twoD q).canLay0 = true := by simp only [twoD, PyData.canLay0, PyData.canLayAll0, letD_lay, Bool.and_self]
theorem twoD_depth (q : Pair) : (twoD q).depth = 2 := by simp [twoD, PyData.depth, PyData.depthAll, letD_depth]
theorem twos_lay : ∀ {xs : List Pair}, PyData.canLayAll0 (xs.map twoD) = true
  | [] => rfl
  | x :: xs => by simp only [List.map_cons, PyData.canLayAll0, twoD_lay, twos_lay (xs := xs), Bool.and_self]
theorem twos_depth : ∀ {xs : List Pair}, PyData.depthAll (xs.map twoD) ≤ 2
  | [] => by simp [PyData.depthAll]
  | x :: xs => by
    have h := twos_depth (xs := xs)
    simp only [List.map_cons, PyData.depthAll, twoD_depth]
    omega
theorem twos_sd {xs : List Pair} : SeqAt.shaped (.list (xs.map twoD)) = true := shaped_of (by simp only [PyData.canLay0]; exact twos_lay) (by have := twos_depth (xs := xs); simp only [PyData.depth]; omega)
theorem nil_sd : SeqAt.shaped (.list []) = true := by decide +kernel
theorem ends_sd (o : Option (Let × Let)) : SeqAt.shaped (endsD o) = true := by
  cases o with
  | none => decide +kernel
  | some p => exact shaped_of (by simp only [endsD, PyData.canLay0, PyData.canLayAll0, letD_lay, Bool.and_self]) (by simp [endsD, PyData.depth, PyData.depthAll, letD_depth])
theorem ends_eqv (o : Option (Let × Let)) : PyData.eqv (endsD o) (endsD o) = true := by
  cases o with
  | none => decide +kernel
  | some p =>
    have h1 : PyData.eqv (letD p.1) (letD p.1) = true := by rw [letD_eqv]; simp
    have h2 : PyData.eqv (letD p.2) (letD p.2) = true := by rw [letD_eqv]; simp
    simp only [endsD, PyData.eqv, PyData.eqvAll, h1, h2, Bool.and_self]
theorem ints_lay : ∀ {ns : List Int}, PyData.canLayAll0 (ns.map PyData.int) = true
  | [] => rfl
  | n :: ns => by simp only [List.map_cons, PyData.canLayAll0, PyData.canLay0, ints_lay (ns := ns), Bool.and_self]
theorem ints_depth : ∀ {ns : List Int}, PyData.depthAll (ns.map PyData.int) = 0
  | [] => rfl
  | n :: ns => by simp only [List.map_cons, PyData.depthAll, PyData.depth, ints_depth (ns := ns)]; rfl
theorem ints_sdT {ns : List Int} : SeqAt.shaped (.tuple (ns.map PyData.int)) = true := shaped_of (by simp only [PyData.canLay0]; exact ints_lay) (by simp only [PyData.depth, ints_depth]; omega)
theorem ints_sdL {ns : List Int} : SeqAt.shaped (.list (ns.map PyData.int)) = true := shaped_of (by simp only [PyData.canLay0]; exact ints_lay) (by simp only [PyData.depth, ints_depth]; omega)
theorem ints_eqvA : ∀ {ns : List Int}, PyData.eqvAll (ns.map PyData.int) (ns.map PyData.int) = true
  | [] => rfl
  | n :: ns => by simp [PyData.eqvAll, PyData.eqv, ints_eqvA (ns := ns)]
theorem ints_eqv {ns : List Int} : PyData.eqv (.tuple (ns.map PyData.int)) (.tuple (ns.map PyData.int)) = true := by simp only [PyData.eqv]; exact ints_eqvA
theorem nil_eqv {ns : List Int} : PyData.eqv (.list (ns.map PyData.int)) (.list []) = ns.isEmpty := by cases ns <;> simp [PyData.eqv, PyData.eqvAll]
theorem nil_eqv2 {xs : List Pair} : PyData.eqv (.list (xs.map twoD)) (.list []) = xs.isEmpty := by cases xs <;> simp [PyData.eqv, PyData.eqvAll]
def loOf (l : Line) (k : Nat) : Int := ((l.boxes[k]?).map (·.lo)).getD 0
theorem loOf_at {l : Line} {k : Nat} (h : k < l.boxes.length) : loOf l k = (l.boxes[k]).lo := by simp [loOf, List.getElem?_eq_getElem h]
theorem kept_safe (l : Line) (t : Tk) : ((List.range l.boxes.length).filter fun k => decide (loOf l k ≤ gapOf l t k)).isEmpty = keptOf l t := by
  rw [Bool.eq_iff_iff]
  simp only [List.isEmpty_iff, List.filter_eq_nil_iff, List.mem_range, decide_eq_true_eq, keptOf, List.all_map, List.all_eq_true, Function.comp, id_eq]
  constructor
  · intro h z hz
    obtain ⟨i, hi⟩ := List.mem_iff_getElem?.mp hz
    rw [List.getElem?_zip_eq_some, List.getElem?_map] at hi
    obtain ⟨h1, h2⟩ := hi
    have hn : i < l.boxes.length := (List.getElem?_eq_some_iff.mp h2).1
    rw [List.getElem?_range hn] at h1
    have e1 : gapOf l t i = z.1 := Option.some.inj h1
    have e2 : loOf l i = z.2.lo := by simp [loOf, h2]
    have := h i hn
    omega
  · intro h k hk
    have : gapOf l t k < (l.boxes[k]).lo := h (gapOf l t k, l.boxes[k]) (List.mem_iff_getElem?.mpr ⟨k, by rw [List.getElem?_zip_eq_some, List.getElem?_map, List.getElem?_range hk]; exact ⟨rfl, List.getElem?_eq_getElem hk⟩⟩)
    rw [loOf_at hk]
    omega
theorem ends_head (l : Line) (t : Tk) (b : Nat) : (((pairsOf l t b).filter fun p => decide (p.1 = gapOf l t b)).head?).map (·.2) = endsOf l t b := by
  unfold endsOf
  rw [List.head?_filter]
section
variable {X : Cx} {N : Ent} {rq : OwnM} {Γ : QL.Ctx} {e e2 : Expr} {pos p1 p2 p3 p4 p5 : Pos} {j j2 : Nat}
theorem je_hd {xs : List Pair} (hu : X.A.units + 64 < cLine) (hv : JE X N rq Γ e (DatV (.list (xs.map twoD)))) (hv2 : JE X N rq Γ e2 (DatV (.list (xs.map twoD)))) : JE X N rq Γ (.IfExp (.Compare e [.NotEq] [.List [] p1] p2) (.Subscript e2 (.Constant (.int 0) j p3) p4) (.Constant .none j2 p5) pos) (DatV (endsD (xs.head?.map (·.2)))) := by
  have c := jct (jc_neD (pos := p2) hu hv (je_lstD (pos := p1) jd_nil (Nat.zero_le _)) twos_sd nil_sd)
  rw [nil_eqv2] at c
  cases xs with
  | nil => exact je_if c (fun h => by cases h) (fun _ => je_non)
  | cons q r => exact je_if c (fun _ => je_ixL (d := twoD q) hv2 je_int (atI_nat (j := 0) (v := twoD q) (by simp)) (fun _ _ => rfl)) (fun h => by cases h)
end
theorem at_last {done : List Nat} {z : Nat} (f : Nat → Int) (h : done.length = z) : atI ((((done.map f).map PyData.int).map DatV) ++ [IntV (f z)]) (z : Int) = some (IntV (f z)) := by
  refine atI_nat ?_
  rw [List.getElem?_append_right (by simp [h])]
  simp [h]
end QX

/-! text QFO -/
set_option Elab.async false
set_option linter.all false
set_option maxRecDepth 100000
set_option maxHeartbeats 4000000
/-! QFO: the law. Printed by fo.py. -/
namespace QD
open PySem PySem.Spec PyProof.Rows L2 QL QX
section
variable {P : Program} {w : World} {K : PySem.W.Frag} {mg : Str → Option Value} {base : Heap} {CB CR CT CN CL : Addr} {f : Addr} {fd : FuncData}

theorem hp5 {l : Line} {t : Tk} {vs : List V} {I : Hp} (h : TyL [DatV (lineD l), DatV (talkD t), RowV CR CB l, TalkV CT t, Drawn (l.boxes.length : Int)] vs I) : ∃ b : Nat, b < l.boxes.length ∧ TyL [DatV (lineD l), DatV (talkD t), RowV CR CB l, TalkV CT t, IntV (b : Int)] vs I := by
  match vs, h with
  | [v1, v2, v3, v4, v5], ⟨h1, h2, h3, h4, ⟨d, ⟨d0, d1⟩, h5⟩, _⟩ =>
    obtain ⟨k, rfl⟩ : ∃ k : Nat, d = (k : Int) := ⟨d.toNat, by omega⟩
    exact ⟨k, by omega, h1, h2, h3, h4, h5, True.intro⟩

theorem sc_law : FnScope ["_law_script", "_law_source", "_law_turn", "_law_line_here", "_law_talk_here", "_law_row_here", "_law_made", "_law_most", "_law_b", "_law_some", "_law_pairs", "_law_long", "_law_one", "_law_other", "_law_is_safe"] ["_law_script"] (defScope (top 75)) := ⟨rfl, rfl, rfl, by decide +kernel, rfl, by decide +kernel, by decide +kernel⟩
theorem w_law (ft : Ft K mg CB CR CT CN CL) (F : FunD K "law" "law" (defArgs (top 75)) (defBody (top 75)) (defScope (top 75)) [] [] f fd)  (h_begin : ∀ ns : List Int, FdG P w K mg base "_law_begin" 1 (FSo [SqV K ns] srcO)) (h_line : ∀ p : Addr, Fd P w K mg base "_law_line" 4 (FSp [(p, srcO)] [EqV (.ref p), IntV 4, IntV 4] LineV [(p, srcO)])) (h_talk : ∀ p : Addr, Fd P w K mg base "_law_talk" 3 (FSp [(p, srcO)] [EqV (.ref p), IntV 7, IntV 6] TalkOkV [(p, srcO)])) (h_row : ∀ l : Line, LineOk l → Fd P w K mg base "_law_row" 7 (FSp [] [DatV (lineD l)] (RowV CR CB l) [])) (h_made : ∀ t : Tk, TkOk t → Fd P w K mg base "_law_made_talk" 6 (FSp [] [DatV (talkD t)] (TalkV CT t) [])) (h_gaps : ∀ (l : Line) (t : Tk) (b : Nat), LineOk l → TkOk t → b < l.boxes.length → Fd P w K mg base "_law_gaps" 4 (FSp [] [DatV (lineD l), DatV (talkD t), IntV (b : Int)] (DatV (.list ((pairsOf l t b).map pairD))) [])) (h_great : ∀ (l : Line) (t : Tk) (b : Nat), LineOk l → TkOk t → b < l.boxes.length → Fd P w K mg base "_law_greatest" 5 (FSp [] [DatV (lineD l), DatV (talkD t), IntV (b : Int)] (IntV (gapOf l t b)) [])) (h_gap : ∀ (l : Line) (t : Tk) (b : Nat), LineOk l → TkOk t → b < l.boxes.length → Fd P w K mg base "gap" 8 (FSp [] [RowV CR CB l, TalkV CT t, IntV (b : Int)] (IntV (gapOf l t b)) [])) (h_ends : ∀ (l : Line) (t : Tk) (b : Nat), LineOk l → TkOk t → b < l.boxes.length → Fd P w K mg base "ends" 8 (FSp [] [RowV CR CB l, TalkV CT t, IntV (b : Int)] (DatV (endsD (endsOf l t b))) [])) (h_pairs : ∀ (l : Line) (t : Tk), LineOk l → TkOk t → FdG P w K mg base "_law_pairs_right" 9 (fun vs H Q E => ∃ b : Nat, b < l.boxes.length ∧ FSp [] [DatV (lineD l), DatV (talkD t), RowV CR CB l, TalkV CT t, IntV (b : Int)] (BlV true) [] vs H Q E)) (h_draw : Fd P w K mg base "_law_draw" 1 DrawSp) (h_len : ∀ l : Line, Fm P w K mg base CR "__len__" 1 (FSp [] [RowV CR CB l] (IntV (l.boxes.length : Int)) [])) (h_pgaps : ∀ (l : Line) (t : Tk), LineOk l → TkOk t → Fd P w K mg base "gaps" 9 (FSp [] [RowV CR CB l, TalkV CT t] (DatV (.tuple (((List.range l.boxes.length).map (gapOf l t)).map PyData.int))) [])) (h_kept : ∀ (l : Line) (t : Tk), LineOk l → TkOk t → Fd P w K mg base "is_kept" 10 (FSp [] [RowV CR CB l, TalkV CT t] (BlV (keptOf l t)) [])) {T : List (Addr × Str)} (h_ref : ∀ (l : Line) (t : Tk) (p : Addr), LineOk l → TkOk t → FdG P w K mg base "_law_refuses" 8 (FSt T [(p, srcO)] [EqV (.ref p), RowV CR CB l, TalkV CT t, DatV (talkD t)] (BlV true))) {ns : List Int} : FnG P w K mg base 11 f fd ["_law_script"] (FSt T [] [SqV K ns] (BlV true)) := by
  have fr := ft.fr
  refine ?_
  refine fnT_rule F sc_law rfl fun oc od dV kV doc pm an cdv ct osl efd lk A outer s H E hr hG N hNT hT => ?_
  have nd := sc_law.nd
  exact js_setO (i := 1) (h_begin ns) (hr.mono (by decide)) hG (ja_cons (je_var (i := 0) rfl rfl (vis_by rfl) rfl rfl) ja_nil rfl) rfl rfl ⟨rfl, rfl⟩
      (fun p => js_for (fun done bt => True) (fun done bt => [(p, srcO)]) (fun done bt => [some (SqV K ns), some (EqV (.ref p)), none, none, none, none, none, none, none, none, none, none, none, none, none]) (ji_range (n := 4) (JE.cast (P' := IntV ((4 : Nat) : Int)) je_int rfl) (by decide) (bi_range fr rfl) rfl) (qg_name nd (nm_by rfl rfl rfl)) (fun z hz => (jgr_name (i := 2))) passO rfl () trivial rfl (And.intro rfl (And.intro rfl True.intro)) (fun z hz done bt => jp1 (Nat.le_of_ble_eq_true rfl))
      (fun N1 sb1 done1 z1 post1 b1 hz1 hC1 => js_asg (je_tup (ja_cons (je_call (h_line p) (hr.mono (by decide)) (ja_cons (je_var (i := 1) rfl rfl (vis_by rfl) rfl rfl) (ja_cons je_int (ja_cons je_int ja_nil rfl) rfl) rfl) (has1 (by first | exact List.mem_cons_self | exact List.mem_cons_of_mem _ List.mem_cons_self)) nd1 rfl rfl ⟨rfl, rfl⟩) (ja_cons (je_call (h_talk p) (hr.mono (by decide)) (ja_cons (je_var (i := 1) rfl rfl (vis_by rfl) rfl rfl) (ja_cons je_int (ja_cons je_int ja_nil rfl) rfl) rfl) (has1 (by first | exact List.mem_cons_self | exact List.mem_cons_of_mem _ List.mem_cons_self)) nd1 rfl rfl ⟨rfl, rfl⟩) ja_nil rfl) rfl) (Nat.le_of_ble_eq_true rfl)) (qg_tup2 rfl nd (nm_by rfl rfl rfl) (nm_by rfl rfl rfl)) (jgr_tup2 (i := 3) (j := 4))
      (js_openS (i := 3) rfl (fun l hl => js_openS (i := 4) rfl (fun t ht => js_asgN (jp := fun pM => [(5, RowV CR CB l), (6, TalkV CT t), (7, EqV (.ref pM))]) (je_call (h_row l hl) (hr.mono (by decide)) (ja_cons (je_var (i := 3) rfl rfl (vis_by rfl) rfl rfl) ja_nil rfl) has_nil .nil rfl rfl ⟨rfl, rfl⟩) (je_call (h_made t ht) (hr.mono (by decide)) (ja_cons (je_var (i := 4) rfl rfl (vis_by rfl) rfl rfl) ja_nil rfl) has_nil .nil rfl rfl ⟨rfl, rfl⟩) (qg_tup3 rfl nd (nm_by rfl rfl rfl) (nm_by rfl rfl rfl) (nm_by rfl rfl rfl)) (fun pM => jgr_tup3 (i := 5) (j := 6) (l := 7))
      (fun pM => js_for (fun done bt => True) (fun done bt => [(pM, lstO (((done.map (gapOf l t)).map PyData.int).map DatV)), (p, srcO)]) (fun done bt => [some (SqV K ns), some (EqV (.ref p)), none, some (DatV (lineD l)), some (DatV (talkD t)), some (RowV CR CB l), some (TalkV CT t), some (EqV (.ref pM)), none, none, none, none, none, none, none]) (ji_range (n := l.boxes.length) (JE.cast (je_len (je_ixL (je_var (i := 3) rfl rfl (vis_by rfl) rfl rfl) je_int rfl (fun _ _ => rfl)) (by first | exact .dl _ | exact .dt _ | exact .tu _ | exact .li _) (bi_len fr rfl) ⟨rfl, rfl⟩) (by rw [len_map])) (by have := hl.n4; omega) (bi_range fr rfl) rfl) (qg_name nd (nm_by rfl rfl rfl)) (fun z hz => (jgr_name (i := 8))) passO rfl () trivial rfl (And.intro rfl (And.intro rfl (And.intro rfl (And.intro rfl (And.intro rfl (And.intro rfl (And.intro rfl True.intro))))))) (fun z hz done bt => jp1 (Nat.le_of_ble_eq_true rfl))
      (fun N2 sb2 done2 z2 post2 b2 hz2 hC2 => have hb := (pre_range hz2).2.2; have hd := (pre_range hz2).2.1; js_set (i := 9) (je_call (h_gaps l t z2 hl ht hb) (hr.mono (by decide)) (ja_cons (je_var (i := 3) rfl rfl (vis_by rfl) rfl rfl) (ja_cons (je_var (i := 4) rfl rfl (vis_by rfl) rfl rfl) (ja_cons (je_var (i := 8) rfl rfl (vis_by rfl) rfl rfl) ja_nil rfl) rfl) rfl) has_nil .nil rfl rfl ⟨rfl, rfl⟩)
      (js_append (je_var (i := 7) rfl rfl (vis_by rfl) rfl rfl) (je_call (h_great l t z2 hl ht hb) (hr.mono (by decide)) (ja_cons (je_var (i := 3) rfl rfl (vis_by rfl) rfl rfl) (ja_cons (je_var (i := 4) rfl rfl (vis_by rfl) rfl rfl) (ja_cons (je_var (i := 8) rfl rfl (vis_by rfl) rfl rfl) ja_nil rfl) rfl) rfl) has_nil .nil rfl rfl ⟨rfl, rfl⟩) (by have := hl.n4; simp only [List.length_map]; omega)
      (js_setLcD (i := 10) (Lc.of (own := [("_law_long", 11), ("_law_one", 12), ("_law_other", 13)]) (p := fun q : Pair => decide (q.1 = gapOf l t z2)) (E := fun q : Pair => DatV (twoD q)) (ji_dlM (zs := pairsOf l t z2) (f := pairD) (je_var (i := 9) rfl rfl (vis_by rfl) rfl rfl)) rfl (fun _ _ _ _ _ => qg_tup3 rfl nd (nm_by rfl rfl rfl) (nm_by rfl rfl rfl) (nm_by rfl rfl rfl)) (fun z hz => (jgr_tup3D (i := 11) (j := 12) (l := 13))) (fun z hz => jq3 ⟨by decide, Nat.le_of_ble_eq_true rfl⟩ ⟨by decide, Nat.le_of_ble_eq_true rfl⟩ ⟨by decide, Nat.le_of_ble_eq_true rfl⟩) (fun z hz _ _ _ _ _ => jts_one (jct (jc_eqI (je_var (i := 11) rfl rfl (vis_by rfl) rfl rfl) (je_ixO (je_var (i := 7) rfl rfl (vis_by rfl) rfl rfl) (je_var (i := 8) rfl rfl (vis_by rfl) rfl rfl) List.mem_cons_self (at_last (gapOf l t) hd) (fun _ _ => rfl))))) (fun z hz hpz _ _ _ _ _ => (je_tupD (jd_cons (je_var (i := 12) rfl rfl (vis_by rfl) rfl rfl) (jd_cons (je_var (i := 13) rfl rfl (vis_by rfl) rfl rfl) jd_nil rfl) rfl) (Nat.le_of_ble_eq_true rfl))) (by have := pairs_len (l := l) (b := z2) ht; omega))
      (js_guard (jt_w (jw_or (jct (jc_neI (je_call (h_gap l t z2 hl ht hb) (hr.mono (by decide)) (ja_cons (je_var (i := 5) rfl rfl (vis_by rfl) rfl rfl) (ja_cons (je_var (i := 6) rfl rfl (vis_by rfl) rfl rfl) (ja_cons (je_var (i := 8) rfl rfl (vis_by rfl) rfl rfl) ja_nil rfl) rfl) rfl) has_nil .nil rfl rfl ⟨rfl, rfl⟩) (je_ixO (je_var (i := 7) rfl rfl (vis_by rfl) rfl rfl) (je_var (i := 8) rfl rfl (vis_by rfl) rfl rfl) List.mem_cons_self (at_last (gapOf l t) hd) (fun _ _ => rfl)))) (fun hb4 => (jw_or1 (jct (jc_neD hr.units (je_call (h_ends l t z2 hl ht hb) (hr.mono (by decide)) (ja_cons (je_var (i := 5) rfl rfl (vis_by rfl) rfl rfl) (ja_cons (je_var (i := 6) rfl rfl (vis_by rfl) rfl rfl) (ja_cons (je_var (i := 8) rfl rfl (vis_by rfl) rfl rfl) ja_nil rfl) rfl) rfl) has_nil .nil rfl rfl ⟨rfl, rfl⟩) (JE.cast (P' := DatV (endsD (endsOf l t z2))) (je_hd (xs := (pairsOf l t z2).filter fun q => decide (q.1 = gapOf l t z2)) hr.units (je_var (i := 10) rfl rfl (vis_by rfl) rfl rfl) (je_var (i := 10) rfl rfl (vis_by rfl) rfl rfl)) (by rw [ends_head])) (ends_sd _) (ends_sd _))))))) (fun hc3 => absurd hc3 (by first | (rw [ints_eqv]; simp; done) | (simp [ends_eqv]; done) | simp))
      (fun hc3 => js_turn () trivial (by simp) (And.intro rfl (And.intro rfl (And.intro rfl (And.intro rfl (And.intro rfl (And.intro rfl (And.intro rfl True.intro))))))))) rfl nd rfl rfl (Nat.le_of_ble_eq_true rfl) (sw_true rfl rfl rfl rfl) (fun _ => rfl)) ⟨rfl, rfl⟩ rfl rfl rfl rfl) nd (nm_by rfl rfl rfl) (Nat.le_of_ble_eq_true rfl) rfl)
      (fun N2 sb2 b2 hC2 => js_sub sb2 (js_freezeD (i := 7) (ds := ((List.range l.boxes.length).map (gapOf l t)).map PyData.int) rfl <| js_guard (jt_not (jt_val (je_callGU (h_pairs l t hl ht) (hr.mono (by decide)) hG (ja_cons (je_var (i := 3) rfl rfl (vis_by rfl) rfl rfl) (ja_cons (je_var (i := 4) rfl rfl (vis_by rfl) rfl rfl) (ja_cons (je_var (i := 5) rfl rfl (vis_by rfl) rfl rfl) (ja_cons (je_var (i := 6) rfl rfl (vis_by rfl) rfl rfl) (ja_cons (je_draw (n := (l.boxes.length : Int)) h_draw (hr.mono (by decide)) (ja_cons (je_var (i := 1) rfl rfl (vis_by rfl) rfl rfl) (ja_cons (je_lenK (h_len l) (hr.mono (by decide)) (je_var (i := 5) rfl rfl (vis_by rfl) rfl rfl) (by have := hl.n4; omega) (bi_len fr rfl) ⟨rfl, rfl⟩) ja_nil rfl) rfl) ⟨by have := hl.n1; omega, by have := hl.n4; omega⟩ List.mem_cons_self rfl ⟨rfl, rfl⟩) ja_nil rfl) rfl) rfl) rfl) rfl) (fun vs I tv => hp5 tv) rfl rfl ⟨rfl, rfl⟩) (fun _ => rfl))) (fun hc5 => absurd hc5 (by first | (rw [ints_eqv]; simp; done) | (simp [ends_eqv]; done) | simp))
      (fun hc5 => js_set (i := 14) (JE.cast (P' := BlV (keptOf l t)) (jcv (jc_eqD hr.units (je_lcI (Lc.of (own := [("_law_b", 8)]) (p := fun k => decide (loOf l k ≤ gapOf l t k)) (E := fun k : Nat => DatV (.int (k : Int))) (ji_range (n := l.boxes.length) (je_lenK (h_len l) (hr.mono (by decide)) (je_var (i := 5) rfl rfl (vis_by rfl) rfl rfl) (by have := hl.n4; omega) (bi_len fr rfl) ⟨rfl, rfl⟩) (by have := hl.n4; omega) (bi_range fr rfl) rfl) rfl (fun _ _ _ _ _ => qg_name nd (nm_by rfl rfl rfl)) (fun z hz => (jgr_name (i := 8))) (fun z hz => jq1 ⟨by decide, Nat.le_of_ble_eq_true rfl⟩) (fun z hz _ _ _ _ _ => jts_one (jct (jc_cast (jc_ge (je_ixL (je_var (i := 7) rfl rfl (vis_by rfl) rfl rfl) (je_var (i := 8) rfl rfl (vis_by rfl) rfl rfl) (atI_map (f := PyData.int) (v := gapOf l t z) (by rw [List.getElem?_map, List.getElem?_range (by simpa using hz)]; rfl)) (fun _ _ => rfl)) (je_ixL (je_ixL (je_ixL (je_var (i := 3) rfl rfl (vis_by rfl) rfl rfl) je_int rfl (fun _ _ => rfl)) (je_var (i := 8) rfl rfl (vis_by rfl) rfl rfl) (atI_map (f := caseD) (List.getElem?_eq_getElem (by simpa using hz))) (fun _ _ => rfl)) je_int rfl (fun _ _ => rfl))) (by rw [loOf_at (by simpa using hz)])))) (fun z hz hpz _ _ _ _ _ => (je_var (i := 8) rfl rfl (vis_by rfl) rfl rfl)) (by have := hl.n4; simp; omega)) rfl nd (fun _ => rfl)) (je_lstD jd_nil (Nat.le_of_ble_eq_true rfl)) ints_sdL nil_sd)) (by rw [nil_eqv, List.isEmpty_map, kept_safe]))
      (js_guard (jt_w (jw_or (jct (jc_neD hr.units (je_call (h_pgaps l t hl ht) (hr.mono (by decide)) (ja_cons (je_var (i := 5) rfl rfl (vis_by rfl) rfl rfl) (ja_cons (je_var (i := 6) rfl rfl (vis_by rfl) rfl rfl) ja_nil rfl) rfl) has_nil .nil rfl rfl ⟨rfl, rfl⟩) (je_tupleD (je_var (i := 7) rfl rfl (vis_by rfl) rfl rfl) (by first | exact .dl _ | exact .dt _ | exact .tu _ | exact .li _) (bi_tuple fr rfl) ⟨rfl, rfl⟩) ints_sdT ints_sdT)) (fun hb7 => (jw_or1 (jct (jc_neS (je_repr hG (by have := hr.un; omega) (show_bool _) (je_call (h_kept l t hl ht) (hr.mono (by decide)) (ja_cons (je_var (i := 5) rfl rfl (vis_by rfl) rfl rfl) (ja_cons (je_var (i := 6) rfl rfl (vis_by rfl) rfl rfl) ja_nil rfl) rfl) has_nil .nil rfl rfl ⟨rfl, rfl⟩) (QL.bi_repr fr rfl) ⟨rfl, rfl⟩) (je_repr hG (by have := hr.un; omega) (show_bool _) (je_var (i := 14) rfl rfl (vis_by rfl) rfl rfl) (QL.bi_repr fr rfl) ⟨rfl, rfl⟩))))))) (fun hc6 => absurd hc6 (by first | (rw [ints_eqv]; simp; done) | (simp [ends_eqv]; done) | simp))
      (fun hc6 => js_guard (jt_not (jt_val (je_callT (h_ref l t p hl ht) (fun b ps => by rw [show N1.H = N.H from sb1.1]; exact hNT b ps) (sb1.2.2.1.trans hT) (hr.mono (by decide)) hG (ja_cons (je_var (i := 1) rfl rfl (vis_by rfl) rfl rfl) (ja_cons (je_var (i := 5) rfl rfl (vis_by rfl) rfl rfl) (ja_cons (je_var (i := 6) rfl rfl (vis_by rfl) rfl rfl) (ja_cons (je_var (i := 4) rfl rfl (vis_by rfl) rfl rfl) ja_nil rfl) rfl) rfl) rfl) (has1 List.mem_cons_self) nd1 rfl rfl ⟨rfl, rfl⟩) (fun _ => rfl))) (fun hc8 => absurd hc8 (by first | (rw [ints_eqv]; simp; done) | (simp [ends_eqv]; done) | simp))
      (fun hc8 => js_turn () trivial rfl (And.intro rfl (And.intro rfl True.intro))))) nd (nm_by rfl rfl rfl) (Nat.le_of_ble_eq_true rfl) rfl))) (fun _ => rfl)) (fun pM => jp3 (Nat.le_of_ble_eq_true rfl) (Nat.le_of_ble_eq_true rfl) (Nat.le_of_ble_eq_true rfl)) rfl rfl rfl rfl rfl rfl))) (jp2 (Nat.le_of_ble_eq_true rfl) (Nat.le_of_ble_eq_true rfl)) rfl rfl rfl)
      (fun N1 sb1 b1 hC1 => js_sub sb1 (js_ret je_bl (by exact fun v I H s p => ⟨I, (s.fewer has_nil .nil), p⟩))) (fun _ => rfl)) nd (nm_by rfl rfl rfl) (Nat.le_of_ble_eq_true rfl) rfl

end
end QD

/-! text QG15 -/
set_option Elab.async false
set_option linter.all false
set_option maxRecDepth 100000
set_option maxHeartbeats 4000000
/-! QG15: rows and talks can be made. -/
namespace QX
open PySem PySem.Spec PyProof.Rows L2 QL QD
section
variable {P : Program} {w : World} {K : PySem.W.Frag} {mg : Str → Option Value} {base : Heap} {CB CR CT CN CL : Addr} {f : Addr} {fd : FuncData}
theorem row_mk (ft : Ft K mg CB CR CT CN CL) (F : FunD K "__init__" "Row.__init__" (defArgs (sub 45 0)) (defBody (sub 45 0)) (defScope (sub 45 0)) [] [] f fd) (hm : Mk K CR f)
    (h_are_boxes : ∀ l : Line, 1 ≤ l.boxes.length → l.boxes.length ≤ 4 → Fd P w K mg base "are_boxes" 1 (FSp [] [LiV (l.boxes.map (BoxV CB))] (BlV true) []))
    (h_are_links : ∀ ls : List (Int × Int), (∀ l ∈ ls, 0 ≤ l.1 ∧ l.1 ≤ l.2 ∧ l.2 ≤ 1000) → ls.length ≤ 5 → Fd P w K mg base "are_links" 4 (FSp [] [DatV (.list (ls.map linkD)), IntV (ls.length : Int)] (BlV true) [])) : RowMk P w K mg base CR CB := fun l hl =>
  ⟨f, fd, ["self", "boxes", "links"], FnOk.union' fun self => w_Row___init__ ft F h_are_boxes h_are_links hl, hm, F.bindsN fun _ _ _ _ _ _ us hl => match us, hl with | [_, _, _], _ => rfl⟩
theorem talk_mk (ft : Ft K mg CB CR CT CN CL) {dv : List V} (hd : dv.length = 2) (F : FunD K "__init__" "Talk.__init__" (defArgs (sub 51 0)) (defBody (sub 51 0)) (defScope (sub 51 0)) dv [] f fd) (hm : Mk K CT f)
    (h_is_between : ∀ d lo hi, Sc d → Fd P w K mg base "is_between" 2 (FSp [] [DatV d, IntV lo, IntV hi] (BlV (btw d lo hi)) []))
    (h_are_times : ∀ (ns : List Int) (m : Int), m ≤ (ns.length : Int) → ns.length ≤ 7 → Asc ns → (∀ x ∈ ns, 0 ≤ x ∧ x ≤ 10000) → Fd P w K mg base "are_times" 3 (FSp [] [DatV (.list (ns.map PyData.int)), IntV m] (BlV true) [])) : TalkMk P w K mg base CT := fun t ht => by
  obtain ⟨ds, hv, hb⟩ := F.binds1 (ps := ["self", "out", "back", "losses"]) 4 2 (by intro e; rw [e] at hd; cases hd) (by rw [hd]; rfl) fun T kV doc pm an cdv ct us its hu hi => by
    match us, hu, its, hi.trans hd with
    | [_, _, _, _], _, [_, _], _ => exact ⟨_, rfl, rfl⟩
  have e : dv.drop 2 = [] := List.drop_eq_nil_of_le (by omega)
  rw [e] at hv
  cases hv
  exact ⟨f, fd, ["self", "out", "back", "losses"], FnOk.union' fun self => w_Talk___init__ ft F h_is_between h_are_times ht, hm, hb⟩
end
end QX

/-! text QG16 -/
set_option Elab.async false
set_option linter.all false
set_option maxRecDepth 100000
set_option maxHeartbeats 4000000
/-! QG16: the law called at the end of the module, where no guard runs (after HandS's end with tables). -/
namespace QX
open PySem PySem.Spec PyProof.Rows L2 QL QD
theorem law_callG {P : Program} {w : World} {K : PySem.W.Frag} {mg mb : Str → Option Value} {k : Nat} {fa a : Addr} {cs : List (Addr × Addr)} {fd : FuncData} {x : Str} {sp : Sp} {s₁ : Shared} {vs : List Value} {ns : List Int}
    (KX : K.In s₁.heap) (hns : s₁.heap.Ns mainGlobals mg) (hb : s₁.heap.Ns builtinsNs mb) (hbb : ∀ x : Str, x ≠ "__name__" → mb x = bootBuiltins x) (hlim : s₁.heap.NoLimit) (hg : s₁.gens = #[])
    (hT : ∀ p ∈ cs, s₁.heap.get? p.2 = some { cls := .none, data := .fields #[] }) (nT : ∀ p ∈ cs, K.lookup p.2 = none) (C : ∀ p ∈ cs, PySem.W.CodeHd s₁.heap p.1 p.2)
    (hbm : ∃ (bm : Addr) (ob : Obj), mg "__builtins__" = some (.ref bm) ∧ bm ≠ builtinsNs ∧ s₁.heap.get? bm = some ob ∧ ob.cls = .type "module" ∧ ob.dict = some builtinsNs ∧ ob.data = .plain)
    (ha : s₁.heap.get? a = some { cls := .type "list", data := .seq vs.toArray }) (hi : IntsAre vs ns) (hl : ns.length ≤ sizeLine) (hr : Room k callerA)
    (F : ∀ base : Heap, K.In base → base.Ns mainGlobals mg → (∀ p ∈ cs, LamX.TabB base mg p.1 p.2) → FnG P w K mg base k fa fd [x] sp) (hbind : ∀ (s : Shared) (u : Value), BindsTo s fd ⟨[u], []⟩ [(x, u)])
    (hsp : ∀ H : Hp, (∀ p ∈ cs, H p.2 = some (.tbl #[])) → SqL K H a (ns.map V.int) → sp [.ref a] H (fun v _ => v = .bl true) fun _ _ _ => False) :
    codeAny (model P w) callerA (.call (.ref fa) ⟨[.ref a], []⟩) (fun r s' => r = .ok (.ret (.bool true)) ∧ OldK s₁.heap s'.heap ∧ s'.os = s₁.os ∧ AllBare s'.gens) s₁ := by
  have rv := vals_ints hi
  have lenV := hi.length
  have isT : ∀ b : Addr, b ∈ cs.map (·.2) → s₁.heap.get? b = some { cls := .none, data := .fields #[] } := fun b hb => by
    obtain ⟨p, hp, e⟩ := List.mem_map.mp hb
    rw [← e]
    exact hT p hp
  have aT : a ∉ cs.map (·.2) := fun z => by
    have q := isT a z
    rw [ha] at q
    have z' : Data.seq vs.toArray _ = Data.fields #[] := congrArg Obj.data (Option.some.inj q)
    cases z'
  have memT : ∀ p ∈ cs, p.2 ∈ cs.map (·.2) := fun p hp => List.mem_map.mpr ⟨p, hp, rfl⟩
  -- from an abstract heap in which nothing but the script and the tables may be tracked
  have core : ∀ H : Hp, (∀ p ∈ cs, H p.2 = some (.tbl #[])) → (∀ b, H b = none ∨ b ∈ cs.map (·.2) ∨ ∃ o xs, H b = some (.frz o (.lst xs))) → SqL K H a (ns.map V.int) → HOk P w H s₁.heap → (∀ b, H b ≠ none → b = a ∨ b ∈ cs.map (·.2)) → (H a ≠ none → K.lookup a = none) →
      codeAny (model P w) callerA (.call (.ref fa) ⟨[.ref a], []⟩) (fun r s' => r = .ok (.ret (.bool true)) ∧ OldK s₁.heap s'.heap ∧ s'.os = s₁.os ∧ AllBare s'.gens) s₁ := by
    intro H hH hO hS hok hA hK
    have base_of : ∀ {b : Addr} {o : Obj}, s₁.heap.get? b = some o → H b = none → (hidT s₁.heap H).get? b = some o := fun e n => hidT_get e n
    have noD : ∀ {b : Addr} {o : Obj}, s₁.heap.get? b = some o → (∀ vs n, o.data ≠ .seq vs n) → o.data ≠ .fields #[] → H b = none := fun {b o} e h1 h2 => by
      cases q : H b with
      | none => rfl
      | some u =>
        rcases hA b (by rw [q]; simp) with e' | e'
        · rw [e', ha] at e
          cases e
          exact (h1 _ _ rfl).elim
        · rw [isT b e'] at e
          cases e
          exact (h2 rfl).elim
    have noA : ∀ {b : Addr} {o : Obj} {es : Array DictEntry} {ep : Nat}, s₁.heap.get? b = some o → o.data = .dict es ep → H b = none := fun {b o es ep} e d => by
      refine noD e (fun vs n z => ?_) fun z => ?_
      · rw [d] at z
        cases z
      · rw [d] at z
        cases z
    have nsK : ∀ {b : Addr} {m : Str → Option Value}, s₁.heap.Ns b m → (hidT s₁.heap H).Ns b m := fun {b m} ⟨o, es, ep, e, d, r⟩ => ⟨o, es, ep, base_of e (noA e d), d, r⟩
    have hKb : K.In (hidT s₁.heap H) := fun b o e => base_of (KX b o e) (by
      cases q : H b with
      | none => rfl
      | some u =>
        rcases hA b (by rw [q]; simp) with e' | e'
        · rw [e'] at e q
          rw [hK (by rw [q]; simp)] at e
          cases e
        · obtain ⟨p, hp, ep⟩ := List.mem_map.mp e'
          rw [← ep, nT p hp] at e
          cases e)
    have hM : L2.Mod K mg (hidT s₁.heap H) := ⟨hKb, nsK hns, ⟨mb, nsK hb, hbb⟩, let ⟨mc, h1, h2⟩ := hlim; ⟨mc, nsK h1, h2⟩⟩
    have TB : ∀ p ∈ cs, LamX.TabB (hidT s₁.heap H) mg p.1 p.2 := fun p hp => by
      have hTp := hT p hp
      refine ⟨?_, ?_, fun z => ?_⟩
      · obtain ⟨o, us, file, tf, flags, tg, inF, text, tt, e1, r1, r2, r3, r4, r5, r6, r7, r8, hne⟩ := C p hp
        refine ⟨o, us, file, tf, flags, tg, inF, text, tt, base_of e1 (noD e1 (fun vs n z => ?_) fun z => ?_), r1, r2, r3, r4, r5, r6, r7, r8, hne⟩
        · rw [r2] at z
          cases z
        · rw [r2] at z
          cases z
          simp at r3
      · obtain ⟨bm, ob, b1, b2, b3, b4, b5, b6⟩ := hbm
        have nG : bm ≠ mainGlobals := fun q => by
          obtain ⟨o, es, ep, e, hd, _⟩ := hns
          rw [q, e] at b3
          cases b3
          rw [hd] at b6
          cases b6
        have nP : bm ≠ p.2 := fun q => by
          rw [q, hTp] at b3
          cases b3
          cases b6
        refine ⟨bm, ob, b1, b2, nG, nP, base_of b3 (noD b3 (fun vs n z => ?_) fun z => ?_), b4, b5, b6⟩
        · rw [b6] at z
          cases z
        · rw [b6] at z
          cases z
      · obtain ⟨o, es, ep, e, hd, _⟩ := hns
        rw [z, hTp] at e
        cases e
        cases hd
    have e0 : Env0 P w K mg (hidT s₁.heap H) callerA [] s₁ H := ⟨rfl, hM, fun b o e => of_hidT e, Nat.le_of_eq (hidT_size _ _), trivial, fun b hb => absurd (show b ∈ ([] : List Addr) from hb) (by simp), hok, .of_eq hg⟩
    refine codeAny_mono ((F _ hKb (nsK hns) TB).run callerA [] s₁ H ⟨[.ref a], []⟩ [.ref a] [.ref a] _ _ hr rfl e0 (hbind s₁ (.ref a)) (.cons rfl .nil) (hsp H hH hS)) fun r s' h => ?_
    cases r with
    | error e =>
      obtain ⟨_, _, _, _, _, _, _, _, _, _, _, _, z⟩ := h
      exact z.elim
    | ok fl =>
      cases fl with
      | next => exact False.elim h
      | brk => exact False.elim h
      | cont => exact False.elim h
      | ret u =>
        obtain ⟨v, H', os, bare, un, hok', r', q⟩ := h
        have q' : v = .bl true := q
        subst q'
        obtain rfl : u = Value.bool true := r'
        have key : ∀ b o, b ∉ cs.map (·.2) → s₁.heap.get? b = some o → s'.heap.get? b = some o := fun b o nb e => by
          cases q : H b with
          | none => exact un.keep b o e q (by intro z; exact absurd (show b ∈ ([] : List Addr) from z) (by simp)) (by simp)
          | some u =>
            rcases hO b with z | z | ⟨ob, xs, z⟩
            · rw [q] at z; cases z
            · exact absurd z nb
            · have z2 := un.frzs b ob _ z
              obtain ⟨e1, _⟩ := hok b _ z
              obtain ⟨e2, _⟩ := hok' b _ z2
              rw [e] at e1; cases e1
              exact e2
        have grown : ∀ p ∈ cs, ∃ more : Array Value, s'.heap.get? p.2 = some { cls := .none, data := .fields more } := fun p hp => by
          obtain ⟨more, z⟩ := un.tbls p.2 #[] (hH p hp)
          exact ⟨_, hok' p.2 _ z⟩
        refine ⟨rfl, ⟨fun b o e => ?_, fun b o e => ?_⟩, os, bare⟩
        · by_cases hb : b ∈ cs.map (·.2)
          · obtain ⟨p, hp, ep⟩ := List.mem_map.mp hb
            obtain ⟨more, hm⟩ := grown p hp
            rw [← ep] at e ⊢
            rw [hT p hp] at e
            cases e
            exact .inr (.inl ⟨((C p hp).tab (hT p hp)).isCodeTable, rfl, #[], more, rfl, by rw [Array.empty_append]; exact hm⟩)
          · exact .inl (key b o hb e)
        · by_cases hb : b ∈ cs.map (·.2)
          · obtain ⟨p, hp, ep⟩ := List.mem_map.mp hb
            obtain ⟨more, hm⟩ := grown p hp
            rw [← ep]
            exact ⟨_, hm⟩
          · exact ⟨o, key b o hb e⟩
  cases hk : K.lookup a with
  | some o =>
    have e := KX a o hk
    rw [ha] at e
    cases e
    refine core (fun b => if b ∈ cs.map (·.2) then some (.tbl #[]) else none) (fun p hp => if_pos (memT p hp)) (fun b => ?_) (.inr ⟨_, vs.toArray, _, hk, rfl, rfl, rfl, by rw [List.size_toArray, lenV]; exact hl, by simpa using rv⟩) (fun b u z => ?_) (fun b z => ?_) fun z => absurd (show (if a ∈ cs.map (·.2) then some (HO.tbl #[]) else none) = none from if_neg aT) z
    · by_cases hb : b ∈ cs.map (·.2)
      · exact .inr (.inl hb)
      · exact .inl (if_neg hb)
    · by_cases hb : b ∈ cs.map (·.2)
      · have z' := (if_pos hb).symm.trans z
        cases z'
        exact isT b hb
      · have z' := (if_neg hb).symm.trans z
        cases z'
    · by_cases hb : b ∈ cs.map (·.2)
      · exact .inr hb
      · exact absurd (if_neg hb) z
  | none =>
    refine core (fun b => if b = a then some (.frz { cls := .type "list", data := .seq vs.toArray } (.lst (ns.map V.int))) else if b ∈ cs.map (·.2) then some (.tbl #[]) else none) (fun p hp => (if_neg (show ¬ p.2 = a from fun z => aT (by rw [← z]; exact memT p hp))).trans (if_pos (memT p hp))) (fun b => ?_)
      (.inl (.inr ⟨{ cls := .type "list", data := .seq vs.toArray }, if_pos rfl⟩)) (fun b u z => ?_) (fun b z => ?_) fun _ => hk
    · by_cases hb : b = a
      · exact .inr (.inr ⟨_, _, if_pos hb⟩)
      · by_cases hb2 : b ∈ cs.map (·.2)
        · exact .inr (.inl hb2)
        · exact .inl ((if_neg hb).trans (if_neg hb2))
    · by_cases hb : b = a
      · have z' := (if_pos hb).symm.trans z
        cases z'
        rw [hb]
        exact ⟨ha, by rw [List.length_map]; exact hl, vs, _, rv, ha⟩
      · have z1 := (if_neg hb).symm.trans z
        by_cases hb2 : b ∈ cs.map (·.2)
        · have z' := (if_pos hb2).symm.trans z1
          cases z'
          exact isT b hb2
        · have z' := (if_neg hb2).symm.trans z1
          cases z'
    · by_cases hb : b = a
      · exact .inl hb
      · by_cases hb2 : b ∈ cs.map (·.2)
        · exact .inr hb2
        · exact absurd ((if_neg hb).trans (if_neg hb2)) z
/-- what is known of the law at the head's heap -/
def LawG (l : PySem.W.OpenLaw) (w : World) (K : PySem.W.Frag) (k n : Nat) (x : Str) (mg : Str → Option Value) (fa : Addr) (h : Heap) : Prop :=
  ∃ (fd : FuncData) (cs : List (Addr × Addr)) (sp : Sp), (∀ p ∈ cs, h.get? p.2 = some { cls := .none, data := .fields #[] }) ∧ (∀ p ∈ cs, K.lookup p.2 = none) ∧ (∀ p ∈ cs, PySem.W.CodeHd h p.1 p.2) ∧ (∀ (s : Shared) (u : Value), BindsTo s fd ⟨[u], []⟩ [(x, u)]) ∧
    (∀ (H : Hp) (a : Addr) (ns : List Int), ns.length ≤ n → (∀ p ∈ cs, H p.2 = some (.tbl #[])) → SqL K H a (ns.map V.int) → sp [.ref a] H (fun v _ => v = .bl true) fun _ _ _ => False) ∧
    ∀ base : Heap, K.In base → base.Ns mainGlobals mg → (∀ p ∈ cs, LamX.TabB base mg p.1 p.2) → FnG l.prog w K mg base k fa fd [x] sp
theorem walk_G {l : PySem.W.OpenLaw} {n k : Nat} {q : Program} {loose : List Str} {XP : (Str → Option Value) → Heap → Prop} {YP : World → Heap → Prop} {d : DefRec} {x : Str}
    (hn : l.most = some n) (hn2 : n ≤ sizeLine) (hdf : d.params.defaults = []) (hr : Room k callerA)
    (F : ∀ (w : World) (mg : Str → Option Value) (fa : Addr) (h : Heap), YP w h → h.Ns mainGlobals mg → mg d.name = some (.ref fa) → ∃ K : PySem.W.Frag, K.In h ∧ LawG l w K k n x mg fa h) :
    PySem.W.WalkO q loose XP YP l.row.toRowW d [] (fun f vs => PySem.call f vs) := by
  refine Att.attach_callB hn hdf fun w s₀ s₁ mg mb fa o pm cd doc a vs ns G Y ho hd hcd hmg hobj hints hlen hbits hg => ?_
  obtain ⟨K, KX, fd, cs, sp, hT, nT, C, hb, hsp, hF⟩ := F w mg fa _ Y G.T.g hmg
  exact law_callG KX G.T.g G.T.b G.T.builtins G.T.nolimit hg hT nT C G.T.bmain hobj hints (Nat.le_trans hlen hn2) hr hF hb (fun H hH hS => hsp H a ns hlen hH hS)
/-- the law's wish from what the end tells -/
theorem law_sp {K : PySem.W.Frag} {cs : List (Addr × Addr)} {T : List (Addr × Str)} (hcs : ∀ r ∈ T, r.1 ∈ cs.map (·.2)) {H : Hp} {a : Addr} {ns : List Int} (hT : ∀ p ∈ cs, H p.2 = some (.tbl #[])) (hS : SqL K H a (ns.map V.int)) : FSt T [] [SqV K ns] (BlV true) [.ref a] H (fun v _ => v = .bl true) fun _ _ _ => False := by
  let I : Hp := fun b => if b = a then (match H a with | some (.tbl _) => none | x => x) else none
  have hI : I a = noT H a := if_pos rfl
  have sub : Same I H := fun b u e => by
    by_cases hb : b = a
    · subst hb
      rw [hI] at e
      exact (noT_some e).1
    · have e' : (none : Option HO) = some u := (if_neg hb).symm.trans e
      cases e'
  refine ⟨I, ⟨sub, fun q hq => (by cases hq), List.nodup_nil, fun b o _ e => (noT_some e).1, Same.refl _, fun b h => .inl h, fun q hq => (by cases hq), fun r hr => ?_, fun b hb => (by cases hb), fun b ps e => ?_⟩, ⟨⟨a, rfl, ?_⟩, True.intro⟩, fun v I' H' s' r => r.bl_inv⟩
  · obtain ⟨p, hp, ep⟩ := List.mem_map.mp (hcs r hr)
    exact LamX.TabS.nil (by rw [← ep]; exact hT p hp)
  · by_cases hb : b = a
    · subst hb
      rw [hI] at e
      exact (noT_some e).2 ps rfl
    · have e' : (none : Option HO) = some (.tbl ps) := (if_neg hb).symm.trans e
      cases e'
  · rcases hS with (h | ⟨o, h⟩) | h
    · exact .inl (.inl (by rw [hI]; exact noT_of h (by nofun)))
    · exact .inl (.inr ⟨o, by rw [hI]; exact noT_of h (by nofun)⟩)
    · exact .inr h
end QX

/-! text QFE -/
set_option Elab.async false
set_option linter.all false
set_option maxRecDepth 100000
set_option maxHeartbeats 4000000
/-! QFE: windows and gaps. Printed by fe.py. -/
namespace QD
open PySem PySem.Spec PyProof.Rows L2 QL
section
variable {P : Program} {w : World} {K : PySem.W.Frag} {mg : Str → Option Value} {base : Heap} {CB CR CT CN CL : Addr} {f : Addr} {fd : FuncData}

theorem sc_can_be_lost : FnScope ["talk", "lost", "letter", "followers", "at", "other"] ["talk", "lost"] (defScope (top 24)) := ⟨rfl, rfl, rfl, by decide +kernel, rfl, by decide +kernel, by decide +kernel⟩
theorem w_can_be_lost (ft : Ft K mg CB CR CT CN CL) (F : FunD K "can_be_lost" "can_be_lost" (defArgs (top 24)) (defBody (top 24)) (defScope (top 24)) [] [] f fd) (hm : mg "can_be_lost" = some (.ref f)) (h_losses : ∀ t, Fp P w K mg base CT "losses" 1 (FSp [] [TalkV CT t] (IntV (t.los : Int)) [])) {t : Tk} (ht : TkOk t) {xs : List Let} (hx : xs.length ≤ 20) : Fd P w K mg base "can_be_lost" 3 (FSp [] [TalkV CT t, DatV (.list (xs.map letD))] (BlV (cbl t xs)) []) := by
  have fr := ft.fr
  refine ⟨f, fd, ["talk", "lost"], ?_, hm, F.kp, F.bindsN fun _ _ _ _ _ _ us hl => match us, hl with | [_, _], _ => rfl⟩
  refine fn_rule F sc_can_be_lost rfl fun cdv A outer s H E hr N => ?_
  have nd := sc_can_be_lost.nd
  exact js_for (fun done bt => (∀ z ∈ done, (((List.range (t.los + 1)).map fun k => decide ((z.1, z.2 + k) ∈ xs)).all id) = false)) (fun done bt => ([] : OwnM)) (fun done bt => [some (TalkV CT t), some (DatV (.list (xs.map letD))), none, none, none, none]) (ji_dlM (je_var (i := 1) rfl rfl (vis_by rfl) rfl rfl)) (qg_name nd (nm_by rfl rfl rfl)) (fun z hz => (jgr_name (i := 2))) passO rfl () (by intro z hz; cases hz) rfl (And.intro rfl (And.intro rfl True.intro)) (fun z hz done bt => jp1 (Nat.le_of_ble_eq_true rfl))
      (fun N1 sb1 done1 z1 post1 b1 hz1 hC1 => js_setLcD0 (i := 3) (Lc.of (own := [("at", 4)]) (E := fun k => DatV (letD (z1.1, z1.2 + k))) (p := fun _ => true) (ji_range (n := t.los + 1) (JE.cast (je_add (je_prop (h_losses t) ft.cT (hr.mono (by decide)) (je_var (i := 0) rfl rfl (vis_by rfl) rfl rfl) rfl) je_int) (congrArg IntV (by omega))) (by have := ht.l2; omega) (bi_range fr rfl) rfl) rfl (fun _ _ _ _ _ => qg_name nd (nm_by rfl rfl rfl)) (fun z hz => (jgr_name (i := 4))) (fun z hz => jq1 ⟨by decide, Nat.le_of_ble_eq_true rfl⟩) (fun z hz _ _ _ _ _ => jts_nil) (fun z hz hpz _ _ _ _ _ => (JE.cast (P' := DatV (letD (z1.1, z1.2 + z))) (je_tupD (jd_cons (je_ixT (je_var (i := 2) rfl rfl (vis_by rfl) rfl rfl) je_int rfl (fun _ _ => rfl)) (jd_cons (je_add (je_ixT (je_var (i := 2) rfl rfl (vis_by rfl) rfl rfl) je_int rfl (fun _ _ => rfl)) (je_var (i := 4) rfl rfl (vis_by rfl) rfl rfl)) jd_nil rfl) rfl) (Nat.le_of_ble_eq_true rfl)) (by simp [letD]))) (by have := ht.l2; simp; omega))
      (js_guard (jt_val (je_all rfl (je_lcB0 (Lc.of (own := [("other", 5)]) (p := fun _ => true) (ji_dlM (je_var (i := 3) rfl rfl (vis_by rfl) rfl rfl)) rfl (fun _ _ _ _ _ => qg_name nd (nm_by rfl rfl rfl)) (fun z hz => (jgr_name (i := 5))) (fun z hz => jq1 ⟨by decide, Nat.le_of_ble_eq_true rfl⟩) (fun z hz _ _ _ _ _ => jts_nil) (fun z hz hpz _ _ _ _ _ => (jcv (jc_cast (jc_inL (units65 hr) (je_var (i := 5) rfl rfl (vis_by rfl) rfl rfl) (je_var (i := 1) rfl rfl (vis_by rfl) rfl rfl) (letD_shaped _) (letsL_shaped _) rfl) (lets_any _ _)))) (by have := ht.l2; simp; omega)) rfl nd (fun _ => rfl)) (bi_all fr rfl) ⟨rfl, rfl⟩) (fun _ => rfl)) (fun hc2 => js_ret (P := BlV (cbl t xs)) (JE.cast je_bl (by rw [cbl_false (z := z1) (by rw [hz1]; simp) hc2])) (by exact fun v I H s p => ⟨I, sb1.2.2.2 _ _ _ s, p⟩))
      (fun hc2 => js_turn () (by intro z hz; rcases List.mem_append.mp hz with h | h; exact hC1 z h; rw [List.mem_singleton.mp h]; exact hc2) rfl (And.intro rfl (And.intro rfl True.intro)))) rfl nd rfl rfl (Nat.le_of_ble_eq_true rfl) (sw_true rfl rfl rfl rfl) (fun _ => rfl))
      (fun N1 sb1 b1 hC1 => js_sub sb1 (js_ret (P := BlV (cbl t xs)) (JE.cast je_bl (by rw [cbl_true hC1])) (by exact fun v I H s p => ⟨I, s, p⟩))) (fun _ => rfl)

theorem sc_windows : FnScope ["row", "talk", "box", "letter"] ["row", "talk", "box"] (defScope (top 27)) := ⟨rfl, rfl, rfl, by decide +kernel, rfl, by decide +kernel, by decide +kernel⟩
theorem w_windows (ft : Ft K mg CB CR CT CN CL) (F : FunD K "windows" "windows" (defArgs (top 27)) (defBody (top 27)) (defScope (top 27)) [] [] f fd) (hm : mg "windows" = some (.ref f)) (h_window_of : ∀ (l : Line) (t : Tk) (b : Nat) (x : Let), LineOk l → b < l.boxes.length → x ∈ letters t → Fd P w K mg base "window_of" 5 (FSp [] [RowV CR CB l, TalkV CT t, IntV (b : Int), DatV (letD x)] (DatV (linkD (win l t b x))) [])) (h_letters : ∀ t, TkOk t → Fm P w K mg base CT "letters" 1 (FSp [] [TalkV CT t] (DatV (.tuple ((letters t).map letD))) [])) {l : Line} (hl : LineOk l) {t : Tk} (ht : TkOk t) {b : Nat} (hb : b < l.boxes.length) : Fd P w K mg base "windows" 6 (FSp [] [RowV CR CB l, TalkV CT t, IntV (b : Int)] (TabV (letters t) letK (fun z => linkD (win l t b z))) []) := by
  have fr := ft.fr
  refine ⟨f, fd, ["row", "talk", "box"], ?_, hm, F.kp, F.bindsN fun _ _ _ _ _ _ us hl => match us, hl with | [_, _, _], _ => rfl⟩
  refine fn_rule F sc_windows rfl fun cdv A outer s H E hr N => ?_
  have nd := sc_windows.nd
  exact js_ret (je_dt (own := [("letter", 3)]) (kf := letK) (kd := letD) (df := fun z => linkD (win l t b z)) (units1 hr) rfl nd (ji_dtM (je_meth0 (h_letters t ht) ft.cT (hr.mono (by decide)) (je_var (i := 1) rfl rfl (vis_by rfl) rfl rfl) (nin_by rfl) rfl)) rfl (fun _ _ _ _ _ => qg_name nd (nm_by rfl rfl rfl)) (fun z hz => (jgr_name (i := 3))) (fun z hz => jq1 ⟨by decide, Nat.le_of_ble_eq_true rfl⟩) (fun z hz _ _ _ _ _ => (je_var (i := 3) rfl rfl (vis_by rfl) rfl rfl)) (fun z hz _ _ _ _ _ => (je_call (h_window_of l t b z hl hb hz) (hr.mono (by decide)) (ja_cons (je_var (i := 0) rfl rfl (vis_by rfl) rfl rfl) (ja_cons (je_var (i := 1) rfl rfl (vis_by rfl) rfl rfl) (ja_cons (je_var (i := 2) rfl rfl (vis_by rfl) rfl rfl) (ja_cons (je_var (i := 3) rfl rfl (vis_by rfl) rfl rfl) ja_nil rfl) rfl) rfl) rfl) has_nil .nil rfl rfl ⟨rfl, rfl⟩)) (fun z hz I v h => letD_key z I v h) (lettersK_nodup t) (by have := letters_len ht; omega) (fun _ => rfl)) (by exact fun v I H s p => ⟨I, (s.fewer has_nil .nil), p⟩)

theorem sc_lost_in : FnScope ["row", "talk", "box", "table", "pair", "first", "last", "start", "end", "inside", "letter", "found"] ["row", "talk", "box", "table", "pair"] (defScope (top 28)) := ⟨rfl, rfl, rfl, by decide +kernel, rfl, by decide +kernel, by decide +kernel⟩
theorem w_lost_in (ft : Ft K mg CB CR CT CN CL) (F : FunD K "lost_in" "lost_in" (defArgs (top 28)) (defBody (top 28)) (defScope (top 28)) [] [] f fd) (hm : mg "lost_in" = some (.ref f)) (h_is_sight : ∀ (l : Line) (b : Nat) (x : Let), b < l.boxes.length → Fd P w K mg base "is_sight" 3 (FSp [] [RowV CR CB l, IntV (b : Int), DatV (letD x)] (BlV (sight l b x)) [])) (h_can_be_lost : ∀ (t : Tk) (xs : List Let), TkOk t → xs.length ≤ 20 → Fd P w K mg base "can_be_lost" 3 (FSp [] [TalkV CT t, DatV (.list (xs.map letD))] (BlV (cbl t xs)) [])) {l : Line} (hl : LineOk l) {t : Tk} (ht : TkOk t) {b : Nat} (hb : b < l.boxes.length) {x y : Let} (hx : x ∈ letters t) (hy : y ∈ letters t) : Fd P w K mg base "lost_in" 6 (FSp [] [RowV CR CB l, TalkV CT t, IntV (b : Int), TabV (letters t) letK (fun z => linkD (win l t b z)), DatV (.tuple [letD x, letD y])] (DatV (lostD (lostIn l t b x y))) []) := by
  have fr := ft.fr
  refine ⟨f, fd, ["row", "talk", "box", "table", "pair"], ?_, hm, F.kp, F.bindsN fun _ _ _ _ _ _ us hl => match us, hl with | [_, _, _, _, _], _ => rfl⟩
  refine fn_rule F sc_lost_in rfl fun cdv A outer s H E hr N => ?_
  have nd := sc_lost_in.nd
  exact js_asg (je_var (i := 4) rfl rfl (vis_by rfl) rfl rfl) (qg_tup2 rfl nd (nm_by rfl rfl rfl) (nm_by rfl rfl rfl)) (jgr_tup2D (i := 5) (j := 6))
      (js_asg (je_tupD (jd_cons (je_ixT (je_dtget (kf := letK) (df := fun z => linkD (win l t b z)) (z := x) (units1 hr) (je_var (i := 3) rfl rfl (vis_by rfl) rfl rfl) (je_var (i := 5) rfl rfl (vis_by rfl) rfl rfl) (fun I v h => letD_key _ I v h) hx (lettersK_nodup t) (fun _ _ => rfl)) je_int rfl (fun _ _ => rfl)) (jd_cons (je_ixT (je_dtget (kf := letK) (df := fun z => linkD (win l t b z)) (z := y) (units1 hr) (je_var (i := 3) rfl rfl (vis_by rfl) rfl rfl) (je_var (i := 6) rfl rfl (vis_by rfl) rfl rfl) (fun I v h => letD_key _ I v h) hy (lettersK_nodup t) (fun _ _ => rfl)) je_int rfl (fun _ _ => rfl)) jd_nil rfl) rfl) (Nat.le_of_ble_eq_true rfl)) (qg_tup2 rfl nd (nm_by rfl rfl rfl) (nm_by rfl rfl rfl)) (jgr_tup2D (i := 7) (j := 8))
      (js_guard (jt_w (jw_or (jct (jc_cast (jc_eqD hr.units (je_var (i := 5) rfl rfl (vis_by rfl) rfl rfl) (je_var (i := 6) rfl rfl (vis_by rfl) rfl rfl) (letD_shaped _) (letD_shaped _)) (letD_eqv x y))) (fun hb2 => (jw_or (jt_not (jt_val (je_call (h_is_sight l b x hb) (hr.mono (by decide)) (ja_cons (je_var (i := 0) rfl rfl (vis_by rfl) rfl rfl) (ja_cons (je_var (i := 2) rfl rfl (vis_by rfl) rfl rfl) (ja_cons (je_var (i := 5) rfl rfl (vis_by rfl) rfl rfl) ja_nil rfl) rfl) rfl) has_nil .nil rfl rfl ⟨rfl, rfl⟩) (fun _ => rfl))) (fun hb3 => (jw_or1 (jct (jc_le (je_var (i := 8) rfl rfl (vis_by rfl) rfl rfl) (je_var (i := 7) rfl rfl (vis_by rfl) rfl rfl))))))))) (fun hc1 => js_ret (P := (DatV (lostD (lostIn l t b x y)))) (JE.cast je_non (by rw [lost_none hc1]; rfl)) (by exact fun v I H s p => ⟨I, s, p⟩))
      (fun hc1 => js_setLcD (i := 9) (Lc.of (own := [("letter", 10)]) (p := fun z => decide ((win l t b x).1 < (win l t b z).1) && decide ((win l t b z).2 < (win l t b y).2)) (ji_keys (je_var (i := 3) rfl rfl (vis_by rfl) rfl rfl) (fun z hz I c h => letD_of z I c h)) rfl (fun _ _ _ _ _ => qg_name nd (nm_by rfl rfl rfl)) (fun z hz => (jgr_name (i := 10))) (fun z hz => jq1 ⟨by decide, Nat.le_of_ble_eq_true rfl⟩) (fun z hz _ _ _ _ _ => jts_one (jt_w (jw_and (jct (jc_gt (je_ixT (je_dtget (kf := letK) (df := fun z => linkD (win l t b z)) (z := z) (units1 hr) (je_var (i := 3) rfl rfl (vis_by rfl) rfl rfl) (je_var (i := 10) rfl rfl (vis_by rfl) rfl rfl) (fun I v h => letD_key _ I v h) hz (lettersK_nodup t) (fun _ _ => rfl)) je_int rfl (fun _ _ => rfl)) (je_var (i := 7) rfl rfl (vis_by rfl) rfl rfl))) (fun hb4 => (jw_and1 (jct (jc_lt (je_ixT (je_dtget (kf := letK) (df := fun z => linkD (win l t b z)) (z := z) (units1 hr) (je_var (i := 3) rfl rfl (vis_by rfl) rfl rfl) (je_var (i := 10) rfl rfl (vis_by rfl) rfl rfl) (fun I v h => letD_key _ I v h) hz (lettersK_nodup t) (fun _ _ => rfl)) je_int rfl (fun _ _ => rfl)) (je_var (i := 8) rfl rfl (vis_by rfl) rfl rfl)))))))) (fun z hz hpz _ _ _ _ _ => (je_var (i := 10) rfl rfl (vis_by rfl) rfl rfl)) (by have := letters_len ht; omega))
      (js_setLcD (i := 11) (Lc.of (own := [("letter", 10)]) (p := fun z => (!decide (z = x ∨ z = y)) && sight l b z) (ji_dlM (zs := insideL l t b x y) (je_var (i := 9) rfl rfl (vis_by rfl) rfl rfl)) rfl (fun _ _ _ _ _ => qg_name nd (nm_by rfl rfl rfl)) (fun z hz => (jgr_name (i := 10))) (fun z hz => jq1 ⟨by decide, Nat.le_of_ble_eq_true rfl⟩) (fun z hz _ _ _ _ _ => jts_one (jt_w (jw_and (jct (jc_cast (jc_notInT (units65 hr) (je_var (i := 10) rfl rfl (vis_by rfl) rfl rfl) (je_var (i := 4) rfl rfl (vis_by rfl) rfl rfl) (letD_shaped _) (letsT_shaped [x, y]) rfl) (notin_pair x y z))) (fun hb5 => (jw_and1 (jt_val (je_call (h_is_sight l b z hb) (hr.mono (by decide)) (ja_cons (je_var (i := 0) rfl rfl (vis_by rfl) rfl rfl) (ja_cons (je_var (i := 2) rfl rfl (vis_by rfl) rfl rfl) (ja_cons (je_var (i := 10) rfl rfl (vis_by rfl) rfl rfl) ja_nil rfl) rfl) rfl) has_nil .nil rfl rfl ⟨rfl, rfl⟩) (fun _ => rfl))))))) (fun z hz hpz _ _ _ _ _ => (je_var (i := 10) rfl rfl (vis_by rfl) rfl rfl)) (by have := letters_len ht; have := List.length_filter_le (fun z => decide ((win l t b x).1 < (win l t b z).1) && decide ((win l t b z).2 < (win l t b y).2)) (letters t); unfold insideL; omega))
      (js_ret (je_ifD (jt_val (je_call (h_can_be_lost t (betweenL l t b x y) ht (by have h1 := letters_len ht; have h2 := List.length_filter_le (fun z => (!decide (z = x ∨ z = y)) && sight l b z) (insideL l t b x y); have h3 := List.length_filter_le (fun z => decide ((win l t b x).1 < (win l t b z).1) && decide ((win l t b z).2 < (win l t b y).2)) (letters t); unfold betweenL; unfold insideL at h2 ⊢; omega)) (hr.mono (by decide)) (ja_cons (je_var (i := 1) rfl rfl (vis_by rfl) rfl rfl) (ja_cons (je_var (i := 11) rfl rfl (vis_by rfl) rfl rfl) ja_nil rfl) rfl) has_nil .nil rfl rfl ⟨rfl, rfl⟩) (fun _ => rfl)) (fun hb6 => (je_tupleD (je_var (i := 11) rfl rfl (vis_by rfl) rfl rfl) (by first | exact .dl _ | exact .dt _ | exact .tu _ | exact .li _) (bi_tuple fr rfl) ⟨rfl, rfl⟩)) (fun hb6 => je_non)) (by exact fun v I H s p => ⟨I, s, lost_some hc1 ▸ p⟩)) rfl nd rfl rfl (Nat.le_of_ble_eq_true rfl) (sw_true rfl rfl rfl rfl) (fun _ => rfl)) rfl nd rfl rfl (Nat.le_of_ble_eq_true rfl) (sw_true rfl rfl rfl rfl) (fun _ => rfl))) (jp2 (Nat.le_of_ble_eq_true rfl) (Nat.le_of_ble_eq_true rfl)) rfl rfl rfl) (jp2 (Nat.le_of_ble_eq_true rfl) (Nat.le_of_ble_eq_true rfl)) rfl rfl rfl

theorem sc_lost_between : FnScope ["row", "talk", "box", "first", "last"] ["row", "talk", "box", "first", "last"] (defScope (top 29)) := ⟨rfl, rfl, rfl, by decide +kernel, rfl, by decide +kernel, by decide +kernel⟩
theorem w_lost_between (ft : Ft K mg CB CR CT CN CL) (F : FunD K "lost_between" "lost_between" (defArgs (top 29)) (defBody (top 29)) (defScope (top 29)) [] [] f fd) (hm : mg "lost_between" = some (.ref f)) (h_windows : ∀ (l : Line) (t : Tk) (b : Nat), LineOk l → TkOk t → b < l.boxes.length → Fd P w K mg base "windows" 6 (FSp [] [RowV CR CB l, TalkV CT t, IntV (b : Int)] (TabV (letters t) letK (fun z => linkD (win l t b z))) [])) (h_lost_in : ∀ (l : Line) (t : Tk) (b : Nat) (x y : Let), LineOk l → TkOk t → b < l.boxes.length → x ∈ letters t → y ∈ letters t → Fd P w K mg base "lost_in" 6 (FSp [] [RowV CR CB l, TalkV CT t, IntV (b : Int), TabV (letters t) letK (fun z => linkD (win l t b z)), DatV (.tuple [letD x, letD y])] (DatV (lostD (lostIn l t b x y))) [])) {l : Line} (hl : LineOk l) {t : Tk} (ht : TkOk t) {b : Nat} (hb : b < l.boxes.length) {x y : Let} (hx : x ∈ letters t) (hy : y ∈ letters t) : Fd P w K mg base "lost_between" 7 (FSp [] [RowV CR CB l, TalkV CT t, IntV (b : Int), DatV (letD x), DatV (letD y)] (DatV (lostD (lostIn l t b x y))) []) := by
  have fr := ft.fr
  refine ⟨f, fd, ["row", "talk", "box", "first", "last"], ?_, hm, F.kp, F.bindsN fun _ _ _ _ _ _ us hl => match us, hl with | [_, _, _, _, _], _ => rfl⟩
  refine fn_rule F sc_lost_between rfl fun cdv A outer s H E hr N => ?_
  have nd := sc_lost_between.nd
  exact js_ret (je_call (h_lost_in l t b x y hl ht hb hx hy) (hr.mono (by decide)) (ja_cons (je_var (i := 0) rfl rfl (vis_by rfl) rfl rfl) (ja_cons (je_var (i := 1) rfl rfl (vis_by rfl) rfl rfl) (ja_cons (je_var (i := 2) rfl rfl (vis_by rfl) rfl rfl) (ja_cons (je_call (h_windows l t b hl ht hb) (hr.mono (by decide)) (ja_cons (je_var (i := 0) rfl rfl (vis_by rfl) rfl rfl) (ja_cons (je_var (i := 1) rfl rfl (vis_by rfl) rfl rfl) (ja_cons (je_var (i := 2) rfl rfl (vis_by rfl) rfl rfl) ja_nil rfl) rfl) rfl) has_nil .nil rfl rfl ⟨rfl, rfl⟩) (ja_cons (je_tupD (jd_cons (je_var (i := 3) rfl rfl (vis_by rfl) rfl rfl) (jd_cons (je_var (i := 4) rfl rfl (vis_by rfl) rfl rfl) jd_nil rfl) rfl) (Nat.le_of_ble_eq_true rfl)) ja_nil rfl) rfl) rfl) rfl) rfl) has_nil .nil rfl rfl ⟨rfl, rfl⟩) (by exact fun v I H s p => ⟨I, (s.fewer has_nil .nil), p⟩)

theorem sc_pairs_of : FnScope ["row", "talk", "box", "table", "found", "first", "last"] ["row", "talk", "box"] (defScope (top 30)) := ⟨rfl, rfl, rfl, by decide +kernel, rfl, by decide +kernel, by decide +kernel⟩
theorem w_pairs_of (ft : Ft K mg CB CR CT CN CL) (F : FunD K "pairs_of" "pairs_of" (defArgs (top 30)) (defBody (top 30)) (defScope (top 30)) [] [] f fd) (hm : mg "pairs_of" = some (.ref f)) (h_windows : ∀ (l : Line) (t : Tk) (b : Nat), LineOk l → TkOk t → b < l.boxes.length → Fd P w K mg base "windows" 6 (FSp [] [RowV CR CB l, TalkV CT t, IntV (b : Int)] (TabV (letters t) letK (fun z => linkD (win l t b z))) [])) (h_lost_in : ∀ (l : Line) (t : Tk) (b : Nat) (x y : Let), LineOk l → TkOk t → b < l.boxes.length → x ∈ letters t → y ∈ letters t → Fd P w K mg base "lost_in" 6 (FSp [] [RowV CR CB l, TalkV CT t, IntV (b : Int), TabV (letters t) letK (fun z => linkD (win l t b z)), DatV (.tuple [letD x, letD y])] (DatV (lostD (lostIn l t b x y))) [])) {l : Line} (hl : LineOk l) {t : Tk} (ht : TkOk t) {b : Nat} (hb : b < l.boxes.length) : Fd P w K mg base "pairs_of" 7 (FSp [] [RowV CR CB l, TalkV CT t, IntV (b : Int)] (DatV (.list ((pairsOf l t b).map pairD))) []) := by
  have fr := ft.fr
  refine ⟨f, fd, ["row", "talk", "box"], ?_, hm, F.kp, F.bindsN fun _ _ _ _ _ _ us hl => match us, hl with | [_, _, _], _ => rfl⟩
  refine fn_rule F sc_pairs_of rfl fun cdv A outer s H E hr N => ?_
  have nd := sc_pairs_of.nd
  exact js_parN (i := 3) (j := 4) (je_call (h_windows l t b hl ht hb) (hr.mono (by decide)) (ja_cons (je_var (i := 0) rfl rfl (vis_by rfl) rfl rfl) (ja_cons (je_var (i := 1) rfl rfl (vis_by rfl) rfl rfl) (ja_cons (je_var (i := 2) rfl rfl (vis_by rfl) rfl rfl) ja_nil rfl) rfl) rfl) has_nil .nil rfl rfl ⟨rfl, rfl⟩)
      (fun pL => js_for (fun done bt => True) (fun done bt => [(pL, lstO (((done.flatMap fun x => (letters t).filterMap (pair1 l t b x)).map pairD).map DatV))]) (fun done bt => [some (RowV CR CB l), some (TalkV CT t), some (IntV (b : Int)), some (TabV (letters t) letK (fun z => linkD (win l t b z))), some (EqV (.ref pL)), none, none]) (ji_keys (je_var (i := 3) rfl rfl (vis_by rfl) rfl rfl) (fun z hz I c h => letD_of z I c h)) (qg_name nd (nm_by rfl rfl rfl)) (fun z hz => (jgr_name (i := 5))) passO rfl () trivial rfl (And.intro rfl (And.intro rfl (And.intro rfl (And.intro rfl (And.intro rfl True.intro))))) (fun z hz done bt => jp1 (Nat.le_of_ble_eq_true rfl))
      (fun N1 sb1 done1 z1 post1 b1 hz1 hC1 => js_for (fun done bt => True) (fun done bt => [(pL, lstO ((((done1.flatMap fun x => (letters t).filterMap (pair1 l t b x)) ++ done.filterMap (pair1 l t b z1)).map pairD).map DatV))]) (fun done bt => [some (RowV CR CB l), some (TalkV CT t), some (IntV (b : Int)), some (TabV (letters t) letK (fun z => linkD (win l t b z))), some (EqV (.ref pL)), some (DatV (letD z1)), none]) (ji_keys (je_var (i := 3) rfl rfl (vis_by rfl) rfl rfl) (fun z hz I c h => letD_of z I c h)) (qg_name nd (nm_by rfl rfl rfl)) (fun z hz => (jgr_name (i := 6))) passO rfl () trivial (by simp) (And.intro rfl (And.intro rfl (And.intro rfl (And.intro rfl (And.intro rfl (And.intro rfl True.intro)))))) (fun z hz done bt => jp1 (Nat.le_of_ble_eq_true rfl))
      (fun N2 sb2 done2 z2 post2 b2 hz2 hC2 => js_ifL (jct (jc_notN (je_call (h_lost_in l t b z1 z2 hl ht hb (by rw [hz1]; simp) (by rw [hz2]; simp)) (hr.mono (by decide)) (ja_cons (je_var (i := 0) rfl rfl (vis_by rfl) rfl rfl) (ja_cons (je_var (i := 1) rfl rfl (vis_by rfl) rfl rfl) (ja_cons (je_var (i := 2) rfl rfl (vis_by rfl) rfl rfl) (ja_cons (je_var (i := 3) rfl rfl (vis_by rfl) rfl rfl) (ja_cons (je_tupD (jd_cons (je_var (i := 5) rfl rfl (vis_by rfl) rfl rfl) (jd_cons (je_var (i := 6) rfl rfl (vis_by rfl) rfl rfl) jd_nil rfl) rfl) (Nat.le_of_ble_eq_true rfl)) ja_nil rfl) rfl) rfl) rfl) rfl) has_nil .nil rfl rfl ⟨rfl, rfl⟩) (nonD _ _ (lostD_none _)))) (fun hc3 => js_append (je_var (i := 4) rfl rfl (vis_by rfl) rfl rfl) (je_tupD (jd_cons (je_sub (je_ixT (je_dtget (kf := letK) (df := fun z => linkD (win l t b z)) (z := z2) (units1 hr) (je_var (i := 3) rfl rfl (vis_by rfl) rfl rfl) (je_var (i := 6) rfl rfl (vis_by rfl) rfl rfl) (fun I v h => letD_key _ I v h) (by rw [hz2]; simp) (lettersK_nodup t) (fun _ _ => rfl)) je_int rfl (fun _ _ => rfl)) (je_ixT (je_dtget (kf := letK) (df := fun z => linkD (win l t b z)) (z := z1) (units1 hr) (je_var (i := 3) rfl rfl (vis_by rfl) rfl rfl) (je_var (i := 5) rfl rfl (vis_by rfl) rfl rfl) (fun I v h => letD_key _ I v h) (by rw [hz1]; simp) (lettersK_nodup t) (fun _ _ => rfl)) je_int rfl (fun _ _ => rfl))) (jd_cons (je_var (i := 5) rfl rfl (vis_by rfl) rfl rfl) (jd_cons (je_var (i := 6) rfl rfl (vis_by rfl) rfl rfl) jd_nil rfl) rfl) rfl) (Nat.le_of_ble_eq_true rfl)) (by rw [len_map, len_map]; exact pref_len ht hz1 hz2)
      (js_turn () trivial (by rw [List.filterMap_append]; (first | rw [fm_some (is_some_of hc3)] | rw [fm_none (is_some_of hc3)]); simp [pairD]) (And.intro rfl (And.intro rfl (And.intro rfl (And.intro rfl (And.intro rfl (And.intro rfl True.intro))))))) ⟨rfl, rfl⟩ rfl rfl rfl rfl)
      (fun hc3 => js_turn () trivial (by rw [List.filterMap_append]; (first | rw [fm_some (is_some_of hc3)] | rw [fm_none (is_some_of hc3)]); simp [pairD]) (And.intro rfl (And.intro rfl (And.intro rfl (And.intro rfl (And.intro rfl (And.intro rfl True.intro))))))))
      (fun N2 sb2 b2 hC2 => js_sub sb2 (js_turn () trivial (by simp [List.flatMap_append]) (And.intro rfl (And.intro rfl (And.intro rfl (And.intro rfl (And.intro rfl True.intro))))))) (fun _ => rfl))
      (fun N1 sb1 b1 hC1 => js_sub sb1 (js_freezeD (i := 4) (ds := (pairsOf l t b).map pairD) rfl (js_ret (je_var (i := 4) rfl rfl (vis_by rfl) rfl rfl) (by exact fun v I H s p => ⟨I, (s.fewer has_nil .nil), p⟩)))) (fun _ => rfl)) rfl nd rfl rfl (by decide) rfl rfl (Nat.le_of_ble_eq_true rfl) (Nat.le_of_ble_eq_true rfl) rfl rfl rfl rfl

end
end QD

/-! text QFG -/
set_option Elab.async false
set_option linter.all false
set_option maxRecDepth 100000
set_option maxHeartbeats 4000000
/-! QFG: the plain defs of the law. Printed by fg.py. -/
namespace QD
open PySem PySem.Spec PyProof.Rows L2 QL
section
variable {P : Program} {w : World} {K : PySem.W.Frag} {mg : Str → Option Value} {base : Heap} {CB CR CT CN CL : Addr} {f : Addr} {fd : FuncData}

theorem sc__law_letters : FnScope ["_law_talk_here", "_law_k"] ["_law_talk_here"] (defScope (top 63)) := ⟨rfl, rfl, rfl, by decide +kernel, rfl, by decide +kernel, by decide +kernel⟩
theorem w__law_letters (ft : Ft K mg CB CR CT CN CL) (F : FunD K "_law_letters" "_law_letters" (defArgs (top 63)) (defBody (top 63)) (defScope (top 63)) [] [] f fd) (hm : mg "_law_letters" = some (.ref f))  {t : Tk} (ht : TkOk t) : Fd P w K mg base "_law_letters" 1 (FSp [] [DatV (talkD t)] (DatV (.list ((letters t).map letD))) []) := by
  have fr := ft.fr
  refine ⟨f, fd, ["_law_talk_here"], ?_, hm, F.kp, F.bindsN fun _ _ _ _ _ _ us hl => match us, hl with | [_], _ => rfl⟩
  refine fn_rule F sc__law_letters rfl fun cdv A outer s H E hr N => ?_
  have nd := sc__law_letters.nd
  exact js_ret (P := (DatV (.list ((letters t).map letD)))) (JE.cast (je_catL (je_lcD0 (Lc.of (own := [("_law_k", 1)]) (E := fun k => DatV (letD (true, k))) (p := fun _ => true) (ji_range (n := t.out.length) (JE.cast (je_len (je_ixL (je_var (i := 0) rfl rfl (vis_by rfl) rfl rfl) je_int rfl (fun _ _ => rfl)) (by first | exact .dl _ | exact .dt _ | exact .tu _ | exact .li _) (bi_len fr rfl) ⟨rfl, rfl⟩) (by rw [len_map])) (by have := ht.o7; omega) (bi_range fr rfl) rfl) rfl (fun _ _ _ _ _ => qg_name nd (nm_by rfl rfl rfl)) (fun z hz => (jgr_name (i := 1))) (fun z hz => jq1 ⟨by decide, Nat.le_of_ble_eq_true rfl⟩) (fun z hz _ _ _ _ _ => jts_nil) (fun z hz hpz _ _ _ _ _ => (je_tupD (jd_cons je_str (jd_cons (je_var (i := 1) rfl rfl (vis_by rfl) rfl rfl) jd_nil rfl) rfl) (Nat.le_of_ble_eq_true rfl))) (by have := ht.o7; simp; omega)) rfl nd (fun _ => rfl)) (je_lcD0 (Lc.of (own := [("_law_k", 1)]) (E := fun k => DatV (letD (false, k))) (p := fun _ => true) (ji_range (n := t.back.length) (JE.cast (je_len (je_ixL (je_var (i := 0) rfl rfl (vis_by rfl) rfl rfl) je_int rfl (fun _ _ => rfl)) (by first | exact .dl _ | exact .dt _ | exact .tu _ | exact .li _) (bi_len fr rfl) ⟨rfl, rfl⟩) (by rw [len_map])) (by have := ht.b7; omega) (bi_range fr rfl) rfl) rfl (fun _ _ _ _ _ => qg_name nd (nm_by rfl rfl rfl)) (fun z hz => (jgr_name (i := 1))) (fun z hz => jq1 ⟨by decide, Nat.le_of_ble_eq_true rfl⟩) (fun z hz _ _ _ _ _ => jts_nil) (fun z hz hpz _ _ _ _ _ => (je_tupD (jd_cons je_str (jd_cons (je_var (i := 1) rfl rfl (vis_by rfl) rfl rfl) jd_nil rfl) rfl) (Nat.le_of_ble_eq_true rfl))) (by have := ht.b7; simp; omega)) rfl nd (fun _ => rfl)) (by have := ht.o7; have := ht.b7; simp; omega)) (by simp only [letters, List.map_append, List.map_map, Function.comp_def])) (by exact fun v I H s p => ⟨I, (s.fewer has_nil .nil), p⟩)

theorem sc__law_sent : FnScope ["_law_talk_here", "_law_letter"] ["_law_talk_here", "_law_letter"] (defScope (top 64)) := ⟨rfl, rfl, rfl, by decide +kernel, rfl, by decide +kernel, by decide +kernel⟩
theorem w__law_sent (ft : Ft K mg CB CR CT CN CL) (F : FunD K "_law_sent" "_law_sent" (defArgs (top 64)) (defBody (top 64)) (defScope (top 64)) [] [] f fd) (hm : mg "_law_sent" = some (.ref f))  {t : Tk} {x : Let} (hx : x ∈ letters t) : Fd P w K mg base "_law_sent" 1 (FSp [] [DatV (talkD t), DatV (letD x)] (IntV (time t x)) []) := by
  have fr := ft.fr
  refine ⟨f, fd, ["_law_talk_here", "_law_letter"], ?_, hm, F.kp, F.bindsN fun _ _ _ _ _ _ us hl => match us, hl with | [_, _], _ => rfl⟩
  refine fn_rule F sc__law_sent rfl fun cdv A outer s H E hr N => ?_
  have nd := sc__law_sent.nd
  exact js_ret (je_if (jct (jc_eqS (je_ixT (je_var (i := 1) rfl rfl (vis_by rfl) rfl rfl) je_int rfl (fun _ _ => rfl)) je_str)) (fun hb1 => (je_ixL (je_ixL (je_var (i := 0) rfl rfl (vis_by rfl) rfl rfl) je_int rfl (fun _ _ => rfl)) (je_ixT (je_var (i := 1) rfl rfl (vis_by rfl) rfl rfl) je_int rfl (fun _ _ => rfl)) (time_out hx hb1) (fun _ _ => rfl))) (fun hb1 => (je_ixL (je_ixL (je_var (i := 0) rfl rfl (vis_by rfl) rfl rfl) je_int rfl (fun _ _ => rfl)) (je_ixT (je_var (i := 1) rfl rfl (vis_by rfl) rfl rfl) je_int rfl (fun _ _ => rfl)) (time_back hx hb1) (fun _ _ => rfl)))) (by exact fun v I H s p => ⟨I, (s.fewer has_nil .nil), p⟩)

theorem sc__law_span : FnScope ["_law_line_here", "_law_talk_here", "_law_b", "_law_letter", "_law_some", "_law_time", "_law_step"] ["_law_line_here", "_law_talk_here", "_law_b", "_law_letter"] (defScope (top 65)) := ⟨rfl, rfl, rfl, by decide +kernel, rfl, by decide +kernel, by decide +kernel⟩
theorem w__law_span (ft : Ft K mg CB CR CT CN CL) (F : FunD K "_law_span" "_law_span" (defArgs (top 65)) (defBody (top 65)) (defScope (top 65)) [] [] f fd) (hm : mg "_law_span" = some (.ref f)) (h_sent : ∀ (t : Tk) (x : Let), x ∈ letters t → Fd P w K mg base "_law_sent" 1 (FSp [] [DatV (talkD t), DatV (letD x)] (IntV (time t x)) [])) {l : Line} (hl : LineOk l) {t : Tk} {b : Nat} {x : Let} (hx : x ∈ letters t) : Fd P w K mg base "_law_span" 2 (FSp [] [DatV (lineD l), DatV (talkD t), IntV (b : Int), DatV (letD x)] (DatV (spanD (win l t b x))) []) := by
  have fr := ft.fr
  refine ⟨f, fd, ["_law_line_here", "_law_talk_here", "_law_b", "_law_letter"], ?_, hm, F.kp, F.bindsN fun _ _ _ _ _ _ us hl => match us, hl with | [_, _, _, _], _ => rfl⟩
  refine fn_rule F sc__law_span rfl fun cdv A outer s H E hr N => ?_
  have nd := sc__law_span.nd
  exact js_set (i := 4) (JE.cast (P' := DatV (.list ((someL l b x).map linkD))) (je_ifD (jct (jc_eqS (je_ixT (je_var (i := 3) rfl rfl (vis_by rfl) rfl rfl) je_int rfl (fun _ _ => rfl)) je_str)) (fun _ => (je_cutLTo (xs := l.links) (f := linkD) (je_ixL (je_var (i := 0) rfl rfl (vis_by rfl) rfl rfl) je_int rfl (fun _ _ => rfl)) (je_add (je_var (i := 2) rfl rfl (vis_by rfl) rfl rfl) je_int))) (fun _ => (je_cutLFrom (xs := l.links) (f := linkD) (je_ixL (je_var (i := 0) rfl rfl (vis_by rfl) rfl rfl) je_int rfl (fun _ _ => rfl)) (je_add (je_var (i := 2) rfl rfl (vis_by rfl) rfl rfl) je_int)))) (some_eq l b x))
      (js_set (i := 5) (je_call (h_sent t x hx) (hr.mono (by decide)) (ja_cons (je_var (i := 1) rfl rfl (vis_by rfl) rfl rfl) (ja_cons (je_var (i := 3) rfl rfl (vis_by rfl) rfl rfl) ja_nil rfl) rfl) has_nil .nil rfl rfl ⟨rfl, rfl⟩)
      (js_ret (P := (DatV (spanD (win l t b x)))) (JE.cast (je_lstD (jd_cons (je_add (je_var (i := 5) rfl rfl (vis_by rfl) rfl rfl) (je_sum rfl (je_lcI0 (Lc.of (own := [("_law_step", 6)]) (E := fun z : Int × Int => DatV (.int z.1)) (p := fun _ => true) (ji_dlM (zs := someL l b x) (f := linkD) (je_var (i := 4) rfl rfl (vis_by rfl) rfl rfl)) rfl (fun _ _ _ _ _ => qg_name nd (nm_by rfl rfl rfl)) (fun z hz => (jgr_name (i := 6))) (fun z hz => jq1 ⟨by decide, Nat.le_of_ble_eq_true rfl⟩) (fun z hz _ _ _ _ _ => jts_nil) (fun z hz hpz _ _ _ _ _ => (je_intc (je_ixT (je_var (i := 6) rfl rfl (vis_by rfl) rfl rfl) je_int rfl (fun _ _ => rfl)) (bi_int fr rfl) ⟨rfl, rfl⟩)) (by have := some_len hl b x; omega)) rfl nd (fun _ => rfl)) (bi_sum fr rfl) ⟨rfl, rfl⟩)) (jd_cons (je_add (je_var (i := 5) rfl rfl (vis_by rfl) rfl rfl) (je_sum rfl (je_lcI0 (Lc.of (own := [("_law_step", 6)]) (E := fun z : Int × Int => DatV (.int z.2)) (p := fun _ => true) (ji_dlM (zs := someL l b x) (f := linkD) (je_var (i := 4) rfl rfl (vis_by rfl) rfl rfl)) rfl (fun _ _ _ _ _ => qg_name nd (nm_by rfl rfl rfl)) (fun z hz => (jgr_name (i := 6))) (fun z hz => jq1 ⟨by decide, Nat.le_of_ble_eq_true rfl⟩) (fun z hz _ _ _ _ _ => jts_nil) (fun z hz hpz _ _ _ _ _ => (je_intc (je_ixT (je_var (i := 6) rfl rfl (vis_by rfl) rfl rfl) je_int rfl (fun _ _ => rfl)) (bi_int fr rfl) ⟨rfl, rfl⟩)) (by have := some_len hl b x; omega)) rfl nd (fun _ => rfl)) (bi_sum fr rfl) ⟨rfl, rfl⟩)) jd_nil rfl) rfl) (Nat.le_of_ble_eq_true rfl)) (by simp only [spanD, win, delay_some, sums])) (by exact fun v I H s p => ⟨I, (s.fewer has_nil .nil), p⟩)) nd (nm_by rfl rfl rfl) (Nat.le_of_ble_eq_true rfl) rfl) nd (nm_by rfl rfl rfl) (Nat.le_of_ble_eq_true rfl) rfl

theorem sc__law_is_sight : FnScope ["_law_line_here", "_law_b", "_law_letter"] ["_law_line_here", "_law_b", "_law_letter"] (defScope (top 66)) := ⟨rfl, rfl, rfl, by decide +kernel, rfl, by decide +kernel, by decide +kernel⟩
theorem w__law_is_sight (ft : Ft K mg CB CR CT CN CL) (F : FunD K "_law_is_sight" "_law_is_sight" (defArgs (top 66)) (defBody (top 66)) (defScope (top 66)) [] [] f fd) (hm : mg "_law_is_sight" = some (.ref f))  {l : Line} {b : Nat} (hb : b < l.boxes.length) {x : Let} : Fd P w K mg base "_law_is_sight" 1 (FSp [] [DatV (lineD l), IntV (b : Int), DatV (letD x)] (BlV (sight l b x)) []) := by
  have fr := ft.fr
  refine ⟨f, fd, ["_law_line_here", "_law_b", "_law_letter"], ?_, hm, F.kp, F.bindsN fun _ _ _ _ _ _ us hl => match us, hl with | [_, _, _], _ => rfl⟩
  refine fn_rule F sc__law_is_sight rfl fun cdv A outer s H E hr N => ?_
  have nd := sc__law_is_sight.nd
  exact js_ret (P := (BlV (sight l b x))) (JE.cast (je_or (jcv (jc_eqS (je_ixT (je_var (i := 2) rfl rfl (vis_by rfl) rfl rfl) je_int rfl (fun _ _ => rfl)) je_str)) (fun hb1 => (je_and1 (jcv (jc_eqS (je_ixL (je_ixL (je_ixL (je_var (i := 0) rfl rfl (vis_by rfl) rfl rfl) je_int rfl (fun _ _ => rfl)) (je_var (i := 1) rfl rfl (vis_by rfl) rfl rfl) (atI_map (f := caseD) (List.getElem?_eq_getElem hb)) (fun _ _ => rfl)) je_int rfl (fun _ _ => rfl)) je_str))))) (by rw [sight_eq hb])) (by exact fun v I H s p => ⟨I, (s.fewer has_nil .nil), p⟩)

theorem sc__law_can_lose : FnScope ["_law_talk_here", "_law_gone_here", "_law_word", "_law_many", "_law_k"] ["_law_talk_here", "_law_gone_here"] (defScope (top 67)) := ⟨rfl, rfl, rfl, by decide +kernel, rfl, by decide +kernel, by decide +kernel⟩
theorem w__law_can_lose (ft : Ft K mg CB CR CT CN CL) (F : FunD K "_law_can_lose" "_law_can_lose" (defArgs (top 67)) (defBody (top 67)) (defScope (top 67)) [] [] f fd) (hm : mg "_law_can_lose" = some (.ref f))  {t : Tk} (ht : TkOk t) {xs : List Let} : Fd P w K mg base "_law_can_lose" 1 (FSp [] [DatV (talkD t), DatV (.list (xs.map letD))] (BlV (canLose t xs)) []) := by
  have fr := ft.fr
  refine ⟨f, fd, ["_law_talk_here", "_law_gone_here"], ?_, hm, F.kp, F.bindsN fun _ _ _ _ _ _ us hl => match us, hl with | [_, _], _ => rfl⟩
  refine fn_rule F sc__law_can_lose rfl fun cdv A outer s H E hr N => ?_
  have nd := sc__law_can_lose.nd
  exact js_for (fun done bt => (∀ d ∈ done, runsOk t xs d = true)) (fun done bt => ([] : OwnM)) (fun done bt => [some (DatV (talkD t)), some (DatV (.list (xs.map letD))), none, none, none]) (ji_dlM (zs := [true, false]) (f := fun d => PyData.str (dirS d)) (je_lstD (jd_cons je_str (jd_cons je_str jd_nil rfl) rfl) (Nat.le_of_ble_eq_true rfl))) (qg_name nd (nm_by rfl rfl rfl)) (fun z hz => (jgr_name (i := 2))) passO rfl () (by intro d hd; cases hd) rfl (And.intro rfl (And.intro rfl True.intro)) (fun z hz done bt => jp1 (Nat.le_of_ble_eq_true rfl))
      (fun N1 sb1 done1 z1 post1 b1 hz1 hC1 => js_set (i := 3) je_int
      (js_for (fun done bt => (∀ k ∈ done, run xs z1 (k + 1) ≤ t.los)) (fun done bt => ([] : OwnM)) (fun done bt => [some (DatV (talkD t)), some (DatV (.list (xs.map letD))), some (StrV (dirS z1)), some (IntV ((run xs z1 done.length : Nat) : Int)), none]) (ji_range (n := (timesD t z1).length) (JE.cast (je_len (je_ixL (je_var (i := 0) rfl rfl (vis_by rfl) rfl rfl) (je_ifI (jct (jc_eqS (je_var (i := 2) rfl rfl (vis_by rfl) rfl rfl) je_str)) (fun hb2 => je_int) (fun hb2 => je_int)) (talk_ix t z1) (fun _ _ => rfl)) (by first | exact .dl _ | exact .dt _ | exact .tu _ | exact .li _) (bi_len fr rfl) ⟨rfl, rfl⟩) (by rw [len_map])) (by have := times_le ht z1; omega) (bi_range fr rfl) rfl) (qg_name nd (nm_by rfl rfl rfl)) (fun z hz => (jgr_name (i := 4))) passO rfl () (by intro d hd; cases hd) rfl (And.intro rfl (And.intro rfl (And.intro rfl (And.intro rfl True.intro)))) (fun z hz done bt => jp1 (Nat.le_of_ble_eq_true rfl))
      (fun N2 sb2 done2 z2 post2 b2 hz2 hC2 => js_set (i := 3) (JE.cast (P' := IntV ((run xs z1 (done2.length + 1) : Nat) : Int)) (je_ifI (jct (jc_cast (jc_inL (d := letD (z1, z2)) (units65 hr) (je_tupD (jd_cons (je_var (i := 2) rfl rfl (vis_by rfl) rfl rfl) (jd_cons (je_var (i := 4) rfl rfl (vis_by rfl) rfl rfl) jd_nil rfl) rfl) (Nat.le_of_ble_eq_true rfl)) (je_var (i := 1) rfl rfl (vis_by rfl) rfl rfl) (letD_shaped _) (letsL_shaped _) rfl) (lets_any _ _))) (fun _ => (je_add (je_var (i := 3) rfl rfl (vis_by rfl) rfl rfl) je_int)) (fun _ => je_int)) (congrArg IntV (run_step hz2)))
      (js_guard (jct (jc_gt (je_var (i := 3) rfl rfl (vis_by rfl) rfl rfl) (je_ixL (je_var (i := 0) rfl rfl (vis_by rfl) rfl rfl) je_int rfl (fun _ _ => rfl)))) (fun hc4 => js_ret (P := BlV (canLose t xs)) (JE.cast je_bl (by rw [can_false hz2 hc4])) (by exact fun v I H s p => ⟨I, sb1.2.2.2 _ _ _ (sb2.2.2.2 _ _ _ s), p⟩))
      (fun hc4 => js_turn () (by intro k hk; rcases List.mem_append.mp hk with h | h; exact hC2 k h; rw [List.mem_singleton.mp h]; exact run_small hz2 hc4) rfl (And.intro rfl (And.intro rfl (And.intro rfl (And.intro (by rw [List.length_append]; rfl) True.intro)))))) nd (nm_by rfl rfl rfl) (Nat.le_of_ble_eq_true rfl) rfl)
      (fun N2 sb2 b2 hC2 => js_sub sb2 (js_turn () (by intro d hd; rcases List.mem_append.mp hd with h | h; exact hC1 d h; rw [List.mem_singleton.mp h]; exact runs_done hC2) rfl (And.intro rfl (And.intro rfl True.intro)))) (fun _ => rfl)) nd (nm_by rfl rfl rfl) (Nat.le_of_ble_eq_true rfl) rfl)
      (fun N1 sb1 b1 hC1 => js_sub sb1 (js_ret (P := BlV (canLose t xs)) (JE.cast je_bl (by rw [can_true hC1])) (by exact fun v I H s p => ⟨I, s, p⟩))) (fun _ => rfl)

theorem sc__law_gone : FnScope ["_law_line_here", "_law_talk_here", "_law_b", "_law_one", "_law_other", "_law_start", "_law_end", "_law_found", "_law_letter", "_law_early", "_law_late"] ["_law_line_here", "_law_talk_here", "_law_b", "_law_one", "_law_other"] (defScope (top 68)) := ⟨rfl, rfl, rfl, by decide +kernel, rfl, by decide +kernel, by decide +kernel⟩
theorem w__law_gone (ft : Ft K mg CB CR CT CN CL) (F : FunD K "_law_gone" "_law_gone" (defArgs (top 68)) (defBody (top 68)) (defScope (top 68)) [] [] f fd) (hm : mg "_law_gone" = some (.ref f)) (h_span : ∀ (l : Line) (t : Tk) (b : Nat) (x : Let), LineOk l → x ∈ letters t → Fd P w K mg base "_law_span" 2 (FSp [] [DatV (lineD l), DatV (talkD t), IntV (b : Int), DatV (letD x)] (DatV (spanD (win l t b x))) [])) (h_letters : ∀ t, TkOk t → Fd P w K mg base "_law_letters" 1 (FSp [] [DatV (talkD t)] (DatV (.list ((letters t).map letD))) [])) (h_sight : ∀ (l : Line) (b : Nat) (x : Let), b < l.boxes.length → Fd P w K mg base "_law_is_sight" 1 (FSp [] [DatV (lineD l), IntV (b : Int), DatV (letD x)] (BlV (sight l b x)) [])) (h_can : ∀ (t : Tk) (xs : List Let), TkOk t → Fd P w K mg base "_law_can_lose" 1 (FSp [] [DatV (talkD t), DatV (.list (xs.map letD))] (BlV (canLose t xs)) [])) {l : Line} (hl : LineOk l) {t : Tk} (ht : TkOk t) {b : Nat} (hb : b < l.boxes.length) {x y : Let} (hx : x ∈ letters t) (hy : y ∈ letters t) (hxy : x ≠ y) : Fd P w K mg base "_law_gone" 3 (FSp [] [DatV (lineD l), DatV (talkD t), IntV (b : Int), DatV (letD x), DatV (letD y)] (DatV (goneD (lostIn l t b x y))) []) := by
  have fr := ft.fr
  refine ⟨f, fd, ["_law_line_here", "_law_talk_here", "_law_b", "_law_one", "_law_other"], ?_, hm, F.kp, F.bindsN fun _ _ _ _ _ _ us hl => match us, hl with | [_, _, _, _, _], _ => rfl⟩
  refine fn_rule F sc__law_gone rfl fun cdv A outer s H E hr N => ?_
  have nd := sc__law_gone.nd
  exact js_par (i := 5) (j := 6) (ja_cons (je_ixL (je_call (h_span l t b x hl hx) (hr.mono (by decide)) (ja_cons (je_var (i := 0) rfl rfl (vis_by rfl) rfl rfl) (ja_cons (je_var (i := 1) rfl rfl (vis_by rfl) rfl rfl) (ja_cons (je_var (i := 2) rfl rfl (vis_by rfl) rfl rfl) (ja_cons (je_var (i := 3) rfl rfl (vis_by rfl) rfl rfl) ja_nil rfl) rfl) rfl) rfl) has_nil .nil rfl rfl ⟨rfl, rfl⟩) je_int rfl (fun _ _ => rfl)) (ja_cons (je_ixL (je_call (h_span l t b y hl hy) (hr.mono (by decide)) (ja_cons (je_var (i := 0) rfl rfl (vis_by rfl) rfl rfl) (ja_cons (je_var (i := 1) rfl rfl (vis_by rfl) rfl rfl) (ja_cons (je_var (i := 2) rfl rfl (vis_by rfl) rfl rfl) (ja_cons (je_var (i := 4) rfl rfl (vis_by rfl) rfl rfl) ja_nil rfl) rfl) rfl) rfl) has_nil .nil rfl rfl ⟨rfl, rfl⟩) je_int rfl (fun _ _ => rfl)) ja_nil rfl) rfl)
      (js_guard (jt_w (jw_or (jct (jc_le (je_var (i := 6) rfl rfl (vis_by rfl) rfl rfl) (je_var (i := 5) rfl rfl (vis_by rfl) rfl rfl))) (fun hb2 => (jw_or1 (jt_not (jt_val (je_call (h_sight l b x hb) (hr.mono (by decide)) (ja_cons (je_var (i := 0) rfl rfl (vis_by rfl) rfl rfl) (ja_cons (je_var (i := 2) rfl rfl (vis_by rfl) rfl rfl) (ja_cons (je_var (i := 3) rfl rfl (vis_by rfl) rfl rfl) ja_nil rfl) rfl) rfl) has_nil .nil rfl rfl ⟨rfl, rfl⟩) (fun _ => rfl))))))) (fun hc1 => js_ret (P := (DatV (goneD (lostIn l t b x y)))) (JE.cast je_non (by rw [gone_none hxy hc1]; rfl)) (by exact fun v I H s p => ⟨I, s, p⟩))
      (fun hc1 => js_new (i := 7) (fun pL => js_for (fun done bt => True) (fun done bt => [(pL, lstO (((done.filter (betw l t b x y)).map letD).map DatV))]) (fun done bt => [some (DatV (lineD l)), some (DatV (talkD t)), some (IntV (b : Int)), some (DatV (letD x)), some (DatV (letD y)), some (IntV (win l t b x).1), some (IntV (win l t b y).2), some (EqV (.ref pL)), none, none, none]) (ji_dlM (je_call (h_letters t ht) (hr.mono (by decide)) (ja_cons (je_var (i := 1) rfl rfl (vis_by rfl) rfl rfl) ja_nil rfl) has_nil .nil rfl rfl ⟨rfl, rfl⟩)) (qg_name nd (nm_by rfl rfl rfl)) (fun z hz => (jgr_name (i := 8))) passO rfl () trivial rfl (And.intro rfl (And.intro rfl (And.intro rfl (And.intro rfl (And.intro rfl (And.intro rfl (And.intro rfl (And.intro rfl True.intro)))))))) (fun z hz done bt => jp1 (Nat.le_of_ble_eq_true rfl))
      (fun N1 sb1 done1 z1 post1 b1 hz1 hC1 => js_ifL (jt_w (jw_and (jct (jc_cast (jc_notInT (units65 hr) (je_var (i := 8) rfl rfl (vis_by rfl) rfl rfl) (je_tupD (jd_cons (je_var (i := 3) rfl rfl (vis_by rfl) rfl rfl) (jd_cons (je_var (i := 4) rfl rfl (vis_by rfl) rfl rfl) jd_nil rfl) rfl) (Nat.le_of_ble_eq_true rfl)) (letD_shaped _) (letsT_shaped [x, y]) rfl) (notin_pair x y z1))) (fun hb5 => (jw_and1 (jt_val (je_call (h_sight l b z1 hb) (hr.mono (by decide)) (ja_cons (je_var (i := 0) rfl rfl (vis_by rfl) rfl rfl) (ja_cons (je_var (i := 2) rfl rfl (vis_by rfl) rfl rfl) (ja_cons (je_var (i := 8) rfl rfl (vis_by rfl) rfl rfl) ja_nil rfl) rfl) rfl) has_nil .nil rfl rfl ⟨rfl, rfl⟩) (fun _ => rfl)))))) (fun hc4 => js_asg (je_call (h_span l t b z1 hl (by rw [hz1]; simp)) (hr.mono (by decide)) (ja_cons (je_var (i := 0) rfl rfl (vis_by rfl) rfl rfl) (ja_cons (je_var (i := 1) rfl rfl (vis_by rfl) rfl rfl) (ja_cons (je_var (i := 2) rfl rfl (vis_by rfl) rfl rfl) (ja_cons (je_var (i := 8) rfl rfl (vis_by rfl) rfl rfl) ja_nil rfl) rfl) rfl) rfl) has_nil .nil rfl rfl ⟨rfl, rfl⟩) (qg_lst2 rfl nd (nm_by rfl rfl rfl) (nm_by rfl rfl rfl)) (jgr_tup2L (i := 9) (j := 10))
      (js_ifL (jt_w (jw_and (jct (jc_gt (je_var (i := 9) rfl rfl (vis_by rfl) rfl rfl) (je_var (i := 5) rfl rfl (vis_by rfl) rfl rfl))) (fun hb7 => (jw_and1 (jct (jc_lt (je_var (i := 10) rfl rfl (vis_by rfl) rfl rfl) (je_var (i := 6) rfl rfl (vis_by rfl) rfl rfl))))))) (fun hc6 => js_append (je_var (i := 7) rfl rfl (vis_by rfl) rfl rfl) (je_var (i := 8) rfl rfl (vis_by rfl) rfl rfl) (by rw [len_map, len_map]; exact betw_len ht hz1)
      (js_turn () trivial (by rw [List.filter_append]; (first | rw [betw1 hc4 hc6] | rw [betw0a hc4] | rw [betw0b hc6]); simp) (And.intro rfl (And.intro rfl (And.intro rfl (And.intro rfl (And.intro rfl (And.intro rfl (And.intro rfl (And.intro rfl True.intro))))))))) ⟨rfl, rfl⟩ rfl rfl rfl rfl)
      (fun hc6 => js_turn () trivial (by rw [List.filter_append]; (first | rw [betw1 hc4 hc6] | rw [betw0a hc4] | rw [betw0b hc6]); simp) (And.intro rfl (And.intro rfl (And.intro rfl (And.intro rfl (And.intro rfl (And.intro rfl (And.intro rfl (And.intro rfl True.intro)))))))))) (jp2 (Nat.le_of_ble_eq_true rfl) (Nat.le_of_ble_eq_true rfl)) rfl rfl rfl)
      (fun hc4 => js_turn () trivial (by rw [List.filter_append]; (first | rw [betw1 hc4 hc4] | rw [betw0a hc4] | rw [betw0b hc4]); simp) (And.intro rfl (And.intro rfl (And.intro rfl (And.intro rfl (And.intro rfl (And.intro rfl (And.intro rfl (And.intro rfl True.intro))))))))))
      (fun N1 sb1 b1 hC1 => js_sub sb1 (js_freezeD (i := 7) (ds := ((letters t).filter (betw l t b x y)).map letD) rfl (js_ret (P := (DatV (goneD (lostIn l t b x y)))) (JE.cast (je_ifD (jt_val (je_call (h_can t ((letters t).filter (betw l t b x y)) ht) (hr.mono (by decide)) (ja_cons (je_var (i := 1) rfl rfl (vis_by rfl) rfl rfl) (ja_cons (je_var (i := 7) rfl rfl (vis_by rfl) rfl rfl) ja_nil rfl) rfl) has_nil .nil rfl rfl ⟨rfl, rfl⟩) (fun _ => rfl)) (fun hb8 => (je_var (i := 7) rfl rfl (vis_by rfl) rfl rfl)) (fun hb8 => je_non)) (by exact gone_some hxy hc1)) (by exact fun v I H s p => ⟨I, (s.fewer has_nil .nil), p⟩)))) (fun _ => rfl)) nd (nm_by rfl rfl rfl) (Nat.le_of_ble_eq_true rfl) rfl)) rfl nd rfl rfl (by decide) rfl rfl (Nat.le_of_ble_eq_true rfl) (Nat.le_of_ble_eq_true rfl) rfl rfl

end
end QD

/-! text QFH -/
set_option Elab.async false
set_option linter.all false
set_option maxRecDepth 100000
set_option maxHeartbeats 4000000
/-! QFH: the gaps that the law reckons. Printed by fg.py. -/
namespace QD
open PySem PySem.Spec PyProof.Rows L2 QL
section
variable {P : Program} {w : World} {K : PySem.W.Frag} {mg : Str → Option Value} {base : Heap} {CB CR CT CN CL : Addr} {f : Addr} {fd : FuncData}

theorem sc__law_gaps : FnScope ["_law_line_here", "_law_talk_here", "_law_b", "_law_found", "_law_one", "_law_other"] ["_law_line_here", "_law_talk_here", "_law_b"] (defScope (top 69)) := ⟨rfl, rfl, rfl, by decide +kernel, rfl, by decide +kernel, by decide +kernel⟩
theorem w__law_gaps (ft : Ft K mg CB CR CT CN CL) (F : FunD K "_law_gaps" "_law_gaps" (defArgs (top 69)) (defBody (top 69)) (defScope (top 69)) [] [] f fd) (hm : mg "_law_gaps" = some (.ref f)) (h_span : ∀ (l : Line) (t : Tk) (b : Nat) (x : Let), LineOk l → x ∈ letters t → Fd P w K mg base "_law_span" 2 (FSp [] [DatV (lineD l), DatV (talkD t), IntV (b : Int), DatV (letD x)] (DatV (spanD (win l t b x))) [])) (h_letters : ∀ t, TkOk t → Fd P w K mg base "_law_letters" 1 (FSp [] [DatV (talkD t)] (DatV (.list ((letters t).map letD))) [])) (h_gone : ∀ (l : Line) (t : Tk) (b : Nat) (x y : Let), LineOk l → TkOk t → b < l.boxes.length → x ∈ letters t → y ∈ letters t → x ≠ y → Fd P w K mg base "_law_gone" 3 (FSp [] [DatV (lineD l), DatV (talkD t), IntV (b : Int), DatV (letD x), DatV (letD y)] (DatV (goneD (lostIn l t b x y))) [])) {l : Line} (hl : LineOk l) {t : Tk} (ht : TkOk t) {b : Nat} (hb : b < l.boxes.length) : Fd P w K mg base "_law_gaps" 4 (FSp [] [DatV (lineD l), DatV (talkD t), IntV (b : Int)] (DatV (.list ((pairsOf l t b).map pairD))) []) := by
  have fr := ft.fr
  refine ⟨f, fd, ["_law_line_here", "_law_talk_here", "_law_b"], ?_, hm, F.kp, F.bindsN fun _ _ _ _ _ _ us hl => match us, hl with | [_, _, _], _ => rfl⟩
  refine fn_rule F sc__law_gaps rfl fun cdv A outer s H E hr N => ?_
  have nd := sc__law_gaps.nd
  exact js_new (i := 3) (fun pL => js_for (fun done bt => True) (fun done bt => [(pL, lstO (((done.flatMap fun x => (letters t).filterMap (pair1 l t b x)).map pairD).map DatV))]) (fun done bt => [some (DatV (lineD l)), some (DatV (talkD t)), some (IntV (b : Int)), some (EqV (.ref pL)), none, none]) (ji_dlM (je_call (h_letters t ht) (hr.mono (by decide)) (ja_cons (je_var (i := 1) rfl rfl (vis_by rfl) rfl rfl) ja_nil rfl) has_nil .nil rfl rfl ⟨rfl, rfl⟩)) (qg_name nd (nm_by rfl rfl rfl)) (fun z hz => (jgr_name (i := 4))) passO rfl () trivial rfl (And.intro rfl (And.intro rfl (And.intro rfl (And.intro rfl True.intro)))) (fun z hz done bt => jp1 (Nat.le_of_ble_eq_true rfl))
      (fun N1 sb1 done1 z1 post1 b1 hz1 hC1 => js_for (fun done bt => True) (fun done bt => [(pL, lstO ((((done1.flatMap fun x => (letters t).filterMap (pair1 l t b x)) ++ done.filterMap (pair1 l t b z1)).map pairD).map DatV))]) (fun done bt => [some (DatV (lineD l)), some (DatV (talkD t)), some (IntV (b : Int)), some (EqV (.ref pL)), some (DatV (letD z1)), none]) (ji_dlM (je_call (h_letters t ht) (hr.mono (by decide)) (ja_cons (je_var (i := 1) rfl rfl (vis_by rfl) rfl rfl) ja_nil rfl) has_nil .nil rfl rfl ⟨rfl, rfl⟩)) (qg_name nd (nm_by rfl rfl rfl)) (fun z hz => (jgr_name (i := 5))) passO rfl () trivial (by simp) (And.intro rfl (And.intro rfl (And.intro rfl (And.intro rfl (And.intro rfl True.intro))))) (fun z hz done bt => jp1 (Nat.le_of_ble_eq_true rfl))
      (fun N2 sb2 done2 z2 post2 b2 hz2 hC2 => js_ifL (jt_w (jw_and (jct (jc_cast (jc_neD hr.units (je_var (i := 4) rfl rfl (vis_by rfl) rfl rfl) (je_var (i := 5) rfl rfl (vis_by rfl) rfl rfl) (letD_shaped _) (letD_shaped _)) (congrArg (! ·) (letD_eqv z1 z2)))) (fun hb4 => (jw_and1 (jct (jc_notN (je_call (h_gone l t b z1 z2 hl ht hb (by rw [hz1]; simp) (by rw [hz2]; simp) (ne_of_nd hb4)) (hr.mono (by decide)) (ja_cons (je_var (i := 0) rfl rfl (vis_by rfl) rfl rfl) (ja_cons (je_var (i := 1) rfl rfl (vis_by rfl) rfl rfl) (ja_cons (je_var (i := 2) rfl rfl (vis_by rfl) rfl rfl) (ja_cons (je_var (i := 4) rfl rfl (vis_by rfl) rfl rfl) (ja_cons (je_var (i := 5) rfl rfl (vis_by rfl) rfl rfl) ja_nil rfl) rfl) rfl) rfl) rfl) has_nil .nil rfl rfl ⟨rfl, rfl⟩) (nonD _ _ (goneD_none _)))))))) (fun hc3 => js_append (je_var (i := 3) rfl rfl (vis_by rfl) rfl rfl) (je_tupD (jd_cons (je_sub (je_ixL (je_call (h_span l t b z2 hl (by rw [hz2]; simp)) (hr.mono (by decide)) (ja_cons (je_var (i := 0) rfl rfl (vis_by rfl) rfl rfl) (ja_cons (je_var (i := 1) rfl rfl (vis_by rfl) rfl rfl) (ja_cons (je_var (i := 2) rfl rfl (vis_by rfl) rfl rfl) (ja_cons (je_var (i := 5) rfl rfl (vis_by rfl) rfl rfl) ja_nil rfl) rfl) rfl) rfl) has_nil .nil rfl rfl ⟨rfl, rfl⟩) je_int rfl (fun _ _ => rfl)) (je_ixL (je_call (h_span l t b z1 hl (by rw [hz1]; simp)) (hr.mono (by decide)) (ja_cons (je_var (i := 0) rfl rfl (vis_by rfl) rfl rfl) (ja_cons (je_var (i := 1) rfl rfl (vis_by rfl) rfl rfl) (ja_cons (je_var (i := 2) rfl rfl (vis_by rfl) rfl rfl) (ja_cons (je_var (i := 4) rfl rfl (vis_by rfl) rfl rfl) ja_nil rfl) rfl) rfl) rfl) has_nil .nil rfl rfl ⟨rfl, rfl⟩) je_int rfl (fun _ _ => rfl))) (jd_cons (je_var (i := 4) rfl rfl (vis_by rfl) rfl rfl) (jd_cons (je_var (i := 5) rfl rfl (vis_by rfl) rfl rfl) jd_nil rfl) rfl) rfl) (Nat.le_of_ble_eq_true rfl)) (by rw [len_map, len_map]; exact pref_len ht hz1 hz2)
      (js_turn () trivial (by rw [List.filterMap_append]; (first | rw [fm_some (gone_is hc3)] | rw [fm_none (gone_is hc3)]); simp [pairD]) (And.intro rfl (And.intro rfl (And.intro rfl (And.intro rfl (And.intro rfl True.intro)))))) ⟨rfl, rfl⟩ rfl rfl rfl rfl)
      (fun hc3 => js_turn () trivial (by rw [List.filterMap_append]; (first | rw [fm_some (gone_is hc3)] | rw [fm_none (gone_is hc3)]); simp [pairD]) (And.intro rfl (And.intro rfl (And.intro rfl (And.intro rfl (And.intro rfl True.intro)))))))
      (fun N2 sb2 b2 hC2 => js_sub sb2 (js_turn () trivial (by simp [List.flatMap_append]) (And.intro rfl (And.intro rfl (And.intro rfl (And.intro rfl True.intro)))))) (fun _ => rfl))
      (fun N1 sb1 b1 hC1 => js_sub sb1 (js_freezeD (i := 3) (ds := (pairsOf l t b).map pairD) rfl (js_ret (je_var (i := 3) rfl rfl (vis_by rfl) rfl rfl) (by exact fun v I H s p => ⟨I, (s.fewer has_nil .nil), p⟩)))) (fun _ => rfl)) nd (nm_by rfl rfl rfl) (Nat.le_of_ble_eq_true rfl) rfl

theorem sc__law_greatest : FnScope ["_law_line_here", "_law_talk_here", "_law_b", "_law_one"] ["_law_line_here", "_law_talk_here", "_law_b"] (defScope (top 70)) := ⟨rfl, rfl, rfl, by decide +kernel, rfl, by decide +kernel, by decide +kernel⟩
theorem w__law_greatest (ft : Ft K mg CB CR CT CN CL) (F : FunD K "_law_greatest" "_law_greatest" (defArgs (top 70)) (defBody (top 70)) (defScope (top 70)) [] [] f fd) (hm : mg "_law_greatest" = some (.ref f)) (h_gaps : ∀ (l : Line) (t : Tk) (b : Nat), LineOk l → TkOk t → b < l.boxes.length → Fd P w K mg base "_law_gaps" 4 (FSp [] [DatV (lineD l), DatV (talkD t), IntV (b : Int)] (DatV (.list ((pairsOf l t b).map pairD))) [])) {l : Line} (hl : LineOk l) {t : Tk} (ht : TkOk t) {b : Nat} (hb : b < l.boxes.length) : Fd P w K mg base "_law_greatest" 5 (FSp [] [DatV (lineD l), DatV (talkD t), IntV (b : Int)] (IntV (gapOf l t b)) []) := by
  have fr := ft.fr
  refine ⟨f, fd, ["_law_line_here", "_law_talk_here", "_law_b"], ?_, hm, F.kp, F.bindsN fun _ _ _ _ _ _ us hl => match us, hl with | [_, _, _], _ => rfl⟩
  refine fn_rule F sc__law_greatest rfl fun cdv A outer s H E hr N => ?_
  have nd := sc__law_greatest.nd
  exact js_ret (je_max rfl (JE.cast (P' := DatV (.list (((0 : Int) :: (pairsOf l t b).map (·.1)).map PyData.int))) (je_catL (je_lstD (jd_cons je_int jd_nil rfl) (Nat.le_of_ble_eq_true rfl)) (je_lcI0 (Lc.of (own := [("_law_one", 3)]) (E := fun z : Pair => DatV (.int z.1)) (p := fun _ => true) (ji_dlM (zs := pairsOf l t b) (f := pairD) (je_call (h_gaps l t b hl ht hb) (hr.mono (by decide)) (ja_cons (je_var (i := 0) rfl rfl (vis_by rfl) rfl rfl) (ja_cons (je_var (i := 1) rfl rfl (vis_by rfl) rfl rfl) (ja_cons (je_var (i := 2) rfl rfl (vis_by rfl) rfl rfl) ja_nil rfl) rfl) rfl) has_nil .nil rfl rfl ⟨rfl, rfl⟩)) rfl (fun _ _ _ _ _ => qg_name nd (nm_by rfl rfl rfl)) (fun z hz => (jgr_name (i := 3))) (fun z hz => jq1 ⟨by decide, Nat.le_of_ble_eq_true rfl⟩) (fun z hz _ _ _ _ _ => jts_nil) (fun z hz hpz _ _ _ _ _ => (je_intc (je_ixT (je_var (i := 3) rfl rfl (vis_by rfl) rfl rfl) je_int rfl (fun _ _ => rfl)) (bi_int fr rfl) ⟨rfl, rfl⟩)) (by have := pairs_len (l := l) (b := b) ht; omega)) rfl nd (fun _ => rfl)) (by have := pairs_len (l := l) (b := b) ht; simp; omega)) rfl) gap_max.1 gap_max.2 (bi_max fr rfl) ⟨rfl, rfl⟩) (by exact fun v I H s p => ⟨I, (s.fewer has_nil .nil), p⟩)

end
end QD

/-! text QG17 -/
set_option Elab.async false
set_option linter.all false
set_option maxRecDepth 100000
set_option maxHeartbeats 4000000
/-! QG17: all of it, from what the head tells. Printed by asm.py. -/
namespace QX
open PySem PySem.Spec PyProof.Rows L2 QL QD
/-- the defs, each at its place -/
structure Df (K : PySem.W.Frag) (mg : Str → Option Value) (CB CR CT : Addr) : Prop where
  d_is_integer : ∃ (f : Addr) (fd : FuncData), FunD K "is_integer" "is_integer" (defArgs (top 15)) (defBody (top 15)) (defScope (top 15)) [] [] f fd ∧ mg "is_integer" = some (.ref f)
  d_is_between : ∃ (f : Addr) (fd : FuncData), FunD K "is_between" "is_between" (defArgs (top 16)) (defBody (top 16)) (defScope (top 16)) [] [] f fd ∧ mg "is_between" = some (.ref f)
  d_is_part_value : ∃ (f : Addr) (fd : FuncData), FunD K "is_part_value" "is_part_value" (defArgs (top 17)) (defBody (top 17)) (defScope (top 17)) [] [] f fd ∧ mg "is_part_value" = some (.ref f)
  d_check_letter : ∃ (f : Addr) (fd : FuncData), FunD K "check_letter" "check_letter" (defArgs (top 20)) (defBody (top 20)) (defScope (top 20)) [] [] f fd ∧ mg "check_letter" = some (.ref f)
  d_window_of : ∃ (f : Addr) (fd : FuncData), FunD K "window_of" "window_of" (defArgs (top 21)) (defBody (top 21)) (defScope (top 21)) [] [] f fd ∧ mg "window_of" = some (.ref f)
  d_can_be_lost : ∃ (f : Addr) (fd : FuncData), FunD K "can_be_lost" "can_be_lost" (defArgs (top 24)) (defBody (top 24)) (defScope (top 24)) [] [] f fd ∧ mg "can_be_lost" = some (.ref f)
  d_is_sight : ∃ (f : Addr) (fd : FuncData), FunD K "is_sight" "is_sight" (defArgs (top 25)) (defBody (top 25)) (defScope (top 25)) [] [] f fd ∧ mg "is_sight" = some (.ref f)
  d_windows : ∃ (f : Addr) (fd : FuncData), FunD K "windows" "windows" (defArgs (top 27)) (defBody (top 27)) (defScope (top 27)) [] [] f fd ∧ mg "windows" = some (.ref f)
  d_lost_in : ∃ (f : Addr) (fd : FuncData), FunD K "lost_in" "lost_in" (defArgs (top 28)) (defBody (top 28)) (defScope (top 28)) [] [] f fd ∧ mg "lost_in" = some (.ref f)
  d_lost_between : ∃ (f : Addr) (fd : FuncData), FunD K "lost_between" "lost_between" (defArgs (top 29)) (defBody (top 29)) (defScope (top 29)) [] [] f fd ∧ mg "lost_between" = some (.ref f)
  d_pairs_of : ∃ (f : Addr) (fd : FuncData), FunD K "pairs_of" "pairs_of" (defArgs (top 30)) (defBody (top 30)) (defScope (top 30)) [] [] f fd ∧ mg "pairs_of" = some (.ref f)
  d_gap : ∃ (f : Addr) (fd : FuncData), FunD K "gap" "gap" (defArgs (top 31)) (defBody (top 31)) (defScope (top 31)) [] [] f fd ∧ mg "gap" = some (.ref f)
  d_ends : ∃ (f : Addr) (fd : FuncData), FunD K "ends" "ends" (defArgs (top 32)) (defBody (top 32)) (defScope (top 32)) [] [] f fd ∧ mg "ends" = some (.ref f)
  d_must_lose : ∃ (f : Addr) (fd : FuncData), FunD K "must_lose" "must_lose" (defArgs (top 33)) (defBody (top 33)) (defScope (top 33)) [] [] f fd ∧ mg "must_lose" = some (.ref f)
  d_worst_course : ∃ (f : Addr) (fd : FuncData), FunD K "worst_course" "worst_course" (defArgs (top 35)) (defBody (top 35)) (defScope (top 35)) [] [] f fd ∧ mg "worst_course" = some (.ref f)
  d_gaps : ∃ (f : Addr) (fd : FuncData), FunD K "gaps" "gaps" (defArgs (top 36)) (defBody (top 36)) (defScope (top 36)) [] [] f fd ∧ mg "gaps" = some (.ref f)
  d_is_kept : ∃ (f : Addr) (fd : FuncData), FunD K "is_kept" "is_kept" (defArgs (top 37)) (defBody (top 37)) (defScope (top 37)) [] [] f fd ∧ mg "is_kept" = some (.ref f)
  d_is_link : ∃ (f : Addr) (fd : FuncData), FunD K "is_link" "is_link" (defArgs (top 41)) (defBody (top 41)) (defScope (top 41)) [] [] f fd ∧ mg "is_link" = some (.ref f)
  d_are_boxes : ∃ (f : Addr) (fd : FuncData), FunD K "are_boxes" "are_boxes" (defArgs (top 42)) (defBody (top 42)) (defScope (top 42)) [] [] f fd ∧ mg "are_boxes" = some (.ref f)
  d_are_links : ∃ (f : Addr) (fd : FuncData), FunD K "are_links" "are_links" (defArgs (top 43)) (defBody (top 43)) (defScope (top 43)) [] [] f fd ∧ mg "are_links" = some (.ref f)
  d_summed : ∃ (f : Addr) (fd : FuncData), FunD K "summed" "summed" (defArgs (top 44)) (defBody (top 44)) (defScope (top 44)) [] [] f fd ∧ mg "summed" = some (.ref f)
  d_are_times : ∃ (f : Addr) (fd : FuncData), FunD K "are_times" "are_times" (defArgs (top 49)) (defBody (top 49)) (defScope (top 49)) [] [] f fd ∧ mg "are_times" = some (.ref f)
  d__law_begin : ∃ (f : Addr) (fd : FuncData), FunD K "_law_begin" "_law_begin" (defArgs (top 53)) (defBody (top 53)) (defScope (top 53)) [] [] f fd ∧ mg "_law_begin" = some (.ref f)
  d__law_draw : ∃ (f : Addr) (fd : FuncData), FunD K "_law_draw" "_law_draw" (defArgs (top 54)) (defBody (top 54)) (defScope (top 54)) [] [] f fd ∧ mg "_law_draw" = some (.ref f)
  d__law_pick : ∃ (f : Addr) (fd : FuncData), FunD K "_law_pick" "_law_pick" (defArgs (top 55)) (defBody (top 55)) (defScope (top 55)) [] [] f fd ∧ mg "_law_pick" = some (.ref f)
  d__law_case : ∃ (f : Addr) (fd : FuncData), FunD K "_law_case" "_law_case" (defArgs (top 56)) (defBody (top 56)) (defScope (top 56)) [] [] f fd ∧ mg "_law_case" = some (.ref f)
  d__law_box : ∃ (f : Addr) (fd : FuncData), FunD K "_law_box" "_law_box" (defArgs (top 57)) (defBody (top 57)) (defScope (top 57)) [] [] f fd ∧ mg "_law_box" = some (.ref f)
  d__law_line : ∃ (f : Addr) (fd : FuncData), FunD K "_law_line" "_law_line" (defArgs (top 58)) (defBody (top 58)) (defScope (top 58)) [] [] f fd ∧ mg "_law_line" = some (.ref f)
  d__law_row : ∃ (f : Addr) (fd : FuncData), FunD K "_law_row" "_law_row" (defArgs (top 59)) (defBody (top 59)) (defScope (top 59)) [] [] f fd ∧ mg "_law_row" = some (.ref f)
  d__law_times : ∃ (f : Addr) (fd : FuncData), FunD K "_law_times" "_law_times" (defArgs (top 60)) (defBody (top 60)) (defScope (top 60)) [] [] f fd ∧ mg "_law_times" = some (.ref f)
  d__law_talk : ∃ (f : Addr) (fd : FuncData), FunD K "_law_talk" "_law_talk" (defArgs (top 61)) (defBody (top 61)) (defScope (top 61)) [] [] f fd ∧ mg "_law_talk" = some (.ref f)
  d__law_made_talk : ∃ (f : Addr) (fd : FuncData), FunD K "_law_made_talk" "_law_made_talk" (defArgs (top 62)) (defBody (top 62)) (defScope (top 62)) [] [] f fd ∧ mg "_law_made_talk" = some (.ref f)
  d__law_letters : ∃ (f : Addr) (fd : FuncData), FunD K "_law_letters" "_law_letters" (defArgs (top 63)) (defBody (top 63)) (defScope (top 63)) [] [] f fd ∧ mg "_law_letters" = some (.ref f)
  d__law_sent : ∃ (f : Addr) (fd : FuncData), FunD K "_law_sent" "_law_sent" (defArgs (top 64)) (defBody (top 64)) (defScope (top 64)) [] [] f fd ∧ mg "_law_sent" = some (.ref f)
  d__law_span : ∃ (f : Addr) (fd : FuncData), FunD K "_law_span" "_law_span" (defArgs (top 65)) (defBody (top 65)) (defScope (top 65)) [] [] f fd ∧ mg "_law_span" = some (.ref f)
  d__law_is_sight : ∃ (f : Addr) (fd : FuncData), FunD K "_law_is_sight" "_law_is_sight" (defArgs (top 66)) (defBody (top 66)) (defScope (top 66)) [] [] f fd ∧ mg "_law_is_sight" = some (.ref f)
  d__law_can_lose : ∃ (f : Addr) (fd : FuncData), FunD K "_law_can_lose" "_law_can_lose" (defArgs (top 67)) (defBody (top 67)) (defScope (top 67)) [] [] f fd ∧ mg "_law_can_lose" = some (.ref f)
  d__law_gone : ∃ (f : Addr) (fd : FuncData), FunD K "_law_gone" "_law_gone" (defArgs (top 68)) (defBody (top 68)) (defScope (top 68)) [] [] f fd ∧ mg "_law_gone" = some (.ref f)
  d__law_gaps : ∃ (f : Addr) (fd : FuncData), FunD K "_law_gaps" "_law_gaps" (defArgs (top 69)) (defBody (top 69)) (defScope (top 69)) [] [] f fd ∧ mg "_law_gaps" = some (.ref f)
  d__law_greatest : ∃ (f : Addr) (fd : FuncData), FunD K "_law_greatest" "_law_greatest" (defArgs (top 70)) (defBody (top 70)) (defScope (top 70)) [] [] f fd ∧ mg "_law_greatest" = some (.ref f)
  d__law_wrong : ∃ (f : Addr) (fd : FuncData), FunD K "_law_wrong" "_law_wrong" (defArgs (top 71)) (defBody (top 71)) (defScope (top 71)) [] [] f fd ∧ mg "_law_wrong" = some (.ref f)
  d__law_kind : ∃ (f : Addr) (fd : FuncData), FunD K "_law_kind" "_law_kind" (defArgs (top 72)) (defBody (top 72)) (defScope (top 72)) [] [] f fd ∧ mg "_law_kind" = some (.ref f)
  d__law_pairs_right : ∃ (f : Addr) (fd : FuncData), FunD K "_law_pairs_right" "_law_pairs_right" (defArgs (top 73)) (defBody (top 73)) (defScope (top 73)) [] [] f fd ∧ mg "_law_pairs_right" = some (.ref f)
  d__law_refuses : ∃ (f : Addr) (fd : FuncData), FunD K "_law_refuses" "_law_refuses" (defArgs (top 74)) (defBody (top 74)) (defScope (top 74)) [] [] f fd ∧ mg "_law_refuses" = some (.ref f)
  d_law : ∃ (f : Addr) (fd : FuncData), FunD K "law" "law" (defArgs (top 75)) (defBody (top 75)) (defScope (top 75)) [] [] f fd ∧ mg "law" = some (.ref f)
  d_Box_low : ∃ (p f : Addr) (fd : FuncData), FunD K "low" "Box.low" (defArgs (sub 18 1)) (defBody (sub 18 1)) (defScope (sub 18 1)) [] [] f fd ∧ PropOf K CB "low" p f
  d_Box_sees : ∃ (p f : Addr) (fd : FuncData), FunD K "sees" "Box.sees" (defArgs (sub 18 4)) (defBody (sub 18 4)) (defScope (sub 18 4)) [] [] f fd ∧ PropOf K CB "sees" p f
  d_Row_boxes : ∃ (p f : Addr) (fd : FuncData), FunD K "boxes" "Row.boxes" (defArgs (sub 45 1)) (defBody (sub 45 1)) (defScope (sub 45 1)) [] [] f fd ∧ PropOf K CR "boxes" p f
  d_Row___len__ : ∃ (f : Addr) (fd : FuncData), FunD K "__len__" "Row.__len__" (defArgs (sub 45 3)) (defBody (sub 45 3)) (defScope (sub 45 3)) [] [] f fd ∧ Meth K CR "__len__" f
  d_Row_check : ∃ (f : Addr) (fd : FuncData), FunD K "check" "Row.check" (defArgs (sub 45 4)) (defBody (sub 45 4)) (defScope (sub 45 4)) [] [] f fd ∧ Meth K CR "check" f
  d_Row_out_delay : ∃ (f : Addr) (fd : FuncData), FunD K "out_delay" "Row.out_delay" (defArgs (sub 45 10)) (defBody (sub 45 10)) (defScope (sub 45 10)) [] [] f fd ∧ Meth K CR "out_delay" f
  d_Row_back_delay : ∃ (f : Addr) (fd : FuncData), FunD K "back_delay" "Row.back_delay" (defArgs (sub 45 11)) (defBody (sub 45 11)) (defScope (sub 45 11)) [] [] f fd ∧ Meth K CR "back_delay" f
  d_Talk_losses : ∃ (p f : Addr) (fd : FuncData), FunD K "losses" "Talk.losses" (defArgs (sub 51 3)) (defBody (sub 51 3)) (defScope (sub 51 3)) [] [] f fd ∧ PropOf K CT "losses" p f
  d_Talk_letters : ∃ (f : Addr) (fd : FuncData), FunD K "letters" "Talk.letters" (defArgs (sub 51 5)) (defBody (sub 51 5)) (defScope (sub 51 5)) [] [] f fd ∧ Meth K CT "letters" f
  d_Talk___contains__ : ∃ (f : Addr) (fd : FuncData), FunD K "__contains__" "Talk.__contains__" (defArgs (sub 51 6)) (defBody (sub 51 6)) (defScope (sub 51 6)) [] [] f fd ∧ Meth K CT "__contains__" f
  d_Talk_time : ∃ (f : Addr) (fd : FuncData), FunD K "time" "Talk.time" (defArgs (sub 51 7)) (defBody (sub 51 7)) (defScope (sub 51 7)) [] [] f fd ∧ Meth K CT "time" f
  d_Box___init__ : ∃ (f : Addr) (fd : FuncData), FunD K "__init__" "Box.__init__" (defArgs (sub 18 0)) (defBody (sub 18 0)) (defScope (sub 18 0)) [] [("rest", .int 0), ("sees", .str "out")] f fd ∧ Mk K CB f
  d_Row___init__ : ∃ (f : Addr) (fd : FuncData), FunD K "__init__" "Row.__init__" (defArgs (sub 45 0)) (defBody (sub 45 0)) (defScope (sub 45 0)) [] [] f fd ∧ Mk K CR f
  d_Talk___init__ : ∃ (dv : List V) (f : Addr) (fd : FuncData), dv.length = 2 ∧ FunD K "__init__" "Talk.__init__" (defArgs (sub 51 0)) (defBody (sub 51 0)) (defScope (sub 51 0)) dv [] f fd ∧ Mk K CT f
/-- the exceptions -/
structure Ef (P : Program) (K : PySem.W.Frag) (mg : Str → Option Value) (CN CL c Pt : Addr) : Prop where
  kinds : ∃ D0 D1 D2 D3 D4 D5 D6 D7 : Addr, mg "InvalidNumber" = some (.ref D0) ∧ mg "InvalidName" = some (.ref D1) ∧ mg "InvalidBox" = some (.ref D2) ∧ mg "InvalidRow" = some (.ref D3) ∧ mg "InvalidTalk" = some (.ref D4) ∧ mg "InvalidText" = some (.ref D5) ∧ mg "InvalidLetter" = some (.ref D6) ∧ mg "InvalidCourse" = some (.ref D7) ∧ PySem.W.kitOne K (.ref CN) (.ref D0) = some true ∧ PySem.W.kitOne K (.ref CN) (.ref D1) = some false ∧ PySem.W.kitOne K (.ref CN) (.ref D2) = some false ∧ PySem.W.kitOne K (.ref CN) (.ref D3) = some false ∧ PySem.W.kitOne K (.ref CN) (.ref D4) = some false ∧ PySem.W.kitOne K (.ref CN) (.ref D5) = some false ∧ PySem.W.kitOne K (.ref CN) (.ref D6) = some false ∧ PySem.W.kitOne K (.ref CN) (.ref D7) = some false ∧ PySem.W.kitOne K (.ref CL) (.ref D0) = some false ∧ PySem.W.kitOne K (.ref CL) (.ref D1) = some false ∧ PySem.W.kitOne K (.ref CL) (.ref D2) = some false ∧ PySem.W.kitOne K (.ref CL) (.ref D3) = some false ∧ PySem.W.kitOne K (.ref CL) (.ref D4) = some false ∧ PySem.W.kitOne K (.ref CL) (.ref D5) = some false ∧ PySem.W.kitOne K (.ref CL) (.ref D6) = some true ∧ PySem.W.kitOne K (.ref CL) (.ref D7) = some false
  xN : ExcC K CN
  xL : ExcC K CL
  fN : XfC K CN
  fL : XfC K CL
  nN : PySem.W.findIn K (.ref CN) "value" = some none
  nL : PySem.W.findIn K (.ref CL) "value" = some none
  qe : ∃ CS : Addr, mg "QuietError" = some (.ref CS) ∧ PySem.W.exmOne K (.ref CN) (.ref CS) = some true ∧ PySem.W.exmOne K (.ref CL) (.ref CS) = some true
  code : ∀ (f : Addr) (fd : FuncData), FunD K "_law_refuses" "_law_refuses" (defArgs (top 74)) (defBody (top 74)) (defScope (top 74)) [] [] f fd → mg "_law_refuses" = some (.ref f) → fd.code = .ref c
section
variable {P : Program} {w : World} {K : PySem.W.Frag} {mg : Str → Option Value} {base : Heap} {CT : Addr}
theorem con_bad {t : Tk} (ht : TkOk t) {x : PyData} (o : NoLet t.out.length x) (h1 : ∀ (t : Tk) (x : Let), TkOk t → Fm P w K mg base CT "__contains__" 2 (FSp [] [TalkV CT t, DatV (letD x)] (BlV (decide (x ∈ letters t))) []))
    (h2 : ∀ t : Tk, TkOk t → Fm P w K mg base CT "__contains__" 2 (FSp [] [TalkV CT t, DatV (.tuple [.str "in", .int 0])] (BlV false) [])) (h3 : ∀ t : Tk, TkOk t → Fm P w K mg base CT "__contains__" 2 (FSp [] [TalkV CT t, DatV (.tuple [.str "out", .bool true])] (BlV false) []))
    (h4 : ∀ t : Tk, TkOk t → Fm P w K mg base CT "__contains__" 2 (FSp [] [TalkV CT t, DatV .none] (BlV false) [])) (h5 : ∀ t : Tk, TkOk t → Fm P w K mg base CT "__contains__" 2 (FSp [] [TalkV CT t, DatV (.list [.str "out", .int 0])] (BlV false) [])) :
    Fm P w K mg base CT "__contains__" 2 (FSp [] [TalkV CT t, DatV x] (BlV false) []) := by
  rcases o with rfl | rfl | rfl | rfl | rfl
  · exact h4 t ht
  · have z := h1 t (true, t.out.length) ht
    have e : decide (((true, t.out.length) : Let) ∈ letters t) = false := decide_eq_false fun hm => absurd (mem_letters.mp hm) (by simp [times])
    rw [e] at z
    exact z
  · exact h2 t ht
  · exact h5 t ht
  · exact h3 t ht
end
section
variable {P : Program} {w : World} {K : PySem.W.Frag} {mg : Str → Option Value} {base : Heap} {CB CR CT CN CL c Pt : Addr}
theorem law_all (ft : Ft K mg CB CR CT CN CL) (D : Df K mg CB CR CT) (E : Ef P K mg CN CL c Pt) (hxN : Xf P w K mg base "InvalidNumber" CN 1) (hxL : Xf P w K mg base "InvalidLetter" CL 1) (TB : LamX.TabB base mg c Pt)
    {f : Addr} {fd : FuncData} (F : FunD K "law" "law" (defArgs (top 75)) (defBody (top 75)) (defScope (top 75)) [] [] f fd) {ns : List Int} :
    FnG P w K mg base 11 f fd ["_law_script"] (FSt [(Pt, (("_law_refuses" : Str) ++ ".<locals>.") ++ "<lambda>")] [] [SqV K ns] (BlV true)) := by
  obtain ⟨f_is_integer, fd_is_integer, F_is_integer, m_is_integer⟩ := D.d_is_integer
  obtain ⟨f_is_between, fd_is_between, F_is_between, m_is_between⟩ := D.d_is_between
  obtain ⟨f_is_part_value, fd_is_part_value, F_is_part_value, m_is_part_value⟩ := D.d_is_part_value
  obtain ⟨f_check_letter, fd_check_letter, F_check_letter, m_check_letter⟩ := D.d_check_letter
  obtain ⟨f_window_of, fd_window_of, F_window_of, m_window_of⟩ := D.d_window_of
  obtain ⟨f_can_be_lost, fd_can_be_lost, F_can_be_lost, m_can_be_lost⟩ := D.d_can_be_lost
  obtain ⟨f_is_sight, fd_is_sight, F_is_sight, m_is_sight⟩ := D.d_is_sight
  obtain ⟨f_windows, fd_windows, F_windows, m_windows⟩ := D.d_windows
  obtain ⟨f_lost_in, fd_lost_in, F_lost_in, m_lost_in⟩ := D.d_lost_in
  obtain ⟨f_lost_between, fd_lost_between, F_lost_between, m_lost_between⟩ := D.d_lost_between
  obtain ⟨f_pairs_of, fd_pairs_of, F_pairs_of, m_pairs_of⟩ := D.d_pairs_of
  obtain ⟨f_gap, fd_gap, F_gap, m_gap⟩ := D.d_gap
  obtain ⟨f_ends, fd_ends, F_ends, m_ends⟩ := D.d_ends
  obtain ⟨f_must_lose, fd_must_lose, F_must_lose, m_must_lose⟩ := D.d_must_lose
  obtain ⟨f_worst_course, fd_worst_course, F_worst_course, m_worst_course⟩ := D.d_worst_course
  obtain ⟨f_gaps, fd_gaps, F_gaps, m_gaps⟩ := D.d_gaps
  obtain ⟨f_is_kept, fd_is_kept, F_is_kept, m_is_kept⟩ := D.d_is_kept
  obtain ⟨f_is_link, fd_is_link, F_is_link, m_is_link⟩ := D.d_is_link
  obtain ⟨f_are_boxes, fd_are_boxes, F_are_boxes, m_are_boxes⟩ := D.d_are_boxes
  obtain ⟨f_are_links, fd_are_links, F_are_links, m_are_links⟩ := D.d_are_links
  obtain ⟨f_summed, fd_summed, F_summed, m_summed⟩ := D.d_summed
  obtain ⟨f_are_times, fd_are_times, F_are_times, m_are_times⟩ := D.d_are_times
  obtain ⟨f__law_begin, fd__law_begin, F__law_begin, m__law_begin⟩ := D.d__law_begin
  obtain ⟨f__law_draw, fd__law_draw, F__law_draw, m__law_draw⟩ := D.d__law_draw
  obtain ⟨f__law_pick, fd__law_pick, F__law_pick, m__law_pick⟩ := D.d__law_pick
  obtain ⟨f__law_case, fd__law_case, F__law_case, m__law_case⟩ := D.d__law_case
  obtain ⟨f__law_box, fd__law_box, F__law_box, m__law_box⟩ := D.d__law_box
  obtain ⟨f__law_line, fd__law_line, F__law_line, m__law_line⟩ := D.d__law_line
  obtain ⟨f__law_row, fd__law_row, F__law_row, m__law_row⟩ := D.d__law_row
  obtain ⟨f__law_times, fd__law_times, F__law_times, m__law_times⟩ := D.d__law_times
  obtain ⟨f__law_talk, fd__law_talk, F__law_talk, m__law_talk⟩ := D.d__law_talk
  obtain ⟨f__law_made_talk, fd__law_made_talk, F__law_made_talk, m__law_made_talk⟩ := D.d__law_made_talk
  obtain ⟨f__law_letters, fd__law_letters, F__law_letters, m__law_letters⟩ := D.d__law_letters
  obtain ⟨f__law_sent, fd__law_sent, F__law_sent, m__law_sent⟩ := D.d__law_sent
  obtain ⟨f__law_span, fd__law_span, F__law_span, m__law_span⟩ := D.d__law_span
  obtain ⟨f__law_is_sight, fd__law_is_sight, F__law_is_sight, m__law_is_sight⟩ := D.d__law_is_sight
  obtain ⟨f__law_can_lose, fd__law_can_lose, F__law_can_lose, m__law_can_lose⟩ := D.d__law_can_lose
  obtain ⟨f__law_gone, fd__law_gone, F__law_gone, m__law_gone⟩ := D.d__law_gone
  obtain ⟨f__law_gaps, fd__law_gaps, F__law_gaps, m__law_gaps⟩ := D.d__law_gaps
  obtain ⟨f__law_greatest, fd__law_greatest, F__law_greatest, m__law_greatest⟩ := D.d__law_greatest
  obtain ⟨f__law_wrong, fd__law_wrong, F__law_wrong, m__law_wrong⟩ := D.d__law_wrong
  obtain ⟨f__law_kind, fd__law_kind, F__law_kind, m__law_kind⟩ := D.d__law_kind
  obtain ⟨f__law_pairs_right, fd__law_pairs_right, F__law_pairs_right, m__law_pairs_right⟩ := D.d__law_pairs_right
  obtain ⟨f__law_refuses, fd__law_refuses, F__law_refuses, m__law_refuses⟩ := D.d__law_refuses
  obtain ⟨p_Box_low, f_Box_low, fd_Box_low, F_Box_low, m_Box_low⟩ := D.d_Box_low
  obtain ⟨p_Box_sees, f_Box_sees, fd_Box_sees, F_Box_sees, m_Box_sees⟩ := D.d_Box_sees
  obtain ⟨p_Row_boxes, f_Row_boxes, fd_Row_boxes, F_Row_boxes, m_Row_boxes⟩ := D.d_Row_boxes
  obtain ⟨f_Row___len__, fd_Row___len__, F_Row___len__, m_Row___len__⟩ := D.d_Row___len__
  obtain ⟨f_Row_check, fd_Row_check, F_Row_check, m_Row_check⟩ := D.d_Row_check
  obtain ⟨f_Row_out_delay, fd_Row_out_delay, F_Row_out_delay, m_Row_out_delay⟩ := D.d_Row_out_delay
  obtain ⟨f_Row_back_delay, fd_Row_back_delay, F_Row_back_delay, m_Row_back_delay⟩ := D.d_Row_back_delay
  obtain ⟨p_Talk_losses, f_Talk_losses, fd_Talk_losses, F_Talk_losses, m_Talk_losses⟩ := D.d_Talk_losses
  obtain ⟨f_Talk_letters, fd_Talk_letters, F_Talk_letters, m_Talk_letters⟩ := D.d_Talk_letters
  obtain ⟨f_Talk___contains__, fd_Talk___contains__, F_Talk___contains__, m_Talk___contains__⟩ := D.d_Talk___contains__
  obtain ⟨f_Talk_time, fd_Talk_time, F_Talk_time, m_Talk_time⟩ := D.d_Talk_time
  obtain ⟨f_Box___init__, fd_Box___init__, F_Box___init__, m_Box___init__⟩ := D.d_Box___init__
  obtain ⟨f_Row___init__, fd_Row___init__, F_Row___init__, m_Row___init__⟩ := D.d_Row___init__
  obtain ⟨dvT, f_Talk___init__, fd_Talk___init__, hdv, F_Talk___init__, m_Talk___init__⟩ := D.d_Talk___init__
  have hI := w_is_integer (P := P) (w := w) (base := base) ft F_is_integer m_is_integer
  have hB := w_is_between (P := P) (w := w) (base := base) ft F_is_between m_is_between hI
  have hLow := fun bx : BoxD => w_Box_low (P := P) (w := w) (base := base) ft F_Box_low m_Box_low (b := bx)
  have hSees := fun bx : BoxD => w_Box_sees (P := P) (w := w) (base := base) ft F_Box_sees m_Box_sees (b := bx)
  have hLink := fun (l : Int × Int) hl => w_is_link (P := P) (w := w) (base := base) ft F_is_link m_is_link hB (l := l) hl
  have hAreB := fun (l : Line) h1 h4 => w_are_boxes (P := P) (w := w) (base := base) ft F_are_boxes m_are_boxes (l := l) h1 h4
  have hAreL := fun (ls : List (Int × Int)) hl h4 => w_are_links (P := P) (w := w) (base := base) ft F_are_links m_are_links hLink (ls := ls) hl h4
  have hSum := fun (ls : List (Int × Int)) h4 => w_summed (P := P) (w := w) (base := base) ft F_summed m_summed (ls := ls) h4
  have hBoxes := fun l : Line => w_Row_boxes (P := P) (w := w) (base := base) ft F_Row_boxes m_Row_boxes (l := l)
  have hLen := fun l : Line => w_Row___len__ (P := P) (w := w) (base := base) ft F_Row___len__ m_Row___len__ (l := l)
  have hCheck := fun (l : Line) (b : Nat) hb => w_Row_check (P := P) (w := w) (base := base) ft F_Row_check m_Row_check hB (l := l) (b := b) hb
  have hCheckB := fun (l : Line) (d : PyData) hd hb => w_Row_check_bad (P := P) (w := w) (base := base) ft F_Row_check m_Row_check hB hxN (l := l) (d := d) hd hb
  have hOut := fun (l : Line) (b : Nat) hb h4 hn => w_Row_out_delay (P := P) (w := w) (base := base) ft F_Row_out_delay m_Row_out_delay hSum hCheck (l := l) (b := b) hb h4 hn
  have hBack := fun (l : Line) (b : Nat) hb h4 hn => w_Row_back_delay (P := P) (w := w) (base := base) ft F_Row_back_delay m_Row_back_delay hSum hCheck (l := l) (b := b) hb h4 hn
  have hRow := row_mk (P := P) (w := w) (base := base) ft F_Row___init__ m_Row___init__ hAreB hAreL
  have hLoss := fun t : Tk => w_Talk_losses (P := P) (w := w) (base := base) ft F_Talk_losses m_Talk_losses (t := t)
  have hLet := fun (t : Tk) ht => w_Talk_letters (P := P) (w := w) (base := base) ft F_Talk_letters m_Talk_letters (t := t) ht
  have hCon := fun (t : Tk) (x : Let) ht => w_contains_let (P := P) (w := w) (base := base) ft F_Talk___contains__ m_Talk___contains__ hI hLet (t := t) ht (x := x)
  have hCon_in := fun (t : Tk) ht => w_contains_in (P := P) (w := w) (base := base) ft F_Talk___contains__ m_Talk___contains__ hI hLet (t := t) ht
  have hCon_bool := fun (t : Tk) ht => w_contains_bool (P := P) (w := w) (base := base) ft F_Talk___contains__ m_Talk___contains__ hI hLet (t := t) ht
  have hCon_none := fun (t : Tk) ht => w_contains_none (P := P) (w := w) (base := base) ft F_Talk___contains__ m_Talk___contains__ hI hLet (t := t) ht
  have hCon_list := fun (t : Tk) ht => w_contains_list (P := P) (w := w) (base := base) ft F_Talk___contains__ m_Talk___contains__ hI hLet (t := t) ht
  have hTime := fun (t : Tk) (x : Let) hx => w_Talk_time (P := P) (w := w) (base := base) ft F_Talk_time m_Talk_time (t := t) (x := x) hx
  have hAreT := fun (ns : List Int) (m : Int) h1 h7 ha hb => w_are_times (P := P) (w := w) (base := base) ft F_are_times m_are_times hB (ns := ns) (m := m) h1 h7 ha hb
  have hTalk := talk_mk (P := P) (w := w) (base := base) ft hdv F_Talk___init__ m_Talk___init__ hB hAreT
  have hCL := fun (t : Tk) (x : Let) ht hx => w_check_letter (P := P) (w := w) (base := base) ft F_check_letter m_check_letter hCon (t := t) ht (x := x) hx
  have hWin := fun (l : Line) (t : Tk) (b : Nat) (x : Let) hl hb hx => w_window_of (P := P) (w := w) (base := base) ft F_window_of m_window_of hOut hBack hTime (l := l) hl (t := t) (b := b) hb (x := x) hx
  have hSight := fun (l : Line) (b : Nat) (x : Let) hb => w_is_sight (P := P) (w := w) (base := base) ft F_is_sight m_is_sight hBoxes hSees (l := l) (b := b) hb (x := x)
  have hCan := fun (t : Tk) (xs : List Let) ht hx => w_can_be_lost (P := P) (w := w) (base := base) ft F_can_be_lost m_can_be_lost hLoss (t := t) ht (xs := xs) hx
  have hWins := fun (l : Line) (t : Tk) (b : Nat) hl ht hb => w_windows (P := P) (w := w) (base := base) ft F_windows m_windows hWin hLet (l := l) hl (t := t) ht (b := b) hb
  have hLostIn := fun (l : Line) (t : Tk) (b : Nat) (x y : Let) hl ht hb hx hy => w_lost_in (P := P) (w := w) (base := base) ft F_lost_in m_lost_in hSight hCan (l := l) hl (t := t) ht (b := b) hb (x := x) (y := y) hx hy
  have hLostB := fun (l : Line) (t : Tk) (b : Nat) (x y : Let) hl ht hb hx hy => w_lost_between (P := P) (w := w) (base := base) ft F_lost_between m_lost_between hWins hLostIn (l := l) hl (t := t) ht (b := b) hb (x := x) (y := y) hx hy
  have hPairsOf := fun (l : Line) (t : Tk) (b : Nat) hl ht hb => w_pairs_of (P := P) (w := w) (base := base) ft F_pairs_of m_pairs_of hWins hLostIn (l := l) hl (t := t) ht (b := b) hb
  have hGap := fun (l : Line) (t : Tk) (b : Nat) hl ht hb => w_gap (P := P) (w := w) (base := base) ft F_gap m_gap hCheck hPairsOf (l := l) hl (t := t) ht (b := b) hb
  have hEnds := fun (l : Line) (t : Tk) (b : Nat) hl ht hb => w_ends (P := P) (w := w) (base := base) ft F_ends m_ends hCheck hPairsOf (l := l) hl (t := t) ht (b := b) hb
  have hMust := fun (l : Line) (t : Tk) (b : Nat) (x y : Let) hl ht hb hx hy hxy => w_must_lose (P := P) (w := w) (base := base) ft F_must_lose m_must_lose hCheck hCL hLostB (l := l) hl (t := t) ht (b := b) hb (x := x) (y := y) hx hy hxy
  have hGaps := fun (l : Line) (t : Tk) hl ht => w_gaps (P := P) (w := w) (base := base) ft F_gaps m_gaps hGap hLen (l := l) hl (t := t) ht
  have hKept := fun (l : Line) (t : Tk) hl ht => w_is_kept (P := P) (w := w) (base := base) ft F_is_kept m_is_kept hGaps hBoxes hLow (l := l) hl (t := t) ht
  have gLet := fun (t : Tk) ht => w__law_letters (P := P) (w := w) (base := base) ft F__law_letters m__law_letters (t := t) ht
  have gSent := fun (t : Tk) (x : Let) hx => w__law_sent (P := P) (w := w) (base := base) ft F__law_sent m__law_sent (t := t) (x := x) hx
  have gSpan := fun (l : Line) (t : Tk) (b : Nat) (x : Let) hl hx => w__law_span (P := P) (w := w) (base := base) ft F__law_span m__law_span gSent (l := l) hl (t := t) (b := b) (x := x) hx
  have gSight := fun (l : Line) (b : Nat) (x : Let) hb => w__law_is_sight (P := P) (w := w) (base := base) ft F__law_is_sight m__law_is_sight (l := l) (b := b) hb (x := x)
  have gCan := fun (t : Tk) (xs : List Let) ht => w__law_can_lose (P := P) (w := w) (base := base) ft F__law_can_lose m__law_can_lose (t := t) ht (xs := xs)
  have gGone := fun (l : Line) (t : Tk) (b : Nat) (x y : Let) hl ht hb hx hy hxy => w__law_gone (P := P) (w := w) (base := base) ft F__law_gone m__law_gone gSpan gLet gSight gCan (l := l) hl (t := t) ht (b := b) hb (x := x) (y := y) hx hy hxy
  have gGaps := fun (l : Line) (t : Tk) (b : Nat) hl ht hb => w__law_gaps (P := P) (w := w) (base := base) ft F__law_gaps m__law_gaps gSpan gLet gGone (l := l) hl (t := t) ht (b := b) hb
  have gGreat := fun (l : Line) (t : Tk) (b : Nat) hl ht hb => w__law_greatest (P := P) (w := w) (base := base) ft F__law_greatest m__law_greatest gGaps (l := l) hl (t := t) ht (b := b) hb
  have gDraw := w_law_draw (P := P) (w := w) (base := base) ft F__law_draw m__law_draw
  have gPick := fun (p : Addr) (ds : List PyData) h0 h1 => w__law_pick (P := P) (w := w) (base := base) ft F__law_pick m__law_pick gDraw (p := p) (ds := ds) h0 h1
  have gCase := fun p : Addr => w__law_case (P := P) (w := w) (base := base) ft F__law_case m__law_case gDraw gPick (p := p)
  have gLine := fun p : Addr => w__law_line (P := P) (w := w) (base := base) ft F__law_line m__law_line gDraw gCase (p := p)
  have gTimes := w_law_times (P := P) (w := w) (base := base) ft F__law_times m__law_times gDraw
  have gPairs := fun (l : Line) (t : Tk) hl ht => w__law_pairs_right (P := P) (w := w) (base := base) ft F__law_pairs_right m__law_pairs_right gLet gGone hMust (l := l) hl (t := t) ht
  have gBegin := fun ns : List Int => w_law_begin (P := P) (w := w) (base := base) ft F__law_begin m__law_begin (ns := ns)
  have gMade := fun (t : Tk) ht => w__law_made_talk (P := P) (w := w) (base := base) ft F__law_made_talk m__law_made_talk hTalk (t := t) ht
  have bGap := fun (l : Line) (t : Tk) (d : PyData) hd hb => w_gap_bad (P := P) (w := w) (base := base) ft F_gap m_gap hCheckB (l := l) (d := d) hd hb (t := t)
  have bEnds := fun (l : Line) (t : Tk) (d : PyData) hd hb => w_ends_bad (P := P) (w := w) (base := base) ft F_ends m_ends hCheckB (l := l) (d := d) hd hb (t := t)
  have bWorst := fun (l : Line) (t : Tk) (d : PyData) hd hb => w_worst_course_bad (P := P) (w := w) (base := base) ft F_worst_course m_worst_course bEnds (l := l) (d := d) hd hb (t := t)
  have bMust := fun (l : Line) (t : Tk) (d x y : PyData) hd hb => w_must_lose_bad (P := P) (w := w) (base := base) ft F_must_lose m_must_lose hCheckB (l := l) (d := d) hd hb (t := t) (x := x) (y := y)
  have gTalk := fun p : Addr => w__law_talk (P := P) (w := w) (base := base) ft F__law_talk m__law_talk gDraw gTimes (p := p)
  have hPs : ∀ s : Str, s = "out" ∨ s = "both" → Fd P w K mg base "is_part_value" 3 (FSp [] [StrV "sees", StrV s] (BlV true) []) := fun s hs => by
    rcases hs with rfl | rfl
    · exact w_is_part_sees_out ft F_is_part_value m_is_part_value hB
    · exact w_is_part_sees_both ft F_is_part_value m_is_part_value hB
  have hPl := fun i : Int => w_is_part_low (P := P) (w := w) (base := base) ft F_is_part_value m_is_part_value hB (i := i)
  have hPh := fun i : Int => w_is_part_high (P := P) (w := w) (base := base) ft F_is_part_value m_is_part_value hB (i := i)
  have hPr := fun i : Int => w_is_part_rest (P := P) (w := w) (base := base) ft F_is_part_value m_is_part_value hB (i := i)
  have hBox := boxMk (P := P) (w := w) (base := base) ft F_Box___init__ m_Box___init__ hPs hPl hPh hPr
  have gBox := fun (bx : BoxD) hb => w__law_box (P := P) (w := w) (base := base) ft F__law_box m__law_box hBox (bx := bx) hb
  have gRow := fun (l : Line) hl => w__law_row (P := P) (w := w) (base := base) ft F__law_row m__law_row gBox hRow (l := l) hl
  have conB := fun (t : Tk) (x : PyData) ht (o : NoLet t.out.length x) => (con_bad ht o hCon hCon_in hCon_bool hCon_none hCon_list)
  have clB := fun (t : Tk) (x : PyData) ht (o : NoLet t.out.length x) => w_check_letter_bad (P := P) (w := w) (base := base) ft F_check_letter m_check_letter hxL (t := t) (x := x) (conB t x ht o)
  have hML : ∀ (l : Line) (t : Tk) (x : PyData) (z : PyData × PyData), LineOk l → TkOk t → NoLet t.out.length x → z ∈ zsOf x → Fd P w K mg base "must_lose" 4 (FSx [] [RowV CR CB l, TalkV CT t, IntV (((0 : Nat)) : Int), DatV z.1, DatV z.2] CL (DatV (dueOf x z))) := fun l t x z hl ht o hz => by
    have h0 : ((true, 0) : Let) ∈ letters t := mem_letters.mpr ht.o1
    rcases z_cases ht.o1 o hz with ⟨rfl, e⟩ | ⟨rfl, e⟩ | ⟨rfl, e⟩
    · rw [e]; exact w_must_lose_first ft F_must_lose m_must_lose hCheck (b := 0) (by have := hl.n1; omega) (clB t x ht o)
    · rw [e]; exact w_must_lose_last ft F_must_lose m_must_lose hCheck hCL (b := 0) (by have := hl.n1; omega) (z := (true, 0)) ht h0 (clB t x ht o)
    · rw [e]; exact w_must_lose_same ft F_must_lose m_must_lose hxL hCheck hCL (b := 0) (by have := hl.n1; omega) (z := (true, 0)) ht h0
  obtain ⟨D0, D1, D2, D3, D4, D5, D6, D7, m0, m1, m2, m3, m4, m5, m6, m7, a0, a1, a2, a3, a4, a5, a6, a7, b0, b1, b2, b3, b4, b5, b6, b7⟩ := E.kinds
  have kN := w_law_kind_number (P := P) (w := w) (base := base) ft F__law_kind m__law_kind E.xN ⟨m0, a0⟩ ⟨m1, a1⟩ ⟨m2, a2⟩ ⟨m3, a3⟩ ⟨m4, a4⟩ ⟨m5, a5⟩ ⟨m6, a6⟩ ⟨m7, a7⟩
  have kL := w_law_kind_letter (P := P) (w := w) (base := base) ft F__law_kind m__law_kind E.xL ⟨m0, b0⟩ ⟨m1, b1⟩ ⟨m2, b2⟩ ⟨m3, b3⟩ ⟨m4, b4⟩ ⟨m5, b5⟩ ⟨m6, b6⟩ ⟨m7, b7⟩
  obtain ⟨CS, q0, q1, q2⟩ := E.qe
  have gRef := fun (l : Line) (t : Tk) (p : Addr) hl ht => w__law_refuses (P := P) (w := w) (base := base) ft F__law_refuses m__law_refuses gPick hLen bGap bEnds bWorst bMust hML F__law_wrong m__law_wrong kN kL E.fN E.fL E.nN E.nL q0 q1 q2 (E.code _ _ F__law_refuses m__law_refuses) TB (l := l) hl (t := t) ht (p := p)
  exact w_law ft F gBegin gLine gTalk gRow gMade gGaps gGreat hGap hEnds gPairs gDraw hLen hGaps hKept gRef
end
end QX

/-! text QH1 -/
set_option Elab.async false
set_option linter.all false
set_option maxRecDepth 100000
set_option maxHeartbeats 4000000
/-! QH1: what is looked at behind the top: defs at any address, properties, own exceptions. -/
namespace QH
open PySem PySem.Spec PyProof.Rows L2 QL QD QX He
/-! ### functions -/
abbrev FnA : Type := Option (Str × Str × Arguments × FuncBody × Scope × Addr × List Str × Addr)
def fnA (K : PySem.W.Frag) (a : Addr) : FnA := match K.lookup a with
  | some ⟨_, _, .func fd, _⟩ => some (fd.name, fd.qualname, fd.params, fd.body, fd.scope, fd.globals, fd.closure.map (·.1), fd.builtins)
  | _ => none
structure DefA where
  adr : PySem.W.Frag → Addr
  name : Str
  qual : Str
  params : Arguments
  body : List Stmt
  scope : Scope
  dfl : List Dv := []
  kwd : List (Str × Dv) := []
  clo : List Str := []
def DefA.val (d : DefA) : FnA := some (d.name, d.qual, d.params, .stmts d.body, d.scope, mainGlobals, d.clo, builtinsNs)
def DefA.dvs (K : PySem.W.Frag) (d : DefA) : List V := d.dfl.map (Dv.v K)
def DefA.kws (K : PySem.W.Frag) (d : DefA) : List (Str × V) := d.kwd.map fun q => (q.1, q.2.v K)
def DefA.ok (K : PySem.W.Frag) (d : DefA) : Bool := PySem.W.keepIn K (.ref (d.adr K)) && (match K.lookup (d.adr K) with
  | some ⟨_, _, .func fd, _⟩ => PySem.W.codeIn K fd.code d.qual && (dflB K fd.defaults (d.dvs K) && kwdB K fd.kwdefaults (d.kws K))
  | _ => false)
/-- the object at its address -/
theorem DefA.fnX {K : PySem.W.Frag} {d : DefA} (e : fnA K (d.adr K) = d.val) (c : d.ok K = true) : PySem.W.keepIn K (.ref (d.adr K)) = true ∧ ∃ (oc : Value) (od : Option Addr) (cl : List (Str × Addr)) (dV kV doc pm : Value) (an : Option Addr) (cdv ct : Value) (osl : Array (Option Value)),
    K.lookup (d.adr K) = some ⟨oc, od, .func (PySem.W.fnX d.name d.qual d.params d.body d.scope cl dV kV doc pm an cdv ct), osl⟩ ∧ cl.map (·.1) = d.clo ∧ PySem.W.codeIn K cdv d.qual = true ∧ DflV K dV (d.dvs K) ∧ KwdV K kV (d.kws K) := by
  obtain ⟨kp, c2⟩ := ba c
  refine ⟨kp, ?_⟩
  unfold fnA at e
  cases q : K.lookup (d.adr K) with
  | none =>
    rw [q] at c2
    cases c2
  | some o =>
    obtain ⟨oc, od, dt, osl⟩ := o
    rw [q] at c2 e
    cases dt with
    | func fd =>
      obtain ⟨n1, n2, n3, n4, n5, n6, n7, n8, n9, n10, n11, n12, n13, n14, n15⟩ := fd
      have e2 : (some (n1, n2, n3, n4, n5, n6, n7.map (·.1), n15) : FnA) = some (d.name, d.qual, d.params, .stmts d.body, d.scope, mainGlobals, d.clo, builtinsNs) := e
      simp only [Option.some.injEq, Prod.mk.injEq] at e2
      obtain ⟨h1, h2, h3, h4, h5, h6, h7, h8⟩ := e2
      subst h1 h2 h3 h4 h5 h6 h8
      have c3 : (PySem.W.codeIn K n13 d.qual && (dflB K n8 (d.dvs K) && kwdB K n9 (d.kws K))) = true := c2
      obtain ⟨k1, k2⟩ := ba c3
      obtain ⟨k3, k4⟩ := ba k2
      exact ⟨oc, od, n7, n8, n9, n10, n11, n12, n13, n14, osl, rfl, h7, k1, dflB_ok k3, kwdB_ok k4⟩
    | _ => cases c2
theorem DefA.funD {K : PySem.W.Frag} {d : DefA} (h0 : d.clo = []) (e : fnA K (d.adr K) = d.val) (c : d.ok K = true) : ∃ fd, FunD K d.name d.qual d.params d.body d.scope (d.dvs K) (d.kws K) (d.adr K) fd := by
  obtain ⟨kp, oc, od, cl, dV, kV, doc, pm, an, cdv, ct, osl, lk, hcl, hcd, h1, h2⟩ := DefA.fnX e c
  rw [h0] at hcl
  obtain rfl : cl = [] := List.map_eq_nil_iff.mp hcl
  exact ⟨_, ⟨oc, od, dV, kV, doc, pm, an, cdv, ct, osl, rfl, lk, hcd, h1, h2⟩, kp⟩
/-! ### properties -/
/-- a property's getter -/
def pa (K : PySem.W.Frag) (C m : Str) : Addr := match PySem.W.recIn K (ma K (ga K C) m) "property" with
  | some (.ref g :: _) => g
  | _ => 0
def propB (K : PySem.W.Frag) (C m : Str) : Bool := eqO (PySem.W.findIn K (.ref (ga K C)) m) (some (some (.ref (ma K (ga K C) m)))) && (eqO (PySem.W.specialIn K (.ref (ma K (ga K C) m)) "__get__") (some (some (.builtin "property.__get__"))) &&
  (decide (PySem.W.takesIn K (.ref (ma K (ga K C) m)) = some true) && (match PySem.W.recIn K (ma K (ga K C) m) "property" with
    | some (.ref _ :: _) => true
    | _ => false)))
theorem prop_ok {K : PySem.W.Frag} {C m : Str} (h : propB K C m = true) : PropOf K (ga K C) m (ma K (ga K C) m) (pa K C m) := by
  obtain ⟨h1, h⟩ := ba h
  obtain ⟨h2, h⟩ := ba h
  obtain ⟨h3, h4⟩ := ba h
  refine ⟨eqO_ok h1, eqO_ok h2, of_decide_eq_true h3, ?_⟩
  unfold pa
  split at h4
  · rename_i g rest e
    rw [e]
    exact ⟨_, rfl⟩
  · cases h4
/-! ### what isinstance asks of an own class -/
def ocB (K : PySem.W.Frag) (C : Addr) : Bool := eqO (PySem.W.findIn K (.ref C) "__class__") (some (some (.builtin "object.__class__"))) && (eqO (PySem.W.specialIn K (.builtin "object.__class__") "__get__") (some (some (.builtin "getset_descriptor.__get__"))) &&
  (decide (PySem.W.takesIn K (.builtin "object.__class__") = some true) && (decide (PySem.W.mroIn K C (.type "object") = some true) && decide (PySem.W.kitOne K (.ref C) (.ref C) = some true))))
theorem oc_ok {K : PySem.W.Frag} {C : Addr} (hc : Cls K C) (h : ocB K C = true) : Oc K C := by
  obtain ⟨h1, h⟩ := ba h
  obtain ⟨h2, h⟩ := ba h
  obtain ⟨h3, h⟩ := ba h
  obtain ⟨h4, h5⟩ := ba h
  exact ⟨hc, eqO_ok h1, eqO_ok h2, of_decide_eq_true h3, of_decide_eq_true h4, of_decide_eq_true h5⟩
/-! ### exceptions -/
def excB (K : PySem.W.Frag) (D : Addr) : Bool := eqO (PySem.W.findIn K (.ref D) "__getattribute__") (some (some (.builtin "BaseException.__getattribute__"))) && (eqO (PySem.W.findIn K (.ref D) "__getattr__") (some none) && (decide (PySem.W.subIn K (.ref D) (.type "BaseException") = some true) && (PySem.W.hasDictIn K D &&
  (eqO (PySem.W.findIn K (.ref D) "__class__") (some (some (.builtin "object.__class__"))) && (eqO (PySem.W.specialIn K (.builtin "object.__class__") "__get__") (some (some (.builtin "getset_descriptor.__get__"))) && (decide (PySem.W.takesIn K (.builtin "object.__class__") = some true) && decide (PySem.W.mroIn K D (.type "object") = some true)))))))
theorem exc_ok2 {K : PySem.W.Frag} {D : Addr} (h : excB K D = true) : ExcC K D ∧ XfC K D := by
  obtain ⟨h1, h⟩ := ba h
  obtain ⟨h2, h⟩ := ba h
  obtain ⟨h3, h⟩ := ba h
  obtain ⟨h4, h⟩ := ba h
  obtain ⟨h5, h⟩ := ba h
  obtain ⟨h6, h⟩ := ba h
  obtain ⟨h7, h8⟩ := ba h
  exact ⟨⟨eqO_ok h1, eqO_ok h2, of_decide_eq_true h3, h4, eqO_ok h5, eqO_ok h6, of_decide_eq_true h7, of_decide_eq_true h8⟩, ⟨eqO_ok h1, eqO_ok h2, of_decide_eq_true h3, h4⟩⟩
def objB (K : PySem.W.Frag) (C : Addr) : Bool := match K.lookup C with
  | some ⟨.type t, _, .cls cd, sl⟩ => decide (t = "type") && (match cd.mro, sl.toList with
    | .ref C' :: bm, [_, _, _, _, some (.builtin n), _] => decide (C' = C) && (decide (n = "ValueError.__new__") && (!cd.hasDel && (cd.hasDict && PySem.HandSPX.refsVE bm)))
    | _, _ => false)
  | _ => false
theorem obj_ok {K : PySem.W.Frag} {C : Addr} (h : objB K C = true) : ∃ nm q N bs bm sn sub ab col dd k0 k1 k2 k3 k5, K.lookup C = some (excClassObj nm q C N bs bm true sn sub ab col dd k0 k1 k2 k3 k5 "ValueError.__new__") ∧ PySem.HandSPX.refsVE bm = true := by
  unfold objB at h
  split at h
  · rename_i t dd cd sl ho
    obtain ⟨ht, hq⟩ := ba h
    have ht := of_decide_eq_true ht
    clear h
    subst ht
    split at hq
    · rename_i C' bm k0 k1 k2 k3 n k5 hm hs
      obtain ⟨h1, h⟩ := ba hq
      obtain ⟨h2, h⟩ := ba h
      obtain ⟨h3, h⟩ := ba h
      obtain ⟨h4, h5⟩ := ba h
      have e1 := of_decide_eq_true h1
      have e2 := of_decide_eq_true h2
      have e3 : cd.hasDel = false := by simpa using h3
      clear h1 h2 h3 h
      subst e1 e2
      obtain ⟨nm, bs, mro, ns, qn, hd, sn, sb, ab, col, del⟩ := cd
      dsimp only at hm e3 h4
      subst hm e3 h4
      have hsl : sl = #[k0, k1, k2, k3, some (.builtin "ValueError.__new__"), k5] := by
        obtain ⟨l⟩ := sl
        simp only at hs
        rw [hs]
      subst hsl
      exact ⟨_, _, _, _, _, _, _, _, _, _, _, _, _, _, _, ho, h5⟩
    · cases hq
  · cases h
def oexB (K : PySem.W.Frag) (C : Addr) : Bool := objB K C && (eqO (PySem.W.findIn K (.ref C) "__setattr__") (some (some (.builtin "object.__setattr__"))) && (decide (PySem.W.subIn K (.ref C) (.type "BaseException") = some true) && (decide (PySem.W.typeIn K (.ref C) = some (.type "type")) && PySem.W.keepIn K (.ref C))))
theorem oex_ok {K : PySem.W.Frag} {C : Addr} (h : oexB K C = true) : OexC K C := by
  obtain ⟨h1, h⟩ := ba h
  obtain ⟨h2, h⟩ := ba h
  obtain ⟨h3, h⟩ := ba h
  obtain ⟨h4, h5⟩ := ba h
  exact ⟨obj_ok h1, eqO_ok h2, of_decide_eq_true h3, of_decide_eq_true h4, h5⟩
end QH

/-! text QH2 -/
set_option Elab.async false
set_option linter.all false
set_option maxRecDepth 100000
set_option maxHeartbeats 4000000
/-! QH2: an own exception's __init__, as it stands. -/
namespace QH
open PySem PySem.Spec PyProof.Rows L2 QL QD QX He
def ccOf (K : PySem.W.Frag) (f : Addr) : Addr := match K.lookup f with
  | some ⟨_, _, .func fd, _⟩ => (match fd.closure with
    | q :: _ => q.2
    | _ => 0)
  | _ => 0
def cdOf (K : PySem.W.Frag) (f : Addr) : Addr := match K.lookup f with
  | some ⟨_, _, .func fd, _⟩ => (match fd.code with
    | .ref c => c
    | _ => 0)
  | _ => 0
def cellB (K : PySem.W.Frag) (cc C : Addr) : Bool := match K.lookup cc with
  | some ⟨_, _, .cell (some (.ref D)), _⟩ => decide (D = C)
  | _ => false
theorem cell_ok {K : PySem.W.Frag} {cc C : Addr} (h : cellB K cc C = true) : ∃ cl0 cld csl, K.lookup cc = some ⟨cl0, cld, .cell (some (.ref C)), csl⟩ := by
  unfold cellB at h
  split at h
  · rename_i c d D sl ho
    have e := of_decide_eq_true h
    subst e
    exact ⟨_, _, _, ho⟩
  · cases h
def fileB (P : Program) (K : PySem.W.Frag) (cda : Addr) : Bool := match K.lookup cda with
  | some ⟨_, _, .fields vs, _⟩ => (match (vs[2]? : Option Value) with
    | some (Value.str file _) => (P.main.file : Str) == file
    | _ => false)
  | _ => false
theorem file_ok {P : Program} {K : PySem.W.Frag} {cda : Addr} (h : fileB P K cda = true) : ∃ ccl cdd vs ccs file tf, K.lookup cda = some ⟨ccl, cdd, .fields vs, ccs⟩ ∧ vs[2]? = some (.str file tf) ∧ ((P.main.file : Str) == file) = true := by
  unfold fileB at h
  split at h
  · rename_i c d vs sl ho
    split at h
    · rename_i file tf hv
      exact ⟨_, _, _, _, _, _, ho, hv, h⟩
    · cases h
  · cases h
/-- all but the function of an own exception -/
def exfB (P : Program) (K : PySem.W.Frag) (x : Str) : Bool :=
  oexB K (ga K x) && (eqO (PySem.W.ks_superIn K (ga K x) (ga K x) "__init__") (some (some (.builtin "ValueError.__init__"))) && (decide (PySem.W.subIn K (.ref (ga K x)) (.type "ValueError") = some true) && (decide (PySem.W.mroIn K (ga K x) (.ref (ga K x)) = some true) &&
  (eqO (PySem.W.nsIn K cStatics "thirdparty.any") (some none) && (PySem.W.excInitIn K (ga K x) veBase "ValueError.__new__" && (eqO (PySem.W.findIn K (.ref (ga K x)) "value") (some none) &&
  (cellB K (ccOf K (ma K (ga K x) "__init__")) (ga K x) && (fileB P K (cdOf K (ma K (ga K x) "__init__")) && (eqO (PySem.W.findIn K (.ref (ga K x)) "__init__") (some (some (.ref (ma K (ga K x) "__init__")))) && decide (PySem.W.typeIn K (.ref (ma K (ga K x) "__init__")) = some (.type "function")))))))))))
theorem xf_ok {P : Program} {w : World} {K : PySem.W.Frag} {mg : Str → Option Value} {base : Heap} {x : Str} {d : DefA} {msg : Str} {j : Nat} {p0 p1 p2 p3 p4 p5 p6 p7 p8 p9 : Pos} (hB : ExcBaseFacts "ValueError" "ValueError.__new__" "ValueError.__init__" veBase) (h : exfB P K x = true) (hmg : mg x = some (.ref (ga K x))) (ns : mg "super" = none)
    (had : d.adr K = ma K (ga K x) "__init__") (hb : d.body = exB msg j p0 p1 p2 p3 p4 p5 p6 p7 p8 p9) (hcl : d.clo = ([("__class__" : Str)] : List Str)) (hdf : d.dfl = []) (hkw : d.kwd = []) (e : fnA K (d.adr K) = d.val) (c : d.ok K = true) (RD : SupRd msg j p0 p1 p2 p3 p4)
    (sc : NdefX.NScope ["self", "value", "__class__"] ["self", "value"] ["__class__"] d.scope) (sg : d.scope.names.lookup ("super" : Str) = some .globalImplicit) (hd : ∃ ar, (d.params.posonlyargs ++ d.params.args).head? = some ar ∧ ar.arg = "self") (top : (P.main.scope.names.lookup ("super" : Str)).isSome = false)
    (hbind : ∀ (cl : List (Str × Addr)) (doc pm : Value) (an : Option Addr) (cdv ct a b : Value) (kV : Value), bindArgs (PySem.W.fnX d.name d.qual d.params d.body d.scope cl .none kV doc pm an cdv ct) ⟨[a, b], []⟩ = (pure [(("self" : Str), a), (("value" : Str), b)] : Sem (List (Str × Value)))) : Xf P w K mg base x (ga K x) 1 := by
  obtain ⟨h1, h⟩ := ba h
  obtain ⟨h2, h⟩ := ba h
  obtain ⟨h3, h⟩ := ba h
  obtain ⟨h4, h⟩ := ba h
  obtain ⟨h5, h⟩ := ba h
  obtain ⟨h6, h⟩ := ba h
  obtain ⟨h7, h⟩ := ba h
  obtain ⟨h8, h⟩ := ba h
  obtain ⟨h9, h⟩ := ba h
  obtain ⟨h10, h11⟩ := ba h
  obtain ⟨kp, oc, od, cl, dV, kV, doc, pm, an, cdv, ct, osl, lk, hclo, hcd, hD, hK⟩ := DefA.fnX e c
  obtain ⟨cda, rfl⟩ := codeIn_ref hcd
  rw [hcl] at hclo
  obtain ⟨cc, rfl⟩ : ∃ cc, cl = ([(("__class__" : Str), cc)] : List (Str × Addr)) := by
    match cl, hclo with
    | [(n, a)], hclo =>
      have e1 : n = "__class__" := by simpa using hclo
      exact ⟨a, by rw [e1]⟩
  rw [had] at lk
  have ecc : ccOf K (ma K (ga K x) "__init__") = cc := by unfold ccOf; rw [lk]
  have ecd : cdOf K (ma K (ga K x) "__init__") = cda := by unfold cdOf; rw [lk]
  rw [ecc] at h8
  rw [ecd] at h9
  have hdv : dV = .none := by
    rcases hD with ⟨_, z⟩ | ⟨z, _⟩
    · exact z
    · exact absurd (show d.dvs K = [] by unfold DefA.dvs; rw [hdf]; rfl) z
  subst hdv
  refine ⟨oex_ok h1, ⟨ma K (ga K x) "__init__", PySem.W.fnX d.name d.qual d.params d.body d.scope [(("__class__" : Str), cc)] .none kV doc pm an (.ref cda) ct, eqO_ok h10, of_decide_eq_true h11, ?_, ?_⟩, hmg⟩
  · rw [hb] at lk ⊢
    exact exc_fn RD ⟨⟨_, _, _, lk⟩, hcd, file_ok h9, top, cell_ok h8, oex_ok h1, eqO_ok h2, of_decide_eq_true h3, of_decide_eq_true h4, eqO_ok h5, ⟨_, hB, h6⟩, eqO_ok h7, ns, sc, sg, hd⟩
  · exact .all fun us hl => by
      match us, hl with
      | [a, b], _ => exact hbind _ _ _ _ _ _ a b kV
end QH

/-! text QH3 -/
set_option Elab.async false
set_option linter.all false
set_option maxRecDepth 100000
set_option maxHeartbeats 4000000
/-! QH3: the facts behind the top, the Hook. Printed by asm2.py. -/
namespace QH
open PySem PySem.Spec PyProof.Rows L2 QL QD QX He
def d_is_integer : DefA := ⟨fun K => ga K "is_integer", "is_integer", "is_integer", defArgs (top 15), defBody (top 15), defScope (top 15), [], [], []⟩
def d_is_between : DefA := ⟨fun K => ga K "is_between", "is_between", "is_between", defArgs (top 16), defBody (top 16), defScope (top 16), [], [], []⟩
def d_is_part_value : DefA := ⟨fun K => ga K "is_part_value", "is_part_value", "is_part_value", defArgs (top 17), defBody (top 17), defScope (top 17), [], [], []⟩
def d_check_letter : DefA := ⟨fun K => ga K "check_letter", "check_letter", "check_letter", defArgs (top 20), defBody (top 20), defScope (top 20), [], [], []⟩
def d_window_of : DefA := ⟨fun K => ga K "window_of", "window_of", "window_of", defArgs (top 21), defBody (top 21), defScope (top 21), [], [], []⟩
def d_can_be_lost : DefA := ⟨fun K => ga K "can_be_lost", "can_be_lost", "can_be_lost", defArgs (top 24), defBody (top 24), defScope (top 24), [], [], []⟩
def d_is_sight : DefA := ⟨fun K => ga K "is_sight", "is_sight", "is_sight", defArgs (top 25), defBody (top 25), defScope (top 25), [], [], []⟩
def d_windows : DefA := ⟨fun K => ga K "windows", "windows", "windows", defArgs (top 27), defBody (top 27), defScope (top 27), [], [], []⟩
def d_lost_in : DefA := ⟨fun K => ga K "lost_in", "lost_in", "lost_in", defArgs (top 28), defBody (top 28), defScope (top 28), [], [], []⟩
def d_lost_between : DefA := ⟨fun K => ga K "lost_between", "lost_between", "lost_between", defArgs (top 29), defBody (top 29), defScope (top 29), [], [], []⟩
def d_pairs_of : DefA := ⟨fun K => ga K "pairs_of", "pairs_of", "pairs_of", defArgs (top 30), defBody (top 30), defScope (top 30), [], [], []⟩
def d_gap : DefA := ⟨fun K => ga K "gap", "gap", "gap", defArgs (top 31), defBody (top 31), defScope (top 31), [], [], []⟩
def d_ends : DefA := ⟨fun K => ga K "ends", "ends", "ends", defArgs (top 32), defBody (top 32), defScope (top 32), [], [], []⟩
def d_must_lose : DefA := ⟨fun K => ga K "must_lose", "must_lose", "must_lose", defArgs (top 33), defBody (top 33), defScope (top 33), [], [], []⟩
def d_worst_course : DefA := ⟨fun K => ga K "worst_course", "worst_course", "worst_course", defArgs (top 35), defBody (top 35), defScope (top 35), [], [], []⟩
def d_gaps : DefA := ⟨fun K => ga K "gaps", "gaps", "gaps", defArgs (top 36), defBody (top 36), defScope (top 36), [], [], []⟩
def d_is_kept : DefA := ⟨fun K => ga K "is_kept", "is_kept", "is_kept", defArgs (top 37), defBody (top 37), defScope (top 37), [], [], []⟩
def d_is_link : DefA := ⟨fun K => ga K "is_link", "is_link", "is_link", defArgs (top 41), defBody (top 41), defScope (top 41), [], [], []⟩
def d_are_boxes : DefA := ⟨fun K => ga K "are_boxes", "are_boxes", "are_boxes", defArgs (top 42), defBody (top 42), defScope (top 42), [], [], []⟩
def d_are_links : DefA := ⟨fun K => ga K "are_links", "are_links", "are_links", defArgs (top 43), defBody (top 43), defScope (top 43), [], [], []⟩
def d_summed : DefA := ⟨fun K => ga K "summed", "summed", "summed", defArgs (top 44), defBody (top 44), defScope (top 44), [], [], []⟩
def d_are_times : DefA := ⟨fun K => ga K "are_times", "are_times", "are_times", defArgs (top 49), defBody (top 49), defScope (top 49), [], [], []⟩
def d__law_begin : DefA := ⟨fun K => ga K "_law_begin", "_law_begin", "_law_begin", defArgs (top 53), defBody (top 53), defScope (top 53), [], [], []⟩
def d__law_draw : DefA := ⟨fun K => ga K "_law_draw", "_law_draw", "_law_draw", defArgs (top 54), defBody (top 54), defScope (top 54), [], [], []⟩
def d__law_pick : DefA := ⟨fun K => ga K "_law_pick", "_law_pick", "_law_pick", defArgs (top 55), defBody (top 55), defScope (top 55), [], [], []⟩
def d__law_case : DefA := ⟨fun K => ga K "_law_case", "_law_case", "_law_case", defArgs (top 56), defBody (top 56), defScope (top 56), [], [], []⟩
def d__law_box : DefA := ⟨fun K => ga K "_law_box", "_law_box", "_law_box", defArgs (top 57), defBody (top 57), defScope (top 57), [], [], []⟩
def d__law_line : DefA := ⟨fun K => ga K "_law_line", "_law_line", "_law_line", defArgs (top 58), defBody (top 58), defScope (top 58), [], [], []⟩
def d__law_row : DefA := ⟨fun K => ga K "_law_row", "_law_row", "_law_row", defArgs (top 59), defBody (top 59), defScope (top 59), [], [], []⟩
def d__law_times : DefA := ⟨fun K => ga K "_law_times", "_law_times", "_law_times", defArgs (top 60), defBody (top 60), defScope (top 60), [], [], []⟩
def d__law_talk : DefA := ⟨fun K => ga K "_law_talk", "_law_talk", "_law_talk", defArgs (top 61), defBody (top 61), defScope (top 61), [], [], []⟩
def d__law_made_talk : DefA := ⟨fun K => ga K "_law_made_talk", "_law_made_talk", "_law_made_talk", defArgs (top 62), defBody (top 62), defScope (top 62), [], [], []⟩
def d__law_letters : DefA := ⟨fun K => ga K "_law_letters", "_law_letters", "_law_letters", defArgs (top 63), defBody (top 63), defScope (top 63), [], [], []⟩
def d__law_sent : DefA := ⟨fun K => ga K "_law_sent", "_law_sent", "_law_sent", defArgs (top 64), defBody (top 64), defScope (top 64), [], [], []⟩
def d__law_span : DefA := ⟨fun K => ga K "_law_span", "_law_span", "_law_span", defArgs (top 65), defBody (top 65), defScope (top 65), [], [], []⟩
def d__law_is_sight : DefA := ⟨fun K => ga K "_law_is_sight", "_law_is_sight", "_law_is_sight", defArgs (top 66), defBody (top 66), defScope (top 66), [], [], []⟩
def d__law_can_lose : DefA := ⟨fun K => ga K "_law_can_lose", "_law_can_lose", "_law_can_lose", defArgs (top 67), defBody (top 67), defScope (top 67), [], [], []⟩
def d__law_gone : DefA := ⟨fun K => ga K "_law_gone", "_law_gone", "_law_gone", defArgs (top 68), defBody (top 68), defScope (top 68), [], [], []⟩
def d__law_gaps : DefA := ⟨fun K => ga K "_law_gaps", "_law_gaps", "_law_gaps", defArgs (top 69), defBody (top 69), defScope (top 69), [], [], []⟩
def d__law_greatest : DefA := ⟨fun K => ga K "_law_greatest", "_law_greatest", "_law_greatest", defArgs (top 70), defBody (top 70), defScope (top 70), [], [], []⟩
def d__law_wrong : DefA := ⟨fun K => ga K "_law_wrong", "_law_wrong", "_law_wrong", defArgs (top 71), defBody (top 71), defScope (top 71), [], [], []⟩
def d__law_kind : DefA := ⟨fun K => ga K "_law_kind", "_law_kind", "_law_kind", defArgs (top 72), defBody (top 72), defScope (top 72), [], [], []⟩
def d__law_pairs_right : DefA := ⟨fun K => ga K "_law_pairs_right", "_law_pairs_right", "_law_pairs_right", defArgs (top 73), defBody (top 73), defScope (top 73), [], [], []⟩
def d__law_refuses : DefA := ⟨fun K => ga K "_law_refuses", "_law_refuses", "_law_refuses", defArgs (top 74), defBody (top 74), defScope (top 74), [], [], []⟩
def d_law : DefA := ⟨fun K => ga K "law", "law", "law", defArgs (top 75), defBody (top 75), defScope (top 75), [], [], []⟩
def d_Box_low : DefA := ⟨fun K => pa K "Box" "low", "low", "Box.low", defArgs (sub 18 1), defBody (sub 18 1), defScope (sub 18 1), [], [], []⟩
def d_Box_sees : DefA := ⟨fun K => pa K "Box" "sees", "sees", "Box.sees", defArgs (sub 18 4), defBody (sub 18 4), defScope (sub 18 4), [], [], []⟩
def d_Row_boxes : DefA := ⟨fun K => pa K "Row" "boxes", "boxes", "Row.boxes", defArgs (sub 45 1), defBody (sub 45 1), defScope (sub 45 1), [], [], []⟩
def d_Row___len__ : DefA := ⟨fun K => ma K (ga K "Row") "__len__", "__len__", "Row.__len__", defArgs (sub 45 3), defBody (sub 45 3), defScope (sub 45 3), [], [], []⟩
def d_Row_check : DefA := ⟨fun K => ma K (ga K "Row") "check", "check", "Row.check", defArgs (sub 45 4), defBody (sub 45 4), defScope (sub 45 4), [], [], []⟩
def d_Row_out_delay : DefA := ⟨fun K => ma K (ga K "Row") "out_delay", "out_delay", "Row.out_delay", defArgs (sub 45 10), defBody (sub 45 10), defScope (sub 45 10), [], [], []⟩
def d_Row_back_delay : DefA := ⟨fun K => ma K (ga K "Row") "back_delay", "back_delay", "Row.back_delay", defArgs (sub 45 11), defBody (sub 45 11), defScope (sub 45 11), [], [], []⟩
def d_Talk_losses : DefA := ⟨fun K => pa K "Talk" "losses", "losses", "Talk.losses", defArgs (sub 51 3), defBody (sub 51 3), defScope (sub 51 3), [], [], []⟩
def d_Talk_letters : DefA := ⟨fun K => ma K (ga K "Talk") "letters", "letters", "Talk.letters", defArgs (sub 51 5), defBody (sub 51 5), defScope (sub 51 5), [], [], []⟩
def d_Talk___contains__ : DefA := ⟨fun K => ma K (ga K "Talk") "__contains__", "__contains__", "Talk.__contains__", defArgs (sub 51 6), defBody (sub 51 6), defScope (sub 51 6), [], [], []⟩
def d_Talk_time : DefA := ⟨fun K => ma K (ga K "Talk") "time", "time", "Talk.time", defArgs (sub 51 7), defBody (sub 51 7), defScope (sub 51 7), [], [], []⟩
def d_Box___init__ : DefA := ⟨fun K => ma K (ga K "Box") "__init__", "__init__", "Box.__init__", defArgs (sub 18 0), defBody (sub 18 0), defScope (sub 18 0), [], [("rest", .int 0), ("sees", .str "out")], []⟩
def d_Row___init__ : DefA := ⟨fun K => ma K (ga K "Row") "__init__", "__init__", "Row.__init__", defArgs (sub 45 0), defBody (sub 45 0), defScope (sub 45 0), [], [], []⟩
def d_Talk___init__ : DefA := ⟨fun K => ma K (ga K "Talk") "__init__", "__init__", "Talk.__init__", defArgs (sub 51 0), defBody (sub 51 0), defScope (sub 51 0), [.adr (dflAt ("Talk", some "__init__") 0), .int 0], [], []⟩
def d_InvalidNumber : DefA := ⟨fun K => ma K (ga K "InvalidNumber") "__init__", "__init__", "InvalidNumber.__init__", defArgs (sub 3 0), defBody (sub 3 0), defScope (sub 3 0), [], [], ["__class__"]⟩
def d_InvalidLetter : DefA := ⟨fun K => ma K (ga K "InvalidLetter") "__init__", "__init__", "InvalidLetter.__init__", defArgs (sub 9 0), defBody (sub 9 0), defScope (sub 9 0), [], [], ["__class__"]⟩
def fns0 : List DefA := [d_is_integer, d_is_between, d_is_part_value, d_check_letter, d_window_of, d_can_be_lost, d_is_sight, d_windows, d_lost_in, d_lost_between, d_pairs_of, d_gap, d_ends, d_must_lose, d_worst_course, d_gaps, d_is_kept, d_is_link, d_are_boxes, d_are_links]
def fns1 : List DefA := [d_summed, d_are_times, d__law_begin, d__law_draw, d__law_pick, d__law_case, d__law_box, d__law_line, d__law_row, d__law_times, d__law_talk, d__law_made_talk, d__law_letters, d__law_sent, d__law_span, d__law_is_sight, d__law_can_lose, d__law_gone, d__law_gaps, d__law_greatest]
def fns2 : List DefA := [d__law_wrong, d__law_kind, d__law_pairs_right, d__law_refuses, d_law, d_Box_low, d_Box_sees, d_Row_boxes, d_Row___len__, d_Row_check, d_Row_out_delay, d_Row_back_delay, d_Talk_losses, d_Talk_letters, d_Talk___contains__, d_Talk_time, d_Box___init__, d_Row___init__, d_Talk___init__, d_InvalidNumber]
def fns3 : List DefA := [d_InvalidLetter]
def fns : List DefA := fns0 ++ (fns1 ++ (fns2 ++ (fns3)))
def fas0 : List Fa := [.free "isinstance", .free "int", .free "bool", .free "str", .free "list", .free "tuple", .free "len", .free "range", .free "zip", .free "sum", .free "all", .free "max", .free "repr", .free "super", .int "MOST_TIME" 10000, .int "MOST_BOXES" 4, .int "MOST_LINK" 1000, .int "MOST_TIMES" 60, .int "MOST_LOSSES" 5, .glo "PARTS", .glo "Box", .glo "Row", .glo "Talk", .glo "QuietError", .glo "InvalidNumber", .glo "InvalidName", .glo "InvalidBox", .glo "InvalidRow", .glo "InvalidTalk", .glo "InvalidText"]
def fas1 : List Fa := [.glo "InvalidLetter", .glo "InvalidCourse", .glo "is_integer", .glo "is_between", .glo "is_part_value", .glo "check_letter", .glo "window_of", .glo "can_be_lost", .glo "is_sight", .glo "windows", .glo "lost_in", .glo "lost_between", .glo "pairs_of", .glo "gap", .glo "ends", .glo "must_lose", .glo "worst_course", .glo "gaps", .glo "is_kept", .glo "is_link", .glo "are_boxes", .glo "are_links", .glo "summed", .glo "are_times", .glo "_law_begin", .glo "_law_draw", .glo "_law_pick", .glo "_law_case", .glo "_law_box", .glo "_law_line"]
def fas2 : List Fa := [.glo "_law_row", .glo "_law_times", .glo "_law_talk", .glo "_law_made_talk", .glo "_law_letters", .glo "_law_sent", .glo "_law_span", .glo "_law_is_sight", .glo "_law_can_lose", .glo "_law_gone", .glo "_law_gaps", .glo "_law_greatest", .glo "_law_wrong", .glo "_law_kind", .glo "_law_pairs_right", .glo "_law_refuses", .glo "law", .cls "Box", .cls "Row", .cls "Talk", .noat "Box" "kept_parts", .noat "Row" "kept_boxes", .noat "Row" "kept_links", .noat "Talk" "kept_out", .noat "Talk" "kept_back", .noat "Talk" "kept_losses", .noat "InvalidNumber" "value", .noat "InvalidLetter" "value", .meth "Row" "__len__", .meth "Row" "check"]
def fas3 : List Fa := [.meth "Row" "out_delay", .meth "Row" "back_delay", .meth "Talk" "letters", .meth "Talk" "__contains__", .meth "Talk" "time", .mkr "Box", .mkr "Row", .mkr "Talk", .exm "InvalidNumber" "QuietError" true, .exm "InvalidLetter" "QuietError" true]
def fas : List Fa := fas0 ++ (fas1 ++ (fas2 ++ (fas3)))
def kitB (K : PySem.W.Frag) (x y : Str) (b : Bool) : Bool := decide (PySem.W.kitOne K (.ref (ga K x)) (.ref (ga K y)) = some b)
def exs (P : Program) (K : PySem.W.Frag) : List Bool := [tupB K "PARTS" [.str "low", .str "high", .str "rest", .str "sees"],
  ocB K (ga K "Box"),
  propB K "Box" "low",
  propB K "Box" "sees",
  propB K "Row" "boxes",
  propB K "Talk" "losses",
  kitB K "InvalidNumber" "InvalidNumber" true,
  kitB K "InvalidNumber" "InvalidName" false,
  kitB K "InvalidNumber" "InvalidBox" false,
  kitB K "InvalidNumber" "InvalidRow" false,
  kitB K "InvalidNumber" "InvalidTalk" false,
  kitB K "InvalidNumber" "InvalidText" false,
  kitB K "InvalidNumber" "InvalidLetter" false,
  kitB K "InvalidNumber" "InvalidCourse" false,
  kitB K "InvalidLetter" "InvalidNumber" false,
  kitB K "InvalidLetter" "InvalidName" false,
  kitB K "InvalidLetter" "InvalidBox" false,
  kitB K "InvalidLetter" "InvalidRow" false,
  kitB K "InvalidLetter" "InvalidTalk" false,
  kitB K "InvalidLetter" "InvalidText" false,
  kitB K "InvalidLetter" "InvalidLetter" true,
  kitB K "InvalidLetter" "InvalidCourse" false,
  excB K (ga K "InvalidNumber"),
  exfB P K "InvalidNumber",
  excB K (ga K "InvalidLetter"),
  exfB P K "InvalidLetter"]
def rfn : List Defn := [("_law_refuses", none)]
/-! ### the part of the heap that is looked at, by values -/
def forceL {α : Type} : List Nat → List Nat → (List Nat → α) → α
  | [], acc, k => k acc
  | a :: r, acc, k => HandSHeadRun.frNat a fun a => forceL r (a :: acc) k
theorem forceL_eq {α : Type} {k : List Nat → α} : ∀ (l acc : List Nat), forceL l acc k = k (l.reverse ++ acc)
  | [], acc => rfl
  | a :: r, acc => by
    show HandSHeadRun.frNat a (fun a => forceL r (a :: acc) k) = _
    rw [HandSHeadRun.frNat_eq, forceL_eq r (a :: acc), List.reverse_cons, List.append_assoc] <;> rfl
def pick (g : Addr → Option Obj) : List Addr → PySem.W.Frag → PySem.W.Frag
  | [], acc => acc
  | a :: r, acc => match g a with
    | some o => (match emptyTab o with
      | true => pick g r acc
      | false => pick g r ((a, o) :: acc))
    | none => pick g r acc
def pickF {α : Type} (g : Addr → Option Obj) : List Addr → PySem.W.Frag → (PySem.W.Frag → α) → α
  | [], acc, k => k acc
  | a :: r, acc, k => match g a with
    | some o => (match emptyTab o with
      | true => pickF g r acc k
      | false => pickF g r ((a, o) :: acc) k)
    | none => pickF g r acc k
theorem pickF_eq {α : Type} {g : Addr → Option Obj} {k : PySem.W.Frag → α} : ∀ (l : List Addr) (acc : PySem.W.Frag), pickF g l acc k = k (pick g l acc)
  | [], acc => rfl
  | a :: r, acc => by
    unfold pickF pick
    cases g a with
    | none => exact pickF_eq r acc
    | some o =>
      cases h : emptyTab o with
      | true => simp only [h]; exact pickF_eq r acc
      | false => simp only [h]; exact pickF_eq r ((a, o) :: acc)
def Good (g : Addr → Option Obj) (K : PySem.W.Frag) : Prop := ∀ p ∈ K, g p.1 = some p.2 ∧ emptyTab p.2 = false
theorem pick_good {g : Addr → Option Obj} : ∀ (l : List Addr) {acc : PySem.W.Frag}, Good g acc → Good g (pick g l acc)
  | [], acc, h => h
  | a :: r, acc, h => by
    unfold pick
    split
    · rename_i o q
      split
      · exact pick_good r h
      · rename_i z
        refine pick_good r fun p hp => ?_
        rcases List.mem_cons.mp hp with rfl | hp
        · exact ⟨q, z⟩
        · exact h p hp
    · exact pick_good r h
def vals1 (g : Addr → Option Obj) (a : Addr) : List Addr := match g a with
  | some ⟨_, _, .dict es _, _⟩ => es.toList.flatMap fun e => refV e.val
  | _ => []
def step1 (g : Addr → Option Obj) (a : Addr) : List Addr := match g a with
  | some ⟨_, _, .cls cd, _⟩ => [cd.ns]
  | some ⟨_, _, .func fd, _⟩ => refV fd.code ++ (refV fd.defaults ++ (refV fd.kwdefaults ++ fd.closure.map (·.2)))
  | some ⟨.type t, _, .fields vs, _⟩ => (match decide (t = "property") with
    | true => vs.toList.flatMap refV
    | false => [])
  | _ => []
def as1 (g : Addr → Option Obj) : List Addr := (vals1 g mainGlobals).reverse
def as2 (g : Addr → Option Obj) : List Addr := ((as1 g).flatMap (step1 g)).reverse
def as3 (g : Addr → Option Obj) : List Addr := ((as2 g).flatMap (vals1 g)).reverse
def as4 (g : Addr → Option Obj) : List Addr := ((as3 g).flatMap (step1 g)).reverse
def as5 (g : Addr → Option Obj) : List Addr := ((as4 g).flatMap (step1 g)).reverse
def kOf (g : Addr → Option Obj) : PySem.W.Frag := pick g [cStatics, mainGlobals] (pick g (as1 g) (pick g (as2 g) (pick g (as3 g) (pick g (as4 g) (pick g (as5 g) [])))))
def withK {α : Type} (g : Addr → Option Obj) (k : PySem.W.Frag → α) : α :=
  forceL (vals1 g mainGlobals) [] fun l1 => forceL (l1.flatMap (step1 g)) [] fun l2 => forceL (l2.flatMap (vals1 g)) [] fun l3 => forceL (l3.flatMap (step1 g)) [] fun l4 => forceL (l4.flatMap (step1 g)) [] fun l5 =>
  pickF g l5 [] fun K => pickF g l4 K fun K => pickF g l3 K fun K => pickF g l2 K fun K => pickF g l1 K fun K => pickF g [cStatics, mainGlobals] K k
theorem withK_eq {α : Type} {g : Addr → Option Obj} {k : PySem.W.Frag → α} : withK g k = k (kOf g) := by
  unfold withK
  simp only [forceL_eq, pickF_eq, List.append_nil]
  rfl
theorem kOf_good {g : Addr → Option Obj} : Good g (kOf g) := pick_good _ (pick_good _ (pick_good _ (pick_good _ (pick_good _ (pick_good _ fun p hp => by cases hp)))))
theorem good_in {h : Heap} {K : PySem.W.Frag} (G : Good h.get? K) : K.In h := fun _ _ e => (G _ (lookup_mem e)).1
theorem good_none {g : Addr → Option Obj} {K : PySem.W.Frag} (G : Good g K) {a : Addr} {o : Obj} (h : g a = some o) (ht : emptyTab o = true) : K.lookup a = none := by
  cases e : K.lookup a with
  | none => rfl
  | some u =>
    obtain ⟨h1, h2⟩ := G _ (lookup_mem e)
    have h1' : g a = some u := h1
    rw [h] at h1'
    rw [← Option.some.inj h1', ht] at h2
    cases h2
/-! ### the Hook -/
abbrev AlQ : Type := Bool × List FnA
def fnsA (K : PySem.W.Frag) : List DefA → List FnA
  | [] => []
  | d :: r => fnA K (d.adr K) :: fnsA K r
def fnsV : List DefA → List FnA
  | [] => []
  | d :: r => d.val :: fnsV r
theorem fns_inj {K : PySem.W.Frag} : ∀ {l : List DefA}, fnsA K l = fnsV l → ∀ d ∈ l, fnA K (d.adr K) = d.val
  | [], _, d, hd => by cases hd
  | x :: r, e, d, hd => by
    have e' : fnA K (x.adr K) :: fnsA K r = x.val :: fnsV r := e
    injection e' with e1 e2
    rcases List.mem_cons.mp hd with rfl | hd
    · exact e1
    · exact fns_inj e2 d hd
def allQ (P : Program) (g : Addr → Option Obj) (K : PySem.W.Frag) : Bool := (fas.all fun f => f.ok K) && ((exs P K).all id && ((fns.all fun d => d.ok K) && tabsB g rfn K))
def obsQ (P : Program) (g : Addr → Option Obj) : AlQ := withK g fun K => (allQ P g K, fnsA K fns)
def valQ : AlQ := (true, fnsV fns)
structure SaysQ (P : Program) (h : Heap) (K : PySem.W.Frag) : Prop where
  fa : ∀ f ∈ fas, f.ok K = true
  ex : ∀ b ∈ exs P K, b = true
  fn : ∀ d ∈ fns, fnA K (d.adr K) = d.val ∧ d.ok K = true
  hd : ∀ p ∈ rfn, PySem.W.codeHdIn K (cT K p).1 (cT K p).2 = true
  out : ∀ p ∈ rfn, K.lookup (cT K p).2 = none
  empty : ∀ p ∈ rfn, h.get? (cT K p).2 = some { cls := .none, data := .fields #[] }
theorem saysQ_of {P : Program} {h : Heap} (e : obsQ P h.get? = valQ) : SaysQ P h (kOf h.get?) := by
  have GK : Good h.get? (kOf h.get?) := kOf_good
  unfold obsQ at e
  rw [withK_eq] at e
  generalize kOf h.get? = K at e GK
  have e1 : allQ P h.get? K = true := congrArg (fun z : AlQ => z.1) e
  have e2 : fnsA K fns = fnsV fns := congrArg (fun z : AlQ => z.2) e
  obtain ⟨f1, f2⟩ := ba e1
  obtain ⟨f3, f4⟩ := ba f2
  obtain ⟨f5, f6⟩ := ba f4
  have key : ∀ p ∈ rfn, PySem.W.codeHdIn K (cT K p).1 (cT K p).2 = true ∧ ∃ o, h.get? (cT K p).2 = some o ∧ emptyTab o = true := fun p hp => by
    obtain ⟨h3, h4⟩ := ba (List.all_eq_true.mp f6 p hp)
    refine ⟨h3, ?_⟩
    split at h4
    · rename_i o q
      exact ⟨o, q, h4⟩
    · cases h4
  refine ⟨List.all_eq_true.mp f1, List.all_eq_true.mp f3, fun d hd => ⟨fns_inj e2 d hd, List.all_eq_true.mp f5 d hd⟩, fun p hp => (key p hp).1, fun p hp => ?_, fun p hp => ?_⟩
  · obtain ⟨_, o, q, z⟩ := key p hp
    exact good_none GK q z
  · obtain ⟨_, o, q, z⟩ := key p hp
    rw [q, emptyTab_eq z]
def hookQ (P : Program) : PySem.W.Hook where
  α := AlQ
  obs := fun s => obsQ P s.heap.get?
  val := fun _ => valQ
  says := fun _ h => ∃ K : PySem.W.Frag, K.In h ∧ SaysQ P h K
  of := fun _ _ e => ⟨_, good_in kOf_good, saysQ_of e⟩
  keeps := fun _ _ _ ⟨K, hK, c⟩ k => ⟨K, PySem.W.Frag.In.keeps hK k, ⟨c.fa, c.ex, c.fn, c.hd, c.out, fun p hp => k _ _ (c.empty p hp)⟩⟩
theorem obsQ_eq {P : Program} {g : Addr → Option Obj} {s : Shared} (h : ∀ a, g a = s.heap.get? a) : obsQ P g = (hookQ P).obs s := by
  have e : g = s.heap.get? := funext h
  rw [e] <;> rfl
end QH

/-! text QH4 -/
set_option Elab.async false
set_option linter.all false
set_option maxRecDepth 100000
set_option maxHeartbeats 4000000
/-! QH4: what the Hook says, as the walk asks it. Printed by asm2.py. -/
namespace QH
open PySem PySem.Spec PyProof.Rows L2 QL QD QX He
section
variable {P : Program} {w : World} {K : PySem.W.Frag} {mg : Str → Option Value} {base h : Heap}
theorem SaysQ.x (c : SaysQ P h K) (i : Nat) {b : Bool} (e : (exs P K)[i]? = some b := by rfl) : b = true := c.ex b (List.mem_of_getElem? e)
theorem kit_ok {x y : Str} {b : Bool} (c : kitB K x y b = true) : PySem.W.kitOne K (.ref (ga K x)) (.ref (ga K y)) = some b := of_decide_eq_true c
theorem free_all (X : K.In h) (G : h.Ns mainGlobals mg) (c : SaysQ P h K) : Free mg := ⟨free_ok X G (c.fa (.free "isinstance") (List.mem_append_left _ (List.mem_of_getElem? (i := 0) rfl))), free_ok X G (c.fa (.free "int") (List.mem_append_left _ (List.mem_of_getElem? (i := 1) rfl))), free_ok X G (c.fa (.free "bool") (List.mem_append_left _ (List.mem_of_getElem? (i := 2) rfl))), free_ok X G (c.fa (.free "str") (List.mem_append_left _ (List.mem_of_getElem? (i := 3) rfl))), free_ok X G (c.fa (.free "list") (List.mem_append_left _ (List.mem_of_getElem? (i := 4) rfl))), free_ok X G (c.fa (.free "tuple") (List.mem_append_left _ (List.mem_of_getElem? (i := 5) rfl))), free_ok X G (c.fa (.free "len") (List.mem_append_left _ (List.mem_of_getElem? (i := 6) rfl))), free_ok X G (c.fa (.free "range") (List.mem_append_left _ (List.mem_of_getElem? (i := 7) rfl))), free_ok X G (c.fa (.free "zip") (List.mem_append_left _ (List.mem_of_getElem? (i := 8) rfl))), free_ok X G (c.fa (.free "sum") (List.mem_append_left _ (List.mem_of_getElem? (i := 9) rfl))), free_ok X G (c.fa (.free "all") (List.mem_append_left _ (List.mem_of_getElem? (i := 10) rfl))), free_ok X G (c.fa (.free "max") (List.mem_append_left _ (List.mem_of_getElem? (i := 11) rfl))), free_ok X G (c.fa (.free "repr") (List.mem_append_left _ (List.mem_of_getElem? (i := 12) rfl)))⟩
theorem ft_all (X : K.In h) (G : h.Ns mainGlobals mg) (c : SaysQ P h K) : Ft K mg (ga K "Box") (ga K "Row") (ga K "Talk") (ga K "InvalidNumber") (ga K "InvalidLetter") := by
  refine ⟨?_, ?_, ?_, ?_, ?_, ?_, ?_, ?_, ?_, ?_, ?_, ?_, ?_, ?_, ?_, ?_, ?_, ?_, ?_, ?_, ?_, ?_⟩
  · exact free_all X G c
  · exact int_ok X G (c.fa (.int "MOST_TIME" 10000) (List.mem_append_left _ (List.mem_of_getElem? (i := 14) rfl)))
  · exact int_ok X G (c.fa (.int "MOST_BOXES" 4) (List.mem_append_left _ (List.mem_of_getElem? (i := 15) rfl)))
  · exact int_ok X G (c.fa (.int "MOST_LINK" 1000) (List.mem_append_left _ (List.mem_of_getElem? (i := 16) rfl)))
  · exact int_ok X G (c.fa (.int "MOST_TIMES" 60) (List.mem_append_left _ (List.mem_of_getElem? (i := 17) rfl)))
  · exact int_ok X G (c.fa (.int "MOST_LOSSES" 5) (List.mem_append_left _ (List.mem_of_getElem? (i := 18) rfl)))
  · exact ⟨_, glo_ok X G (c.fa (.glo "PARTS") (List.mem_append_left _ (List.mem_of_getElem? (i := 19) rfl))), fun H => tupB_ok (c.x 0) H⟩
  · exact glo_ok X G (c.fa (.glo "Box") (List.mem_append_left _ (List.mem_of_getElem? (i := 20) rfl)))
  · exact glo_ok X G (c.fa (.glo "Row") (List.mem_append_left _ (List.mem_of_getElem? (i := 21) rfl)))
  · exact glo_ok X G (c.fa (.glo "Talk") (List.mem_append_left _ (List.mem_of_getElem? (i := 22) rfl)))
  · exact glo_ok X G (c.fa (.glo "InvalidNumber") (List.mem_append_left _ (List.mem_of_getElem? (i := 24) rfl)))
  · exact glo_ok X G (c.fa (.glo "InvalidLetter") (List.mem_append_right _ (List.mem_append_left _ (List.mem_of_getElem? (i := 0) rfl))))
  · exact cls_ok (c.fa (.cls "Box") (List.mem_append_right _ (List.mem_append_right _ (List.mem_append_left _ (List.mem_of_getElem? (i := 17) rfl)))))
  · exact cls_ok (c.fa (.cls "Row") (List.mem_append_right _ (List.mem_append_right _ (List.mem_append_left _ (List.mem_of_getElem? (i := 18) rfl)))))
  · exact cls_ok (c.fa (.cls "Talk") (List.mem_append_right _ (List.mem_append_right _ (List.mem_append_left _ (List.mem_of_getElem? (i := 19) rfl)))))
  · exact noat_ok (c.fa (.noat "Box" "kept_parts") (List.mem_append_right _ (List.mem_append_right _ (List.mem_append_left _ (List.mem_of_getElem? (i := 20) rfl)))))
  · exact noat_ok (c.fa (.noat "Row" "kept_boxes") (List.mem_append_right _ (List.mem_append_right _ (List.mem_append_left _ (List.mem_of_getElem? (i := 21) rfl)))))
  · exact noat_ok (c.fa (.noat "Row" "kept_links") (List.mem_append_right _ (List.mem_append_right _ (List.mem_append_left _ (List.mem_of_getElem? (i := 22) rfl)))))
  · exact noat_ok (c.fa (.noat "Talk" "kept_out") (List.mem_append_right _ (List.mem_append_right _ (List.mem_append_left _ (List.mem_of_getElem? (i := 23) rfl)))))
  · exact noat_ok (c.fa (.noat "Talk" "kept_back") (List.mem_append_right _ (List.mem_append_right _ (List.mem_append_left _ (List.mem_of_getElem? (i := 24) rfl)))))
  · exact noat_ok (c.fa (.noat "Talk" "kept_losses") (List.mem_append_right _ (List.mem_append_right _ (List.mem_append_left _ (List.mem_of_getElem? (i := 25) rfl)))))
  · exact oc_ok (cls_ok (c.fa (.cls "Box") (List.mem_append_right _ (List.mem_append_right _ (List.mem_append_left _ (List.mem_of_getElem? (i := 17) rfl)))))) (c.x 1)
theorem SaysQ.def_ (c : SaysQ P h K) {d : DefA} (m : d ∈ fns) (h0 : d.clo = [] := by rfl) : ∃ fd, FunD K d.name d.qual d.params d.body d.scope (d.dvs K) (d.kws K) (d.adr K) fd := DefA.funD h0 (c.fn d m).1 (c.fn d m).2
theorem df_all (X : K.In h) (G : h.Ns mainGlobals mg) (c : SaysQ P h K) : Df K mg (ga K "Box") (ga K "Row") (ga K "Talk") := by
  refine ⟨?_, ?_, ?_, ?_, ?_, ?_, ?_, ?_, ?_, ?_, ?_, ?_, ?_, ?_, ?_, ?_, ?_, ?_, ?_, ?_, ?_, ?_, ?_, ?_, ?_, ?_, ?_, ?_, ?_, ?_, ?_, ?_, ?_, ?_, ?_, ?_, ?_, ?_, ?_, ?_, ?_, ?_, ?_, ?_, ?_, ?_, ?_, ?_, ?_, ?_, ?_, ?_, ?_, ?_, ?_, ?_, ?_, ?_, ?_⟩
  · obtain ⟨fd, F⟩ := c.def_ (d := d_is_integer) (List.mem_append_left _ (List.mem_of_getElem? (i := 0) rfl))
    exact ⟨_, fd, F, glo_ok X G (c.fa (.glo "is_integer") (List.mem_append_right _ (List.mem_append_left _ (List.mem_of_getElem? (i := 2) rfl))))⟩
  · obtain ⟨fd, F⟩ := c.def_ (d := d_is_between) (List.mem_append_left _ (List.mem_of_getElem? (i := 1) rfl))
    exact ⟨_, fd, F, glo_ok X G (c.fa (.glo "is_between") (List.mem_append_right _ (List.mem_append_left _ (List.mem_of_getElem? (i := 3) rfl))))⟩
  · obtain ⟨fd, F⟩ := c.def_ (d := d_is_part_value) (List.mem_append_left _ (List.mem_of_getElem? (i := 2) rfl))
    exact ⟨_, fd, F, glo_ok X G (c.fa (.glo "is_part_value") (List.mem_append_right _ (List.mem_append_left _ (List.mem_of_getElem? (i := 4) rfl))))⟩
  · obtain ⟨fd, F⟩ := c.def_ (d := d_check_letter) (List.mem_append_left _ (List.mem_of_getElem? (i := 3) rfl))
    exact ⟨_, fd, F, glo_ok X G (c.fa (.glo "check_letter") (List.mem_append_right _ (List.mem_append_left _ (List.mem_of_getElem? (i := 5) rfl))))⟩
  · obtain ⟨fd, F⟩ := c.def_ (d := d_window_of) (List.mem_append_left _ (List.mem_of_getElem? (i := 4) rfl))
    exact ⟨_, fd, F, glo_ok X G (c.fa (.glo "window_of") (List.mem_append_right _ (List.mem_append_left _ (List.mem_of_getElem? (i := 6) rfl))))⟩
  · obtain ⟨fd, F⟩ := c.def_ (d := d_can_be_lost) (List.mem_append_left _ (List.mem_of_getElem? (i := 5) rfl))
    exact ⟨_, fd, F, glo_ok X G (c.fa (.glo "can_be_lost") (List.mem_append_right _ (List.mem_append_left _ (List.mem_of_getElem? (i := 7) rfl))))⟩
  · obtain ⟨fd, F⟩ := c.def_ (d := d_is_sight) (List.mem_append_left _ (List.mem_of_getElem? (i := 6) rfl))
    exact ⟨_, fd, F, glo_ok X G (c.fa (.glo "is_sight") (List.mem_append_right _ (List.mem_append_left _ (List.mem_of_getElem? (i := 8) rfl))))⟩
  · obtain ⟨fd, F⟩ := c.def_ (d := d_windows) (List.mem_append_left _ (List.mem_of_getElem? (i := 7) rfl))
    exact ⟨_, fd, F, glo_ok X G (c.fa (.glo "windows") (List.mem_append_right _ (List.mem_append_left _ (List.mem_of_getElem? (i := 9) rfl))))⟩
  · obtain ⟨fd, F⟩ := c.def_ (d := d_lost_in) (List.mem_append_left _ (List.mem_of_getElem? (i := 8) rfl))
    exact ⟨_, fd, F, glo_ok X G (c.fa (.glo "lost_in") (List.mem_append_right _ (List.mem_append_left _ (List.mem_of_getElem? (i := 10) rfl))))⟩
  · obtain ⟨fd, F⟩ := c.def_ (d := d_lost_between) (List.mem_append_left _ (List.mem_of_getElem? (i := 9) rfl))
    exact ⟨_, fd, F, glo_ok X G (c.fa (.glo "lost_between") (List.mem_append_right _ (List.mem_append_left _ (List.mem_of_getElem? (i := 11) rfl))))⟩
  · obtain ⟨fd, F⟩ := c.def_ (d := d_pairs_of) (List.mem_append_left _ (List.mem_of_getElem? (i := 10) rfl))
    exact ⟨_, fd, F, glo_ok X G (c.fa (.glo "pairs_of") (List.mem_append_right _ (List.mem_append_left _ (List.mem_of_getElem? (i := 12) rfl))))⟩
  · obtain ⟨fd, F⟩ := c.def_ (d := d_gap) (List.mem_append_left _ (List.mem_of_getElem? (i := 11) rfl))
    exact ⟨_, fd, F, glo_ok X G (c.fa (.glo "gap") (List.mem_append_right _ (List.mem_append_left _ (List.mem_of_getElem? (i := 13) rfl))))⟩
  · obtain ⟨fd, F⟩ := c.def_ (d := d_ends) (List.mem_append_left _ (List.mem_of_getElem? (i := 12) rfl))
    exact ⟨_, fd, F, glo_ok X G (c.fa (.glo "ends") (List.mem_append_right _ (List.mem_append_left _ (List.mem_of_getElem? (i := 14) rfl))))⟩
  · obtain ⟨fd, F⟩ := c.def_ (d := d_must_lose) (List.mem_append_left _ (List.mem_of_getElem? (i := 13) rfl))
    exact ⟨_, fd, F, glo_ok X G (c.fa (.glo "must_lose") (List.mem_append_right _ (List.mem_append_left _ (List.mem_of_getElem? (i := 15) rfl))))⟩
  · obtain ⟨fd, F⟩ := c.def_ (d := d_worst_course) (List.mem_append_left _ (List.mem_of_getElem? (i := 14) rfl))
    exact ⟨_, fd, F, glo_ok X G (c.fa (.glo "worst_course") (List.mem_append_right _ (List.mem_append_left _ (List.mem_of_getElem? (i := 16) rfl))))⟩
  · obtain ⟨fd, F⟩ := c.def_ (d := d_gaps) (List.mem_append_left _ (List.mem_of_getElem? (i := 15) rfl))
    exact ⟨_, fd, F, glo_ok X G (c.fa (.glo "gaps") (List.mem_append_right _ (List.mem_append_left _ (List.mem_of_getElem? (i := 17) rfl))))⟩
  · obtain ⟨fd, F⟩ := c.def_ (d := d_is_kept) (List.mem_append_left _ (List.mem_of_getElem? (i := 16) rfl))
    exact ⟨_, fd, F, glo_ok X G (c.fa (.glo "is_kept") (List.mem_append_right _ (List.mem_append_left _ (List.mem_of_getElem? (i := 18) rfl))))⟩
  · obtain ⟨fd, F⟩ := c.def_ (d := d_is_link) (List.mem_append_left _ (List.mem_of_getElem? (i := 17) rfl))
    exact ⟨_, fd, F, glo_ok X G (c.fa (.glo "is_link") (List.mem_append_right _ (List.mem_append_left _ (List.mem_of_getElem? (i := 19) rfl))))⟩
  · obtain ⟨fd, F⟩ := c.def_ (d := d_are_boxes) (List.mem_append_left _ (List.mem_of_getElem? (i := 18) rfl))
    exact ⟨_, fd, F, glo_ok X G (c.fa (.glo "are_boxes") (List.mem_append_right _ (List.mem_append_left _ (List.mem_of_getElem? (i := 20) rfl))))⟩
  · obtain ⟨fd, F⟩ := c.def_ (d := d_are_links) (List.mem_append_left _ (List.mem_of_getElem? (i := 19) rfl))
    exact ⟨_, fd, F, glo_ok X G (c.fa (.glo "are_links") (List.mem_append_right _ (List.mem_append_left _ (List.mem_of_getElem? (i := 21) rfl))))⟩
  · obtain ⟨fd, F⟩ := c.def_ (d := d_summed) (List.mem_append_right _ (List.mem_append_left _ (List.mem_of_getElem? (i := 0) rfl)))
    exact ⟨_, fd, F, glo_ok X G (c.fa (.glo "summed") (List.mem_append_right _ (List.mem_append_left _ (List.mem_of_getElem? (i := 22) rfl))))⟩
  · obtain ⟨fd, F⟩ := c.def_ (d := d_are_times) (List.mem_append_right _ (List.mem_append_left _ (List.mem_of_getElem? (i := 1) rfl)))
    exact ⟨_, fd, F, glo_ok X G (c.fa (.glo "are_times") (List.mem_append_right _ (List.mem_append_left _ (List.mem_of_getElem? (i := 23) rfl))))⟩
  · obtain ⟨fd, F⟩ := c.def_ (d := d__law_begin) (List.mem_append_right _ (List.mem_append_left _ (List.mem_of_getElem? (i := 2) rfl)))
    exact ⟨_, fd, F, glo_ok X G (c.fa (.glo "_law_begin") (List.mem_append_right _ (List.mem_append_left _ (List.mem_of_getElem? (i := 24) rfl))))⟩
  · obtain ⟨fd, F⟩ := c.def_ (d := d__law_draw) (List.mem_append_right _ (List.mem_append_left _ (List.mem_of_getElem? (i := 3) rfl)))
    exact ⟨_, fd, F, glo_ok X G (c.fa (.glo "_law_draw") (List.mem_append_right _ (List.mem_append_left _ (List.mem_of_getElem? (i := 25) rfl))))⟩
  · obtain ⟨fd, F⟩ := c.def_ (d := d__law_pick) (List.mem_append_right _ (List.mem_append_left _ (List.mem_of_getElem? (i := 4) rfl)))
    exact ⟨_, fd, F, glo_ok X G (c.fa (.glo "_law_pick") (List.mem_append_right _ (List.mem_append_left _ (List.mem_of_getElem? (i := 26) rfl))))⟩
  · obtain ⟨fd, F⟩ := c.def_ (d := d__law_case) (List.mem_append_right _ (List.mem_append_left _ (List.mem_of_getElem? (i := 5) rfl)))
    exact ⟨_, fd, F, glo_ok X G (c.fa (.glo "_law_case") (List.mem_append_right _ (List.mem_append_left _ (List.mem_of_getElem? (i := 27) rfl))))⟩
  · obtain ⟨fd, F⟩ := c.def_ (d := d__law_box) (List.mem_append_right _ (List.mem_append_left _ (List.mem_of_getElem? (i := 6) rfl)))
    exact ⟨_, fd, F, glo_ok X G (c.fa (.glo "_law_box") (List.mem_append_right _ (List.mem_append_left _ (List.mem_of_getElem? (i := 28) rfl))))⟩
  · obtain ⟨fd, F⟩ := c.def_ (d := d__law_line) (List.mem_append_right _ (List.mem_append_left _ (List.mem_of_getElem? (i := 7) rfl)))
    exact ⟨_, fd, F, glo_ok X G (c.fa (.glo "_law_line") (List.mem_append_right _ (List.mem_append_left _ (List.mem_of_getElem? (i := 29) rfl))))⟩
  · obtain ⟨fd, F⟩ := c.def_ (d := d__law_row) (List.mem_append_right _ (List.mem_append_left _ (List.mem_of_getElem? (i := 8) rfl)))
    exact ⟨_, fd, F, glo_ok X G (c.fa (.glo "_law_row") (List.mem_append_right _ (List.mem_append_right _ (List.mem_append_left _ (List.mem_of_getElem? (i := 0) rfl)))))⟩
  · obtain ⟨fd, F⟩ := c.def_ (d := d__law_times) (List.mem_append_right _ (List.mem_append_left _ (List.mem_of_getElem? (i := 9) rfl)))
    exact ⟨_, fd, F, glo_ok X G (c.fa (.glo "_law_times") (List.mem_append_right _ (List.mem_append_right _ (List.mem_append_left _ (List.mem_of_getElem? (i := 1) rfl)))))⟩
  · obtain ⟨fd, F⟩ := c.def_ (d := d__law_talk) (List.mem_append_right _ (List.mem_append_left _ (List.mem_of_getElem? (i := 10) rfl)))
    exact ⟨_, fd, F, glo_ok X G (c.fa (.glo "_law_talk") (List.mem_append_right _ (List.mem_append_right _ (List.mem_append_left _ (List.mem_of_getElem? (i := 2) rfl)))))⟩
  · obtain ⟨fd, F⟩ := c.def_ (d := d__law_made_talk) (List.mem_append_right _ (List.mem_append_left _ (List.mem_of_getElem? (i := 11) rfl)))
    exact ⟨_, fd, F, glo_ok X G (c.fa (.glo "_law_made_talk") (List.mem_append_right _ (List.mem_append_right _ (List.mem_append_left _ (List.mem_of_getElem? (i := 3) rfl)))))⟩
  · obtain ⟨fd, F⟩ := c.def_ (d := d__law_letters) (List.mem_append_right _ (List.mem_append_left _ (List.mem_of_getElem? (i := 12) rfl)))
    exact ⟨_, fd, F, glo_ok X G (c.fa (.glo "_law_letters") (List.mem_append_right _ (List.mem_append_right _ (List.mem_append_left _ (List.mem_of_getElem? (i := 4) rfl)))))⟩
  · obtain ⟨fd, F⟩ := c.def_ (d := d__law_sent) (List.mem_append_right _ (List.mem_append_left _ (List.mem_of_getElem? (i := 13) rfl)))
    exact ⟨_, fd, F, glo_ok X G (c.fa (.glo "_law_sent") (List.mem_append_right _ (List.mem_append_right _ (List.mem_append_left _ (List.mem_of_getElem? (i := 5) rfl)))))⟩
  · obtain ⟨fd, F⟩ := c.def_ (d := d__law_span) (List.mem_append_right _ (List.mem_append_left _ (List.mem_of_getElem? (i := 14) rfl)))
    exact ⟨_, fd, F, glo_ok X G (c.fa (.glo "_law_span") (List.mem_append_right _ (List.mem_append_right _ (List.mem_append_left _ (List.mem_of_getElem? (i := 6) rfl)))))⟩
  · obtain ⟨fd, F⟩ := c.def_ (d := d__law_is_sight) (List.mem_append_right _ (List.mem_append_left _ (List.mem_of_getElem? (i := 15) rfl)))
    exact ⟨_, fd, F, glo_ok X G (c.fa (.glo "_law_is_sight") (List.mem_append_right _ (List.mem_append_right _ (List.mem_append_left _ (List.mem_of_getElem? (i := 7) rfl)))))⟩
  · obtain ⟨fd, F⟩ := c.def_ (d := d__law_can_lose) (List.mem_append_right _ (List.mem_append_left _ (List.mem_of_getElem? (i := 16) rfl)))
    exact ⟨_, fd, F, glo_ok X G (c.fa (.glo "_law_can_lose") (List.mem_append_right _ (List.mem_append_right _ (List.mem_append_left _ (List.mem_of_getElem? (i := 8) rfl)))))⟩
  · obtain ⟨fd, F⟩ := c.def_ (d := d__law_gone) (List.mem_append_right _ (List.mem_append_left _ (List.mem_of_getElem? (i := 17) rfl)))
    exact ⟨_, fd, F, glo_ok X G (c.fa (.glo "_law_gone") (List.mem_append_right _ (List.mem_append_right _ (List.mem_append_left _ (List.mem_of_getElem? (i := 9) rfl)))))⟩
  · obtain ⟨fd, F⟩ := c.def_ (d := d__law_gaps) (List.mem_append_right _ (List.mem_append_left _ (List.mem_of_getElem? (i := 18) rfl)))
    exact ⟨_, fd, F, glo_ok X G (c.fa (.glo "_law_gaps") (List.mem_append_right _ (List.mem_append_right _ (List.mem_append_left _ (List.mem_of_getElem? (i := 10) rfl)))))⟩
  · obtain ⟨fd, F⟩ := c.def_ (d := d__law_greatest) (List.mem_append_right _ (List.mem_append_left _ (List.mem_of_getElem? (i := 19) rfl)))
    exact ⟨_, fd, F, glo_ok X G (c.fa (.glo "_law_greatest") (List.mem_append_right _ (List.mem_append_right _ (List.mem_append_left _ (List.mem_of_getElem? (i := 11) rfl)))))⟩
  · obtain ⟨fd, F⟩ := c.def_ (d := d__law_wrong) (List.mem_append_right _ (List.mem_append_right _ (List.mem_append_left _ (List.mem_of_getElem? (i := 0) rfl))))
    exact ⟨_, fd, F, glo_ok X G (c.fa (.glo "_law_wrong") (List.mem_append_right _ (List.mem_append_right _ (List.mem_append_left _ (List.mem_of_getElem? (i := 12) rfl)))))⟩
  · obtain ⟨fd, F⟩ := c.def_ (d := d__law_kind) (List.mem_append_right _ (List.mem_append_right _ (List.mem_append_left _ (List.mem_of_getElem? (i := 1) rfl))))
    exact ⟨_, fd, F, glo_ok X G (c.fa (.glo "_law_kind") (List.mem_append_right _ (List.mem_append_right _ (List.mem_append_left _ (List.mem_of_getElem? (i := 13) rfl)))))⟩
  · obtain ⟨fd, F⟩ := c.def_ (d := d__law_pairs_right) (List.mem_append_right _ (List.mem_append_right _ (List.mem_append_left _ (List.mem_of_getElem? (i := 2) rfl))))
    exact ⟨_, fd, F, glo_ok X G (c.fa (.glo "_law_pairs_right") (List.mem_append_right _ (List.mem_append_right _ (List.mem_append_left _ (List.mem_of_getElem? (i := 14) rfl)))))⟩
  · obtain ⟨fd, F⟩ := c.def_ (d := d__law_refuses) (List.mem_append_right _ (List.mem_append_right _ (List.mem_append_left _ (List.mem_of_getElem? (i := 3) rfl))))
    exact ⟨_, fd, F, glo_ok X G (c.fa (.glo "_law_refuses") (List.mem_append_right _ (List.mem_append_right _ (List.mem_append_left _ (List.mem_of_getElem? (i := 15) rfl)))))⟩
  · obtain ⟨fd, F⟩ := c.def_ (d := d_law) (List.mem_append_right _ (List.mem_append_right _ (List.mem_append_left _ (List.mem_of_getElem? (i := 4) rfl))))
    exact ⟨_, fd, F, glo_ok X G (c.fa (.glo "law") (List.mem_append_right _ (List.mem_append_right _ (List.mem_append_left _ (List.mem_of_getElem? (i := 16) rfl)))))⟩
  · obtain ⟨fd, F⟩ := c.def_ (d := d_Box_low) (List.mem_append_right _ (List.mem_append_right _ (List.mem_append_left _ (List.mem_of_getElem? (i := 5) rfl))))
    exact ⟨_, _, fd, F, prop_ok (c.x 2)⟩
  · obtain ⟨fd, F⟩ := c.def_ (d := d_Box_sees) (List.mem_append_right _ (List.mem_append_right _ (List.mem_append_left _ (List.mem_of_getElem? (i := 6) rfl))))
    exact ⟨_, _, fd, F, prop_ok (c.x 3)⟩
  · obtain ⟨fd, F⟩ := c.def_ (d := d_Row_boxes) (List.mem_append_right _ (List.mem_append_right _ (List.mem_append_left _ (List.mem_of_getElem? (i := 7) rfl))))
    exact ⟨_, _, fd, F, prop_ok (c.x 4)⟩
  · obtain ⟨fd, F⟩ := c.def_ (d := d_Row___len__) (List.mem_append_right _ (List.mem_append_right _ (List.mem_append_left _ (List.mem_of_getElem? (i := 8) rfl))))
    exact ⟨_, fd, F, meth_ok (c.fa (.meth "Row" "__len__") (List.mem_append_right _ (List.mem_append_right _ (List.mem_append_left _ (List.mem_of_getElem? (i := 28) rfl)))))⟩
  · obtain ⟨fd, F⟩ := c.def_ (d := d_Row_check) (List.mem_append_right _ (List.mem_append_right _ (List.mem_append_left _ (List.mem_of_getElem? (i := 9) rfl))))
    exact ⟨_, fd, F, meth_ok (c.fa (.meth "Row" "check") (List.mem_append_right _ (List.mem_append_right _ (List.mem_append_left _ (List.mem_of_getElem? (i := 29) rfl)))))⟩
  · obtain ⟨fd, F⟩ := c.def_ (d := d_Row_out_delay) (List.mem_append_right _ (List.mem_append_right _ (List.mem_append_left _ (List.mem_of_getElem? (i := 10) rfl))))
    exact ⟨_, fd, F, meth_ok (c.fa (.meth "Row" "out_delay") (List.mem_append_right _ (List.mem_append_right _ (List.mem_append_right _ (List.mem_of_getElem? (i := 0) rfl)))))⟩
  · obtain ⟨fd, F⟩ := c.def_ (d := d_Row_back_delay) (List.mem_append_right _ (List.mem_append_right _ (List.mem_append_left _ (List.mem_of_getElem? (i := 11) rfl))))
    exact ⟨_, fd, F, meth_ok (c.fa (.meth "Row" "back_delay") (List.mem_append_right _ (List.mem_append_right _ (List.mem_append_right _ (List.mem_of_getElem? (i := 1) rfl)))))⟩
  · obtain ⟨fd, F⟩ := c.def_ (d := d_Talk_losses) (List.mem_append_right _ (List.mem_append_right _ (List.mem_append_left _ (List.mem_of_getElem? (i := 12) rfl))))
    exact ⟨_, _, fd, F, prop_ok (c.x 5)⟩
  · obtain ⟨fd, F⟩ := c.def_ (d := d_Talk_letters) (List.mem_append_right _ (List.mem_append_right _ (List.mem_append_left _ (List.mem_of_getElem? (i := 13) rfl))))
    exact ⟨_, fd, F, meth_ok (c.fa (.meth "Talk" "letters") (List.mem_append_right _ (List.mem_append_right _ (List.mem_append_right _ (List.mem_of_getElem? (i := 2) rfl)))))⟩
  · obtain ⟨fd, F⟩ := c.def_ (d := d_Talk___contains__) (List.mem_append_right _ (List.mem_append_right _ (List.mem_append_left _ (List.mem_of_getElem? (i := 14) rfl))))
    exact ⟨_, fd, F, meth_ok (c.fa (.meth "Talk" "__contains__") (List.mem_append_right _ (List.mem_append_right _ (List.mem_append_right _ (List.mem_of_getElem? (i := 3) rfl)))))⟩
  · obtain ⟨fd, F⟩ := c.def_ (d := d_Talk_time) (List.mem_append_right _ (List.mem_append_right _ (List.mem_append_left _ (List.mem_of_getElem? (i := 15) rfl))))
    exact ⟨_, fd, F, meth_ok (c.fa (.meth "Talk" "time") (List.mem_append_right _ (List.mem_append_right _ (List.mem_append_right _ (List.mem_of_getElem? (i := 4) rfl)))))⟩
  · obtain ⟨fd, F⟩ := c.def_ (d := d_Box___init__) (List.mem_append_right _ (List.mem_append_right _ (List.mem_append_left _ (List.mem_of_getElem? (i := 16) rfl))))
    exact ⟨_, fd, F, mkr_ok (c.fa (.mkr "Box") (List.mem_append_right _ (List.mem_append_right _ (List.mem_append_right _ (List.mem_of_getElem? (i := 5) rfl)))))⟩
  · obtain ⟨fd, F⟩ := c.def_ (d := d_Row___init__) (List.mem_append_right _ (List.mem_append_right _ (List.mem_append_left _ (List.mem_of_getElem? (i := 17) rfl))))
    exact ⟨_, fd, F, mkr_ok (c.fa (.mkr "Row") (List.mem_append_right _ (List.mem_append_right _ (List.mem_append_right _ (List.mem_of_getElem? (i := 6) rfl)))))⟩
  · obtain ⟨fd, F⟩ := c.def_ (d := d_Talk___init__) (List.mem_append_right _ (List.mem_append_right _ (List.mem_append_left _ (List.mem_of_getElem? (i := 18) rfl))))
    exact ⟨_, _, fd, rfl, F, mkr_ok (c.fa (.mkr "Talk") (List.mem_append_right _ (List.mem_append_right _ (List.mem_append_right _ (List.mem_of_getElem? (i := 7) rfl)))))⟩
theorem ef_all (X : K.In h) (G : h.Ns mainGlobals mg) (c : SaysQ P h K) : Ef P K mg (ga K "InvalidNumber") (ga K "InvalidLetter") (cT K ("_law_refuses", none)).1 (cT K ("_law_refuses", none)).2 := by
  refine ⟨⟨_, _, _, _, _, _, _, _, glo_ok X G (c.fa (.glo "InvalidNumber") (List.mem_append_left _ (List.mem_of_getElem? (i := 24) rfl))), glo_ok X G (c.fa (.glo "InvalidName") (List.mem_append_left _ (List.mem_of_getElem? (i := 25) rfl))), glo_ok X G (c.fa (.glo "InvalidBox") (List.mem_append_left _ (List.mem_of_getElem? (i := 26) rfl))), glo_ok X G (c.fa (.glo "InvalidRow") (List.mem_append_left _ (List.mem_of_getElem? (i := 27) rfl))), glo_ok X G (c.fa (.glo "InvalidTalk") (List.mem_append_left _ (List.mem_of_getElem? (i := 28) rfl))), glo_ok X G (c.fa (.glo "InvalidText") (List.mem_append_left _ (List.mem_of_getElem? (i := 29) rfl))), glo_ok X G (c.fa (.glo "InvalidLetter") (List.mem_append_right _ (List.mem_append_left _ (List.mem_of_getElem? (i := 0) rfl)))), glo_ok X G (c.fa (.glo "InvalidCourse") (List.mem_append_right _ (List.mem_append_left _ (List.mem_of_getElem? (i := 1) rfl)))), kit_ok (c.x 6), kit_ok (c.x 7), kit_ok (c.x 8), kit_ok (c.x 9), kit_ok (c.x 10), kit_ok (c.x 11), kit_ok (c.x 12), kit_ok (c.x 13), kit_ok (c.x 14), kit_ok (c.x 15), kit_ok (c.x 16), kit_ok (c.x 17), kit_ok (c.x 18), kit_ok (c.x 19), kit_ok (c.x 20), kit_ok (c.x 21)⟩, (exc_ok2 (c.x 22)).1, (exc_ok2 (c.x 24)).1, (exc_ok2 (c.x 22)).2, (exc_ok2 (c.x 24)).2, noat_ok (c.fa (.noat "InvalidNumber" "value") (List.mem_append_right _ (List.mem_append_right _ (List.mem_append_left _ (List.mem_of_getElem? (i := 26) rfl))))), noat_ok (c.fa (.noat "InvalidLetter" "value") (List.mem_append_right _ (List.mem_append_right _ (List.mem_append_left _ (List.mem_of_getElem? (i := 27) rfl))))), ⟨_, glo_ok X G (c.fa (.glo "QuietError") (List.mem_append_left _ (List.mem_of_getElem? (i := 23) rfl))), exm_ok (c.fa (.exm "InvalidNumber" "QuietError" true) (List.mem_append_right _ (List.mem_append_right _ (List.mem_append_right _ (List.mem_of_getElem? (i := 8) rfl))))), exm_ok (c.fa (.exm "InvalidLetter" "QuietError" true) (List.mem_append_right _ (List.mem_append_right _ (List.mem_append_right _ (List.mem_of_getElem? (i := 9) rfl)))))⟩, fun f fd F m => ?_⟩
  have e := m.symm.trans (glo_ok X G (c.fa (.glo "_law_refuses") (List.mem_append_right _ (List.mem_append_right _ (List.mem_append_left _ (List.mem_of_getElem? (i := 15) rfl))))))
  cases e
  obtain ⟨⟨oc, od, dV, kV, doc, pm, an, cdv, ct, osl, e1, lk, hcd, _⟩, _⟩ := F
  obtain ⟨cc, ec⟩ := codeIn_ref hcd
  have e2 : fd.code = .ref cc := by
    rw [e1, ec]
  rw [e2]
  exact congrArg Value.ref (codeOf_eq (p := ("_law_refuses", none)) lk e2).symm
theorem xf_InvalidNumber (X : K.In h) (G : h.Ns mainGlobals mg) (c : SaysQ P h K) (top : (P.main.scope.names.lookup ("super" : Str)).isSome = false) : Xf P w K mg base "InvalidNumber" (ga K "InvalidNumber") 1 := by
  refine xf_ok (d := d_InvalidNumber) (msg := "not such a number") PySem.F.excBase_ValueError (c.x 23) (glo_ok X G (c.fa (.glo "InvalidNumber") (List.mem_append_left _ (List.mem_of_getElem? (i := 24) rfl)))) (free_ok X G (c.fa (.free "super") (List.mem_append_left _ (List.mem_of_getElem? (i := 13) rfl)))) rfl (show defBody (sub 3 0) = _ from rfl) rfl rfl rfl (c.fn _ (List.mem_append_right _ (List.mem_append_right _ (List.mem_append_left _ (List.mem_of_getElem? (i := 19) rfl))))).1 (c.fn _ (List.mem_append_right _ (List.mem_append_right _ (List.mem_append_left _ (List.mem_of_getElem? (i := 19) rfl))))).2 (fun env => ⟨_, rfl⟩) (NdefX.nscope_by (by decide +kernel)) (by decide +kernel) ⟨_, rfl, rfl⟩ top fun cl doc pm an cdv ct a b kV => rfl
theorem xf_InvalidLetter (X : K.In h) (G : h.Ns mainGlobals mg) (c : SaysQ P h K) (top : (P.main.scope.names.lookup ("super" : Str)).isSome = false) : Xf P w K mg base "InvalidLetter" (ga K "InvalidLetter") 1 := by
  refine xf_ok (d := d_InvalidLetter) (msg := "not a letter of the talk") PySem.F.excBase_ValueError (c.x 25) (glo_ok X G (c.fa (.glo "InvalidLetter") (List.mem_append_right _ (List.mem_append_left _ (List.mem_of_getElem? (i := 0) rfl))))) (free_ok X G (c.fa (.free "super") (List.mem_append_left _ (List.mem_of_getElem? (i := 13) rfl)))) rfl (show defBody (sub 9 0) = _ from rfl) rfl rfl rfl (c.fn _ (List.mem_append_right _ (List.mem_append_right _ (List.mem_append_right _ (List.mem_of_getElem? (i := 0) rfl))))).1 (c.fn _ (List.mem_append_right _ (List.mem_append_right _ (List.mem_append_right _ (List.mem_of_getElem? (i := 0) rfl))))).2 (fun env => ⟨_, rfl⟩) (NdefX.nscope_by (by decide +kernel)) (by decide +kernel) ⟨_, rfl, rfl⟩ top fun cl doc pm an cdv ct a b kV => rfl
end
end QH

/-! text QH5 -/
set_option Elab.async false
set_option linter.all false
set_option maxRecDepth 100000
set_option maxHeartbeats 0
/-! QH5: the top's run in the kernel, the facts behind it. -/
namespace QH
open PySem PySem.W PySem.Calls PyProof.Rows
abbrev R : OpenRow := OpenLaw.row PySem.Challenge.rw_quietdoors_k13_whole_gaps
abbrev qv : Program := view R.prog [75]
def names0 : List PySem.Str := ["_wall", "QuietError", "InvalidNumber", "InvalidName", "InvalidBox", "InvalidRow", "InvalidTalk", "InvalidText", "InvalidLetter", "InvalidCourse", "TooMany", "MOST_TIME", "PARTS", "is_integer", "is_between", "is_part_value", "Box", "check_letter", "window_of", "links_along", "place_along", "can_be_lost", "is_sight", "windows", "lost_in", "lost_between", "pairs_of", "gap", "ends", "must_lose"]
def names1 : List PySem.Str := ["times_along", "worst_course", "gaps", "is_kept", "MOST_BOXES", "MOST_LINK", "is_link", "are_boxes", "are_links", "summed", "Row", "MOST_TIMES", "MOST_LOSSES", "are_times", "merged", "Talk", "_law_begin", "_law_draw", "_law_pick", "_law_case", "_law_box", "_law_line", "_law_row", "_law_times", "_law_talk", "_law_made_talk", "_law_letters", "_law_sent", "_law_span", "_law_is_sight"]
def names2 : List PySem.Str := ["_law_can_lose", "_law_gone", "_law_gaps", "_law_greatest", "_law_wrong", "_law_kind", "_law_pairs_right", "_law_refuses"]
def names : List PySem.Str := names0 ++ names1 ++ names2
abbrev hk : PySem.W.Hook := hookQ R.prog
def ob (s : PySem.W.SharedT) : AlQ := obsQ R.prog (HandSHeadRun.getT s)
theorem ob_eq (s : PySem.W.SharedT) : ob s = hk.obs s.abs := obsQ_eq (HandSHeadRun.getT_eq s)
theorem run (w : World) : HandSHeadRun.RunEq R qv hk ob 8000 names w := by
  intro os
  kernel_rfl
end QH

/-! text QH6 -/
set_option Elab.async false
set_option linter.all false
set_option maxRecDepth 100000
set_option maxHeartbeats 0
/-! QH6: the end. -/
namespace QH
open PySem PySem.Spec PyProof.Rows L2 QL QD QX He
theorem lawG_all {P : Program} {w : World} {K : PySem.W.Frag} {h : Heap} {mg : Str → Option Value} {fa : Addr} (top : (P.main.scope.names.lookup ("super" : Str)).isSome = false) {l : PySem.W.OpenLaw} (hl : l.prog = P) (X : K.In h) (G : h.Ns mainGlobals mg) (hm : mg ("law" : Str) = some (.ref fa)) (c : SaysQ P h K) : LawG l w K 11 63 "_law_script" mg fa h := by
  subst hl
  have D := df_all X G c
  obtain ⟨f, fd, F, m⟩ := D.d_law
  have e := hm.symm.trans m
  cases e
  have b := FunD.bindsA (ps := ["_law_script"]) F fun _ _ _ _ _ _ us hl => match us, hl with | [_], _ => rfl
  refine ⟨fd, [cT K ("_law_refuses", none)], fun vs H Q E => ∃ ns : List Int, FSt [((cT K ("_law_refuses", none)).2, (("_law_refuses" : Str) ++ ".<locals>.") ++ "<lambda>")] [] [SqV K ns] (BlV true) vs H Q E, ?_, ?_, ?_, fun s u => b s [u] rfl, ?_, ?_⟩
  · intro p hp
    obtain rfl := List.mem_singleton.mp hp
    exact c.empty _ (List.mem_singleton.mpr rfl)
  · intro p hp
    obtain rfl := List.mem_singleton.mp hp
    exact c.out _ (List.mem_singleton.mpr rfl)
  · intro p hp
    obtain rfl := List.mem_singleton.mp hp
    exact PySem.W.codeHd_of_K X (c.hd _ (List.mem_singleton.mpr rfl))
  · intro H a ns hlen hT hS
    exact ⟨ns, law_sp (cs := [cT K ("_law_refuses", none)]) (fun r hr => by
      obtain rfl := List.mem_singleton.mp hr
      exact List.mem_singleton.mpr rfl) hT hS⟩
  · intro base hKb hnb hTB
    have A := fun ns : List Int => law_all (w := w) (base := base) (ft_all X G c) D (ef_all X G c) (xf_InvalidNumber X G c top) (xf_InvalidLetter X G c top) (hTB _ (List.mem_singleton.mpr rfl)) F (ns := ns)
    exact ⟨fun vs H Q E ⟨ns, h⟩ => (A ns).len vs H Q E h, fun A' outer s H args us vs Q E hr hg e0 hb r ⟨ns, h⟩ => (A ns).run A' outer s H args us vs Q E hr hg e0 hb r h⟩
end QH

/-! text QH7 -/
set_option Elab.async false
set_option linter.all false
set_option maxRecDepth 100000
set_option maxHeartbeats 0
/-! QH7: the row. -/
open PySem PySem.W PySem.Calls PyProof.Rows
theorem PySem.Challenge.cw_quietdoors_k13_whole_gaps_holds : PySem.Challenge.rw_quietdoors_k13_whole_gaps.Holds := by
  w_on; o_law
  refine HandSHeadRun.head_any (r := QH.R) (q := QH.qv) (H := QH.hk) (ob := QH.ob) (M := 8000) (loose := QH.names) (d := HandSHeadRun.topDef QH.R.prog 75) (kwd := []) QH.ob_eq
    (by kernel_rfl) (fun s => by kernel_rfl) QH.run (by kernel_rfl) (by kernel_rfl) (by kernel_rfl) (by rfl) (by first | assumption | decide +kernel) (by decide +kernel) ⟨rfl, rfl, rfl, rfl, rfl, by decide +kernel⟩ ?hw ?hc
  case hw => w_witness2
  case hc =>
    refine QX.walk_G (l := PySem.Challenge.rw_quietdoors_k13_whole_gaps) (n := 63) (k := 11) (x := "_law_script") rfl (by decide) (by kernel_rfl) ⟨rfl, by decide, by decide⟩ ?F
    intro w mg fa h Y G hmg0
    obtain ⟨K, KX, c⟩ := Y
    have hmg : mg ("law" : PySem.Str) = some (.ref fa) := by
      have e : (HandSHeadRun.topDef QH.R.prog 75).name = ("law" : PySem.Str) := by kernel_rfl
      rw [← e]
      exact hmg0
    exact ⟨K, KX, QH.lawG_all (P := QH.R.prog) (by decide +kernel) rfl KX G hmg c⟩
