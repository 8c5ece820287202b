import PyProof.Rows.All
import Wide.All
import OpenK.AllK
import Wide.FinOn
import HandS.ForMost
import HandS.ForExc
import HandS.IsInst
import HandS.TupAny
import HandS.TupLe
import KE.SortData
import PyProof.Rows.FactsN_isinstance
import KE.GoesEnum
import HandS.Zip
import HandS.TupSets
import HandS.SetKeys
import HandS.Deep
import HandS.SetFor
import HandS.Replace
import KE.DataFind
import KE.KDictPairs
import HandS.Codes
import HandS.ExcInit
import HandS.WordsExc
import HandS.TryOnly
import PySem.Challenge.RW_shardask_k64_settle
set_option Elab.async false
set_option linter.all false
set_option maxRecDepth 100000
set_option maxHeartbeats 4000000
/-! Data above the abstract heap: what a value stands for, what an expression's reading comes to -/
namespace Sh
open PySem PySem.Spec PyProof.Rows L2

inductive Dat where
  | non | bl (b : Bool) | int (i : Int) | str (x : Str)
  | tup (xs : List Dat) | lst (xs : List Dat)
  | dic (ks : List (Key × Dat)) | ob (C : Addr) (fs : List (Str × Dat)) | hd (xs : List Dat) | raw (v : V)

/-- places: those that hold a draw's state, those that are left alone -/
structure Sc where
  st : List Addr := []
  ex : List Addr := []
  rn : List Addr := []
def Sc.no (S : Sc) (a : Addr) : Prop := a ∉ S.st ∧ a ∉ S.ex
def NoHp : Hp := fun _ => none

mutual
inductive Rp (K : PySem.W.Frag) (S : Sc) (H : Hp) : V → Dat → Prop
  | non : Rp K S H .non .non
  | bl (b : Bool) : Rp K S H (.bl b) (.bl b)
  | int (i : Int) : Rp K S H (.int i) (.int i)
  | str (x : Str) : Rp K S H (.str x) (.str x)
  | tup {a : Addr} {xs : List V} {ds : List Dat} : S.no a ∨ SqT K NoHp a xs → SqT K H a xs → Rps K S H xs ds → Rp K S H (.ref a) (.tup ds)
  | lst {a : Addr} {xs : List V} {ds : List Dat} : S.no a ∨ SqL K NoHp a xs → SqL K H a xs → Rps K S H xs ds → Rp K S H (.ref a) (.lst ds)
  | dic {a : Addr} {kvs : List (Key × V)} {ds : List (Key × Dat)} : S.no a → H a = some (.dK kvs) → Rpk K S H kvs ds → Rp K S H (.ref a) (.dic ds)
  | ob {a C dx : Addr} {fs : List (Str × V)} {ds : List (Str × Dat)} : S.no a → H a = some (.ins C dx fs) → Rpf K S H fs ds → Rp K S H (.ref a) (.ob C ds)
  | hd {a : Addr} {o : Obj} {vs : List V} {ds : List Dat} : S.no a → o.dict = none → H a = some (.frz o (.tup vs)) → Rps K S H vs ds → Rp K S H (.ref a) (.hd ds)
  | raw (v : V) : Rp K S H v (.raw v)
inductive Rps (K : PySem.W.Frag) (S : Sc) (H : Hp) : List V → List Dat → Prop
  | nil : Rps K S H [] []
  | cons {v : V} {vs : List V} {d : Dat} {ds : List Dat} : Rp K S H v d → Rps K S H vs ds → Rps K S H (v :: vs) (d :: ds)
inductive Rpk (K : PySem.W.Frag) (S : Sc) (H : Hp) : List (Key × V) → List (Key × Dat) → Prop
  | nil : Rpk K S H [] []
  | cons {k : Key} {v : V} {vs : List (Key × V)} {d : Dat} {ds : List (Key × Dat)} : Rp K S H v d → Rpk K S H vs ds → Rpk K S H ((k, v) :: vs) ((k, d) :: ds)
inductive Rpf (K : PySem.W.Frag) (S : Sc) (H : Hp) : List (Str × V) → List (Str × Dat) → Prop
  | nil : Rpf K S H [] []
  | cons {k : Str} {v : V} {vs : List (Str × V)} {d : Dat} {ds : List (Str × Dat)} : Rp K S H v d → Rpf K S H vs ds → Rpf K S H ((k, v) :: vs) ((k, d) :: ds)
end

/-- what stands outside S stays -/
def Fr (S : Sc) (H H' : Hp) : Prop := ∀ a o, a ∉ S.st → H a = some o → H' a = some o
theorem Fr.refl {S : Sc} {H : Hp} : Fr S H H := fun _ _ _ h => h
theorem Fr.trans {S : Sc} {H H1 H2 : Hp} (a : Fr S H H1) (b : Fr S H1 H2) : Fr S H H2 := fun x o n h => b x o n (a x o n h)
theorem Fr.of_same {S : Sc} {H H' : Hp} (e : Same H H') : Fr S H H' := fun a o _ h => e a o h
theorem Fr.same {S : Sc} {H H' : Hp} (hs : S.st = []) (e : Fr S H H') : Same H H' := fun a o h => e a o (by simp [hs]) h
theorem Fr.new {S : Sc} {H : Hp} {p : Addr} {o : HO} (h : H p = none) : Fr S H (upd H p o) := fun a u _ e => by
  rw [upd_ne (ne_of_none e h)]
  exact e
theorem Fr.put {S : Sc} {H H' : Hp} {p : Addr} {o : HO} (e : Fr S H H') (h : H p = none) : Fr S H (upd H' p o) := fun a u n ha => by
  rw [upd_ne (ne_of_none ha h)]
  exact e a u n ha
theorem Fr.mut {S : Sc} {H H' : Hp} {p : Addr} {o : HO} (e : Fr S H H') (h : p ∈ S.st) : Fr S H (upd H' p o) := fun a u n ha => by
  rw [upd_ne (fun z => n (by rw [z]; exact h))]
  exact e a u n ha
theorem Fr.mono {S T : Sc} {H H' : Hp} (e : Fr S H H') (h : ∀ a ∈ S.st, a ∈ T.st) : Fr T H H' := fun a o n x => e a o (fun z => n (h a z)) x
theorem Fr.to {S T : Sc} {H H' : Hp} (e : Fr S H H') (h : T.st = S.st) : Fr T H H' := e.mono fun a z => by rw [h]; exact z
theorem nohp_t {K : PySem.W.Frag} {H : Hp} {a : Addr} {xs : List V} (h : SqT K NoHp a xs) : SqT K H a xs := by
  rcases h with (h | ⟨o, h⟩) | h
  · cases h
  · cases h
  · exact .inr h
theorem nohp_l {K : PySem.W.Frag} {H : Hp} {a : Addr} {xs : List V} (h : SqL K NoHp a xs) : SqL K H a xs := by
  rcases h with (h | ⟨o, h⟩) | h
  · cases h
  · cases h
  · exact .inr h
theorem Fr.sqT {K : PySem.W.Frag} {S : Sc} {H H' : Hp} {a : Addr} {xs : List V} (e : Fr S H H') (n : S.no a ∨ SqT K NoHp a xs) (h : SqT K H a xs) : SqT K H' a xs := by
  rcases n with n | n
  · rcases h with (h | ⟨o, h⟩) | h
    · exact .inl (.inl (e _ _ n.1 h))
    · exact .inl (.inr ⟨o, e _ _ n.1 h⟩)
    · exact .inr h
  · exact nohp_t n
theorem Fr.sqL {K : PySem.W.Frag} {S : Sc} {H H' : Hp} {a : Addr} {xs : List V} (e : Fr S H H') (n : S.no a ∨ SqL K NoHp a xs) (h : SqL K H a xs) : SqL K H' a xs := by
  rcases n with n | n
  · rcases h with (h | ⟨o, h⟩) | h
    · exact .inl (.inl (e _ _ n.1 h))
    · exact .inl (.inr ⟨o, e _ _ n.1 h⟩)
    · exact .inr h
  · exact nohp_l n
/-- new ahead of an extension -/
theorem Fr.free {S : Sc} {H H' : Hp} {p : Addr} (e : Fr S H H') (n : p ∉ S.st) (h : H' p = none) : H p = none := by
  cases h1 : H p with
  | none => rfl
  | some o =>
    rw [e p o n h1] at h
    cases h

section
variable {K : PySem.W.Frag} {S : Sc} {H H' : Hp}
theorem Rp.mono (e : Fr S H H') {v : V} {d : Dat} (h : Rp K S H v d) : Rp K S H' v d :=
  Rp.rec (motive_1 := fun v d _ => Rp K S H' v d) (motive_2 := fun vs ds _ => Rps K S H' vs ds) (motive_3 := fun vs ds _ => Rpk K S H' vs ds) (motive_4 := fun vs ds _ => Rpf K S H' vs ds)
    .non (fun b => .bl b) (fun i => .int i) (fun x => .str x) (fun n h _ ih => .tup n (e.sqT n h) ih) (fun n h _ ih => .lst n (e.sqL n h) ih)
    (fun n h _ ih => .dic n (e _ _ n.1 h) ih) (fun n h _ ih => .ob n (e _ _ n.1 h) ih) (fun n g h _ ih => .hd n g (e _ _ n.1 h) ih) (fun v => .raw v) .nil (fun _ _ a b => .cons a b) .nil (fun _ _ a b => .cons a b) .nil (fun _ _ a b => .cons a b) h
theorem Rps.mono (e : Fr S H H') : ∀ {vs : List V} {ds : List Dat}, Rps K S H vs ds → Rps K S H' vs ds
  | _, _, .nil => .nil
  | _, _, .cons a b => .cons (a.mono e) (Rps.mono e b)
theorem Rpk.mono (e : Fr S H H') : ∀ {vs : List (Key × V)} {ds : List (Key × Dat)}, Rpk K S H vs ds → Rpk K S H' vs ds
  | _, _, .nil => .nil
  | _, _, .cons a b => .cons (a.mono e) (Rpk.mono e b)
theorem Rpf.mono (e : Fr S H H') : ∀ {vs : List (Str × V)} {ds : List (Str × Dat)}, Rpf K S H vs ds → Rpf K S H' vs ds
  | _, _, .nil => .nil
  | _, _, .cons a b => .cons (a.mono e) (Rpf.mono e b)
theorem Rps.length : ∀ {vs : List V} {ds : List Dat}, Rps K S H vs ds → vs.length = ds.length
  | _, _, .nil => rfl
  | _, _, .cons _ t => by rw [List.length_cons, List.length_cons, Rps.length t]
theorem Rps.get : ∀ {vs : List V} {ds : List Dat} {i : Nat} {d : Dat}, Rps K S H vs ds → ds[i]? = some d → ∃ v, vs[i]? = some v ∧ Rp K S H v d
  | _, _, _, _, .nil, e => by simp at e
  | _, _, 0, _, .cons a _, e => by
    simp at e
    subst e
    exact ⟨_, rfl, a⟩
  | _, _, i + 1, d, .cons _ t, e => by
    obtain ⟨v, h1, h2⟩ := Rps.get (i := i) t (by simpa using e)
    exact ⟨v, by simpa using h1, h2⟩
theorem Rps.get' : ∀ {vs : List V} {ds : List Dat} {i : Nat} {v : V}, Rps K S H vs ds → vs[i]? = some v → ∃ d, ds[i]? = some d ∧ Rp K S H v d
  | _, _, _, _, .nil, e => by simp at e
  | _, _, 0, _, .cons a _, e => by
    simp at e
    subst e
    exact ⟨_, rfl, a⟩
  | _, _, i + 1, d, .cons _ t, e => by
    obtain ⟨v, h1, h2⟩ := Rps.get' (i := i) t (by simpa using e)
    exact ⟨v, by simpa using h1, h2⟩
theorem Rps.append : ∀ {vs ws : List V} {ds es : List Dat}, Rps K S H vs ds → Rps K S H ws es → Rps K S H (vs ++ ws) (ds ++ es)
  | _, _, _, _, .nil, s => s
  | _, _, _, _, .cons a t, s => .cons a (Rps.append t s)
theorem Rps.take : ∀ {vs : List V} {ds : List Dat} (n : Nat), Rps K S H vs ds → Rps K S H (vs.take n) (ds.take n)
  | _, _, 0, _ => .nil
  | _, _, _ + 1, .nil => .nil
  | _, _, n + 1, .cons a t => .cons a (Rps.take n t)
theorem Rps.drop : ∀ {vs : List V} {ds : List Dat} (n : Nat), Rps K S H vs ds → Rps K S H (vs.drop n) (ds.drop n)
  | _, _, 0, h => h
  | _, _, _ + 1, .nil => .nil
  | _, _, n + 1, .cons _ t => Rps.drop n t
theorem Rps.eraseIdx : ∀ {vs : List V} {ds : List Dat} (n : Nat), Rps K S H vs ds → Rps K S H (vs.eraseIdx n) (ds.eraseIdx n)
  | _, _, _, .nil => .nil
  | _, _, 0, .cons _ t => t
  | _, _, n + 1, .cons a t => .cons a (Rps.eraseIdx n t)
theorem Rps.snoc {vs : List V} {ds : List Dat} {v : V} {d : Dat} (h : Rps K S H vs ds) (h2 : Rp K S H v d) : Rps K S H (vs ++ [v]) (ds ++ [d]) := h.append (.cons h2 .nil)
theorem Rps.reverse {vs : List V} {ds : List Dat} (h : Rps K S H vs ds) : Rps K S H vs.reverse ds.reverse := by
  induction vs generalizing ds with
  | nil =>
    cases h
    exact .nil
  | cons v vs ih =>
    cases h with
    | cons a t =>
      rw [List.reverse_cons, List.reverse_cons]
      exact (ih t).snoc a
/-- other places -/
theorem Rp.to {T : Sc} (e : ∀ a o, H a = some o → S.no a → T.no a) {v : V} {d : Dat} (h : Rp K S H v d) : Rp K T H v d :=
  Rp.rec (motive_1 := fun v d _ => Rp K T H v d) (motive_2 := fun vs ds _ => Rps K T H vs ds) (motive_3 := fun vs ds _ => Rpk K T H vs ds) (motive_4 := fun vs ds _ => Rpf K T H vs ds)
    .non (fun b => .bl b) (fun i => .int i) (fun x => .str x)
    (fun n h _ ih => .tup (by
      rcases h with (h | ⟨o, h⟩) | h
      · exact n.imp_left (e _ _ h)
      · exact n.imp_left (e _ _ h)
      · exact .inr (.inr h)) h ih)
    (fun n h _ ih => .lst (by
      rcases h with (h | ⟨o, h⟩) | h
      · exact n.imp_left (e _ _ h)
      · exact n.imp_left (e _ _ h)
      · exact .inr (.inr h)) h ih)
    (fun n h _ ih => .dic (e _ _ h n) h ih) (fun n h _ ih => .ob (e _ _ h n) h ih) (fun n g h _ ih => .hd (e _ _ h n) g h ih) (fun v => .raw v) .nil (fun _ _ a b => .cons a b) .nil (fun _ _ a b => .cons a b) .nil (fun _ _ a b => .cons a b) h
theorem Rps.to {T : Sc} (e : ∀ a o, H a = some o → S.no a → T.no a) : ∀ {vs : List V} {ds : List Dat}, Rps K S H vs ds → Rps K T H vs ds
  | _, _, .nil => .nil
  | _, _, .cons a b => .cons (a.to e) (Rps.to e b)
theorem Rpk.to {T : Sc} (e : ∀ a o, H a = some o → S.no a → T.no a) : ∀ {vs : List (Key × V)} {ds : List (Key × Dat)}, Rpk K S H vs ds → Rpk K T H vs ds
  | _, _, .nil => .nil
  | _, _, .cons a b => .cons (a.to e) (Rpk.to e b)
theorem Rpf.to {T : Sc} (e : ∀ a o, H a = some o → S.no a → T.no a) : ∀ {vs : List (Str × V)} {ds : List (Str × Dat)}, Rpf K S H vs ds → Rpf K T H vs ds
  | _, _, .nil => .nil
  | _, _, .cons a b => .cons (a.to e) (Rpf.to e b)
/-- one place more to be left alone: a new one -/
def Sc.but (S : Sc) (D : Addr) : Sc := { S with ex := D :: S.ex }
/-- the same but for what is left alone -/
structure Sc.Like (S' S : Sc) : Prop where
  st : S'.st = S.st
  rn : S'.rn = S.rn
theorem Sc.Like.but {S : Sc} {D : Addr} : (S.but D).Like S := ⟨rfl, rfl⟩
theorem Sc.no_but {a D : Addr} (h : S.no a) (n : a ≠ D) : (S.but D).no a := ⟨h.1, fun z => (List.mem_cons.mp z).elim n h.2⟩
theorem Rp.but {D : Addr} (hD : H D = none) {v : V} {d : Dat} (h : Rp K S H v d) : Rp K (S.but D) H v d := h.to fun a o ha n => Sc.no_but n (ne_of_none ha hD)
theorem Rps.but {D : Addr} (hD : H D = none) {v : List V} {d : List Dat} (h : Rps K S H v d) : Rps K (S.but D) H v d := h.to fun a o ha n => Sc.no_but n (ne_of_none ha hD)
theorem Rp.unbut {D : Addr} {v : V} {d : Dat} (h : Rp K (S.but D) H v d) : Rp K S H v d := Rp.to (S := S.but D) (T := S) (fun a o ha n => ⟨n.1, fun z => n.2 (List.mem_cons.mpr (.inr z))⟩) h
theorem Rps.unbut {D : Addr} {v : List V} {d : List Dat} (h : Rps K (S.but D) H v d) : Rps K S H v d := Rps.to (S := S.but D) (T := S) (fun a o ha n => ⟨n.1, fun z => n.2 (List.mem_cons.mpr (.inr z))⟩) h
/-- a place that is left alone may be written -/
theorem Rp.at_ex {D : Addr} {o : HO} (hD : D ∈ S.ex) {v : V} {d : Dat} (h : Rp K S H v d) : Rp K S (upd H D o) v d :=
  have up : ∀ a u, S.no a → H a = some u → (upd H D o) a = some u := fun a u n e => by
    rw [upd_ne (fun z => n.2 (by rw [z]; exact hD))]
    exact e
  Rp.rec (motive_1 := fun v d _ => Rp K S (upd H D o) v d) (motive_2 := fun vs ds _ => Rps K S (upd H D o) vs ds) (motive_3 := fun vs ds _ => Rpk K S (upd H D o) vs ds) (motive_4 := fun vs ds _ => Rpf K S (upd H D o) vs ds)
    .non (fun b => .bl b) (fun i => .int i) (fun x => .str x)
    (fun n h _ ih => .tup n (by
      rcases n with n | n
      · rcases h with (h | ⟨o, h⟩) | h
        · exact .inl (.inl (up _ _ n h))
        · exact .inl (.inr ⟨o, up _ _ n h⟩)
        · exact .inr h
      · exact nohp_t n) ih)
    (fun n h _ ih => .lst n (by
      rcases n with n | n
      · rcases h with (h | ⟨o, h⟩) | h
        · exact .inl (.inl (up _ _ n h))
        · exact .inl (.inr ⟨o, up _ _ n h⟩)
        · exact .inr h
      · exact nohp_l n) ih)
    (fun n h _ ih => .dic n (up _ _ n h) ih) (fun n h _ ih => .ob n (up _ _ n h) ih) (fun n g h _ ih => .hd n g (up _ _ n h) ih) (fun v => .raw v) .nil (fun _ _ a b => .cons a b) .nil (fun _ _ a b => .cons a b) .nil (fun _ _ a b => .cons a b) h
theorem Rps.at_ex {D : Addr} {o : HO} (hD : D ∈ S.ex) : ∀ {vs : List V} {ds : List Dat}, Rps K S H vs ds → Rps K S (upd H D o) vs ds
  | _, _, .nil => .nil
  | _, _, .cons a b => .cons (a.at_ex hD) (Rps.at_ex hD b)
end

/-- the places of S hold a draw's state each -/
def stB : Int := 2305843009213693951
structure StOk (S : Sc) (H : Hp) : Prop where
  st : ∀ s ∈ S.rn, ∃ n : Int, H s = some (.lst [.int n]) ∧ 0 ≤ n ∧ n < stB
  ex : ∀ a ∈ S.ex, ∃ o, H a = some o
  al : ∀ a ∈ S.st, ∃ o, H a = some o
  sub : ∀ s ∈ S.rn, s ∈ S.st
theorem StOk.nil {H : Hp} : StOk {} H := ⟨fun s h => by simp at h, fun s h => by simp at h, fun s h => by simp at h, fun s h => by simp at h⟩
theorem StOk.new {S : Sc} {H : Hp} {p : Addr} {o : HO} (k : StOk S H) (h : H p = none) : StOk S (upd H p o) := ⟨fun s hs => by
  obtain ⟨n, e, b⟩ := k.st s hs
  exact ⟨n, by rw [upd_ne (ne_of_none e h)]; exact e, b⟩, fun s hs => by
  obtain ⟨n, e⟩ := k.ex s hs
  exact ⟨n, by rw [upd_ne (ne_of_none e h)]; exact e⟩, fun s hs => by
  obtain ⟨n, e⟩ := k.al s hs
  exact ⟨n, by rw [upd_ne (ne_of_none e h)]; exact e⟩, k.sub⟩
theorem StOk.ne {S : Sc} {H : Hp} {p : Addr} (k : StOk S H) (h : H p = none) : S.no p := by
  refine ⟨fun hs => ?_, fun hs => ?_⟩
  · obtain ⟨n, e⟩ := k.al p hs
    rw [h] at e
    cases e
  · obtain ⟨n, e⟩ := k.ex p hs
    rw [h] at e
    cases e
/-- what is no state may be written -/
theorem StOk.put {S : Sc} {H : Hp} {p : Addr} {o : HO} (k : StOk S H) (h : p ∉ S.rn) : StOk S (upd H p o) := ⟨fun s hs => by
  obtain ⟨n, e, b⟩ := k.st s hs
  exact ⟨n, by rw [upd_ne (fun z => h (by rw [← z]; exact hs))]; exact e, b⟩, fun s hs => by
  by_cases c : s = p
  · subst c
    exact ⟨o, upd_same⟩
  · obtain ⟨n, e⟩ := k.ex s hs
    exact ⟨n, by rw [upd_ne c]; exact e⟩, fun s hs => by
  by_cases c : s = p
  · subst c
    exact ⟨o, upd_same⟩
  · obtain ⟨n, e⟩ := k.al s hs
    exact ⟨n, by rw [upd_ne c]; exact e⟩, k.sub⟩
theorem StOk.but {S : Sc} {H : Hp} {p : Addr} {o : HO} (k : StOk S H) (h : H p = none) : StOk (S.but p) (upd H p o) := ⟨(k.new h).st, fun s hs => by
  rcases List.mem_cons.mp hs with rfl | hs
  · exact ⟨o, upd_same⟩
  · exact (k.new h).ex s hs, (k.new h).al, k.sub⟩
theorem StOk.unbut {S : Sc} {H : Hp} {p : Addr} (k : StOk (S.but p) H) : StOk S H := ⟨k.st, fun a h => k.ex a (List.mem_cons_of_mem _ h), k.al, k.sub⟩

abbrev Rho := List (Option Dat)
structure EnvR (K : PySem.W.Frag) (S : Sc) (H : Hp) (σ : L2.St) (ρ : Rho) : Prop where
  len : σ.length = ρ.length
  get : ∀ (i : Nat) (d : Dat), ρ[i]? = some (some d) → ∃ v, σ[i]? = some (some v) ∧ Rp K S H v d
section
variable {K : PySem.W.Frag} {S : Sc} {H H' : Hp} {σ : L2.St} {ρ : Rho}
theorem EnvR.mono (e : Fr S H H') (h : EnvR K S H σ ρ) : EnvR K S H' σ ρ := ⟨h.len, fun i d x => by
  obtain ⟨v, a, b⟩ := h.get i d x
  exact ⟨v, a, b.mono e⟩⟩
theorem EnvR.set {i : Nat} {v : V} {d : Dat} (h : EnvR K S H σ ρ) (r : Rp K S H v d) : EnvR K S H (σ.set i (some v)) (ρ.set i (some d)) := by
  refine ⟨by rw [List.length_set, List.length_set, h.len], fun j x e => ?_⟩
  by_cases c : i = j
  · subst c
    by_cases l : i < ρ.length
    · rw [List.getElem?_set_self l] at e
      cases e
      exact ⟨v, List.getElem?_set_self (by rw [h.len]; exact l), r⟩
    · rw [List.getElem?_eq_none (by rw [List.length_set]; omega)] at e
      cases e
  · rw [List.getElem?_set_ne c] at e
    obtain ⟨w, a, b⟩ := h.get j x e
    exact ⟨w, by rw [List.getElem?_set_ne c]; exact a, b⟩
theorem EnvR.wipe (h : EnvR K S H σ ρ) : ∀ vs : List Nat, EnvR K S H (L2.wipe σ vs) (vs.foldr (fun i r => r.set i none) ρ)
  | [] => h
  | i :: vs => by
    have ih := EnvR.wipe h vs
    refine ⟨?_, fun j x e => ?_⟩
    · show ((L2.wipe σ vs).set i none).length = ((vs.foldr (fun i r => r.set i none) ρ).set i none).length
      rw [List.length_set, List.length_set]
      exact ih.len
    · have e : ((vs.foldr (fun i r => r.set i none) ρ).set i none)[j]? = some (some x) := e
      show ∃ v, ((L2.wipe σ vs).set i none)[j]? = some (some v) ∧ _
      by_cases c : i = j
      · subst c
        by_cases l : i < (vs.foldr (fun i r => r.set i none) ρ).length
        · rw [List.getElem?_set_self l] at e
          cases e
        · rw [List.getElem?_eq_none (by rw [List.length_set]; omega)] at e
          cases e
      · rw [List.getElem?_set_ne c] at e
        rw [List.getElem?_set_ne c]
        exact ih.get j x e
theorem EnvR.but {D : Addr} (h : EnvR K S H σ ρ) (hD : H D = none) : EnvR K (S.but D) H σ ρ := ⟨h.len, fun i d x => by
  obtain ⟨v, a, b⟩ := h.get i d x
  exact ⟨v, a, b.but hD⟩⟩
theorem EnvR.weak {ρ' : Rho} (h : EnvR K S H σ ρ) (hl : ρ'.length = ρ.length) (w : ∀ (i : Nat) (d : Dat), ρ'[i]? = some (some d) → ρ[i]? = some (some d)) : EnvR K S H σ ρ' :=
  ⟨by rw [hl]; exact h.len, fun i d e => h.get i d (w i d e)⟩
end

/-! ### readings -/
def Ev (K : PySem.W.Frag) (S : Sc) (t : TE) (ρ : Rho) (P : Dat → Prop) : Prop :=
  ∀ σ H, EnvR K S H σ ρ → StOk S H → ∀ Q : VK, (∀ v H' d, Fr S H H' → StOk S H' → P d → Rp K S H' v d → Q v H') → t σ H Q
def EvT (K : PySem.W.Frag) (S : Sc) (t : TT) (ρ : Rho) (P : Bool → Prop) : Prop :=
  ∀ σ H, EnvR K S H σ ρ → StOk S H → ∀ Q : Bool → Hp → Prop, (∀ b H', Fr S H H' → StOk S H' → P b → Q b H') → t σ H Q
def EvA (K : PySem.W.Frag) (S : Sc) (t : TA) (ρ : Rho) (P : List Dat → Prop) : Prop :=
  ∀ σ H, EnvR K S H σ ρ → StOk S H → ∀ Q : List V → Hp → Prop, (∀ vs H' ds, Fr S H H' → StOk S H' → P ds → Rps K S H' vs ds → Q vs H') → t σ H Q
def EvO (K : PySem.W.Frag) (S : Sc) (t : TO) (ρ : Rho) (o : Option Int) : Prop :=
  ∀ σ H, EnvR K S H σ ρ → StOk S H → ∀ Q : Option Int → Hp → Prop, (∀ H', Fr S H H' → StOk S H' → Q o H') → t σ H Q
/-- an operation on values, by data -/
def RV (K : PySem.W.Frag) (S : Sc) (r : R2) (x y : Dat) (P : Dat → Prop) : Prop :=
  ∀ v u H, Rp K S H v x → Rp K S H u y → StOk S H → ∀ Q : VK, (∀ z H' d, Fr S H H' → StOk S H' → P d → Rp K S H' z d → Q z H') → r v u H Q
def RC (K : PySem.W.Frag) (S : Sc) (r : List V → Hp → VK → Prop) (xs : List Dat) (P : Dat → Prop) : Prop :=
  ∀ vs H, Rps K S H vs xs → StOk S H → ∀ Q : VK, (∀ z H' d, Fr S H H' → StOk S H' → P d → Rp K S H' z d → Q z H') → r vs H Q
def RM (K : PySem.W.Frag) (S : Sc) (T : String) (r : V → List V → Hp → VK → Prop) (x : Dat) (xs : List Dat) (P : Dat → Prop) : Prop :=
  ∀ v vs H, Rp K S H v x → Rps K S H vs xs → StOk S H → tyV K T v H ∧ ∀ Q : VK, (∀ z H' d, Fr S H H' → StOk S H' → P d → Rp K S H' z d → Q z H') → r v vs H Q

section
variable {K : PySem.W.Frag} {S : Sc} {ρ : Rho} {ta tb te : TE} {t u : TT} {P P' : Dat → Prop} {x y z d : Dat} {r : R2}
theorem Ev.imp (h : Ev K S te ρ P) (i : ∀ d, P d → P' d) : Ev K S te ρ P' := fun σ H e s Q q => h σ H e s Q fun v H' d f s' p r => q v H' d f s' (i d p) r
theorem Ev.is (h : Ev K S te ρ (Eq x)) (e : x = y) : Ev K S te ρ (Eq y) := e ▸ h
theorem EvT.imp {R R' : Bool → Prop} (h : EvT K S t ρ R) (i : ∀ d, R d → R' d) : EvT K S t ρ R' := fun σ H e s Q q => h σ H e s Q fun v H' f s' p => q v H' f s' (i v p)
theorem EvT.is {a b : Bool} (h : EvT K S t ρ (Eq a)) (e : a = b) : EvT K S t ρ (Eq b) := e ▸ h
theorem ev_var {i : Nat} (h : ρ[i]? = some (some d)) : Ev K S (tVar i) ρ (Eq d) := fun σ H e s Q q => by
  obtain ⟨v, a, b⟩ := e.get i d h
  exact ⟨v, a, q v H d .refl s rfl b⟩
theorem ev_c {v : V} (h : ∀ H, Rp K S H v d) : Ev K S (tC v) ρ (Eq d) := fun σ H e s Q q => q v H d .refl s rfl (h H)
theorem ev_int {i : Int} : Ev K S (tC (.int i)) ρ (Eq (.int i)) := ev_c fun _ => .int i
theorem ev_str {i : Str} : Ev K S (tC (.str i)) ρ (Eq (.str i)) := ev_c fun _ => .str i
theorem ev_bl {i : Bool} : Ev K S (tC (.bl i)) ρ (Eq (.bl i)) := ev_c fun _ => .bl i
theorem ev_non : Ev K S (tC .non) ρ (Eq .non) := ev_c fun _ => .non
theorem ev_raw {v : V} : Ev K S (tC v) ρ (Eq (.raw v)) := ev_c fun _ => .raw v
theorem ev_op {P1 : Dat → Prop} {P2 : Dat → Dat → Prop} (ha : Ev K S ta ρ P1) (hb : ∀ x, P1 x → Ev K S tb ρ (P2 x)) (hr : ∀ x y, P1 x → P2 x y → RV K S r x y P) : Ev K S (tOp r ta tb) ρ P := fun σ H e s Q q =>
  ha σ H e s _ fun v H1 x f1 s1 p1 r1 => hb x p1 σ H1 (e.mono f1) s1 _ fun w H2 y f2 s2 p2 r2 =>
    hr x y p1 p2 v w H2 (r1.mono f2) r2 s2 Q fun z H3 d f3 s3 p3 r3 => q z H3 d ((f1.trans f2).trans f3) s3 p3 r3
theorem ev_opD (ha : Ev K S ta ρ (Eq x)) (hb : Ev K S tb ρ (Eq y)) (hr : RV K S r x y P) : Ev K S (tOp r ta tb) ρ P :=
  ev_op (P2 := fun _ => Eq y) ha (fun _ _ => hb) fun _ _ e1 e2 => by
    subst e1
    subst e2
    exact hr
/-- a value that the heap has already -/
theorem rv_val {r : R2} {x y z : Dat} (h : ∀ v u H, Rp K S H v x → Rp K S H u y → StOk S H → ∀ Q : VK, (∀ w, Rp K S H w z → Q w H) → r v u H Q) : RV K S r x y (Eq z) := fun v u H a b s Q q =>
  h v u H a b s Q fun w hw => q w H z .refl s rfl hw
theorem rv_I0 {g : Int → Int → V} {i j : Int} (hz : ∀ H, Rp K S H (g i j) z) : RV K S (rI0 g) (.int i) (.int j) (Eq z) := rv_val fun v u H a b s Q q => by
  cases a
  cases b
  exact ⟨i, j, rfl, rfl, q _ (hz H)⟩
theorem rv_I {C : Int → Int → Prop} {g : Int → Int → V} {i j : Int} (c : C i j) (hz : ∀ H, Rp K S H (g i j) z) : RV K S (rI C g) (.int i) (.int j) (Eq z) := rv_val fun v u H a b s Q q => by
  cases a
  cases b
  exact ⟨i, j, rfl, rfl, c, q _ (hz H)⟩
/-! tests -/
theorem et_test {R : Bool → Prop} (h : Ev K S te ρ (fun d => ∃ b, d = .bl b ∧ R b)) : EvT K S (tTest te) ρ R := fun σ H e s Q q => h σ H e s _ fun v H' d f s' p r => by
  obtain ⟨b, rfl, hb⟩ := p
  cases r
  exact ⟨b, rfl, q b H' f s' hb⟩
theorem et_testD {b : Bool} (h : Ev K S te ρ (Eq (.bl b))) : EvT K S (tTest te) ρ (Eq b) := et_test (h.imp fun _ e => ⟨b, e.symm, rfl⟩)
theorem et_B {R : Bool → Prop} (h : Ev K S te ρ (fun d => ∃ b, d = .bl b ∧ R b)) : EvT K S (tB te) ρ R := fun σ H e s Q q => h σ H e s _ fun v H' d f s' p r => by
  obtain ⟨b, rfl, hb⟩ := p
  cases r
  exact ⟨b, rfl, q b H' f s' hb⟩
theorem et_BD {b : Bool} (h : Ev K S te ρ (Eq (.bl b))) : EvT K S (tB te) ρ (Eq b) := et_B (h.imp fun _ e => ⟨b, e.symm, rfl⟩)
theorem et_and {a b : Bool} (h1 : EvT K S t ρ (Eq a)) (h2 : a = true → EvT K S u ρ (Eq b)) : EvT K S (tAnd t u) ρ (Eq (a && b)) := fun σ H e s Q q => h1 σ H e s _ fun c H1 f1 s1 hc => by
  subst hc
  cases a with
  | true =>
    show u σ H1 Q
    exact h2 rfl σ H1 (e.mono f1) s1 Q fun c H2 f2 s2 hc => q c H2 (f1.trans f2) s2 hc
  | false =>
    show Q false H1
    exact q false H1 f1 s1 rfl
theorem et_or {a b : Bool} (h1 : EvT K S t ρ (Eq a)) (h2 : a = false → EvT K S u ρ (Eq b)) : EvT K S (tOr t u) ρ (Eq (a || b)) := fun σ H e s Q q => h1 σ H e s _ fun c H1 f1 s1 hc => by
  subst hc
  cases a with
  | true =>
    show Q true H1
    exact q true H1 f1 s1 rfl
  | false =>
    show u σ H1 Q
    exact h2 rfl σ H1 (e.mono f1) s1 Q fun c H2 f2 s2 hc => q c H2 (f1.trans f2) s2 hc
theorem et_not {a : Bool} (h1 : EvT K S t ρ (Eq a)) : EvT K S (tNot t) ρ (Eq (!a)) := fun σ H e s Q q => h1 σ H e s _ fun c H1 f1 s1 hc => by
  subst hc
  exact q _ H1 f1 s1 rfl
theorem ev_andV {a b : Bool} (h1 : Ev K S ta ρ (Eq (.bl a))) (h2 : a = true → Ev K S tb ρ (Eq (.bl b))) : Ev K S (tAndV ta tb) ρ (Eq (.bl (a && b))) := fun σ H e s Q q => h1 σ H e s _ fun v H1 d f1 s1 hd r => by
  subst hd
  cases r
  refine ⟨a, rfl, ?_⟩
  cases a with
  | true =>
    show tb σ H1 Q
    exact h2 rfl σ H1 (e.mono f1) s1 Q fun c H2 d f2 s2 hc r => q c H2 d (f1.trans f2) s2 hc r
  | false =>
    show Q (.bl false) H1
    exact q _ H1 _ f1 s1 rfl (.bl _)
theorem ev_orV {a b : Bool} (h1 : Ev K S ta ρ (Eq (.bl a))) (h2 : a = false → Ev K S tb ρ (Eq (.bl b))) : Ev K S (tOrV ta tb) ρ (Eq (.bl (a || b))) := fun σ H e s Q q => h1 σ H e s _ fun v H1 d f1 s1 hd r => by
  subst hd
  cases r
  refine ⟨a, rfl, ?_⟩
  cases a with
  | true =>
    show Q (.bl true) H1
    exact q _ H1 _ f1 s1 rfl (.bl _)
  | false =>
    show tb σ H1 Q
    exact h2 rfl σ H1 (e.mono f1) s1 Q fun c H2 d f2 s2 hc r => q c H2 d (f1.trans f2) s2 hc r
theorem ev_notV {a : Bool} (h1 : Ev K S ta ρ (Eq (.bl a))) : Ev K S (tNotV ta) ρ (Eq (.bl (!a))) := fun σ H e s Q q => h1 σ H e s _ fun v H1 d f1 s1 hd r => by
  subst hd
  cases r
  exact ⟨a, rfl, q _ H1 _ f1 s1 rfl (.bl _)⟩
theorem ev_if {b : Bool} (h : EvT K S t ρ (Eq b)) (h1 : b = true → Ev K S ta ρ P) (h2 : b = false → Ev K S tb ρ P) : Ev K S (tIf t ta tb) ρ P := fun σ H e s Q q => h σ H e s _ fun c H1 f1 s1 hc => by
  subst hc
  cases b with
  | true =>
    show ta σ H1 Q
    exact h1 rfl σ H1 (e.mono f1) s1 Q fun c H2 d f2 s2 hc r => q c H2 d (f1.trans f2) s2 hc r
  | false =>
    show tb σ H1 Q
    exact h2 rfl σ H1 (e.mono f1) s1 Q fun c H2 d f2 s2 hc r => q c H2 d (f1.trans f2) s2 hc r
/-- a op1 b op2 c -/
theorem ev_chain {r r' : R2} {tc : TE} {a b : Bool} (ha : Ev K S ta ρ (Eq x)) (hb : Ev K S tb ρ (Eq y)) (hc : a = true → Ev K S tc ρ (Eq z)) (h1 : RV K S r x y (Eq (.bl a))) (h2 : a = true → RV K S r' y z (Eq (.bl b))) :
    Ev K S (tChain r r' ta tb tc) ρ (Eq (.bl (a && b))) := fun σ H e s Q q =>
  ha σ H e s _ fun v H1 dx f1 s1 e1 r1 => hb σ H1 (e.mono f1) s1 _ fun w H2 dy f2 s2 e2 r2 => by
    subst e1
    subst e2
    refine h1 v w H2 (r1.mono f2) r2 s2 _ fun k H3 dk f3 s3 e3 r3 => ?_
    subst e3
    cases r3
    refine ⟨a, rfl, ?_⟩
    cases a with
    | true =>
      show tc σ H3 _
      refine hc rfl σ H3 (e.mono ((f1.trans f2).trans f3)) s3 _ fun w' H4 dz f4 s4 e4 r4 => ?_
      subst e4
      exact h2 rfl w w' H4 ((r2.mono f3).mono f4) r4 s4 Q fun c H5 d f5 s5 hc r => q c H5 d ((((f1.trans f2).trans f3).trans f4).trans f5) s5 hc r
    | false =>
      show Q (.bl false) H3
      exact q _ H3 _ ((f1.trans f2).trans f3) s3 rfl (.bl _)
/-! argument lists, displays -/
theorem ea_nil : EvA K S tNil ρ (Eq []) := fun σ H e s Q q => q [] H [] .refl s rfl .nil
theorem ea_cons {tr : TA} {P1 : Dat → Prop} {P2 : Dat → List Dat → Prop} {R : List Dat → Prop} (ha : Ev K S ta ρ P1) (hr : ∀ x, P1 x → EvA K S tr ρ (P2 x)) (hc : ∀ x ys, P1 x → P2 x ys → R (x :: ys)) : EvA K S (tCons ta tr) ρ R := fun σ H e s Q q =>
  ha σ H e s _ fun v H1 x f1 s1 p1 r1 => hr x p1 σ H1 (e.mono f1) s1 _ fun vs H2 ys f2 s2 p2 r2 => q (v :: vs) H2 (x :: ys) (f1.trans f2) s2 (hc x ys p1 p2) (.cons (r1.mono f2) r2)
theorem ea_consD {tr : TA} {ds : List Dat} (ha : Ev K S ta ρ (Eq x)) (hr : EvA K S tr ρ (Eq ds)) : EvA K S (tCons ta tr) ρ (Eq (x :: ds)) :=
  ea_cons (P2 := fun _ => Eq ds) ha (fun _ _ => hr) fun _ _ a b => by rw [a, b]
theorem ev_tup {tr : TA} {R : List Dat → Prop} (h : EvA K S tr ρ R) (hl : ∀ ds, R ds → ds.length ≤ sizeLine) : Ev K S (tTup tr) ρ (fun d => ∃ ds, d = .tup ds ∧ R ds) := fun σ H e s Q q =>
  h σ H e s _ fun vs H1 ds f1 s1 p1 r1 => ⟨by rw [r1.length]; exact hl ds p1, fun p hp => q (.ref p) _ (.tup ds) (f1.trans (.new hp)) (s1.new hp) ⟨ds, rfl, p1⟩ (.tup (.inl (s1.ne hp)) (SqT.of upd_same) (r1.mono (.new hp)))⟩
theorem ev_tupD {tr : TA} {ds : List Dat} (h : EvA K S tr ρ (Eq ds)) (hl : ds.length ≤ sizeLine) : Ev K S (tTup tr) ρ (Eq (.tup ds)) := (ev_tup h fun _ e => e ▸ hl).imp fun _ ⟨_, a, b⟩ => by rw [a, b]
theorem ev_lst {tr : TA} {R : List Dat → Prop} (h : EvA K S tr ρ R) (hl : ∀ ds, R ds → ds.length ≤ sizeLine) : Ev K S (tLst tr) ρ (fun d => ∃ ds, d = .lst ds ∧ R ds) := fun σ H e s Q q =>
  h σ H e s _ fun vs H1 ds f1 s1 p1 r1 => ⟨by rw [r1.length]; exact hl ds p1, fun p hp => q (.ref p) _ (.lst ds) (f1.trans (.new hp)) (s1.new hp) ⟨ds, rfl, p1⟩ (.lst (.inl (s1.ne hp)) (SqL.of upd_same) (r1.mono (.new hp)))⟩
theorem ev_lstD {tr : TA} {ds : List Dat} (h : EvA K S tr ρ (Eq ds)) (hl : ds.length ≤ sizeLine) : Ev K S (tLst tr) ρ (Eq (.lst ds)) := (ev_lst h fun _ e => e ▸ hl).imp fun _ ⟨_, a, b⟩ => by rw [a, b]
theorem eo_none : EvO K S tNoPart ρ none := fun σ H e s Q q => q H .refl s
theorem eo_some {i : Int} (h : Ev K S te ρ (Eq (.int i))) : EvO K S (tPart te) ρ (some i) := fun σ H e s Q q => h σ H e s _ fun v H1 d f1 s1 p1 r1 => by
  subst p1
  cases r1
  exact ⟨i, rfl, q H1 f1 s1⟩
theorem ev_cb {rr : List V → Hp → VK → Prop} {tr : TA} {R : List Dat → Prop} (h : EvA K S tr ρ R) (hr : ∀ ds, R ds → RC K S rr ds P) : Ev K S (tCB rr tr) ρ P := fun σ H e s Q q =>
  h σ H e s _ fun vs H1 ds f1 s1 p1 r1 => hr ds p1 vs H1 r1 s1 Q fun z H2 d f2 s2 p2 r2 => q z H2 d (f1.trans f2) s2 p2 r2
theorem ev_cbD {rr : List V → Hp → VK → Prop} {tr : TA} {ds : List Dat} (h : EvA K S tr ρ (Eq ds)) (hr : RC K S rr ds P) : Ev K S (tCB rr tr) ρ P := ev_cb h fun _ e => e ▸ hr
theorem ev_bm0 {T : String} {rr : V → List V → Hp → VK → Prop} (h : Ev K S ta ρ (Eq x)) (hr : RM K S T rr x [] P) : Ev K S (tBM0 K T rr ta) ρ P := fun σ H e s Q q =>
  h σ H e s _ fun v H1 d f1 s1 p1 r1 => by
    subst p1
    obtain ⟨h1, h2⟩ := hr v [] H1 r1 .nil s1
    exact ⟨h1, h2 Q fun z H2 d f2 s2 p2 r2 => q z H2 d (f1.trans f2) s2 p2 r2⟩
theorem ev_bm {T : String} {rr : V → List V → Hp → VK → Prop} {tr : TA} {ds : List Dat} (ht : ∀ v H, Rp K S H v x → tyV K T v H) (h : Ev K S ta ρ (Eq x)) (h2 : EvA K S tr ρ (Eq ds)) (hr : RM K S T rr x ds P) : Ev K S (tBM K T rr ta tr) ρ P := fun σ H e s Q q =>
  h σ H e s _ fun v H1 d f1 s1 p1 r1 => by
    subst p1
    refine ⟨ht v H1 r1, h2 σ H1 (e.mono f1) s1 _ fun vs H2 ds f2 s2 p2 r2 => ?_⟩
    subst p2
    exact (hr v vs H2 (r1.mono f2) r2 s2).2 Q fun z H3 d f3 s3 p3 r3 => q z H3 d ((f1.trans f2).trans f3) s3 p3 r3
end

/-! ### promises by data -/
/-- where the arguments' data are pre, the answer's are post -/
def SpD (K : PySem.W.Frag) (pre : Sc → List Dat → Prop) (post : List Dat → Dat → Prop) : Sp := fun vs H Q _ => ∃ S ds, Rps K S H vs ds ∧ StOk S H ∧ pre S ds ∧
  ∀ v H' d, Fr S H H' → StOk S H' → post ds d → Rp K S H' v d → Q v H'
section
variable {K : PySem.W.Frag} {S : Sc} {ρ : Rho} {ta : TE} {P : Dat → Prop} {x : Dat}
theorem ev_call {pre : Sc → List Dat → Prop} {post : List Dat → Dat → Prop} {tr : TA} {E : XK} {R : List Dat → Prop} (h : EvA K S tr ρ R) (h1 : ∀ ds, R ds → pre S ds) (h2 : ∀ ds d, R ds → post ds d → P d) : Ev K S (tCall (SpD K pre post) [] E tr) ρ P := fun σ H e s Q q =>
  h σ H e s _ fun vs H1 ds f1 s1 p1 r1 => ⟨S, ds, by rw [List.append_nil]; exact r1, s1, h1 ds p1, fun v H2 d f2 s2 p2 r2 => q v H2 d (f1.trans f2) s2 (h2 ds d p1 p2) r2⟩
theorem ev_callD {pre : Sc → List Dat → Prop} {post : List Dat → Dat → Prop} {tr : TA} {E : XK} {ds : List Dat} (h : EvA K S tr ρ (Eq ds)) (h1 : pre S ds) (h2 : ∀ d, post ds d → P d) : Ev K S (tCall (SpD K pre post) [] E tr) ρ P :=
  ev_call h (fun _ e => e ▸ h1) fun _ d e p => h2 d (e ▸ p)
/-- o.m(..), self's data an object's -/
theorem ev_meth {C : Addr} {m : Str} {pre : Sc → List Dat → Prop} {post : List Dat → Dat → Prop} {tr : TA} {E : XK} {ds : List Dat} {fs : List (Str × Dat)} (hn : fs.lookup m = none) (ho : Ev K S ta ρ (Eq (.ob C fs))) (h : EvA K S tr ρ (Eq ds)) (h1 : pre S (.ob C fs :: ds)) (h2 : ∀ d, post (.ob C fs :: ds) d → P d) :
    Ev K S (tMeth C m (SpD K pre post) [] E ta tr) ρ P := fun σ H e s Q q =>
  ho σ H e s _ fun v H1 d f1 s1 p1 r1 => by
    subst p1
    cases r1 with
    | @ob a _ dx gs _ na ha hf =>
      have hl : ∀ {gs : List (Str × V)} {fs : List (Str × Dat)}, Rpf K S H1 gs fs → fs.lookup m = none → gs.lookup m = none := by
        intro gs
        induction gs with
        | nil => exact fun _ _ => rfl
        | cons p gs ih =>
          intro fs hh hk
          cases hh with
          | @cons k v _ dd ds' hv ht =>
            rw [List.lookup_cons] at hk ⊢
            cases hm : m == k with
            | true =>
              rw [hm] at hk
              cases hk
            | false =>
              rw [hm] at hk
              exact ih ht hk
      refine ⟨a, dx, gs, rfl, ha, hl hf hn, h σ H1 (e.mono f1) s1 _ fun vs H2 ds f2 s2 p2 r2 => ?_⟩
      subst p2
      exact ⟨S, _, .cons (.ob na (f2 _ _ na.1 ha) (hf.mono f2)) (by rw [List.append_nil]; exact r2), s2, h1, fun v H3 d f3 s3 p3 r3 => q v H3 d ((f1.trans f2).trans f3) s3 (h2 d p3) r3⟩
/-- e.f of an object -/
theorem Rpf.look {H : Hp} {m : Str} {d : Dat} : ∀ {gs : List (Str × V)} {fs : List (Str × Dat)}, Rpf K S H gs fs → fs.lookup m = some d → ∃ v, gs.lookup m = some v ∧ Rp K S H v d
  | _, _, .nil, h => by cases h
  | _, _, .cons (k := k) hv ht, h => by
    rw [List.lookup_cons] at h
    rw [List.lookup_cons]
    cases hm : m == k with
    | true =>
      rw [hm] at h
      cases h
      exact ⟨_, rfl, hv⟩
    | false =>
      rw [hm] at h
      exact Rpf.look ht h
theorem ev_fld {C : Addr} {f : Str} {fs : List (Str × Dat)} (c : Cls K C) (n : NoAttr K C f) (h : Ev K S ta ρ (Eq (.ob C fs))) (hl : fs.lookup f = some x) : Ev K S (tFld K ta f) ρ (Eq x) := fun σ H e s Q q =>
  h σ H e s _ fun v H1 d f1 s1 p1 r1 => by
    subst p1
    cases r1 with
    | @ob a _ dx gs _ na ha hf =>
      obtain ⟨v, h1, h2⟩ := hf.look hl
      exact ⟨a, C, dx, gs, v, rfl, ha, c, n, h1, q v H1 x f1 s1 rfl h2⟩
end

/-! ### statements -/
structure Out where
  nx : Rho → Prop := fun _ => False
  rt : Dat → Prop := fun _ => False
  bk : Rho → Prop := fun _ => False
  ct : Rho → Prop := fun _ => False
def SEv (K : PySem.W.Frag) (S : Sc) (t : TS) (ρ : Rho) (O : Out) : Prop :=
  ∀ σ H, EnvR K S H σ ρ → StOk S H → ∀ D : Ends, (∀ σ' H' ρ', Fr S H H' → StOk S H' → EnvR K S H' σ' ρ' → O.nx ρ' → D.nx σ' H') → (∀ v H' d, Fr S H H' → StOk S H' → O.rt d → Rp K S H' v d → D.rt v H') →
    (∀ σ' H' ρ', Fr S H H' → StOk S H' → EnvR K S H' σ' ρ' → O.bk ρ' → D.bk σ' H') → (∀ σ' H' ρ', Fr S H H' → StOk S H' → EnvR K S H' σ' ρ' → O.ct ρ' → D.ct σ' H') → t D σ H
section
variable {K : PySem.W.Frag} {S : Sc} {ρ : Rho} {t u : TS} {te : TE} {tt : TT} {O : Out} {x : Dat}
theorem s_seq (h : SEv K S t ρ { O with nx := fun ρ' => SEv K S u ρ' O }) : SEv K S (tSeq t u) ρ O := fun σ H e s D n r b c =>
  h σ H e s { D with nx := u D } (fun σ' H' ρ' f s' e' k => k σ' H' e' s' D (fun σ2 H2 ρ2 f2 s2 e2 k2 => n σ2 H2 ρ2 (f.trans f2) s2 e2 k2) (fun v H2 d f2 s2 k2 r2 => r v H2 d (f.trans f2) s2 k2 r2)
    (fun σ2 H2 ρ2 f2 s2 e2 k2 => b σ2 H2 ρ2 (f.trans f2) s2 e2 k2) (fun σ2 H2 ρ2 f2 s2 e2 k2 => c σ2 H2 ρ2 (f.trans f2) s2 e2 k2)) r b c
theorem s_next (h : O.nx ρ) : SEv K S tNext ρ O := fun σ H e s D n r b c => n σ H ρ .refl s e h
theorem s_set {i : Nat} {P : Dat → Prop} (h : Ev K S te ρ P) (k : ∀ d, P d → O.nx (ρ.set i (some d))) : SEv K S (tAsg te (gName i)) ρ O := fun σ H e s D n r b c =>
  h σ H e s _ fun v H1 d f1 s1 p1 r1 => n _ H1 _ f1 s1 ((e.mono f1).set r1) (k d p1)
theorem s_setD {i : Nat} (h : Ev K S te ρ (Eq x)) (k : O.nx (ρ.set i (some x))) : SEv K S (tAsg te (gName i)) ρ O := s_set h fun _ e => e ▸ k
theorem s_ret {P : Dat → Prop} (h : Ev K S te ρ P) (k : ∀ d, P d → O.rt d) : SEv K S (tRet te) ρ O := fun σ H e s D n r b c =>
  h σ H e s _ fun v H1 d f1 s1 p1 r1 => r v H1 d f1 s1 (k d p1) r1
theorem s_retD (h : Ev K S te ρ (Eq x)) (k : O.rt x) : SEv K S (tRet te) ρ O := s_ret h fun _ e => e ▸ k
theorem s_drop {P : Dat → Prop} (h : Ev K S te ρ P) (k : O.nx ρ) : SEv K S (tDrop te) ρ O := fun σ H e s D n r b c =>
  h σ H e s _ fun v H1 d f1 s1 p1 r1 => n σ H1 ρ f1 s1 (e.mono f1) k
theorem s_if {R : Bool → Prop} (h : EvT K S tt ρ R) (h1 : R true → SEv K S t ρ O) (h2 : R false → SEv K S u ρ O) : SEv K S (tIfS tt t u) ρ O := fun σ H e s D n r b c =>
  h σ H e s _ fun k H1 f1 s1 hk => by
    have go : ∀ {w : TS}, SEv K S w ρ O → w D σ H1 := fun hw => hw σ H1 (e.mono f1) s1 D (fun σ2 H2 ρ2 f2 s2 e2 k2 => n σ2 H2 ρ2 (f1.trans f2) s2 e2 k2) (fun v H2 d f2 s2 k2 r2 => r v H2 d (f1.trans f2) s2 k2 r2)
      (fun σ2 H2 ρ2 f2 s2 e2 k2 => b σ2 H2 ρ2 (f1.trans f2) s2 e2 k2) (fun σ2 H2 ρ2 f2 s2 e2 k2 => c σ2 H2 ρ2 (f1.trans f2) s2 e2 k2)
    cases k with
    | true =>
      show t D σ H1
      exact go (h1 hk)
    | false =>
      show u D σ H1
      exact go (h2 hk)
theorem s_no {b : Bool} (h : EvT K S tt ρ (Eq b)) (hb : b = false) (k : SEv K S u ρ O) : SEv K S (tIfS tt t u) ρ O := s_if h (fun e => by rw [hb] at e; cases e) fun _ => k
theorem s_yes {b : Bool} (h : EvT K S tt ρ (Eq b)) (hb : b = true) (k : SEv K S t ρ O) : SEv K S (tIfS tt t u) ρ O := s_if h (fun _ => k) (fun e => by rw [hb] at e; cases e)
/-- from a body by data to a promise -/
theorem sp_of {N : List Str} {vs : List V} {pre : Sc → List Dat → Prop} {post : List Dat → Dat → Prop} {H : Hp} {Q : VK} {E : XK} (h : SpD K pre post vs H Q E) (hl : vs.length ≤ N.length)
    (k : ∀ (S : Sc) (ds : List Dat), pre S ds → ds.length = vs.length → SEv K S t (ds.map some ++ List.replicate (N.length - ds.length) none) { nx := fun _ => post ds .non, rt := post ds }) : t { nx := fun _ H' => Q .non H', rt := Q } (start N vs) H := by
  obtain ⟨S, ds, r, s, p, q⟩ := h
  have hlen := r.length
  refine k S ds p hlen.symm (start N vs) H ⟨?_, ?_⟩ s _ (fun _ H' _ f s' _ n => q _ H' _ f s' n .non) (fun v H' d f s' n r' => q v H' d f s' n r') (fun _ _ _ _ _ _ n => n.elim) (fun _ _ _ _ _ _ n => n.elim)
  · show (vs.map some ++ List.replicate (N.length - vs.length) none).length = _
    rw [List.length_append, List.length_append, List.length_map, List.length_map, List.length_replicate, List.length_replicate, hlen]
  · intro i d e
    by_cases c : i < ds.length
    · rw [List.getElem?_append_left (by rw [List.length_map]; exact c), List.getElem?_map] at e
      cases hd : ds[i]? with
      | none =>
        rw [hd] at e
        cases e
      | some d' =>
        rw [hd] at e
        cases e
        obtain ⟨v, h1, h2⟩ := r.get hd
        refine ⟨v, ?_, h2⟩
        show (vs.map some ++ List.replicate (N.length - vs.length) none)[i]? = _
        rw [List.getElem?_append_left (by rw [List.length_map, hlen]; exact c), List.getElem?_map, h1]
        rfl
    · rw [List.getElem?_append_right (by rw [List.length_map]; omega), List.getElem?_replicate] at e
      split at e
      · cases e
      · cases e
end
end Sh
/-! == of data, order, subscripts, len, isinstance, sorted -/
namespace Sh
open PySem PySem.Spec PyProof.Rows L2

mutual
/-- none, ints, texts, tuples and lists of these -/
def Dat.fine : Dat → Bool
  | .non => true
  | .int _ => true
  | .str x => PyData.strOk x
  | .tup xs => fines xs
  | .lst xs => fines xs
  | _ => false
def fines : List Dat → Bool
  | [] => true
  | x :: xs => x.fine && fines xs
end
mutual
def Dat.py : Dat → PyData
  | .non => .none
  | .bl b => .bool b
  | .int i => .int i
  | .str x => .str x
  | .tup xs => .tuple (pys xs)
  | .lst xs => .list (pys xs)
  | _ => .none
def pys : List Dat → List PyData
  | [] => []
  | x :: xs => x.py :: pys xs
end
theorem pys_map : ∀ xs : List Dat, pys xs = xs.map Dat.py
  | [] => rfl
  | x :: xs => by
    show x.py :: pys xs = _
    rw [pys_map xs, List.map_cons]
theorem fines_all : ∀ xs : List Dat, fines xs = xs.all Dat.fine
  | [] => rfl
  | x :: xs => by
    show (x.fine && fines xs) = _
    rw [fines_all xs, List.all_cons]
theorem fines_mem {xs : List Dat} (h : fines xs = true) {x : Dat} (hx : x ∈ xs) : x.fine = true := by
  rw [fines_all, List.all_eq_true] at h
  exact h x hx
theorem fines_of {xs : List Dat} (h : ∀ x ∈ xs, x.fine = true) : fines xs = true := by
  rw [fines_all, List.all_eq_true]
  exact h
section
variable {K : PySem.W.Frag} {S : Sc} {H : Hp}
mutual
theorem Rp.dp : ∀ {d : Dat} {v : V}, d.fine = true → Rp K S H v d → Dp K H v d.py
  | .non, _, _, h => by
    cases h
    exact .non
  | .int i, _, _, h => by
    cases h
    exact .int i
  | .str x, _, _, h => by
    cases h
    exact .str x
  | .tup xs, _, f, h => by
    have f : fines xs = true := f
    cases h with
    | tup n hs hr => exact .tup hs (Rps.dp f hr)
  | .lst xs, _, f, h => by
    have f : fines xs = true := f
    cases h with
    | lst n hs hr => exact .lst hs (Rps.dp f hr)
  | .bl _, _, f, _ => by cases f
  | .dic _, _, f, _ => by cases f
  | .ob _ _, _, f, _ => by cases f
  | .hd _, _, f, _ => by cases f
  | .raw _, _, f, _ => by cases f
theorem Rps.dp : ∀ {ds : List Dat} {vs : List V}, fines ds = true → Rps K S H vs ds → DpAll K H vs (pys ds)
  | [], _, _, h => by
    cases h
    exact .nil
  | d :: ds, _, f, h => by
    have f : (d.fine && fines ds) = true := f
    rw [Bool.and_eq_true] at f
    cases h with
    | cons a t => exact .cons (Rp.dp f.1 a) (Rps.dp f.2 t)
end
end
mutual
theorem lay_fine : ∀ d : Dat, d.fine = true → d.py.canLay0 = true
  | .non, _ => by simp [Dat.py, PyData.canLay0]
  | .int i, _ => by simp [Dat.py, PyData.canLay0]
  | .str x, f => by
    have f : PyData.strOk x = true := f
    simpa [Dat.py, PyData.canLay0] using f
  | .tup xs, f => by
    have f : fines xs = true := f
    simpa [Dat.py, PyData.canLay0] using lay_fines xs f
  | .lst xs, f => by
    have f : fines xs = true := f
    simpa [Dat.py, PyData.canLay0] using lay_fines xs f
  | .bl _, f => by cases f
  | .dic _, f => by cases f
  | .ob _ _, f => by cases f
  | .hd _, f => by cases f
  | .raw _, f => by cases f
theorem lay_fines : ∀ ds : List Dat, fines ds = true → PyData.canLayAll0 (pys ds) = true
  | [], _ => by simp [pys, PyData.canLayAll0]
  | d :: ds, f => by
    have f : (d.fine && fines ds) = true := f
    rw [Bool.and_eq_true] at f
    simp [pys, PyData.canLayAll0, lay_fine d f.1, lay_fines ds f.2]
end
mutual
theorem eqv_fine : ∀ d e : Dat, d.fine = true → e.fine = true → (PyData.eqv d.py e.py = true ↔ d = e)
  | .non, e, _, g => by cases e <;> simp [Dat.fine] at g <;> simp [Dat.py, PyData.eqv]
  | .int i, e, _, g => by cases e <;> simp [Dat.fine] at g <;> simp [Dat.py, PyData.eqv]
  | .str x, e, _, g => by cases e <;> simp [Dat.fine] at g <;> simp [Dat.py, PyData.eqv]
  | .tup xs, e, f, g => by
    have f : fines xs = true := f
    cases e with
    | tup ys =>
      have g : fines ys = true := g
      simp only [Dat.py, PyData.eqv, eqv_fines xs ys f g, Dat.tup.injEq]
    | _ => simp [Dat.fine] at g <;> simp [Dat.py, PyData.eqv]
  | .lst xs, e, f, g => by
    have f : fines xs = true := f
    cases e with
    | lst ys =>
      have g : fines ys = true := g
      simp only [Dat.py, PyData.eqv, eqv_fines xs ys f g, Dat.lst.injEq]
    | _ => simp [Dat.fine] at g <;> simp [Dat.py, PyData.eqv]
  | .bl _, _, f, _ => by cases f
  | .dic _, _, f, _ => by cases f
  | .ob _ _, _, f, _ => by cases f
  | .hd _, _, f, _ => by cases f
  | .raw _, _, f, _ => by cases f
theorem eqv_fines : ∀ ds es : List Dat, fines ds = true → fines es = true → (PyData.eqvAll (pys ds) (pys es) = true ↔ ds = es)
  | [], [], _, _ => by simp [pys, PyData.eqvAll]
  | [], _ :: _, _, _ => by simp [pys, PyData.eqvAll]
  | _ :: _, [], _, _ => by simp [pys, PyData.eqvAll]
  | d :: ds, e :: es, f, g => by
    have f : (d.fine && fines ds) = true := f
    have g : (e.fine && fines es) = true := g
    rw [Bool.and_eq_true] at f g
    simp only [pys, PyData.eqvAll, Bool.and_eq_true, eqv_fine d e f.1 g.1, eqv_fines ds es f.2 g.2, List.cons.injEq]
end
/-- equal data -/
noncomputable def deq (d e : Dat) : Bool := @decide (d = e) (Classical.propDecidable _)
theorem deq_iff {d e : Dat} : deq d e = true ↔ d = e := by
  unfold deq
  exact @decide_eq_true_iff _ (Classical.propDecidable _)
theorem deq_self {d : Dat} : deq d d = true := deq_iff.mpr rfl
theorem deq_ne {d e : Dat} (h : d ≠ e) : deq d e = false := by
  cases c : deq d e with
  | true => exact absurd (deq_iff.mp c) h
  | false => rfl
theorem deq_of_iff {d e : Dat} {b : Bool} (h : d = e ↔ b = true) : deq d e = b := by
  cases b with
  | true => exact deq_iff.mpr (h.mpr rfl)
  | false => exact deq_ne fun z => by cases h.mp z
theorem deq_int {i j : Int} : deq (.int i) (.int j) = decide (i = j) := deq_of_iff (by simp)
theorem deq_str {i j : Str} : deq (.str i) (.str j) = decide (i = j) := deq_of_iff (by simp)
/-- a datum that == may meet -/
structure Eqd (d : Dat) : Prop where
  fine : d.fine = true
  dep : d.py.depth ≤ 64
theorem Eqd.shaped {d : Dat} (h : Eqd d) : SeqAt.shaped d.py = true := by
  unfold SeqAt.shaped
  rw [lay_fine d h.fine, decide_eq_true h.dep]
  rfl
theorem Eqd.non : Eqd .non := ⟨rfl, by simp [Dat.py, PyData.depth]⟩
theorem Eqd.int {i : Int} : Eqd (.int i) := ⟨rfl, by simp [Dat.py, PyData.depth]⟩
theorem Eqd.str {x : Str} (h : PyData.strOk x = true) : Eqd (.str x) := ⟨h, by simp [Dat.py, PyData.depth]⟩
theorem depth_pys {n : Nat} : ∀ {ds : List Dat}, (∀ d ∈ ds, d.py.depth ≤ n) → PyData.depthAll (pys ds) ≤ n
  | [], _ => by simp [pys, PyData.depthAll]
  | d :: ds, h => by
    have h1 := h d List.mem_cons_self
    have h2 := depth_pys (n := n) (ds := ds) fun e he => h e (List.mem_cons_of_mem _ he)
    simp only [pys, PyData.depthAll]
    omega
/-- fine, and at most so deep -/
structure EqN (n : Nat) (d : Dat) : Prop where
  fine : d.fine = true
  dep : d.py.depth ≤ n
theorem EqN.eqd {n : Nat} {d : Dat} (h : EqN n d) (hn : n ≤ 64 := by decide) : Eqd d := ⟨h.fine, Nat.le_trans h.dep hn⟩
theorem EqN.mono {n m : Nat} {d : Dat} (h : EqN n d) (hn : n ≤ m) : EqN m d := ⟨h.fine, Nat.le_trans h.dep hn⟩
theorem EqN.non {n : Nat} : EqN n .non := ⟨rfl, by simp [Dat.py, PyData.depth]⟩
theorem EqN.int {n : Nat} {i : Int} : EqN n (.int i) := ⟨rfl, by simp [Dat.py, PyData.depth]⟩
theorem EqN.str {n : Nat} {x : Str} (h : PyData.strOk x = true) : EqN n (.str x) := ⟨h, by simp [Dat.py, PyData.depth]⟩
theorem EqN.tup {n : Nat} {ds : List Dat} (h : ∀ d ∈ ds, EqN n d) : EqN (n + 1) (.tup ds) := ⟨fines_of fun d hd => (h d hd).fine, by
  have q := depth_pys (n := n) fun d hd => (h d hd).dep
  simp only [Dat.py, PyData.depth]
  omega⟩
theorem EqN.lst {n : Nat} {ds : List Dat} (h : ∀ d ∈ ds, EqN n d) : EqN (n + 1) (.lst ds) := ⟨fines_of fun d hd => (h d hd).fine, by
  have q := depth_pys (n := n) fun d hd => (h d hd).dep
  simp only [Dat.py, PyData.depth]
  omega⟩
section
variable {K : PySem.W.Frag} {S : Sc} {ρ : Rho} {ta tb te : TE} {x y z : Dat}
theorem rv_eqD (hx : Eqd x) (hy : Eqd y) : RV K S (rEqD K) x y (Eq (.bl (deq x y))) := rv_val fun v u H a b s Q q =>
  ⟨x.py, y.py, a.dp hx.fine, b.dp hy.fine, hx.shaped, hy.shaped, by
    have e : PyData.eqv x.py y.py = deq x y := by
      cases c : deq x y with
      | true => exact (eqv_fine x y hx.fine hy.fine).mpr (deq_iff.mp c)
      | false =>
        cases h : PyData.eqv x.py y.py with
        | true => rw [deq_iff.mpr ((eqv_fine x y hx.fine hy.fine).mp h)] at c; cases c
        | false => rfl
    rw [e]
    exact q _ (.bl _)⟩
theorem rv_neD (hx : Eqd x) (hy : Eqd y) : RV K S (rNeD K) x y (Eq (.bl (!deq x y))) := rv_val fun v u H a b s Q q =>
  ⟨x.py, y.py, a.dp hx.fine, b.dp hy.fine, hx.shaped, hy.shaped, by
    have e : PyData.eqv x.py y.py = deq x y := by
      cases c : deq x y with
      | true => exact (eqv_fine x y hx.fine hy.fine).mpr (deq_iff.mp c)
      | false =>
        cases h : PyData.eqv x.py y.py with
        | true => rw [deq_iff.mpr ((eqv_fine x y hx.fine hy.fine).mp h)] at c; cases c
        | false => rfl
    rw [e]
    exact q _ (.bl _)⟩
theorem ev_eq (hx : Eqd x) (hy : Eqd y) (ha : Ev K S ta ρ (Eq x)) (hb : Ev K S tb ρ (Eq y)) : Ev K S (tOp (rEqD K) ta tb) ρ (Eq (.bl (deq x y))) := ev_opD ha hb (rv_eqD hx hy)
theorem ev_ne (hx : Eqd x) (hy : Eqd y) (ha : Ev K S ta ρ (Eq x)) (hb : Ev K S tb ρ (Eq y)) : Ev K S (tOp (rNeD K) ta tb) ρ (Eq (.bl (!deq x y))) := ev_opD ha hb (rv_neD hx hy)
/-- is None -/
def rIs : R2 := fun x y H Q => y = .non ∧ Q (.bl (decide (x = .non))) H
def rIsNot : R2 := fun x y H Q => y = .non ∧ Q (.bl (!decide (x = .non))) H
theorem op_is0 {X : Cx} : OpR X (compareOp .Is) rIs := op_isN
theorem op_isnot0 {X : Cx} : OpR X (compareOp .IsNot) rIsNot := op_notN
def Dat.isNon : Dat → Bool
  | .non => true
  | .raw v => decide (v = .non)
  | _ => false
theorem isNon_eq {H : Hp} {v : V} {d : Dat} (h : Rp K S H v d) : decide (v = .non) = d.isNon := by
  cases h <;> first | rfl | simp [Dat.isNon]
theorem ev_is (ha : Ev K S ta ρ (Eq x)) : Ev K S (tOp rIs ta (tC .non)) ρ (Eq (.bl x.isNon)) := ev_opD ha ev_non (rv_val fun v u H a b s Q q => by
  cases b
  exact ⟨rfl, by rw [isNon_eq a]; exact q _ (.bl _)⟩)
theorem ev_isnot (ha : Ev K S ta ρ (Eq x)) : Ev K S (tOp rIsNot ta (tC .non)) ρ (Eq (.bl (!x.isNon))) := ev_opD ha ev_non (rv_val fun v u H a b s Q q => by
  cases b
  exact ⟨rfl, by rw [isNon_eq a]; exact q _ (.bl _)⟩)
end
end Sh
/-! order of ints, texts, flat tuples -/
namespace Sh
open PySem PySem.Spec PyProof.Rows L2

def vLt : V → V → Bool
  | .int a, .int b => decide (a < b)
  | .str a, .str b => decide (a.cps.toList < b.cps.toList)
  | _, _ => false
def vLe : V → V → Bool
  | .int a, .int b => decide (a ≤ b)
  | .str a, .str b => !decide (b.cps.toList < a.cps.toList)
  | _, _ => false
def vSame : V → V → Bool
  | .int _, .int _ => true
  | .str _, .str _ => true
  | _, _ => false
theorem vSame_flat {x y : V} (h : vSame x y = true) : flatV x = true ∧ flatV y = true := by
  cases x <;> cases y <;> first | exact ⟨rfl, rfl⟩ | cases h
theorem rc_lt {A : Around} {s : Shared} {x y : V} {u v : Value} (rx : RelV x u) (ry : RelV y v) (h : vSame x y = true) : Ob.RcOp .Lt A s u v (vLt x y) := by
  cases x with
  | int i =>
    cases y with
    | int j =>
      obtain ⟨t, rfl⟩ := rx
      obtain ⟨t', rfl⟩ := ry
      exact Ob.RcOp.lt_int _ _ _ _
    | _ => cases h
  | str i =>
    cases y with
    | str j =>
      obtain ⟨t, rfl⟩ := rx
      obtain ⟨t', rfl⟩ := ry
      exact fun prog w E Q q => PySem.P.lt_str q
    | _ => cases h
  | _ => cases h
theorem rc_gt {A : Around} {s : Shared} {x y : V} {u v : Value} (rx : RelV x u) (ry : RelV y v) (h : vSame x y = true) : Ob.RcOp .Gt A s u v (vLt y x) := by
  cases x with
  | int i =>
    cases y with
    | int j =>
      obtain ⟨t, rfl⟩ := rx
      obtain ⟨t', rfl⟩ := ry
      exact Ob.RcOp.gt_int _ _ _ _
    | _ => cases h
  | str i =>
    cases y with
    | str j =>
      obtain ⟨t, rfl⟩ := rx
      obtain ⟨t', rfl⟩ := ry
      exact fun prog w E Q q => PySem.P.gt_str q
    | _ => cases h
  | _ => cases h
theorem rc_le {A : Around} {s : Shared} {x y : V} {u v : Value} (rx : RelV x u) (ry : RelV y v) (h : vSame x y = true) : Ob.RcOp .LtE A s u v (vLe x y) := by
  cases x with
  | int i =>
    cases y with
    | int j =>
      obtain ⟨t, rfl⟩ := rx
      obtain ⟨t', rfl⟩ := ry
      exact Ob.RcOp.le_int _ _ _ _
    | _ => cases h
  | str i =>
    cases y with
    | str j =>
      obtain ⟨t, rfl⟩ := rx
      obtain ⟨t', rfl⟩ := ry
      exact fun prog w E Q q => PySem.P.le_str q
    | _ => cases h
  | _ => cases h
/-- places of two tuples go together -/
def vsSame (xs ys : List V) : Prop := ∀ (j : Nat) (x y : V), xs[j]? = some x → ys[j]? = some y → vSame x y = true
def tupGt (xs ys : List V) : Bool := Ob.lexAt (fun j => eqV (xs.getD j .non) (ys.getD j .non)) (fun j => vLt (ys.getD j .non) (xs.getD j .non)) (decide (xs.length > ys.length)) 0 (min xs.length ys.length)
def tupLe (xs ys : List V) : Bool := Ob.lexAt (fun j => eqV (xs.getD j .non) (ys.getD j .non)) (fun j => vLe (xs.getD j .non) (ys.getD j .non)) (decide (xs.length ≤ ys.length)) 0 (min xs.length ys.length)
theorem vals_getD {xs : List V} {us : List Value} (r : Vals xs us) {j : Nat} (h : j < us.toArray.size) : xs[j]? = some (xs.getD j .non) ∧ RelV (xs.getD j .non) us.toArray[j] := by
  have hl : j < xs.length := by
    rw [r.length]
    simpa using h
  have e : xs[j]? = some (xs.getD j .non) := by
    rw [List.getD_eq_getElem?_getD, List.getElem?_eq_getElem hl]
    rfl
  obtain ⟨u, h1, h2⟩ := Vals.get r e
  have h3 : us[j]? = some us.toArray[j] := by
    rw [List.getElem?_eq_getElem (by simpa using h)]
    simp
  rw [h3] at h1
  cases h1
  exact ⟨e, h2⟩
section
variable {X : Cx}
def rTup (f : List V → List V → Bool) (K : PySem.W.Frag) : R2 := fun x y H Q => ∃ a b xs ys, x = .ref a ∧ y = .ref b ∧ SqT K H a xs ∧ SqT K H b ys ∧ vsSame xs ys ∧ Q (.bl (f xs ys)) H
theorem op_gtR (hu : X.A.units < cLine) : OpR X (compareOp .Gt) (rTup tupGt X.K) := by
  intro pins s σ H x y v u Q I rx ry h
  obtain ⟨a, b, xs, ys, rfl, rfl, ha, hb, hs, q⟩ := h
  cases rx
  cases ry
  obtain ⟨its, r1, p1, _⟩ := I.tuple ha
  obtain ⟨its2, r2, p2, _⟩ := I.tuple hb
  have R := Ob.RcOp.tuples_gt (A := X.A) (s := s) (e := fun j => eqV (xs.getD j .non) (ys.getD j .non)) (r := fun j => vLt (ys.getD j .non) (xs.getD j .non)) p1 p2 hu (fun j h1 h2 => by
    obtain ⟨e1, q1⟩ := vals_getD r1 h1
    obtain ⟨e2, q2⟩ := vals_getD r2 h2
    obtain ⟨f1, f2⟩ := vSame_flat (hs j _ _ e1 e2)
    exact eqAt_V q1 q2 f1 f2) (fun j h1 h2 _ => by
    obtain ⟨e1, q1⟩ := vals_getD r1 h1
    obtain ⟨e2, q2⟩ := vals_getD r2 h2
    exact rc_gt q1 q2 (hs j _ _ e1 e2))
  rw [List.size_toArray, List.size_toArray, ← r1.length, ← r2.length] at R
  exact R X.prog X.w X.xe (EP X pins σ Q) ⟨.bl _, H, I, rfl, q⟩
theorem op_leR (hu : X.A.units < cLine) : OpR X (compareOp .LtE) (rTup tupLe X.K) := by
  intro pins s σ H x y v u Q I rx ry h
  obtain ⟨a, b, xs, ys, rfl, rfl, ha, hb, hs, q⟩ := h
  cases rx
  cases ry
  obtain ⟨its, r1, p1, _⟩ := I.tuple ha
  obtain ⟨its2, r2, p2, _⟩ := I.tuple hb
  have R := Ob.RcOp.tuples_le (A := X.A) (s := s) (e := fun j => eqV (xs.getD j .non) (ys.getD j .non)) (r := fun j => vLe (xs.getD j .non) (ys.getD j .non)) p1 p2 hu (fun j h1 h2 => by
    obtain ⟨e1, q1⟩ := vals_getD r1 h1
    obtain ⟨e2, q2⟩ := vals_getD r2 h2
    obtain ⟨f1, f2⟩ := vSame_flat (hs j _ _ e1 e2)
    exact eqAt_V q1 q2 f1 f2) (fun j h1 h2 _ => by
    obtain ⟨e1, q1⟩ := vals_getD r1 h1
    obtain ⟨e2, q2⟩ := vals_getD r2 h2
    exact rc_le q1 q2 (hs j _ _ e1 e2))
  rw [List.size_toArray, List.size_toArray, ← r1.length, ← r2.length] at R
  exact R X.prog X.w X.xe (EP X pins σ Q) ⟨.bl _, H, I, rfl, q⟩
/-- <, <=, > of two values of one kind -/
def rSc (f : V → V → Bool) : R2 := fun x y H Q => vSame x y = true ∧ Q (.bl (f x y)) H
theorem op_ltS : OpR X (compareOp .Lt) (rSc vLt) := by
  intro pins s σ H x y v u Q I rx ry h
  exact rc_lt rx ry h.1 _ _ _ _ ⟨.bl _, H, I, rfl, h.2⟩
theorem op_leS : OpR X (compareOp .LtE) (rSc vLe) := by
  intro pins s σ H x y v u Q I rx ry h
  exact rc_le rx ry h.1 _ _ _ _ ⟨.bl _, H, I, rfl, h.2⟩
theorem op_gtS : OpR X (compareOp .Gt) (rSc fun a b => vLt b a) := by
  intro pins s σ H x y v u Q I rx ry h
  exact rc_gt rx ry h.1 _ _ _ _ ⟨.bl _, H, I, rfl, h.2⟩
end
/-! by data -/
def Dat.flat : Dat → V
  | .int i => .int i
  | .str x => .str x
  | _ => .non
def sSame (d e : Dat) : Bool := vSame d.flat e.flat
def sLt (d e : Dat) : Bool := vLt d.flat e.flat
def sLe (d e : Dat) : Bool := vLe d.flat e.flat
theorem sLe_int {a b : Int} : sLe (.int a) (.int b) = decide (a ≤ b) := rfl
theorem sLt_int {a b : Int} : sLt (.int a) (.int b) = decide (a < b) := rfl
theorem sLe_str {a b : Str} : sLe (.str a) (.str b) = !decide (b.cps.toList < a.cps.toList) := rfl
theorem sLt_str {a b : Str} : sLt (.str a) (.str b) = decide (a.cps.toList < b.cps.toList) := rfl
def isSc : Dat → Bool
  | .int _ => true
  | .str _ => true
  | _ => false
theorem isSc_same {d e : Dat} (h : sSame d e = true) : isSc d = true ∧ isSc e = true := by
  cases d <;> cases e <;> first | exact ⟨rfl, rfl⟩ | cases h
theorem Rp.flat {K : PySem.W.Frag} {S : Sc} {H : Hp} {v : V} {d : Dat} (h : Rp K S H v d) (s : isSc d = true) : v = d.flat := by
  cases h <;> first | rfl | cases s
theorem Rps.flat {K : PySem.W.Frag} {S : Sc} {H : Hp} : ∀ {vs : List V} {ds : List Dat}, Rps K S H vs ds → (∀ d ∈ ds, isSc d = true) → vs = ds.map Dat.flat
  | _, _, .nil, _ => rfl
  | _, _, .cons a t, h => by
    rw [List.map_cons, a.flat (h _ List.mem_cons_self), Rps.flat t fun d hd => h d (List.mem_cons_of_mem _ hd)]
def rowGt (xs ys : List Dat) : Bool := tupGt (xs.map Dat.flat) (ys.map Dat.flat)
def rowLe (xs ys : List Dat) : Bool := tupLe (xs.map Dat.flat) (ys.map Dat.flat)
/-- rows of one form -/
def rowsSame (xs ys : List Dat) : Prop := ∀ (j : Nat) (x y : Dat), xs[j]? = some x → ys[j]? = some y → sSame x y = true
section
variable {K : PySem.W.Frag} {S : Sc} {ρ : Rho} {ta tb te : TE} {x y z : Dat}
theorem rv_sc {f : V → V → Bool} (h : sSame x y = true) : RV K S (rSc f) x y (Eq (.bl (f x.flat y.flat))) := rv_val fun v u H a b s Q q => by
  rw [a.flat (isSc_same h).1, b.flat (isSc_same h).2]
  exact ⟨h, q _ (.bl _)⟩
theorem ev_ltS (h : sSame x y = true) (ha : Ev K S ta ρ (Eq x)) (hb : Ev K S tb ρ (Eq y)) : Ev K S (tOp (rSc vLt) ta tb) ρ (Eq (.bl (sLt x y))) := ev_opD ha hb (rv_sc h)
theorem ev_leS (h : sSame x y = true) (ha : Ev K S ta ρ (Eq x)) (hb : Ev K S tb ρ (Eq y)) : Ev K S (tOp (rSc vLe) ta tb) ρ (Eq (.bl (sLe x y))) := ev_opD ha hb (rv_sc h)
theorem ev_gtS (h : sSame x y = true) (ha : Ev K S ta ρ (Eq x)) (hb : Ev K S tb ρ (Eq y)) : Ev K S (tOp (rSc fun a b => vLt b a) ta tb) ρ (Eq (.bl (sLt y x))) := ev_opD ha hb (rv_sc h)
theorem rv_tup {f : List V → List V → Bool} {xs ys : List Dat} (hx : ∀ d ∈ xs, isSc d = true) (hy : ∀ d ∈ ys, isSc d = true) (hs : rowsSame xs ys) : RV K S (rTup f K) (.tup xs) (.tup ys) (Eq (.bl (f (xs.map Dat.flat) (ys.map Dat.flat)))) := rv_val fun v u H a b s Q q => by
  cases a with
  | tup n1 h1 r1 =>
    cases b with
    | tup n2 h2 r2 =>
      refine ⟨_, _, _, _, rfl, rfl, h1, h2, fun j vx vy e1 e2 => ?_, ?_⟩
      · obtain ⟨d, k1, k2⟩ := r1.get' e1
        obtain ⟨e, k3, k4⟩ := r2.get' e2
        have q := hs j d e k1 k3
        rw [k2.flat (isSc_same q).1, k4.flat (isSc_same q).2]
        exact q
      · rw [r1.flat hx, r2.flat hy]
        exact q _ (.bl _)
theorem ev_gtR {xs ys : List Dat} (hx : ∀ d ∈ xs, isSc d = true) (hy : ∀ d ∈ ys, isSc d = true) (hs : rowsSame xs ys) (ha : Ev K S ta ρ (Eq (.tup xs))) (hb : Ev K S tb ρ (Eq (.tup ys))) : Ev K S (tOp (rTup tupGt K) ta tb) ρ (Eq (.bl (rowGt xs ys))) := ev_opD ha hb (rv_tup hx hy hs)
theorem ev_leR {xs ys : List Dat} (hx : ∀ d ∈ xs, isSc d = true) (hy : ∀ d ∈ ys, isSc d = true) (hs : rowsSame xs ys) (ha : Ev K S ta ρ (Eq (.tup xs))) (hb : Ev K S tb ρ (Eq (.tup ys))) : Ev K S (tOp (rTup tupLe K) ta tb) ρ (Eq (.bl (rowLe xs ys))) := ev_opD ha hb (rv_tup hx hy hs)
/-- a <= b <= c, a <= b < c -/
theorem ev_chLL {tc : TE} (h1 : sSame x y = true) (h2 : sSame y z = true) (ha : Ev K S ta ρ (Eq x)) (hb : Ev K S tb ρ (Eq y)) (hc : Ev K S tc ρ (Eq z)) : Ev K S (tChain (rSc vLe) (rSc vLe) ta tb tc) ρ (Eq (.bl (sLe x y && sLe y z))) :=
  ev_chain ha hb (fun _ => hc) (rv_sc h1) (fun _ => rv_sc h2)
theorem ev_chLT {tc : TE} (h1 : sSame x y = true) (h2 : sSame y z = true) (ha : Ev K S ta ρ (Eq x)) (hb : Ev K S tb ρ (Eq y)) (hc : Ev K S tc ρ (Eq z)) : Ev K S (tChain (rSc vLe) (rSc vLt) ta tb tc) ρ (Eq (.bl (sLe x y && sLt y z))) :=
  ev_chain ha hb (fun _ => hc) (rv_sc h1) (fun _ => rv_sc h2)
/-! arithmetic -/
def rAddI : R2 := rI0 fun i j => .int (i + j)
def rSubI : R2 := rI0 fun i j => .int (i - j)
def rMulI : R2 := rI CMul fun i j => .int (i * j)
def rDivI : R2 := rI CDiv fun i j => .int (i / j)
def rModI : R2 := rI (fun _ j => 0 < j) fun i j => .int (i % j)
def rPowI : R2 := rI CPow fun i j => .int (i ^ j.toNat)
theorem op_addI {X : Cx} : OpR X (binaryOp .Add) rAddI := op_add
theorem op_subI {X : Cx} : OpR X (binaryOp .Sub) rSubI := op_sub
theorem op_mulI {X : Cx} : OpR X (binaryOp .Mult) rMulI := op_mul
theorem op_divI {X : Cx} : OpR X (binaryOp .FloorDiv) rDivI := op_fdiv
theorem op_modI {X : Cx} : OpR X (binaryOp .Mod) rModI := op_mod
theorem op_powI {X : Cx} : OpR X (binaryOp .Pow) rPowI := op_pow
variable {i j : Int}
theorem ev_add (ha : Ev K S ta ρ (Eq (.int i))) (hb : Ev K S tb ρ (Eq (.int j))) : Ev K S (tOp rAddI ta tb) ρ (Eq (.int (i + j))) := ev_opD ha hb (rv_I0 fun _ => .int _)
theorem ev_sub (ha : Ev K S ta ρ (Eq (.int i))) (hb : Ev K S tb ρ (Eq (.int j))) : Ev K S (tOp rSubI ta tb) ρ (Eq (.int (i - j))) := ev_opD ha hb (rv_I0 fun _ => .int _)
theorem ev_mul (c : CMul i j) (ha : Ev K S ta ρ (Eq (.int i))) (hb : Ev K S tb ρ (Eq (.int j))) : Ev K S (tOp rMulI ta tb) ρ (Eq (.int (i * j))) := ev_opD ha hb (rv_I c fun _ => .int _)
theorem ev_div (c : CDiv i j) (ha : Ev K S ta ρ (Eq (.int i))) (hb : Ev K S tb ρ (Eq (.int j))) : Ev K S (tOp rDivI ta tb) ρ (Eq (.int (i / j))) := ev_opD ha hb (rv_I c fun _ => .int _)
theorem ev_mod (c : 0 < j) (ha : Ev K S ta ρ (Eq (.int i))) (hb : Ev K S tb ρ (Eq (.int j))) : Ev K S (tOp rModI ta tb) ρ (Eq (.int (i % j))) := ev_opD ha hb (rv_I c fun _ => .int _)
theorem ev_pow (c : CPow i j) (ha : Ev K S ta ρ (Eq (.int i))) (hb : Ev K S tb ρ (Eq (.int j))) : Ev K S (tOp rPowI ta tb) ρ (Eq (.int (i ^ j.toNat))) := ev_opD ha hb (rv_I c fun _ => .int _)
def rAddS : R2 := fun x y H Q => ∃ i j, x = .str i ∧ y = .str j ∧ i.length + j.length ≤ sizeLine ∧ Q (.str (i ++ j)) H
theorem op_addS {X : Cx} : OpR X (binaryOp .Add) rAddS := op_add_str
theorem ev_addS {a b : Str} (hl : a.length + b.length ≤ sizeLine) (ha : Ev K S ta ρ (Eq (.str a))) (hb : Ev K S tb ρ (Eq (.str b))) : Ev K S (tOp rAddS ta tb) ρ (Eq (.str (a ++ b))) := ev_opD ha hb (rv_val fun v u H a b s Q q => by
  cases a
  cases b
  exact ⟨_, _, rfl, rfl, hl, q _ (.str _)⟩)
/-- list + list: a new list -/
theorem op_addL {X : Cx} : OpR X (binaryOp .Add) rCat := op_cat
/-- tuple + tuple -/
theorem ev_catT {xs ys : List Dat} (hl : xs.length + ys.length ≤ sizeLine) (ha : Ev K S ta ρ (Eq (.tup xs))) (hb : Ev K S tb ρ (Eq (.tup ys))) : Ev K S (tOp (rCatA K) ta tb) ρ (Eq (.tup (xs ++ ys))) := ev_opD ha hb fun v u H a b s Q q => by
  cases a with
  | @tup a0 vs _ n1 h1 r1 =>
    cases b with
    | @tup b0 ws _ n2 h2 r2 =>
      refine ⟨_, _, _, _, rfl, rfl, h1, h2, by rw [r1.length, r2.length]; exact hl, fun e => ?_, fun e1 e2 => ?_, fun e1 e2 p hp => ?_⟩
      · refine q _ H _ .refl s rfl ?_
        rw [e] at r1
        cases r1
        exact .tup n2 h2 r2
      · refine q _ H _ .refl s rfl ?_
        rw [e2] at r2
        cases r2
        rw [List.append_nil]
        exact .tup n1 h1 r1
      · exact q _ _ _ (.new hp) (s.new hp) rfl (.tup (.inl (s.ne hp)) (SqT.of upd_same) ((r1.mono (.new hp)).append (r2.mono (.new hp))))
end
end Sh
/-! subscripts, len, isinstance, all, any, in, sorted, by data -/
namespace Sh
open PySem PySem.Spec PyProof.Rows L2

theorem rps_at {K : PySem.W.Frag} {S : Sc} {H : Hp} {vs : List V} {ds : List Dat} {i : Int} {d : Dat} (r : Rps K S H vs ds) (h : atI ds i = some d) : ∃ v, atI vs i = some v ∧ Rp K S H v d := by
  unfold atI at h ⊢
  rw [r.length]
  cases e : ixN ds.length i with
  | none =>
    rw [e] at h
    cases h
  | some j =>
    rw [e] at h
    obtain ⟨v, h1, h2⟩ := r.get (i := j) (d := d) (by simpa using h)
    exact ⟨v, by simpa using h1, h2⟩
def cutD {α : Type} (xs : List α) (lo hi : Option Int) : List α := (xs.drop (HT.sIx xs.length 0 lo)).take (HT.sIx xs.length xs.length hi - HT.sIx xs.length 0 lo)
theorem rps_cut {K : PySem.W.Frag} {S : Sc} {H : Hp} {vs : List V} {ds : List Dat} (lo hi : Option Int) (r : Rps K S H vs ds) : Rps K S H (cutV vs lo hi) (cutD ds lo hi) := by
  unfold cutV cutD
  rw [r.length]
  exact (r.drop _).take _
/-- what isinstance finds -/
def Dat.tyN : Dat → String
  | .non => "NoneType"
  | .bl _ => "bool"
  | .int _ => "int"
  | .str _ => "str"
  | .tup _ => "tuple"
  | .lst _ => "list"
  | .dic _ => "dict"
  | _ => ""
def Dat.plain : Dat → Bool
  | .ob _ _ => false
  | .hd _ => false
  | .raw _ => false
  | _ => true
section
variable {K : PySem.W.Frag} {S : Sc} {ρ : Rho} {ta tb te : TE} {x y z : Dat} {H : Hp}
theorem ev_ixT {xs : List Dat} {i : Int} (h : atI xs i = some x) (ha : Ev K S ta ρ (Eq (.tup xs))) (hb : Ev K S tb ρ (Eq (.int i))) : Ev K S (tOp (rIx K) ta tb) ρ (Eq x) := ev_opD ha hb (rv_val fun v u H a b s Q q => by
  cases a with
  | tup n hs r =>
    cases b
    obtain ⟨w, h1, h2⟩ := rps_at r h
    exact .inr (.inl ⟨_, _, _, w, rfl, rfl, hs, h1, q w h2⟩))
theorem ev_ixL {xs : List Dat} {i : Int} (h : atI xs i = some x) (ha : Ev K S ta ρ (Eq (.lst xs))) (hb : Ev K S tb ρ (Eq (.int i))) : Ev K S (tOp (rIx K) ta tb) ρ (Eq x) := ev_opD ha hb (rv_val fun v u H a b s Q q => by
  cases a with
  | lst n hs r =>
    cases b
    obtain ⟨w, h1, h2⟩ := rps_at r h
    exact .inl ⟨_, _, _, w, rfl, rfl, hs, h1, q w h2⟩)
theorem ev_ixS {w : Str} {i : Int} {c : Nat} (hl : w.length ≤ sizeLine) (h : atI w.cps.toList i = some c) (ha : Ev K S ta ρ (Eq (.str w))) (hb : Ev K S tb ρ (Eq (.int i))) : Ev K S (tOp (rIx K) ta tb) ρ (Eq (.str ⟨#[c]⟩)) := ev_opD ha hb (rv_val fun v u H a b s Q q => by
  cases a
  cases b
  exact .inr (.inr ⟨_, _, _, rfl, rfl, hl, h, q _ (.str _)⟩))
/-! slices -/
theorem ev_slL {xs : List Dat} {tl th : TO} {lo hi : Option Int} (ha : Ev K S ta ρ (Eq (.lst xs))) (h1 : EvO K S tl ρ lo) (h2 : EvO K S th ρ hi) : Ev K S (tSl (rSlL K) ta tl th) ρ (Eq (.lst (cutD xs lo hi))) := fun σ H e s Q q =>
  ha σ H e s _ fun v H1 d f1 s1 p1 r1 => h1 σ H1 (e.mono f1) s1 _ fun H2 f2 s2 => h2 σ H2 (e.mono (f1.trans f2)) s2 _ fun H3 f3 s3 => by
    subst p1
    cases r1 with
    | lst n hs r => exact ⟨_, _, rfl, f3.sqL n (f2.sqL n hs), fun p hp => q _ _ _ (((f1.trans f2).trans f3).trans (.new hp)) (s3.new hp) rfl (.lst (.inl (s3.ne hp)) (SqL.of upd_same) (rps_cut _ _ (((r.mono f2).mono f3).mono (.new hp))))⟩
theorem sIx_whole {α : Type} {xs : List α} {lo hi : Option Int} (h : HT.sIx xs.length 0 lo = 0 ∧ HT.sIx xs.length xs.length hi = xs.length) : cutD xs lo hi = xs := by
  unfold cutD
  rw [h.1, h.2, List.drop_zero, Nat.sub_zero, List.take_length]
theorem ev_slT {xs : List Dat} {tl th : TO} {lo hi : Option Int} (ha : Ev K S ta ρ (Eq (.tup xs))) (h1 : EvO K S tl ρ lo) (h2 : EvO K S th ρ hi) : Ev K S (tSl (rSlA K) ta tl th) ρ (Eq (.tup (cutD xs lo hi))) := fun σ H e s Q q =>
  ha σ H e s _ fun v H1 d f1 s1 p1 r1 => h1 σ H1 (e.mono f1) s1 _ fun H2 f2 s2 => h2 σ H2 (e.mono (f1.trans f2)) s2 _ fun H3 f3 s3 => by
    subst p1
    cases r1 with
    | tup n hs r =>
      have r3 := (r.mono f2).mono f3
      have hs3 := f3.sqT n (f2.sqT n hs)
      refine ⟨_, _, rfl, hs3, fun w => ?_, fun w p hp => ?_⟩
      · rw [r.length] at w
        refine q _ _ _ ((f1.trans f2).trans f3) s3 rfl ?_
        rw [sIx_whole w]
        exact .tup n hs3 r3
      · exact q _ _ _ (((f1.trans f2).trans f3).trans (.new hp)) (s3.new hp) rfl (.tup (.inl (s3.ne hp)) (SqT.of upd_same) (rps_cut _ _ (r3.mono (.new hp))))
theorem ev_slS {w : Str} {tl th : TO} {lo hi : Option Int} (hl : w.length ≤ sizeLine) (ha : Ev K S ta ρ (Eq (.str w))) (h1 : EvO K S tl ρ lo) (h2 : EvO K S th ρ hi) : Ev K S (tSl rSlS ta tl th) ρ (Eq (.str (cutS w lo hi))) := fun σ H e s Q q =>
  ha σ H e s _ fun v H1 d f1 s1 p1 r1 => h1 σ H1 (e.mono f1) s1 _ fun H2 f2 s2 => h2 σ H2 (e.mono (f1.trans f2)) s2 _ fun H3 f3 s3 => by
    subst p1
    cases r1
    exact ⟨_, rfl, hl, q _ _ _ ((f1.trans f2).trans f3) s3 rfl (.str _)⟩
/-! len -/
def rLen (K : PySem.W.Frag) : List V → Hp → VK → Prop := fun xs H Q => ∃ x n, xs = [x] ∧ LenV K x H n ∧ Q (.int n) H
theorem call_len0 {X : Cx} : CallR X (.builtin "len") (rLen X.K) := call_len
theorem rc1 {rr : List V → Hp → VK → Prop} (h : ∀ v H, Rp K S H v x → StOk S H → ∀ Q : VK, (∀ w, Rp K S H w z → Q w H) → rr [v] H Q) : RC K S rr [x] (Eq z) := fun vs H r s Q q => by
  cases r with
  | cons a t =>
    cases t
    exact h _ H a s Q fun w hw => q w H z .refl s rfl hw
theorem ev_lenT {xs : List Dat} (ha : Ev K S ta ρ (Eq (.tup xs))) : Ev K S (tCB (rLen K) (tCons ta tNil)) ρ (Eq (.int (xs.length : Int))) := ev_cbD (ea_consD ha ea_nil) (rc1 fun v H a s Q q => by
  cases a with
  | tup n hs r => exact ⟨_, _, rfl, Or.inr ⟨_, hs, rfl⟩, by rw [r.length]; exact q _ (.int _)⟩)
theorem ev_lenL {xs : List Dat} (ha : Ev K S ta ρ (Eq (.lst xs))) : Ev K S (tCB (rLen K) (tCons ta tNil)) ρ (Eq (.int (xs.length : Int))) := ev_cbD (ea_consD ha ea_nil) (rc1 fun v H a s Q q => by
  cases a with
  | lst n hs r => exact ⟨_, _, rfl, Or.inl ⟨_, hs, rfl⟩, by rw [r.length]; exact q _ (.int _)⟩)
theorem ev_lenS {w : Str} (hl : w.length ≤ sizeLine) (ha : Ev K S ta ρ (Eq (.str w))) : Ev K S (tCB (rLen K) (tCons ta tNil)) ρ (Eq (.int (w.length : Int))) := ev_cbD (ea_consD ha ea_nil) (rc1 fun v H a s Q q => by
  cases a
  exact ⟨_, _, rfl, ⟨hl, rfl⟩, q _ (.int _)⟩)
/-! isinstance -/
theorem ty_of {v : V} (h : Rp K S H v x) (p : x.plain = true) : TyX K H v (.type x.tyN) := by
  cases h with
  | non => exact .base .non
  | bl b => exact .base (.bl b)
  | int i => exact .base (.int i)
  | str z => exact .base (.str z)
  | tup n hs r =>
    rcases hs with (h | ⟨o, h⟩) | ⟨o, its, k, h1, h2, _⟩
    · exact .base (.tup h)
    · exact .fTuple h
    · exact .kTuple h1 h2
  | lst n hs r =>
    rcases hs with (h | ⟨o, h⟩) | ⟨o, its, k, h1, h2, _⟩
    · exact .base (.lst h)
    · exact .base (.frz h)
    · exact .kList h1 h2
  | dic n h r => exact .base (.dK h)
  | ob n h r => cases p
  | hd n g h r => cases p
  | raw v => cases p
theorem ev_isi {b : String} {r : Bool} (p : x.plain = true) (ha : Ev K S ta ρ (Eq x)) (hk : kitB x.tyN b = some r) : Ev K S (tCB (rIsi K) (tCons ta (tCons (tC (.ty b)) tNil))) ρ (Eq (.bl r)) :=
  ev_cbD (ea_consD ha (ea_consD (ev_raw (v := .ty b)) ea_nil)) fun vs H rr s Q q => by
    cases rr with
    | cons a t =>
      cases t with
      | cons a2 t2 =>
        cases a2
        cases t2
        exact ⟨_, _, _, _, r, rfl, .ty b, ty_of a p, kit_ty hk, q _ H _ .refl s rfl (.bl r)⟩
/-! all, any -/
theorem rps_bls : ∀ {bs : List Bool} {vs : List V}, Rps K S H vs (bs.map Dat.bl) → vs = bs.map V.bl
  | [], _, h => by
    cases h
    rfl
  | b :: bs, _, h => by
    rw [List.map_cons] at h
    cases h with
    | cons a t =>
      cases a
      rw [rps_bls t, List.map_cons]
theorem ev_all {bs : List Bool} (ha : Ev K S ta ρ (Eq (.lst (bs.map Dat.bl)))) : Ev K S (tCB (rAll K) (tCons ta tNil)) ρ (Eq (.bl (bs.all id))) := ev_cbD (ea_consD ha ea_nil) (rc1 fun v H a s Q q => by
  cases a with
  | lst n hs r =>
    rw [rps_bls r] at hs
    exact ⟨_, bs, rfl, hs, q _ (.bl _)⟩)
theorem ev_any {bs : List Bool} (ha : Ev K S ta ρ (Eq (.lst (bs.map Dat.bl)))) : Ev K S (tCB (rAny K) (tCons ta tNil)) ρ (Eq (.bl (bs.any id))) := ev_cbD (ea_consD ha ea_nil) (rc1 fun v H a s Q q => by
  cases a with
  | lst n hs r =>
    rw [rps_bls r] at hs
    exact ⟨_, bs, rfl, hs, q _ (.bl _)⟩)
/-! in: ints and texts among such -/
theorem scs_flat {ds : List Dat} (h : ∀ d ∈ ds, isSc d = true) : (ds.map Dat.flat).all flatV = true := by
  rw [List.all_eq_true]
  intro v hv
  obtain ⟨d, hd, rfl⟩ := List.mem_map.mp hv
  have q := h d hd
  cases d <;> first | rfl | cases q
theorem flat_eqV {d e : Dat} (h1 : isSc d = true) (h2 : isSc e = true) : eqV d.flat e.flat = deq d e := by
  cases d with
  | int i =>
    cases e with
    | int j =>
      rw [deq_int]
      show (i == j) = decide (i = j)
      by_cases c : i = j
      · rw [decide_eq_true c, c, beq_self_eq_true]
      · rw [decide_eq_false c, beq_eq_false_iff_ne.mpr c]
    | str y =>
      rw [deq_ne (d := .int i) (e := .str y) (by intro z; cases z)]
      rfl
    | _ => cases h2
  | str x =>
    cases e with
    | str y =>
      rw [deq_str]
      show (x == y) = decide (x = y)
      by_cases c : x = y
      · rw [decide_eq_true c, c, beq_self_eq_true]
      · rw [decide_eq_false c, beq_eq_false_iff_ne.mpr c]
    | int i =>
      rw [deq_ne (d := .str x) (e := .int i) (by intro z; cases z)]
      rfl
    | _ => cases h2
  | _ => cases h1
noncomputable def inD (x : Dat) (ds : List Dat) : Bool := ds.any fun d => deq d x
theorem inD_iff {x : Dat} {ds : List Dat} : inD x ds = true ↔ x ∈ ds := by
  unfold inD
  rw [List.any_eq_true]
  exact ⟨fun ⟨d, h1, h2⟩ => deq_iff.mp h2 ▸ h1, fun h => ⟨x, h, deq_self⟩⟩
theorem inV_flat {x : Dat} (hx : isSc x = true) : ∀ {ds : List Dat}, (∀ d ∈ ds, isSc d = true) → inV x.flat (ds.map Dat.flat) = inD x ds
  | [], _ => rfl
  | d :: ds, h => by
    have ih := inV_flat hx (ds := ds) fun e he => h e (List.mem_cons_of_mem _ he)
    unfold inV inD at ih ⊢
    rw [List.map_cons, List.any_cons, List.any_cons, ih, flat_eqV (h d List.mem_cons_self) hx]
theorem ev_inT {b : Bool} {ds : List Dat} (hx : isSc x = true) (hd : ∀ d ∈ ds, isSc d = true) (ha : Ev K S ta ρ (Eq x)) (hb : Ev K S tb ρ (Eq (.tup ds))) : Ev K S (tOp (rIn K b) ta tb) ρ (Eq (.bl (if b then !inD x ds else inD x ds))) := ev_opD ha hb (rv_val fun v u H a c s Q q => by
  cases c with
  | tup n hs r =>
    rw [r.flat hd] at hs
    rw [a.flat hx]
    refine ⟨_, _, rfl, .inr hs, ?_, scs_flat hd, ?_⟩
    · cases x <;> first | rfl | cases hx
    · rw [inV_flat hx hd]
      exact q _ (.bl _))
theorem ev_inL {b : Bool} {ds : List Dat} (hx : isSc x = true) (hd : ∀ d ∈ ds, isSc d = true) (ha : Ev K S ta ρ (Eq x)) (hb : Ev K S tb ρ (Eq (.lst ds))) : Ev K S (tOp (rIn K b) ta tb) ρ (Eq (.bl (if b then !inD x ds else inD x ds))) := ev_opD ha hb (rv_val fun v u H a c s Q q => by
  cases c with
  | lst n hs r =>
    rw [r.flat hd] at hs
    rw [a.flat hx]
    refine ⟨_, _, rfl, .inl hs, ?_, scs_flat hd, ?_⟩
    · cases x <;> first | rfl | cases hx
    · rw [inV_flat hx hd]
      exact q _ (.bl _))
end
end Sh
/-! sorted of data; what is walked; comprehensions; for loops -/
namespace Sh
open PySem PySem.Spec PyProof.Rows L2

def dle (x y : Dat) : Bool := PySem.W.dataLe false Dat.py x y
noncomputable def srt (ds : List Dat) : List Dat := ds.mergeSort dle
structure CanSort (ds : List Dat) : Prop where
  al : PySem.W.AllAlike (ds.map Dat.py)
  ok : PySem.W.Sortable (ds.map Dat.py)
  fine : ∀ d ∈ ds, EqN 60 d
section
variable {K : PySem.W.Frag} {S : Sc} {H : Hp}
theorem each_of {R : Value → Dat → Prop} : ∀ {xs : List V} {us : List Value} {ds : List Dat}, Vals xs us → Rps K S H xs ds → (∀ v u d, d ∈ ds → RelV v u → Rp K S H v d → R u d) → PySem.W.EachIs R us ds
  | _, _, _, .nil, h, _ => by
    cases h
    exact .nil
  | _, _, _, .cons r t, h, f => by
    cases h with
    | cons a b => exact .cons (f _ _ _ List.mem_cons_self r a) (each_of t b fun v u d hd => f v u d (List.mem_cons_of_mem _ hd))
theorem of_each : ∀ {us : List Value} {ds : List Dat}, PySem.W.EachIs (fun u d => ∃ v, RelV v u ∧ Rp K S H v d) us ds → ∃ ys, Vals ys us ∧ Rps K S H ys ds
  | _, _, .nil => ⟨[], .nil, .nil⟩
  | _, _, .cons ⟨v, r, h⟩ t => by
    obtain ⟨ys, a, b⟩ := of_each t
    exact ⟨v :: ys, .cons r a, .cons h b⟩
end
section
variable {X : Cx}
def rSrt (K : PySem.W.Frag) : List V → Hp → VK → Prop := fun vs H Q => ∃ (S : Sc) (a : Addr) (xs : List V) (ds : List Dat), vs = [.ref a] ∧ SqL K H a xs ∧ Rps K S H xs ds ∧ CanSort ds ∧
  ∀ (p : Addr) (ys : List V), H p = none → Rps K S H ys (srt ds) → Q (.ref p) (upd H p (.lst ys))
theorem call_srt (hu : X.A.units + 64 < cLine) : CallR X (.builtin "sorted") (rSrt X.K) := by
  intro pins s σ H vs us Q I r h
  obtain ⟨S, a, xs, ds, rfl, hs, hr, c, q⟩ := h
  obtain ⟨its, rv, hl, hz⟩ := I.list hs
  rw [Vals.ref1 r]
  have hlen : ds.length ≤ sizeLine := by rw [← hr.length]; exact hz
  have e1 := each_of (R := fun u d => ∃ v, RelV v u ∧ Rp X.K S H v d) rv hr fun v u d _ q1 q2 => ⟨v, q1, q2⟩
  have e2 := each_of (R := fun u d => ∃ as, Reads s.heap u d.py as) rv hr fun v u d hd q1 q2 => Dp.reads I d.py v u (q2.dp (c.fine d hd).fine) q1
  refine PySem.W.sorted_data (enc := Dat.py) hl.isList e1 e2 c.al c.ok hlen (fun d hd => by have := (c.fine d hd).dep; omega) fun out hout he => ?_
  obtain ⟨ys, h1, h2⟩ := of_each he
  obtain ⟨ep, he'⟩ := PyProof.Rows.sortedAll_at s.heap its out.toArray
  have hlen2 : ys.length ≤ sizeLine := by rw [h1.length, hout]; exact hlen
  exact ⟨.ref _, upd H (s.heap.objs.size + 1) (.lst ys), I.laid (t' := s.toks) (fun _ _ => PyProof.Rows.sortedAll_old) (Nat.le_succ _) ⟨hlen2, out, ep, h1, he'⟩, rfl, q _ _ (I.hok.fresh (Nat.le_succ _)) h2⟩
end
section
variable {K : PySem.W.Frag} {S : Sc} {ρ : Rho} {ta tb te : TE} {x y z : Dat} {H : Hp}
theorem ev_srt {xs : List Dat} (c : CanSort xs) (ha : Ev K S ta ρ (Eq (.lst xs))) : Ev K S (tCB (rSrt K) (tCons ta tNil)) ρ (Eq (.lst (srt xs))) := ev_cbD (ea_consD ha ea_nil) fun vs H r s Q q => by
  cases r with
  | cons a t =>
    cases t
    cases a with
    | lst n hs r => exact ⟨S, _, _, _, rfl, hs, r, c, fun p ys hp hy => q _ _ _ (.new hp) (s.new hp) rfl (.lst (.inl (s.ne hp)) (SqL.of upd_same) (hy.mono (.new hp)))⟩
end
/-! ### what is walked -/
/-- S' leaves what S leaves, and new places -/
structure Sub (S S' : Sc) (H1 : Hp) : Prop where
  st : S'.st = S.st
  ex : ∀ a ∈ S'.ex, a ∈ S.ex ∨ H1 a = none
theorem Sub.refl {S : Sc} {H : Hp} : Sub S S H := ⟨rfl, fun _ h => .inl h⟩
theorem Sub.but {S : Sc} {H : Hp} {D : Addr} (h : H D = none) : Sub S (S.but D) H := ⟨rfl, fun a z => (List.mem_cons.mp z).elim (fun e => .inr (by rw [e]; exact h)) .inl⟩
theorem Rps.sub {K : PySem.W.Frag} {S S' : Sc} {H : Hp} (b : Sub S S' H) {vs : List V} {ds : List Dat} (h : Rps K S H vs ds) : Rps K S' H vs ds := h.to fun a o ha n => ⟨by rw [b.st]; exact n.1, fun z => (b.ex a z).elim n.2 fun e => by rw [ha] at e; cases e⟩
theorem Rp.sub {K : PySem.W.Frag} {S S' : Sc} {H : Hp} (b : Sub S S' H) {vs : V} {ds : Dat} (h : Rp K S H vs ds) : Rp K S' H vs ds := h.to fun a o ha n => ⟨by rw [b.st]; exact n.1, fun z => (b.ex a z).elim n.2 fun e => by rw [ha] at e; cases e⟩
/-- at each turn the next datum comes -/
def Goes (K : PySem.W.Frag) (S : Sc) (J : It) (H1 : Hp) (xs : List Dat) : Prop := ∀ (S' : Sc) (H' : Hp) (i : Nat), Sub S S' H1 → Fr S H1 H' → StOk S' H' →
  (∀ x, xs[i]? = some x → J.go i H' ∧ ∀ v H2, J.yld i H' v H2 → Fr S H' H2 ∧ StOk S' H2 ∧ Rp K S' H2 v x) ∧ (i = xs.length → J.stop i H')
def IEv (K : PySem.W.Frag) (S : Sc) (wi : TI) (ρ : Rho) (P : List Dat → Prop) : Prop :=
  ∀ σ H, EnvR K S H σ ρ → StOk S H → ∀ R : It → Hp → Prop, (∀ J H1 xs, Fr S H H1 → StOk S H1 → P xs → Goes K S J H1 xs → R J H1) → wi σ H R
def Agr (is : List Nat) (σ σ' : L2.St) : Prop := σ'.length = σ.length ∧ ∀ j, j ∉ is → σ'[j]? = σ[j]?
/-- a target takes a datum: the names at is change -/
def GEv (K : PySem.W.Frag) (S : Sc) (g : TG) (is : List Nat) (ρ : Rho) (x : Dat) (ρ' : Rho) : Prop :=
  ∀ v σ H, Rp K S H v x → EnvR K S H σ ρ → ∀ Q : L2.St → Hp → Prop, (∀ σ', EnvR K S H σ' ρ' → Agr is σ σ' → Q σ' H) → g v σ H Q
section
variable {K : PySem.W.Frag} {S : Sc} {ρ : Rho} {ta tb te : TE} {x y z : Dat} {H : Hp} {g : TG}
theorem ie_list {xs : List Dat} (ha : Ev K S ta ρ (Eq (.lst xs))) : IEv K S (iList K ta) ρ (Eq xs) := fun σ H e s R k => ha σ H e s _ fun v H1 d f1 s1 p1 r1 => by
  subst p1
  cases r1 with
  | @lst a vs _ n hs r =>
    refine ⟨a, rfl, ⟨_, hs⟩, k _ _ _ f1 s1 rfl fun S' H' i sb f' s' => ⟨fun x hx => ?_, fun hx => ?_⟩⟩
    · obtain ⟨v, h1, h2⟩ := (r.sub sb).get hx
      refine ⟨⟨vs, v, f'.sqL n hs, h1⟩, fun w H2 hw => ?_⟩
      obtain ⟨rfl, h3⟩ := hw
      have h4 := h3 vs (f'.sqL n hs)
      rw [h1] at h4
      cases h4
      exact ⟨.refl, s', h2.mono (f'.to sb.st)⟩
    · refine ⟨vs, f'.sqL n hs, ?_⟩
      rw [r.length]
      exact Nat.le_of_eq hx.symm
theorem ie_tup {xs : List Dat} (ha : Ev K S ta ρ (Eq (.tup xs))) : IEv K S (iTup K ta) ρ (Eq xs) := fun σ H e s R k => ha σ H e s _ fun v H1 d f1 s1 p1 r1 => by
  subst p1
  cases r1 with
  | @tup a vs _ n hs r =>
    refine ⟨a, rfl, ⟨_, hs⟩, k _ _ _ f1 s1 rfl fun S' H' i sb f' s' => ⟨fun x hx => ?_, fun hx => ?_⟩⟩
    · obtain ⟨v, h1, h2⟩ := (r.sub sb).get hx
      refine ⟨⟨vs, v, f'.sqT n hs, h1⟩, fun w H2 hw => ?_⟩
      obtain ⟨rfl, h3⟩ := hw
      have h4 := h3 vs (f'.sqT n hs)
      rw [h1] at h4
      cases h4
      exact ⟨.refl, s', h2.mono (f'.to sb.st)⟩
    · refine ⟨vs, f'.sqT n hs, ?_⟩
      rw [r.length]
      exact Nat.le_of_eq hx.symm
def rngD (n : Nat) : List Dat := (List.range n).map fun (i : Nat) => Dat.int (i : Int)
theorem ie_range {P : Int → Prop} {tr : TA} (h : EvA K S tr ρ (fun ds => ∃ j, ds = [.int j] ∧ P j)) (hj : ∀ j, P j → -(2 ^ 62) ≤ j ∧ j < 2 ^ 62) : IEv K S (iRng1 tr) ρ (fun xs => ∃ j, P j ∧ xs = rngD j.toNat) := fun σ H e s R k =>
  h σ H e s _ fun vs H1 ds f1 s1 p1 r1 => by
    obtain ⟨j, rfl, hp⟩ := p1
    cases r1 with
    | cons a t =>
      cases t
      cases a
      refine ⟨j, rfl, (hj j hp).1, (hj j hp).2, k _ _ _ f1 s1 ⟨j, hp, rfl⟩ fun S' H' i sb f' s' => ⟨fun x hx => ?_, fun hx => ?_⟩⟩
      · have hi : i < j.toNat := by
          have := (List.getElem?_eq_some_iff.mp hx).1
          simpa [rngD] using this
        refine ⟨hi, fun w H2 hw => ?_⟩
        obtain ⟨rfl, rfl⟩ := hw
        have e : x = .int (i : Int) := by
          simp [rngD, hi] at hx
          exact hx.symm
        subst e
        refine ⟨.refl, s', ?_⟩
        rw [Int.zero_add]
        exact .int _
      · show j.toNat ≤ i
        simp [rngD] at hx
        omega
theorem ie_rangeD {j : Int} {tr : TA} (h : EvA K S tr ρ (Eq [.int j])) (hj : -(2 ^ 62) ≤ j ∧ j < 2 ^ 62) : IEv K S (iRng1 tr) ρ (Eq (rngD j.toNat)) := fun σ H e s R k =>
  ie_range (P := Eq j) (fun σ H e s Q q => h σ H e s Q fun vs H' ds f s' p r => q vs H' ds f s' ⟨j, p.symm, rfl⟩ r) (fun _ e => e ▸ hj) σ H e s R fun J H1 xs f s' p => k J H1 xs f s' (by obtain ⟨_, rfl, e⟩ := p; exact e.symm)
/-- the signs of a text, each a text -/
def sgnD (w : Str) : List Dat := w.cps.toList.map fun c => Dat.str ⟨#[c]⟩
theorem ie_str {w : Str} (ha : Ev K S ta ρ (Eq (.str w))) : IEv K S (iStr ta) ρ (Eq (sgnD w)) := fun σ H e s R k => ha σ H e s _ fun v H1 d f1 s1 p1 r1 => by
  subst p1
  cases r1
  refine ⟨w, rfl, k _ _ _ f1 s1 rfl fun S' H' i sb f' s' => ⟨fun x hx => ?_, fun hx => ?_⟩⟩
  · have hi : i < w.cps.size := by
      have := (List.getElem?_eq_some_iff.mp hx).1
      simpa [sgnD] using this
    refine ⟨hi, fun u H2 hw => ?_⟩
    obtain ⟨rfl, c, hc, rfl⟩ := hw
    have e : x = .str ⟨#[c]⟩ := by
      have hx : (w.cps.toList.map fun c => Dat.str ⟨#[c]⟩)[i]? = some x := hx
      rw [List.getElem?_map, Array.getElem?_toList, hc] at hx
      cases hx
      rfl
    subst e
    exact ⟨.refl, s', .str _⟩
  · show w.cps.size ≤ i
    simp [sgnD] at hx
    omega
/-! targets -/
theorem g_name {i : Nat} : GEv K S (gName i) [i] ρ x (ρ.set i (some x)) := fun v σ H r e Q q => q _ (e.set r) ⟨List.length_set, fun j hj => by
  rw [List.getElem?_set_ne]
  intro h
  exact hj (by simp [h])⟩
theorem Agr.trans {is js : List Nat} {σ σ1 σ2 : L2.St} (a : Agr is σ σ1) (b : Agr js σ1 σ2) : Agr (is ++ js) σ σ2 := ⟨b.1.trans a.1, fun j hj => by
  rw [List.mem_append, not_or] at hj
  exact (b.2 j hj.2).trans (a.2 j hj.1)⟩
/-- a, b = a pair -/
theorem g_two {i j : Nat} : GEv K S (gTup K 2 (gCons (gName i) (gCons (gName j) gNil))) [i, j] ρ (.tup [x, y]) ((ρ.set i (some x)).set j (some y)) := fun v σ H r e Q q => by
  cases r with
  | tup n hs r =>
    cases r with
    | cons a t =>
      cases t with
      | cons b t =>
        cases t
        refine ⟨_, _, rfl, hs, rfl, _, _, rfl, _, _, rfl, rfl, q _ ((e.set a).set b) ⟨by rw [List.length_set, List.length_set], fun k hk => ?_⟩⟩
        rw [List.getElem?_set_ne (fun z => hk (by simp [z])), List.getElem?_set_ne (fun z => hk (by simp [z]))]
theorem g_three {i j k : Nat} : GEv K S (gTup K 3 (gCons (gName i) (gCons (gName j) (gCons (gName k) gNil)))) [i, j, k] ρ (.tup [x, y, z]) (((ρ.set i (some x)).set j (some y)).set k (some z)) := fun v σ H r e Q q => by
  cases r with
  | tup n hs r =>
    cases r with
    | cons a t =>
      cases t with
      | cons b t =>
        cases t with
        | cons c t =>
          cases t
          refine ⟨_, _, rfl, hs, rfl, _, _, rfl, _, _, rfl, _, _, rfl, rfl, q _ (((e.set a).set b).set c) ⟨by rw [List.length_set, List.length_set, List.length_set], fun k hk => ?_⟩⟩
          rw [List.getElem?_set_ne (fun z => hk (by simp [z])), List.getElem?_set_ne (fun z => hk (by simp [z])), List.getElem?_set_ne (fun z => hk (by simp [z]))]
/-- a, b, c, d = a list of four -/
theorem g_four {w : Dat} {i j k l : Nat} : GEv K S (gLst K 4 (gCons (gName i) (gCons (gName j) (gCons (gName k) (gCons (gName l) gNil))))) [i, j, k, l] ρ (.lst [x, y, z, w]) ((((ρ.set i (some x)).set j (some y)).set k (some z)).set l (some w)) := fun v σ H r e Q q => by
  cases r with
  | lst n hs r =>
    cases r with
    | cons a t =>
      cases t with
      | cons b t =>
        cases t with
        | cons c t =>
          cases t with
          | cons d t =>
            cases t
            refine ⟨_, _, rfl, hs, rfl, _, _, rfl, _, _, rfl, _, _, rfl, _, _, rfl, rfl, q _ ((((e.set a).set b).set c).set d) ⟨by rw [List.length_set, List.length_set, List.length_set, List.length_set], fun k hk => ?_⟩⟩
            rw [List.getElem?_set_ne (fun z => hk (by simp [z])), List.getElem?_set_ne (fun z => hk (by simp [z])), List.getElem?_set_ne (fun z => hk (by simp [z])), List.getElem?_set_ne (fun z => hk (by simp [z]))]
end
/-! ### comprehensions -/
theorem wipe_get (σ : L2.St) (vs : List Nat) (j : Nat) (h : j ∈ vs) : (wipe σ vs)[j]? = if j < σ.length then some none else none := by
  induction vs with
  | nil => cases h
  | cons v vs ih =>
    show ((wipe σ vs).set v none)[j]? = _
    by_cases c : v = j
    · subst c
      by_cases l : v < σ.length
      · rw [List.getElem?_set_self (by rw [wipe_length]; exact l), if_pos l]
      · rw [List.getElem?_eq_none (by rw [List.length_set, wipe_length]; omega), if_neg l]
    · rw [List.getElem?_set_ne c]
      exact ih ((List.mem_cons.mp h).resolve_left fun z => c z.symm)
theorem wipe_agr {is vs : List Nat} {σ σ2 : L2.St} (a : Agr is (wipe σ vs) σ2) (h : ∀ i ∈ is, i ∈ vs) : wipe σ2 vs = wipe σ vs := by
  have hl : σ2.length = σ.length := by rw [a.1, wipe_length]
  apply List.ext_getElem?
  intro j
  by_cases c : j ∈ vs
  · rw [wipe_get σ2 vs j c, wipe_get σ vs j c, hl]
  · rw [wipe_out c, a.2 j (fun z => c (h j z))]
def wipeR (vs : List Nat) (ρ : Rho) : Rho := vs.foldr (fun i r => r.set i none) ρ
section
variable {K : PySem.W.Frag} {S : Sc} {ρ : Rho} {ta tb te : TE} {x y z : Dat} {H : Hp} {g : TG}
/-- [te for g in wi if tt]: Acc by the turn and the list so far -/
theorem ev_lc {wi : TI} {tt : TT} {vs is : List Nat} {P : List Dat → Prop} {R : Dat → Prop} (hw : IEv K S wi ρ P) (hi : ∀ i ∈ is, i ∈ vs) (Acc : List Dat → Nat → List Dat → Prop) (hz : ∀ xs, P xs → xs.length < sizeLine)
    (h0 : ∀ xs, P xs → Acc xs 0 []) (hl : ∀ xs i acc, P xs → Acc xs i acc → acc.length ≤ i)
    (step : ∀ (S' : Sc), S'.Like S → ∀ (xs : List Dat) (i : Nat) (x : Dat) (acc : List Dat), P xs → xs[i]? = some x → Acc xs i acc → ∃ ρ' b P2, GEv K S' g is (wipeR vs ρ) x ρ' ∧ EvT K S' tt ρ' (Eq b) ∧ (b = true → Ev K S' te ρ' P2 ∧ ∀ d, P2 d → Acc xs (i + 1) (acc ++ [d])) ∧ (b = false → Acc xs (i + 1) acc))
    (hd : ∀ xs acc, P xs → Acc xs xs.length acc → R (.lst acc)) : Ev K S (tLc wi g tt te vs) ρ R := fun σ H e s Q q => hw σ H e s _ fun J H1 xs f1 s1 p1 go D hD => by
  have sb : Sub S (S.but D) H1 := .but hD
  have nD : S.no D := s1.ne hD
  have e1 : EnvR K (S.but D) H1 σ ρ := (e.mono f1).but hD
  refine ⟨fun i m H' => m + i = xs.length ∧ Fr S H1 H' ∧ StOk (S.but D) H' ∧ ∃ ys acc, H' D = some (.lst ys) ∧ Rps K (S.but D) H' ys acc ∧ Acc xs i acc,
    ⟨xs.length, rfl, .new hD, s1.but hD, [], [], upd_same, .nil, h0 xs p1⟩, fun i m H' ⟨hm, f', s', ys, acc, hy, ry, ha⟩ => ?_⟩
  obtain ⟨g1, g2⟩ := go (S.but D) H' i sb f' s'
  cases hx : xs[i]? with
  | none =>
    have := List.getElem?_eq_none_iff.mp hx
    have e : i = xs.length := by omega
    exact .inl ⟨g2 e, q (.ref D) H' (.lst acc) (f1.trans f') s'.unbut (hd xs acc p1 (e ▸ ha)) (.lst (.inl nD) (SqL.of hy) ry.unbut)⟩
  | some x =>
    obtain ⟨hgo, hyld⟩ := g1 x hx
    have hil : i < xs.length := (List.getElem?_eq_some_iff.mp hx).1
    refine .inr ⟨hgo, fun H2 => (Fr S H1 H2 ∧ StOk (S.but D) H2 ∧ ∃ ys acc, H2 D = some (.lst ys) ∧ Rps K (S.but D) H2 ys acc ∧ Acc xs (i + 1) acc), fun H2 h => ⟨m - 1, by omega, by omega, h⟩, fun v H2 hv => ?_⟩
    obtain ⟨f2, s2, r2⟩ := hyld v H2 hv
    obtain ⟨ρ', b, P2, k1, k2, k3, k4⟩ := step (S.but D) .but xs i x acc p1 hx ha
    have up : ∀ {A B : Hp}, Fr S A B → Fr (S.but D) A B := fun f => f.to rfl
    have dn : ∀ {A B : Hp}, Fr (S.but D) A B → Fr S A B := fun f => f.to rfl
    refine k1 v (wipe σ vs) H2 r2 ((e1.mono (up (f'.trans f2))).wipe vs) _ fun σ2 e2 a2 => ⟨wipe_agr a2 hi, k2 σ2 H2 e2 s2 _ fun c H3 f3 s3 hc => ?_⟩
    subst hc
    cases b with
    | false => exact ⟨(f'.trans f2).trans (dn f3), s3, ys, acc, f3 _ _ nD.1 (f2 _ _ nD.1 hy), (ry.mono (up f2)).mono f3, k4 rfl⟩
    | true =>
      obtain ⟨k5, k6⟩ := k3 rfl
      refine k5 σ2 H3 (e2.mono f3) s3 _ fun w H4 d f4 s4 p4 r4 => ?_
      have hy4 : H4 D = some (.lst ys) := f4 _ _ nD.1 (f3 _ _ nD.1 (f2 _ _ nD.1 hy))
      have hlen : ys.length < sizeLine := by
        rw [ry.length]
        exact Nat.lt_of_le_of_lt (Nat.le_trans (hl xs i acc p1 ha) (Nat.le_of_lt hil)) (hz xs p1)
      have ry4 : Rps K (S.but D) H4 ys acc := ((ry.mono (up f2)).mono f3).mono f4
      have dm : D ∈ (S.but D).ex := List.mem_cons_self
      exact ⟨ys, hy4, hlen, (((f'.trans f2).trans (dn f3)).trans (dn f4)).put hD, s4.put fun z => nD.1 (s4.sub D z), _, _, upd_same, (ry4.at_ex dm).snoc (r4.at_ex dm), k6 d p4⟩
theorem et_yes : EvT K S tYes ρ (Eq true) := fun σ H e s Q q => q true H .refl s rfl
/-- each item gives one, none is left out: F by the item -/
theorem ev_lcMap {wi : TI} {vs is : List Nat} {P : List Dat → Prop} (F : Dat → Dat → Prop) (hw : IEv K S wi ρ P) (hi : ∀ i ∈ is, i ∈ vs) (hz : ∀ xs, P xs → xs.length < sizeLine)
    (step : ∀ (S' : Sc), S'.Like S → ∀ (xs : List Dat) (i : Nat) (x : Dat), P xs → xs[i]? = some x → ∃ ρ', GEv K S' g is (wipeR vs ρ) x ρ' ∧ Ev K S' te ρ' (F x)) :
    Ev K S (tLc wi g tYes te vs) ρ (fun d => ∃ xs ys, P xs ∧ d = .lst ys ∧ ys.length = xs.length ∧ ∀ (i : Nat) (x y : Dat), xs[i]? = some x → ys[i]? = some y → F x y) :=
  ev_lc hw hi (fun xs i acc => acc.length = i ∧ ∀ (j : Nat) (x y : Dat), xs[j]? = some x → acc[j]? = some y → F x y) hz (fun xs _ => ⟨rfl, fun j x y _ h => by simp at h⟩) (fun _ _ _ _ h => Nat.le_of_eq h.1)
    (fun S' hS xs i x acc p hx ha => by
      obtain ⟨ρ', k1, k2⟩ := step S' hS xs i x p hx
      refine ⟨ρ', true, F x, k1, et_yes, fun _ => ⟨k2, fun d hd => ⟨by rw [List.length_append, ha.1]; rfl, fun j z y h1 h2 => ?_⟩⟩, fun z => by cases z⟩
      by_cases c : j < acc.length
      · rw [List.getElem?_append_left c] at h2
        exact ha.2 j z y h1 h2
      · rw [List.getElem?_append_right (by omega)] at h2
        have hj : j - acc.length = 0 := by
          cases q : j - acc.length with
          | zero => rfl
          | succ n =>
            rw [q] at h2
            simp at h2
        have hji : j = i := by omega
        subst hji
        rw [hx] at h1
        cases h1
        rw [hj] at h2
        simp at h2
        rw [← h2]
        exact hd)
    fun xs acc p ha => ⟨xs, acc, p, rfl, ha.1, ha.2⟩
/-- those of a list that pass, each by a function -/
theorem ev_lcFil {wi : TI} {tt : TT} {vs is : List Nat} {xs : List Dat} (b : Dat → Bool) (f : Dat → Dat) (hw : IEv K S wi ρ (Eq xs)) (hi : ∀ i ∈ is, i ∈ vs) (hz : xs.length < sizeLine)
    (step : ∀ (S' : Sc), S'.Like S → ∀ x, x ∈ xs → ∃ ρ', GEv K S' g is (wipeR vs ρ) x ρ' ∧ EvT K S' tt ρ' (Eq (b x)) ∧ (b x = true → Ev K S' te ρ' (Eq (f x)))) :
    Ev K S (tLc wi g tt te vs) ρ (Eq (.lst ((xs.filter b).map f))) :=
  ev_lc hw hi (fun xs i acc => acc = ((xs.take i).filter b).map f) (fun _ e => e ▸ hz) (fun _ _ => by simp) (fun xs i acc _ h => by
      rw [h, List.length_map]
      exact Nat.le_trans (List.length_filter_le _ _) (by rw [List.length_take]; omega))
    (fun S' hS xs' i x acc p hx ha => by
      subst p
      obtain ⟨ρ', k1, k2, k3⟩ := step S' hS x (List.mem_of_getElem? hx)
      have ht : xs.take (i + 1) = xs.take i ++ [x] := by rw [List.take_succ, hx]; rfl
      refine ⟨ρ', b x, Eq (f x), k1, k2, fun hb => ⟨k3 hb, fun d hd => ?_⟩, fun hb => ?_⟩
      · rw [ht, List.filter_append, List.map_append, ← ha, ← hd]
        simp [hb]
      · rw [ht, List.filter_append, List.map_append, ← ha]
        simp [hb])
    fun xs acc p ha => by
      rw [ha, List.take_length, p]
theorem ev_lcMapD {wi : TI} {vs is : List Nat} {xs : List Dat} (f : Dat → Dat) (hw : IEv K S wi ρ (Eq xs)) (hi : ∀ i ∈ is, i ∈ vs) (hz : xs.length < sizeLine)
    (step : ∀ (S' : Sc), S'.Like S → ∀ x, x ∈ xs → ∃ ρ', GEv K S' g is (wipeR vs ρ) x ρ' ∧ Ev K S' te ρ' (Eq (f x))) : Ev K S (tLc wi g tYes te vs) ρ (Eq (.lst (xs.map f))) :=
  (ev_lcFil (fun _ => true) f hw hi hz fun S' hS x hx => by
    obtain ⟨ρ', h1, h2⟩ := step S' hS x hx
    exact ⟨ρ', h1, et_yes, fun _ => h2⟩).is (by rw [List.filter_eq_self.mpr fun _ _ => rfl])
theorem ev_allMap {wi : TI} {vs is : List Nat} {xs : List Dat} (b : Dat → Bool) (hw : IEv K S wi ρ (Eq xs)) (hi : ∀ i ∈ is, i ∈ vs) (hz : xs.length < sizeLine)
    (step : ∀ (S' : Sc), S'.Like S → ∀ x, x ∈ xs → ∃ ρ', GEv K S' g is (wipeR vs ρ) x ρ' ∧ Ev K S' te ρ' (Eq (.bl (b x)))) : Ev K S (tCB (rAll K) (tCons (tLc wi g tYes te vs) tNil)) ρ (Eq (.bl (xs.all b))) :=
  (ev_all (bs := xs.map b) ((ev_lcMapD (fun x => .bl (b x)) hw hi hz step).is (by rw [List.map_map]; rfl))).is (by rw [List.all_map]; rfl)
theorem ev_anyMap {wi : TI} {vs is : List Nat} {xs : List Dat} (b : Dat → Bool) (hw : IEv K S wi ρ (Eq xs)) (hi : ∀ i ∈ is, i ∈ vs) (hz : xs.length < sizeLine)
    (step : ∀ (S' : Sc), S'.Like S → ∀ x, x ∈ xs → ∃ ρ', GEv K S' g is (wipeR vs ρ) x ρ' ∧ Ev K S' te ρ' (Eq (.bl (b x)))) : Ev K S (tCB (rAny K) (tCons (tLc wi g tYes te vs) tNil)) ρ (Eq (.bl (xs.any b))) :=
  (ev_any (bs := xs.map b) ((ev_lcMapD (fun x => .bl (b x)) hw hi hz step).is (by rw [List.map_map]; rfl))).is (by rw [List.any_map]; rfl)
end
/-! ### for -/
section
variable {K : PySem.W.Frag} {S : Sc} {ρ : Rho} {g : TG} {t : TS} {O : Out}
theorem s_for {wi : TI} {is : List Nat} {P : List Dat → Prop} (hw : IEv K S wi ρ P) (Inv : List Dat → Nat → Rho → Prop) (h0 : ∀ xs, P xs → Inv xs 0 ρ)
    (step : ∀ (xs : List Dat) (i : Nat) (x : Dat) (ρ1 : Rho), P xs → xs[i]? = some x → Inv xs i ρ1 → ∃ ρ2, GEv K S g is ρ1 x ρ2 ∧ SEv K S t ρ2 { O with nx := Inv xs (i + 1), ct := Inv xs (i + 1), bk := O.nx })
    (hd : ∀ xs ρ1, P xs → Inv xs xs.length ρ1 → O.nx ρ1) : SEv K S (tFor wi g t) ρ O := fun σ H e s D n r b c => hw σ H e s _ fun J H1 xs f1 s1 p1 go => by
  refine ⟨fun i m σ' H' => m + i = xs.length ∧ Fr S H1 H' ∧ StOk S H' ∧ ∃ ρ1, EnvR K S H' σ' ρ1 ∧ Inv xs i ρ1, ⟨xs.length, rfl, .refl, s1, ρ, e.mono f1, h0 xs p1⟩, fun i m σ' H' ⟨hm, f', s', ρ1, e', hi⟩ => ?_⟩
  obtain ⟨g1, g2⟩ := go S H' i .refl f' s'
  cases hx : xs[i]? with
  | none =>
    have := List.getElem?_eq_none_iff.mp hx
    have e0 : i = xs.length := by omega
    exact .inl ⟨g2 e0, n σ' H' ρ1 (f1.trans f') s' e' (hd xs ρ1 p1 (e0 ▸ hi))⟩
  | some x =>
    obtain ⟨hgo, hyld⟩ := g1 x hx
    have hil : i < xs.length := (List.getElem?_eq_some_iff.mp hx).1
    refine .inr ⟨hgo, fun σ2 H2 => (Fr S H1 H2 ∧ StOk S H2 ∧ ∃ ρ1, EnvR K S H2 σ2 ρ1 ∧ Inv xs (i + 1) ρ1), fun σ2 H2 h => ⟨m - 1, by omega, by omega, h⟩, fun v H2 hv => ?_⟩
    obtain ⟨f2, s2, r2⟩ := hyld v H2 hv
    obtain ⟨ρ2, k1, k2⟩ := step xs i x ρ1 p1 hx hi
    have f12 := (f1.trans f').trans f2
    refine k1 v σ' H2 r2 (e'.mono f2) _ fun σ2 e2 a2 => k2 σ2 H2 e2 s2 _ (fun σ3 H3 ρ3 f3 s3 e3 k => ⟨(f'.trans f2).trans f3, s3, ρ3, e3, k⟩) (fun v H3 d f3 s3 k r3 => r v H3 d (f12.trans f3) s3 k r3)
      (fun σ3 H3 ρ3 f3 s3 e3 k => n σ3 H3 ρ3 (f12.trans f3) s3 e3 k) (fun σ3 H3 ρ3 f3 s3 e3 k => ⟨(f'.trans f2).trans f3, s3, ρ3, e3, k⟩)
/-- a target = e, of several names -/
theorem s_asg {te : TE} {is : List Nat} {x : Dat} {ρ' : Rho} (h : Ev K S te ρ (Eq x)) (hg : GEv K S g is ρ x ρ') (k : O.nx ρ') : SEv K S (tAsg te g) ρ O := fun σ H e s D n r b c =>
  h σ H e s _ fun v H1 d f1 s1 p1 r1 => by
    subst p1
    exact hg v σ H1 r1 (e.mono f1) _ fun σ' e' a' => n σ' H1 ρ' f1 s1 e' k
end
end Sh
/-! short rules for the text; a def by its data -/
namespace Sh
open PySem PySem.Spec PyProof.Rows L2

/-- built-in names that no module binds -/
structure Bn (mg : Str → Option Value) : Prop where
  len : mg "len" = none
  isi : mg "isinstance" = none
  all : mg "all" = none
  any : mg "any" = none
  sorted : mg "sorted" = none
  set : mg "set" = none
  list : mg "list" = none
  tuple : mg "tuple" = none
  dict : mg "dict" = none
  int : mg "int" = none
  str : mg "str" = none
  bool : mg "bool" = none
  range : mg "range" = none
  enumerate : mg "enumerate" = none
  zip : mg "zip" = none
theorem boot_all : bootBuiltins "all" = some (.builtin "all") := by decide +kernel
theorem boot_any : bootBuiltins "any" = some (.builtin "any") := by decide +kernel
theorem boot_sorted : bootBuiltins "sorted" = some (.builtin "sorted") := by decide +kernel
theorem boot_isi : bootBuiltins "isinstance" = some (.builtin "isinstance") := by decide +kernel
theorem kb_NoneType_int : kitB "NoneType" "int" = some false := by decide +kernel
theorem kb_NoneType_str : kitB "NoneType" "str" = some false := by decide +kernel
theorem kb_NoneType_tuple : kitB "NoneType" "tuple" = some false := by decide +kernel
theorem kb_NoneType_list : kitB "NoneType" "list" = some false := by decide +kernel
theorem kb_NoneType_dict : kitB "NoneType" "dict" = some false := by decide +kernel
theorem kb_int_int : kitB "int" "int" = some true := by decide +kernel
theorem kb_int_bool : kitB "int" "bool" = some false := by decide +kernel
theorem kb_int_str : kitB "int" "str" = some false := by decide +kernel
theorem kb_int_tuple : kitB "int" "tuple" = some false := by decide +kernel
theorem kb_int_list : kitB "int" "list" = some false := by decide +kernel
theorem kb_int_dict : kitB "int" "dict" = some false := by decide +kernel
theorem kb_str_int : kitB "str" "int" = some false := by decide +kernel
theorem kb_str_str : kitB "str" "str" = some true := by decide +kernel
theorem kb_str_tuple : kitB "str" "tuple" = some false := by decide +kernel
theorem kb_str_list : kitB "str" "list" = some false := by decide +kernel
theorem kb_str_dict : kitB "str" "dict" = some false := by decide +kernel
theorem kb_tuple_int : kitB "tuple" "int" = some false := by decide +kernel
theorem kb_tuple_str : kitB "tuple" "str" = some false := by decide +kernel
theorem kb_tuple_tuple : kitB "tuple" "tuple" = some true := by decide +kernel
theorem kb_tuple_list : kitB "tuple" "list" = some false := by decide +kernel
theorem kb_tuple_dict : kitB "tuple" "dict" = some false := by decide +kernel
theorem kb_list_int : kitB "list" "int" = some false := by decide +kernel
theorem kb_list_str : kitB "list" "str" = some false := by decide +kernel
theorem kb_list_tuple : kitB "list" "tuple" = some false := by decide +kernel
theorem kb_list_list : kitB "list" "list" = some true := by decide +kernel
theorem kb_list_dict : kitB "list" "dict" = some false := by decide +kernel
theorem kb_dict_int : kitB "dict" "int" = some false := by decide +kernel
theorem kb_dict_str : kitB "dict" "str" = some false := by decide +kernel
theorem kb_dict_tuple : kitB "dict" "tuple" = some false := by decide +kernel
theorem kb_dict_list : kitB "dict" "list" = some false := by decide +kernel
theorem kb_dict_dict : kitB "dict" "dict" = some true := by decide +kernel
section
variable {X : Cx} {e e2 : Expr} {es : List Expr} {te t2 : TE} {p pos p2 : Pos}
theorem pe_len (b : Bn X.mg) (he : PE X e te) (hg : Gl X "len" := by rfl) (h1 : starEach [e] X.env = (false, eval e X.env) :: starEach [] X.env := by rfl) : PE X (.Call (.Name "len" p) [e] [] pos) (tCB (rLen X.K) (tCons te tNil)) :=
  pe_callB call_len0 hg b.len PySem.boot_len (pa_cons he pa_nil h1) (by decide) (by decide) h1 rfl
theorem pe_all (b : Bn X.mg) (he : PE X e te) (hc : X.calm = true := by rfl) (hg : Gl X "all" := by rfl) (h1 : starEach [e] X.env = (false, eval e X.env) :: starEach [] X.env := by rfl) : PE X (.Call (.Name "all" p) [e] [] pos) (tCB (rAll X.K) (tCons te tNil)) :=
  pe_callB (cr_all hc) hg b.all boot_all (pa_cons he pa_nil h1) (by decide) (by decide) h1 rfl
theorem pe_any (b : Bn X.mg) (he : PE X e te) (hc : X.calm = true := by rfl) (hg : Gl X "any" := by rfl) (h1 : starEach [e] X.env = (false, eval e X.env) :: starEach [] X.env := by rfl) : PE X (.Call (.Name "any" p) [e] [] pos) (tCB (rAny X.K) (tCons te tNil)) :=
  pe_callB (cr_any hc) hg b.any boot_any (pa_cons he pa_nil h1) (by decide) (by decide) h1 rfl
theorem pe_srt (b : Bn X.mg) (hu : X.A.units + 64 < cLine) (he : PE X e te) (hg : Gl X "sorted" := by rfl) (h1 : starEach [e] X.env = (false, eval e X.env) :: starEach [] X.env := by rfl) : PE X (.Call (.Name "sorted" p) [e] [] pos) (tCB (rSrt X.K) (tCons te tNil)) :=
  pe_callB (call_srt hu) hg b.sorted boot_sorted (pa_cons he pa_nil h1) (by decide) (by decide) h1 rfl
/-- isinstance(e, T) -/
theorem pe_isi {T : Str} {n : String} (b : Bn X.mg) (hT : X.mg T = none) (hb : bootBuiltins T = some (.type n)) (he : PE X e te) (hg : Gl X "isinstance" := by rfl) (hgT : Gl X T := by rfl) (hn : T ≠ "__name__" := by decide) (hd : (T == ("__debug__" : Str)) = false := by decide)
    (h1 : starEach [e, .Name T p2] X.env = (false, eval e X.env) :: starEach [.Name T p2] X.env := by rfl) (h2 : starEach [.Name T p2] X.env = (false, eval (.Name T p2) X.env) :: starEach [] X.env := by rfl)
    (h3 : (backTo pos (starEach [.Name T p2] X.env)).any (·.1) = false := by rfl) : PE X (.Call (.Name "isinstance" p) [e, .Name T p2] [] pos) (tCB (rIsi X.K) (tCons te (tCons (tC (.ty n)) tNil))) :=
  pe_callB call_isi hg b.isi boot_isi (pa_cons he (pa_cons (pe_bltn (v := .ty n) hgT hT hb rfl hn hd) pa_nil h2) h1) (by decide) (by decide) h1 h3
end
section
variable {X : Cx} {x : Str} {pos : Pos}
theorem pe_gI {n : Int} (h : ∃ t, X.mg x = some (.int n t)) (hg : Gl X x := by rfl) (hd : (x == ("__debug__" : Str)) = false := by decide) : PE X (.Name x pos) (tC (.int n)) := by
  obtain ⟨t, h⟩ := h
  exact pe_glob hg h ⟨t, rfl⟩ hd
theorem pe_gR {a : Addr} (h : X.mg x = some (.ref a)) (hg : Gl X x := by rfl) (hd : (x == ("__debug__" : Str)) = false := by decide) : PE X (.Name x pos) (tC (.ref a)) := pe_glob hg h rfl hd
end
/-! a def that others call, a method that others call -/
structure Cl (P : Program) (w : World) (K : PySem.W.Frag) (mg : Str → Option Value) (base : Heap) (x : Str) (k : Nat) (ps : List Str) (sp : Sp) : Prop where
  ex : ∃ f fd, FnOk P w K mg base CX0 k f fd ps sp ∧ mg x = some (.ref f) ∧ PySem.W.keepIn K (.ref f) = true ∧ Binds K fd ps []
structure Ml (P : Program) (w : World) (K : PySem.W.Frag) (mg : Str → Option Value) (base : Heap) (C : Addr) (x : Str) (k : Nat) (ps : List Str) (sp : Sp) : Prop where
  ex : ∃ f fd, FnOk P w K mg base CX0 k f fd ps sp ∧ Meth K C x f ∧ Binds K fd ps []
  cls : Cls K C
section
variable {X : Cx} {k : Nat} {C : Addr} {ps : List Str} {sp : Sp} {x m : Str} {p pos apos : Pos} {e o : Expr} {es : List Expr} {ta : TE} {t : TA}
theorem pe_fn (c : Cl X.prog X.w X.K X.mg X.base x k ps sp) (hr : Room k X.A) (ha : PA X (e :: es) t) (hg : Gl X x := by rfl) (hdb : (x == ("__debug__" : Str)) = false := by decide)
    (he : starEach (e :: es) X.env = (false, eval e X.env) :: starEach es X.env := by rfl) (hpl : (backTo pos (starEach es X.env)).any (·.1) = false := by rfl) : PE X (.Call (.Name x p) (e :: es) [] pos) (tCall sp [] E0 t) := by
  obtain ⟨f, fd, F, h1, h2, h3⟩ := c.ex
  exact pe_call F hr hg h1 h2 h3 .nil pass0 ha hdb he hpl
theorem pe_fn0 (c : Cl X.prog X.w X.K X.mg X.base x k ps sp) (hr : Room k X.A) (hg : Gl X x := by rfl) (hdb : (x == ("__debug__" : Str)) = false := by decide) : PE X (.Call (.Name x p) [] [] pos) (tCall sp [] E0 tNil) := by
  obtain ⟨f, fd, F, h1, h2, h3⟩ := c.ex
  exact pe_call0 F hr hg h1 h2 h3 .nil pass0 hdb
theorem pe_mt {pl : Sem Bool} (c : Ml X.prog X.w X.K X.mg X.base C m k ps sp) (hr : Room k X.A) (ho : PE X o ta) (ha : PA X (e :: es) t)
    (he : starEach (e :: es) X.env = (false, eval e X.env) :: starEach es X.env := by rfl) (hpl : (backTo pos (starEach es X.env)).any (·.1) = false := by rfl)
    (ht : eval (.Call (.Attribute o m apos) (e :: es) [] pos) X.env = (do
      let ov ← eval o X.env
      standAt apos.atName
      let (f, first) ← holding [ov] (getMethod ov m pl)
      callWith pos f first (backTo pos (starEach (e :: es) X.env)) (backToKw pos (keywordEach [] X.env))) := by rfl) : PE X (.Call (.Attribute o m apos) (e :: es) [] pos) (tMeth C m sp [] E0 ta t) := by
  obtain ⟨f, fd, F, h1, h2⟩ := c.ex
  exact pe_meth ho c.cls h1 F hr h2 .nil pass0 ha he hpl ht
theorem pe_mt0 {pl : Sem Bool} (c : Ml X.prog X.w X.K X.mg X.base C m k ps sp) (hr : Room k X.A) (ho : PE X o ta)
    (ht : eval (.Call (.Attribute o m apos) [] [] pos) X.env = (do
      let ov ← eval o X.env
      standAt apos.atName
      let (f, first) ← holding [ov] (getMethod ov m pl)
      callWith pos f first (backTo pos (starEach [] X.env)) (backToKw pos (keywordEach [] X.env))) := by rfl) : PE X (.Call (.Attribute o m apos) [] [] pos) (tMeth C m sp [] E0 ta tNil) := by
  obtain ⟨f, fd, F, h1, h2⟩ := c.ex
  exact pe_meth0 ho c.cls h1 F hr h2 .nil pass0 ht
end
theorem u65 {k : Nat} {A : Around} (r : Room k A) : A.units + 65 < cLine := by have := r.un; omega
/-- a def by the data of its body -/
theorem ok_of {P : Program} {w : World} {K : PySem.W.Frag} {mg : Str → Option Value} {base : Heap} {x qual : Str} {st : Stmt} {f : Addr} {fd : FuncData} {N ps : List Str} {k : Nat} {pre : Sc → List Dat → Prop} {post : List Dat → Dat → Prop}
    (F : Fun K x qual st f fd) (sc : FnScope N ps (defScope st)) (hl : ∀ S ds, pre S ds → ds.length = ps.length)
    (hb : ∀ (cdv : Value) (A : Around) (outer : List Env) (s : Shared) (H : Hp) (E : XK), Room k (A.deeper (envOfC qual (defScope st) s.heap.objs.size f cdv)) →
      ∃ t, PSs (cxOf CX0 P w K mg base N qual (defScope st) f cdv A outer s H E).nox (defBody st) t ∧ ∀ S ds, pre S ds → SEv K S t (ds.map some ++ List.replicate (N.length - ds.length) none) { nx := fun _ => post ds .non, rt := post ds }) :
    FnOk P w K mg base CX0 (k + 1) f fd ps (SpD K pre post) := by
  refine F.ok sc (fun vs H Q E h => ?_) (fun cdv A outer s H vs Q E hr h => ?_)
  · obtain ⟨S, ds, r, s, p, q⟩ := h
    rw [r.length]
    exact hl S ds p
  · obtain ⟨t, h1, h2⟩ := hb cdv A outer s H E hr
    refine ⟨t, h1, sp_of h ?_ fun S ds p _ => h2 S ds p⟩
    obtain ⟨S, ds, r, s, p, q⟩ := h
    rw [r.length, hl S ds p]
    have h3 := congrArg List.length sc.pre
    rw [List.length_take] at h3
    omega
end Sh
/-! enumerate of a tuple; zip of tuples by data -/
namespace PySem
set_option maxHeartbeats 4000000 in
theorem meets_enum1B {v : Value} {o : Obj} {H : Heap → Prop} (B : Begins v o H) :
    Meets (Builtin.«enumerate.__new__» ⟨[.type "enumerate", v], []⟩) (fun _ R s => H s.heap ∧
      R (.ok (.ret (.ref (s.heap.push o).objs.size))) { s with heap := (s.heap.push o).push { cls := .type "enumerate", data := .fields #[.none, .bool false, .ref s.heap.objs.size, rawInt 0, .none, .none] } }) :=
  .of_wp fun prog w A R s h => by
    obtain ⟨hp, g, d, tk, os⟩ := s
    obtain ⟨h1, h⟩ := h
    have hsub := sub_enumerate
    have it1 : ∀ {A' : Around} {E : Value → Shared → Prop} {Q : Value → Shared → Prop}, Q (.ref hp.objs.size) ⟨hp.push o, g, d, tk, os⟩ → wpAny (model prog w) A' (pyIter v) Q E ⟨hp, g, d, tk, os⟩ := fun q =>
      B.iter prog w _ _ ⟨hp, g, d, tk, os⟩ _ h1 q
    wp_walk using it1
    refine wpAny_stack_any fun st => wpAny_pure ?_
    split
    · rename_i c _ _ _ _ _
      cases (c == Value.type "enumerate") <;> (wp_walk using it1; exact ⟨_, rfl, h⟩)
    · wp_walk using it1
      exact ⟨_, rfl, h⟩
theorem enum1_begins {prog : Program} {w : World} {A : Around} {E : Value → Shared → Prop} {s : Shared} {v : Value} {o : Obj} {H : Heap → Prop} {Q : Value → Shared → Prop} (B : Begins v o H) (h1 : H s.heap)
    (h : ∀ h', IsEnum h' (s.heap.objs.size + 1) s.heap.objs.size 0 .none → h'.get? s.heap.objs.size = some o → (∀ b o, s.heap.get? b = some o → h'.get? b = some o) → Q (.ref (s.heap.objs.size + 1)) { s with heap := h' }) :
    wpAny (model prog w) A (call (.type "enumerate") [v]) Q E s := by
  refine callType_new F.called_enumerate (by decide) (F.typeCall_enumerate_1 _) (F.newCall_enumerate_1 _) (fun obj => F.args_object_init_2 obj _) F.entry_enumerate_new (meets_enum1B B) ⟨h1, ?_⟩
  have hz : (s.heap.push o).objs.size = s.heap.objs.size + 1 := Heap.size_push ..
  show _ ∧ _
  rw [hz]
  have he : IsEnum ((s.heap.push o).push { cls := .type "enumerate", data := .fields #[.none, .bool false, .ref s.heap.objs.size, rawInt 0, .none, .none] }) (s.heap.objs.size + 1) s.heap.objs.size 0 .none := by
    have q := Heap.get?_push_size (s.heap.push o) (o := { cls := .type "enumerate", data := .fields #[.none, .bool false, .ref s.heap.objs.size, rawInt 0, .none, .none] }) rfl
    rw [hz] at q
    exact q
  exact ⟨⟨_, he, rfl⟩, h _ he (Heap.get?_push_of_some _ (Heap.get?_push_size _ B.free)) fun b o x => Heap.get?_push_of_some _ (Heap.get?_push_of_some _ x)⟩
end PySem
namespace Sh
open PySem PySem.Spec PyProof.Rows L2
/-- the tuple at a, each item in a new pair -/
def ItE (K : PySem.W.Frag) (a : Addr) : It :=
  ⟨fun i H => ∃ (xs : List V) (x : V), SqT K H a xs ∧ xs[i]? = some x, fun i H v H' => ∃ T x, v = .ref T ∧ H T = none ∧ H' = upd H T (.tup [.int (i : Nat), x]) ∧ ∀ xs, SqT K H a xs → xs[i]? = some x, fun i H => ∃ xs : List V, SqT K H a xs ∧ xs.length = i⟩
theorem apart_it {h : Heap} {a it : Addr} {its : Array Value} {i : Nat} (p : h.IsTuple a its) (q : h.IsTupleIter it a i) : a ≠ it := by
  rintro rfl
  obtain ⟨o, ho, hc, _⟩ := p
  obtain ⟨o', ho', hc', _⟩ := q
  rw [ho] at ho'
  cases ho'
  rw [hc] at hc'
  injection hc' with z
  exact absurd z (by decide)
theorem turn_enumT {P : Program} {w : World} {K : PySem.W.Frag} {elts : List Expr} {kk : Nat} {tpos : Pos} (a e it : Addr) :
    Turn P w K (.Tuple elts kk tpos) (ItE K a) [e, it] e (fun i h => (∃ old, IsEnum h e it ((i : Nat) : Int) old) ∧ h.IsTupleIter it a i ∧ e ≠ it) where
  mem := List.mem_cons_self
  obj := fun i h ⟨⟨old, he⟩, ⟨o, ho, _, hd⟩, _⟩ b hb => by
    rcases List.mem_cons.mp hb with rfl | hb
    · exact ⟨_, he, fun v q => nomatch q⟩
    · rw [List.mem_singleton.mp hb]
      exact ⟨o, ho, fun v q => by rw [hd] at q; cases q⟩
  keep := fun i h h' ⟨⟨old, he⟩, hi, hne⟩ k => ⟨⟨old, k e (by simp) _ he⟩, hi.at fun o q => k it (by simp) o q, hne⟩
  item := by
    rintro X rfl rfl rfl hc i pins s σ H E I hf ⟨⟨old, he⟩, hit, hne⟩ ⟨xs, x, hq, hx⟩
    obtain ⟨its, rv, p, hz⟩ := I.tuple hq
    have pt : s.heap.IsTuple a its.toArray := p
    obtain ⟨u, hu, ru⟩ := rv.get hx
    have hel : e < s.heap.objs.size := Heap.lt_size he
    have hil : it < s.heap.objs.size := by
      obtain ⟨_, q, _⟩ := hit
      exact Heap.lt_size q
    have hat := apart_it pt hit
    have hae : e ∉ [it, a] := by
      intro z
      rcases List.mem_cons.mp z with z | z
      · exact hne z
      · have z := List.mem_singleton.mp z
        obtain ⟨o, ho, hc1, _⟩ := pt
        rw [← z] at ho
        have he : s.heap.get? e = some _ := he
        rw [he] at ho
        cases ho
        injection hc1 with z
        exact absurd z (by decide)
    have hlt : i < its.toArray.size := by
      have := (List.getElem?_eq_some_iff.mp hu).1
      simpa using this
    refine wpAny_pyNext_enum_itemC (Draws.tuple (A := X.A.in1) (I.ok.hd hc) it a hat its.toArray) he ⟨hit, pt⟩ hlt hne hae fun y h' tk hy ho ⟨hit', _⟩ hT hsz hk => ?_
    have eyu : y = u := by
      have q : its.toArray[i]? = some u := by simpa using hu
      rw [q] at hy
      cases hy
      rfl
    subst eyu
    refine ⟨_, rfl, wpAny_letOwnedTupleGo_enum (s := { s with heap := h', toks := tk + 1 }) ho fun h'' he' sb => ?_⟩
    have hT2 : h''.get? s.heap.objs.size = some { cls := .type "tuple", data := .seq #[.int i tk, y] } := (sb.2 _ (Nat.ne_of_gt hel)).trans hT
    have new : ObjOk X.prog X.w (upd H s.heap.objs.size (.tup [.int (i : Nat), x])) h'' s.heap.objs.size (.tup [.int (i : Nat), x]) :=
      ⟨(by decide : 2 ≤ sizeLine), [.int i tk, y], .cons ⟨_, rfl⟩ (.cons ru .nil), ⟨_, hT2, rfl, _, rfl⟩⟩
    have far : ∀ b, b ∉ [e, it] → b ≠ e ∧ b ≠ it := fun b hb => ⟨fun z => hb (by simp [z]), fun z => hb (by simp [z])⟩
    have I1 : Inv X pins σ (upd H s.heap.objs.size (.tup [.int (i : Nat), x])) { s with heap := h'', toks := tk + 1 } :=
      I.turnedNew (ch := [e, it]) (fun b ob hb q => (sb.2 b (far b hb).1).trans (hk b ob (far b hb).1 (far b hb).2 q)) hf (Nat.le_refl _) new
    refine ⟨.ref s.heap.objs.size, _, I1, rfl, ⟨_, x, rfl, I.hok.fresh (Nat.le_refl _), rfl, fun ys hy => by rw [I.tuple_inj hy hq]; exact hx⟩, ⟨⟨y, ?_⟩, hit'.at fun o q => (sb.2 it (Ne.symm hne)).trans q, hne⟩, fun b hb => ?_⟩
    · rw [show ((i + 1 : Nat) : Int) = (i : Int) + 1 by omega]
      exact he'
    · have hb' : b < s.heap.objs.size := by
        rcases List.mem_cons.mp hb with rfl | hb
        · exact hel
        · rw [List.mem_singleton.mp hb]
          exact hil
      rw [upd_ne (Nat.ne_of_lt hb')]
      exact (hf b hb).1
  done := by
    rintro X rfl rfl rfl hc i pins s σ H E I hf ⟨⟨old, he⟩, hit, hne⟩ ⟨xs, hq, hx⟩
    obtain ⟨its, rv, p, hz⟩ := I.tuple hq
    have pt : s.heap.IsTuple a its.toArray := p
    obtain ⟨f0, f1, f2, f3, f4, f5⟩ := hf it (by simp)
    have e1 : its.toArray.size = i := by
      rw [List.size_toArray, ← rv.length]
      exact hx
    refine wpAny_pyNext_enum_endD (Draws.tuple (A := X.A.in1) (I.ok.hd hc) it a (apart_it pt hit) its.toArray) he ⟨by rw [e1]; exact hit, pt⟩ fun h' eb => ⟨rfl, I.turned (t' := s.toks) (fun b o hb q => eb b o hb q) f0 f1 f3 f4 f5⟩
  self := fun A i s Q E ⟨⟨_, he⟩, _⟩ h => wpAny_pyIter_enum he h
def iEnumT (K : PySem.W.Frag) (ta : TA) : TI := fun σ H R => ta σ H fun vs H1 => ∃ a xs, vs = [.ref a] ∧ SqT K H1 a xs ∧ R (ItE K a) H1
theorem pi_enumT {X : Cx} {e : Expr} {ta : TA} {p pos tpos : Pos} {elts : List Expr} {kk : Nat} (hg : Gl X "enumerate") (hm : X.mg "enumerate" = none) (ha : PA X [e] ta) (hs : starEach [e] X.env = [(false, eval e X.env)] := by rfl) :
    PI X (.Tuple elts kk tpos) (.Call (.Name "enumerate" p) [e] [] pos) (iEnumT X.K ta) := by
  refine ⟨fun pins s σ H R I h => ?_⟩
  refine Call_ (ld_blt I hg hm boot_enumerate (PyProof.Rows.callWith_type1 (thn (ha.run pos pins s σ H _ I h) fun us s1 ⟨vs, H1, I1, r1, q1⟩ => ?_) hs rfl))
  obtain ⟨a, xs, rfl, hq, q⟩ := q1
  rw [Vals.ref1 r1]
  obtain ⟨its, rv, p', hz⟩ := I1.tuple hq
  have pt : s1.heap.IsTuple a its.toArray := p'
  refine enum1_begins (begins_tuple a its.toArray) pt fun h' he hi hk => wpAny_pyIter_enum he ?_
  have hit : h'.IsTupleIter s1.heap.objs.size a 0 := ⟨_, hi, rfl, rfl⟩
  have I2 : Inv X pins σ H1 { s1 with heap := h' } := I1.kept (t' := s1.toks) hk
  refine ⟨s1.heap.objs.size + 1, [s1.heap.objs.size + 1, s1.heap.objs.size], _, _, H1, rfl, I2, turn_enumT a (s1.heap.objs.size + 1) s1.heap.objs.size, ⟨⟨.none, he⟩, hit, Nat.succ_ne_self _⟩, fun b hb => ?_, q⟩
  have hle : s1.heap.objs.size ≤ b := by
    rcases List.mem_cons.mp hb with rfl | hb
    · exact Nat.le_succ _
    · rw [List.mem_singleton.mp hb]
      exact Nat.le_refl _
  exact I1.fpOk hle (I1.hok.fresh hle)
/-! by data -/
def enumD (n : Nat) : List Dat → List Dat
  | [] => []
  | x :: xs => .tup [.int (n : Int), x] :: enumD (n + 1) xs
theorem enumD_get : ∀ (xs : List Dat) (n i : Nat), (enumD n xs)[i]? = xs[i]?.map fun x => .tup [.int ((n + i : Nat) : Int), x]
  | [], n, i => by simp [enumD]
  | x :: xs, n, 0 => by simp [enumD]
  | x :: xs, n, i + 1 => by
    simp only [enumD, List.getElem?_cons_succ]
    rw [enumD_get xs (n + 1) i, show n + 1 + i = n + (i + 1) by omega]
theorem enumD_len : ∀ (xs : List Dat) (n : Nat), (enumD n xs).length = xs.length
  | [], n => rfl
  | x :: xs, n => by
    show (enumD (n + 1) xs).length + 1 = _
    rw [enumD_len xs (n + 1), List.length_cons]
section
variable {K : PySem.W.Frag} {S : Sc} {ρ : Rho} {ta : TA}
theorem ie_enumT {xs : List Dat} (h : EvA K S ta ρ (Eq [.tup xs])) : IEv K S (iEnumT K ta) ρ (Eq (enumD 0 xs)) := fun σ H e s R k => h σ H e s _ fun vs H1 ds f1 s1 p1 r1 => by
  subst p1
  cases r1 with
  | cons r t =>
    cases t
    cases r with
    | @tup a ws _ n hs r =>
      refine ⟨a, _, rfl, hs, k _ _ _ f1 s1 rfl fun S' H' i sb f' s' => ⟨fun x hx => ?_, fun hx => ?_⟩⟩
      · rw [enumD_get] at hx
        cases hy : xs[i]? with
        | none =>
          rw [hy] at hx
          cases hx
        | some y =>
          rw [hy] at hx
          cases hx
          obtain ⟨v, h1, h2⟩ := (r.sub sb).get hy
          refine ⟨⟨ws, v, f'.sqT n hs, h1⟩, fun w H2 hw => ?_⟩
          obtain ⟨T, z, rfl, hT, rfl, h3⟩ := hw
          have h4 := h3 ws (f'.sqT n hs)
          rw [h1] at h4
          cases h4
          refine ⟨.new hT, s'.new hT, .tup (.inl (s'.ne hT)) (SqT.of upd_same) (.cons ?_ (.cons ((h2.mono (f'.to sb.st)).mono (.new hT)) .nil))⟩
          rw [Nat.zero_add]
          exact .int _
      · refine ⟨ws, f'.sqT n hs, ?_⟩
        rw [r.length, hx, enumD_len]
def zipD : List Dat → List Dat → List Dat
  | x :: xs, y :: ys => .tup [x, y] :: zipD xs ys
  | _, _ => []
theorem zipD_get : ∀ (xs ys : List Dat) (i : Nat) (z : Dat), (zipD xs ys)[i]? = some z → ∃ x y, xs[i]? = some x ∧ ys[i]? = some y ∧ z = .tup [x, y]
  | [], _, i, z, h => by simp [zipD] at h
  | _ :: _, [], i, z, h => by simp [zipD] at h
  | x :: xs, y :: ys, 0, z, h => by
    simp [zipD] at h
    exact ⟨x, y, rfl, rfl, h.symm⟩
  | x :: xs, y :: ys, i + 1, z, h => by
    simp only [zipD, List.getElem?_cons_succ] at h
    simpa using zipD_get xs ys i z h
theorem zipD_len : ∀ (xs ys : List Dat), (zipD xs ys).length = min xs.length ys.length
  | [], _ => by simp [zipD]
  | _ :: _, [] => by simp [zipD]
  | x :: xs, y :: ys => by
    simp only [zipD, List.length_cons, zipD_len xs ys]
    omega
theorem ie_zipT {xs ys : List Dat} (h : EvA K S ta ρ (Eq [.tup xs, .tup ys])) : IEv K S (RZ.iZipA K ta) ρ (Eq (zipD xs ys)) := fun σ H e s R k => h σ H e s _ fun vs H1 ds f1 s1 p1 r1 => by
  subst p1
  cases r1 with
  | cons r t =>
    cases t with
    | cons r2 t =>
      cases t
      cases r with
      | @tup a us _ n hs r =>
        cases r2 with
        | @tup b ws _ n2 hs2 r2 =>
          refine ⟨a, b, us, ws, rfl, .inr ⟨hs, hs2, k _ _ _ f1 s1 rfl fun S' H' i sb f' s' => ⟨fun z hz => ?_, fun hx => ?_⟩⟩⟩
          · obtain ⟨x, y, hx, hy, rfl⟩ := zipD_get xs ys i z hz
            obtain ⟨v, h1, h2⟩ := (r.sub sb).get hx
            obtain ⟨u, h3, h4⟩ := (r2.sub sb).get hy
            refine ⟨⟨us, ws, v, u, f'.sqT n hs, f'.sqT n2 hs2, h1, h3⟩, fun w H2 hw => ?_⟩
            obtain ⟨T, v', u', rfl, hT, rfl, k1, k2⟩ := hw
            have e1 := k1 us (f'.sqT n hs)
            have e2 := k2 ws (f'.sqT n2 hs2)
            rw [h1] at e1
            rw [h3] at e2
            cases e1
            cases e2
            exact ⟨.new hT, s'.new hT, .tup (.inl (s'.ne hT)) (SqT.of upd_same) (.cons ((h2.mono (f'.to sb.st)).mono (.new hT)) (.cons ((h4.mono (f'.to sb.st)).mono (.new hT)) .nil))⟩
          · refine ⟨us, ws, f'.sqT n hs, f'.sqT n2 hs2, ?_⟩
            rw [r.length, r2.length]
            rw [zipD_len] at hx
            omega
end
end Sh
/-! values: the defs that look at names, values, rows -/
namespace Sh
open PySem PySem.Spec PyProof.Rows L2
def top (i : Nat) : Stmt := PySem.Challenge.pw_shardask_k64_settle.main.body.getD i (.Pass ⟨0, 0, 0, 0⟩)
/-- a text of letters, of at most eight -/
structure Word (x : Str) : Prop where
  low : ∀ c ∈ x.cps.toList, 97 ≤ c ∧ c ≤ 122
  len : x.length ≤ 8
theorem Word.ok {x : Str} (h : Word x) : PyData.strOk x = true := by
  unfold PyData.strOk
  rw [← Array.all_toList, List.all_eq_true]
  intro c hc
  have := h.low c hc
  simp
  omega
theorem Word.line {x : Str} (h : Word x) : x.length ≤ sizeLine := Nat.le_trans h.len (by decide)
def words : List Str := ["and", "by", "count", "down", "first", "group", "join", "keep", "least", "most", "named", "on", "sum", "table", "up", "where", "with"]
structure NameOk (x : Str) : Prop extends Word x where
  one : 1 ≤ x.length
  no : x ∉ words
/-- a value of a kind -/
def ValK (k : Str) (d : Dat) : Prop := (k = "number" ∧ ∃ i, d = .int i) ∨ (k = "word" ∧ ∃ x, d = .str x ∧ Word x)
def isInt : Dat → Bool
  | .int _ => true
  | _ => false
/-- the module's constants -/
structure Txt (K : PySem.W.Frag) (mg : Str → Option Value) (aW aK : Addr) : Prop where
  b : Bn mg
  g_WORDS : mg "WORDS" = some (.ref aW)
  WORDS : SqT K NoHp aW (words.map V.str)
  g_KINDS : mg "KINDS" = some (.ref aK)
  KINDS : SqT K NoHp aK [.str "number", .str "word"]
  g_MOST_LETTERS : ∃ t, mg "MOST_LETTERS" = some (.int 8 t)
  g_MOST_COLUMNS : ∃ t, mg "MOST_COLUMNS" = some (.int 8 t)
  g_MOST_HOUSES : ∃ t, mg "MOST_HOUSES" = some (.int 6 t)
  g_MOST_CUTS_towns : ∃ t, mg "MOST_CUTS_towns" = some (.int 8 t)
section
variable {P : Program} {w : World} {K : PySem.W.Frag} {mg : Str → Option Value} {base : Heap} {aW aK : Addr} {f : Addr} {fd : FuncData}
/-- is_whole -/
abbrev s_is_whole : Stmt := top 17
theorem sc_is_whole : FnScope ["thing"] ["thing"] (defScope s_is_whole) := ⟨rfl, rfl, rfl, by decide +kernel, rfl, by decide +kernel, by decide +kernel⟩
def notB : Dat → Bool
  | .bl _ => false
  | _ => true
def preWhole : Sc → List Dat → Prop := fun _ ds => ∃ d, ds = [d] ∧ d.plain = true ∧ notB d = true
def postWhole : List Dat → Dat → Prop := fun ds r => ∃ d, ds = [d] ∧ r = .bl (isInt d)
theorem ok_is_whole (F : Fun K "is_whole" "is_whole" s_is_whole f fd) (T : Txt K mg aW aK) : FnOk P w K mg base CX0 1 f fd ["thing"] (SpD K preWhole postWhole) := by
  refine ok_of F sc_is_whole (fun S ds ⟨d, h, _⟩ => by rw [h]; rfl) fun cdv A outer s H E hr => ?_
  have nd := sc_is_whole.nd
  refine ⟨_, (pss_one (ps_ret (pe_and (pe_isi T.b T.b.int boot_int (pv 0)) (pe_one (pe_not (pe_isi T.b T.b.bool boot_bool (pv 0))))))), ?_⟩
  rintro S ds ⟨d, rfl, hp, hb⟩
  have e1 : Ev K S (tVar 0) [some d] (Eq d) := ev_var rfl
  cases d with
  | int i => exact s_retD (ev_andV (ev_isi hp e1 (r := true) kb_int_int) fun _ => ev_notV (ev_isi hp e1 (r := false) kb_int_bool)) ⟨_, rfl, rfl⟩
  | str x => exact s_retD (ev_andV (b := true) (ev_isi hp e1 (r := false) kb_str_int) fun z => nomatch z) ⟨_, rfl, rfl⟩
  | non => exact s_retD (ev_andV (b := true) (ev_isi hp e1 (r := false) kb_NoneType_int) fun z => nomatch z) ⟨_, rfl, rfl⟩
  | tup xs => exact s_retD (ev_andV (b := true) (ev_isi hp e1 (r := false) kb_tuple_int) fun z => nomatch z) ⟨_, rfl, rfl⟩
  | lst xs => exact s_retD (ev_andV (b := true) (ev_isi hp e1 (r := false) kb_list_int) fun z => nomatch z) ⟨_, rfl, rfl⟩
  | dic xs => exact s_retD (ev_andV (b := true) (ev_isi hp e1 (r := false) kb_dict_int) fun z => nomatch z) ⟨_, rfl, rfl⟩
  | bl b => cases hb
  | ob C fs => cases hp
  | hd xs => cases hp
  | raw v => cases hp
theorem sgn_low {x : Str} (h : Word x) : (sgnD x).all (fun d => sLe (.str "a") d && sLe d (.str "z")) = true := by
  rw [List.all_eq_true]
  intro d hd
  obtain ⟨c, hc, rfl⟩ := List.mem_map.mp hd
  obtain ⟨h1, h2⟩ := h.low c hc
  have e1 : ("a" : Str).cps.toList = [97] := rfl
  have e2 : ("z" : Str).cps.toList = [122] := rfl
  have e3 : (⟨#[c]⟩ : Str).cps.toList = [c] := rfl
  rw [sLe_str, sLe_str, e1, e2, e3]
  have q1 : ¬ [c] < [97] := by
    intro z
    have := List.cons_lt_cons_iff.mp z
    simp at this
    omega
  have q2 : ¬ [122] < [c] := by
    intro z
    have := List.cons_lt_cons_iff.mp z
    simp at this
    omega
  rw [decide_eq_false q1, decide_eq_false q2]
  rfl
/-- is_letters -/
abbrev s_is_letters : Stmt := top 18
theorem sc_is_letters : FnScope ["thing", "least", "letter"] ["thing", "least"] (defScope s_is_letters) := ⟨rfl, rfl, rfl, by decide +kernel, rfl, by decide +kernel, by decide +kernel⟩
def pre_is_letters : Sc → List Dat → Prop := fun _ ds => ∃ x k, ds = [.str x, .int k] ∧ Word x ∧ k ≤ x.length
def post_is_letters : List Dat → Dat → Prop := fun _ r => r = .bl true
theorem ok_is_letters (F : Fun K "is_letters" "is_letters" s_is_letters f fd) (T : Txt K mg aW aK) : FnOk P w K mg base CX0 1 f fd ["thing", "least"] (SpD K pre_is_letters post_is_letters) := by
  refine ok_of F sc_is_letters (fun S ds ⟨x, k, h, _⟩ => by rw [h]; rfl) fun cdv A outer s H E hr => ?_
  have nd := sc_is_letters.nd
  have hu := hr.units
  have hu0 := hr.units0
  have hu1 := hu_of hr
  have hu65 := u65 hr
  refine ⟨_, (pss_cons (ps_if (PW.pt (pw_or (pt_not (pt_val (pe_isi T.b T.b.str boot_str (pv 0)))) (pw_or1 (pt_not (pt_chain op_leS op_leS (pv 1) (pe_len T.b (pv 0)) (pe_gI T.g_MOST_LETTERS)))))) (pss_one (ps_ret pe_bl)) pss_nil)
      (pss_one (ps_ret (pe_all T.b (pe_lc rfl nd (pi_str (pv 0)) (blkOk_by (own := [("letter", 2)]) (N := ["thing", "least", "letter"]) (sc := defScope s_is_letters) (by decide +kernel)) (fun _ _ _ _ _ => (pg_name (i := 2) nd rfl (Or.inl rfl))) (fun _ _ _ _ _ => pts_nil) (fun _ _ _ _ _ => (pe_chain op_leS op_leS pe_str (pv 2) pe_str))))))), ?_⟩
  rintro S ds ⟨x, k, rfl, hx, hk⟩
  have e0 : ∀ {S : Sc} {z : Option Dat}, Ev K S (tVar 0) [some (.str x), some (.int k), z] (Eq (.str x)) := ev_var rfl
  have e1 : Ev K S (tVar 1) [some (.str x), some (.int k), none] (Eq (.int k)) := ev_var rfl
  refine s_seq (s_no (et_or (et_not (et_BD (ev_isi rfl e0 kb_str_str))) fun _ => et_not (et_testD (ev_chLL rfl rfl e1 (ev_lenS hx.line e0) ev_int))) ?_ (s_next (s_retD ((ev_allMap (is := [2]) (fun d => sLe (.str "a") d && sLe d (.str "z")) (ie_str e0) (by simp) ?_ fun S' hS d hd => ?_).is ?_) rfl)))
  · rw [sLe_int, sLe_int, decide_eq_true hk, decide_eq_true (by have := hx.len; omega)]
    rfl
  · have e := hx.len
    have l : (sgnD x).length = x.length := List.length_map ..
    rw [l]
    exact Nat.lt_of_le_of_lt e (by decide)
  · obtain ⟨c, hc, rfl⟩ := List.mem_map.mp hd
    exact ⟨_, g_name, ev_chLL rfl rfl ev_str (ev_var rfl) ev_str⟩
  · rw [sgn_low hx]
/-- is_name -/
abbrev s_is_name : Stmt := top 19
theorem sc_is_name : FnScope ["thing"] ["thing"] (defScope s_is_name) := ⟨rfl, rfl, rfl, by decide +kernel, rfl, by decide +kernel, by decide +kernel⟩
theorem rps_strs {S : Sc} {H : Hp} : ∀ xs : List Str, Rps K S H (xs.map V.str) (xs.map Dat.str)
  | [] => .nil
  | x :: xs => .cons (.str x) (rps_strs xs)
theorem strs_sc (xs : List Str) : ∀ d ∈ xs.map Dat.str, isSc d = true := fun d hd => by
  obtain ⟨x, _, rfl⟩ := List.mem_map.mp hd
  rfl
def pre_is_name : Sc → List Dat → Prop := fun _ ds => ∃ x, ds = [.str x] ∧ NameOk x
def post_is_name : List Dat → Dat → Prop := fun _ r => r = .bl true
theorem ok_is_name (F : Fun K "is_name" "is_name" s_is_name f fd) (T : Txt K mg aW aK) (c_is_letters : Cl P w K mg base "is_letters" 1 ["thing", "least"] (SpD K pre_is_letters post_is_letters)) : FnOk P w K mg base CX0 2 f fd ["thing"] (SpD K pre_is_name post_is_name) := by
  refine ok_of F sc_is_name (fun S ds ⟨x, h, _⟩ => by rw [h]; rfl) fun cdv A outer s H E hr => ?_
  have nd := sc_is_name.nd
  have hu := hr.units
  have hu0 := hr.units0
  have hu1 := hu_of hr
  have hu65 := u65 hr
  refine ⟨_, (pss_one (ps_ret (pe_and (pe_fn c_is_letters (hr.mono (by decide)) (pa_cons (pv 0) (pa_cons pe_int pa_nil))) (pe_one (pe_cmpR op_notIn_seq (pv 0) (pe_gR T.g_WORDS) (by with_unfolding_all rfl)))))), ?_⟩
  rintro S ds ⟨x, rfl, hx⟩
  have e0 : Ev K S (tVar 0) [some (.str x)] (Eq (.str x)) := ev_var rfl
  have eW : Ev K S (tC (.ref aW)) [some (.str x)] (Eq (.tup (words.map Dat.str))) := ev_c fun H => .tup (.inr T.WORDS) (nohp_t T.WORDS) (rps_strs words)
  refine s_retD ((ev_andV (a := true) (ev_callD (ea_consD e0 (ea_consD ev_int ea_nil)) ⟨x, 1, rfl, hx.toWord, by have := hx.one; omega⟩ fun d h => h.symm) fun _ => ev_inT (b := true) rfl (strs_sc words) e0 eW).is ?_) rfl
  rw [if_pos rfl]
  have q : inD (.str x) (words.map Dat.str) = false := by
    cases c : inD (.str x) (words.map Dat.str) with
    | false => rfl
    | true =>
      obtain ⟨y, hy, e⟩ := List.mem_map.mp (inD_iff.mp c)
      cases e
      exact absurd hy hx.no
  rw [q]
  rfl
/-- is_value -/
abbrev s_is_value : Stmt := top 20
theorem sc_is_value : FnScope ["thing"] ["thing"] (defScope s_is_value) := ⟨rfl, rfl, rfl, by decide +kernel, rfl, by decide +kernel, by decide +kernel⟩
def pre_is_value : Sc → List Dat → Prop := fun _ ds => ∃ k d, ds = [d] ∧ ValK k d
def post_is_value : List Dat → Dat → Prop := fun _ r => r = .bl true
theorem ok_is_value (F : Fun K "is_value" "is_value" s_is_value f fd) (T : Txt K mg aW aK) (c_is_whole : Cl P w K mg base "is_whole" 1 ["thing"] (SpD K preWhole postWhole)) (c_is_letters : Cl P w K mg base "is_letters" 1 ["thing", "least"] (SpD K pre_is_letters post_is_letters)) : FnOk P w K mg base CX0 2 f fd ["thing"] (SpD K pre_is_value post_is_value) := by
  refine ok_of F sc_is_value (fun S ds ⟨k, d, h, _⟩ => by rw [h]; rfl) fun cdv A outer s H E hr => ?_
  have nd := sc_is_value.nd
  have hu := hr.units
  have hu0 := hr.units0
  have hu1 := hu_of hr
  have hu65 := u65 hr
  refine ⟨_, (pss_one (ps_ret (pe_or (pe_fn c_is_whole (hr.mono (by decide)) (pa_cons (pv 0) pa_nil)) (pe_one (pe_fn c_is_letters (hr.mono (by decide)) (pa_cons (pv 0) (pa_cons pe_int pa_nil))))))), ?_⟩
  rintro S ds ⟨k, d, rfl, hd⟩
  have e0 : Ev K S (tVar 0) [some d] (Eq d) := ev_var rfl
  rcases hd with ⟨_, i, rfl⟩ | ⟨_, x, rfl, hx⟩
  · exact s_retD (ev_orV (a := true) (b := true) (ev_callD (ea_consD e0 ea_nil) ⟨_, rfl, rfl, rfl⟩ fun d ⟨_, h1, h2⟩ => by cases h1; exact h2.symm) fun z => nomatch z) rfl
  · exact s_retD (ev_orV (a := false) (b := true) (ev_callD (ea_consD e0 ea_nil) ⟨_, rfl, rfl, rfl⟩ fun d ⟨_, h1, h2⟩ => by cases h1; exact h2.symm) fun _ => ev_callD (ea_consD e0 (ea_consD ev_int ea_nil)) ⟨x, 0, rfl, hx, by omega⟩ fun d h => h.symm) rfl
/-- kind_of -/
abbrev s_kind_of : Stmt := top 21
theorem sc_kind_of : FnScope ["value"] ["value"] (defScope s_kind_of) := ⟨rfl, rfl, rfl, by decide +kernel, rfl, by decide +kernel, by decide +kernel⟩
def pre_kind_of : Sc → List Dat → Prop := fun _ ds => ∃ k d, ds = [d] ∧ ValK k d
def post_kind_of : List Dat → Dat → Prop := fun ds r => ∀ k d, ds = [d] → ValK k d → r = .str k
theorem ok_kind_of (F : Fun K "kind_of" "kind_of" s_kind_of f fd) (T : Txt K mg aW aK) : FnOk P w K mg base CX0 1 f fd ["value"] (SpD K pre_kind_of post_kind_of) := by
  refine ok_of F sc_kind_of (fun S ds ⟨k, d, h, _⟩ => by rw [h]; rfl) fun cdv A outer s H E hr => ?_
  have nd := sc_kind_of.nd
  have hu := hr.units
  have hu0 := hr.units0
  have hu1 := hu_of hr
  have hu65 := u65 hr
  refine ⟨_, (pss_cons (ps_if (pt_val (pe_isi T.b T.b.str boot_str (pv 0))) (pss_one (ps_ret pe_str)) pss_nil)
      (pss_one (ps_ret pe_str))), ?_⟩
  rintro S ds ⟨k, d, rfl, hd⟩
  have e0 : Ev K S (tVar 0) [some d] (Eq d) := ev_var rfl
  rcases hd with ⟨rfl, i, rfl⟩ | ⟨rfl, x, rfl, hx⟩
  · refine s_seq (s_no (et_BD (ev_isi rfl e0 kb_int_str)) rfl (s_next (s_retD ev_str fun k d h1 h2 => ?_)))
    cases h1
    rcases h2 with ⟨rfl, _⟩ | ⟨_, _, h, _⟩
    · rfl
    · cases h
  · refine s_seq (s_yes (et_BD (ev_isi rfl e0 kb_str_str)) rfl (s_retD ev_str fun k d h1 h2 => ?_))
    cases h1
    rcases h2 with ⟨_, _, h⟩ | ⟨rfl, _⟩
    · cases h
    · rfl
/-- is_column -/
abbrev s_is_column : Stmt := top 22
theorem sc_is_column : FnScope ["thing"] ["thing"] (defScope s_is_column) := ⟨rfl, rfl, rfl, by decide +kernel, rfl, by decide +kernel, by decide +kernel⟩
def pre_is_column : Sc → List Dat → Prop := fun _ ds => ∃ n k, ds = [.tup [.str n, .str k]] ∧ NameOk n ∧ (k = "number" ∨ k = "word")
def post_is_column : List Dat → Dat → Prop := fun _ r => r = .bl true
theorem ok_is_column (F : Fun K "is_column" "is_column" s_is_column f fd) (T : Txt K mg aW aK) (c_is_name : Cl P w K mg base "is_name" 2 ["thing"] (SpD K pre_is_name post_is_name)) : FnOk P w K mg base CX0 3 f fd ["thing"] (SpD K pre_is_column post_is_column) := by
  refine ok_of F sc_is_column (fun S ds ⟨n, k, h, _⟩ => by rw [h]; rfl) fun cdv A outer s H E hr => ?_
  have nd := sc_is_column.nd
  have hu := hr.units
  have hu0 := hr.units0
  have hu1 := hu_of hr
  have hu65 := u65 hr
  refine ⟨_, (pss_cons (ps_if (PW.pt (pw_or (pt_not (pt_val (pe_isi T.b T.b.tuple boot_tuple (pv 0)))) (pw_or (pt_cmpR (op_neD hu) (pe_len T.b (pv 0)) pe_int (nomark _)) (pw_or1 (pt_not (pt_val (pe_fn c_is_name (hr.mono (by decide)) (pa_cons (pe_ix ix_seq (pv 0) pe_int (fun _ _ => rfl)) pa_nil)))))))) (pss_one (ps_ret pe_bl)) pss_nil)
      (pss_one (ps_ret (pe_and (pe_isi T.b T.b.str boot_str (pe_ix ix_seq (pv 0) pe_int (fun _ _ => rfl))) (pe_one (pe_cmpR op_in_seq (pe_ix ix_seq (pv 0) pe_int (fun _ _ => rfl)) (pe_gR T.g_KINDS) (by with_unfolding_all rfl))))))), ?_⟩
  rintro S ds ⟨n, k, rfl, hn, hk⟩
  have e0 : Ev K S (tVar 0) [some (.tup [.str n, .str k])] (Eq (.tup [.str n, .str k])) := ev_var rfl
  have eK : Ev K S (tC (.ref aK)) [some (.tup [.str n, .str k])] (Eq (.tup [.str "number", .str "word"])) := ev_c fun H => .tup (.inr T.KINDS) (nohp_t T.KINDS) (.cons (.str _) (.cons (.str _) .nil))
  refine s_seq (s_no (et_or (et_not (et_BD (ev_isi rfl e0 kb_tuple_tuple))) fun _ => et_or (et_testD (ev_ne .int .int (ev_lenT e0) ev_int)) fun _ => et_not (et_BD (b := true) (ev_callD (ea_consD (ev_ixT rfl e0 ev_int) ea_nil) ⟨n, rfl, hn⟩ fun d h => h.symm))) ?_ (s_next (s_retD ((ev_andV (ev_isi (x := .str k) rfl (ev_ixT rfl e0 ev_int) kb_str_str) fun _ => ev_inT (b := false) (x := .str k) rfl ?_ (ev_ixT rfl e0 ev_int) eK).is ?_) rfl)))
  · rw [deq_int]
    rfl
  · intro d hd
    rcases List.mem_cons.mp hd with rfl | hd
    · rfl
    · rw [List.mem_singleton.mp hd]
      rfl
  · have q : inD (.str k) [.str "number", .str "word"] = true := inD_iff.mpr (by rcases hk with rfl | rfl <;> simp)
    rw [if_neg (by decide), q]
    rfl
end
end Sh
/-! sets of ints and texts, of flat tuples: made of a list, walked in some order -/
namespace Sh
open PySem PySem.Spec PyProof.Rows L2

theorem perm_of_map {α β : Type} {f : α → β} {l m : List β} (h : l.Perm m) : ∀ {L : List α}, m = L.map f → ∃ L1 : List α, L1.Perm L ∧ l = L1.map f := by
  induction h with
  | nil =>
    intro L e
    cases L with
    | nil => exact ⟨[], .nil, rfl⟩
    | cons a L => cases e
  | cons x _ ih =>
    intro L e
    cases L with
    | nil => cases e
    | cons a L =>
      rw [List.map_cons] at e
      injection e with e1 e2
      obtain ⟨L1, p, q⟩ := ih e2
      exact ⟨a :: L1, p.cons a, by rw [List.map_cons, e1, q]⟩
  | swap x y l =>
    intro L e
    match L, e with
    | a :: b :: L, e =>
      rw [List.map_cons, List.map_cons] at e
      injection e with e1 e2
      injection e2 with e2 e3
      exact ⟨b :: a :: L, .swap _ _ _, by rw [List.map_cons, List.map_cons, e1, e2, e3]⟩
  | trans _ _ ih1 ih2 =>
    intro L e
    obtain ⟨L2, p2, q2⟩ := ih2 e
    obtain ⟨L1, p1, q1⟩ := ih1 q2
    exact ⟨L1, p1.trans p2, q1⟩
/-- a set whose members can be walked: the values in its table's order -/
structure SetV (w : World) (h : Heap) (a : Addr) (vs : List Value) : Prop where
  ex : ∃ o es ep t, h.get? a = some o ∧ o.ExactSet ∧ o.data = .set es ep t ∧ es.toList.map (·.2) = vs ∧ es.size < scanBound ∧ t.fits es.size = true ∧ Ris t.place.toList ∧ (w.params.followText "set-order" = true ∨ t.led = true)
/-- what adding to the set at a does: Is by key and value, J by the members so far -/
structure Adds (P : Program) (w : World) (a : Addr) (κ : Type) (most : Nat) (Is : Heap → κ → Value → Prop) (J : Heap → List (κ × Value) → Prop) : Prop where
  keep : ∀ h h' L, J h L → (∀ o, h.get? a = some o → h'.get? a = some o) → (∀ p ∈ L, Is h' p.1 p.2) → J h' L
  add : ∀ (A : Around) (E : Value → Shared → Prop) (s : Shared) k v L (Q : Bool → Shared → Prop), A.units + 1 < cLine → J s.heap L → Is s.heap k v → L.length < most →
    (∀ b h' tk L', Heap.SameBut a s.heap h' → s.toks ≤ tk → J h' L' → (k ∈ L.map (·.1) → L' = L) → (k ∉ L.map (·.1) → L'.Perm ((k, v) :: L)) → Q b { s with heap := h', toks := tk }) → wpAny (model P w) A (setAdd a v) Q E s
/-- what has come of the first i -/
structure Come {κ : Type} (ks : List (κ × Value)) (i : Nat) (L : List (κ × Value)) : Prop where
  sub : ∀ p ∈ L, p ∈ ks.take i
  all : ∀ p ∈ ks.take i, p.1 ∈ L.map (·.1)
  len : L.length ≤ i
section
variable {κ : Type} {ks L L' : List (κ × Value)} {i : Nat} {x : κ × Value}
theorem Come.same (g : Come ks i L) (h : ks[i]? = some x) (m : x.1 ∈ L.map (·.1)) : Come ks (i + 1) L := by
  have e : ks.take (i + 1) = ks.take i ++ [x] := by rw [List.take_succ, h]; rfl
  refine ⟨fun p hp => ?_, fun p hp => ?_, Nat.le_succ_of_le g.len⟩
  · rw [e]
    exact List.mem_append.mpr (.inl (g.sub p hp))
  · rw [e] at hp
    rcases List.mem_append.mp hp with hp | hp
    · exact g.all p hp
    · rw [List.mem_singleton.mp hp]
      exact m
theorem Come.more (g : Come ks i L) (h : ks[i]? = some x) (pm : L'.Perm (x :: L)) : Come ks (i + 1) L' := by
  have e : ks.take (i + 1) = ks.take i ++ [x] := by rw [List.take_succ, h]; rfl
  refine ⟨fun p hp => ?_, fun p hp => ?_, by rw [pm.length_eq]; exact Nat.succ_le_succ g.len⟩
  · rw [e]
    rcases List.mem_cons.mp (pm.mem_iff.mp hp) with rfl | hp
    · exact List.mem_append.mpr (.inr (List.mem_singleton.mpr rfl))
    · exact List.mem_append.mpr (.inl (g.sub p hp))
  · rw [e] at hp
    have q : p.1 ∈ (x :: L).map (·.1) := by
      rcases List.mem_append.mp hp with hp | hp
      · exact List.mem_cons_of_mem _ (g.all p hp)
      · rw [List.mem_singleton.mp hp]
        exact List.mem_cons_self
    exact (pm.map (·.1)).mem_iff.mpr q
end
section
variable {P : Program} {w : World} {A : Around} {E : Value → Shared → Prop} {s : Shared}
/-- the loop that fills a set from an iterator -/
theorem fill_loop {κ : Type} {most : Nat} {Is : Heap → κ → Value → Prop} {J : Heap → List (κ × Value) → Prop} {I : Addr} {fp wr : List Addr} {G : Array GenState → Array GenState → Prop} {Pv : Nat → Value → Prop} {St : Nat → Shared → Prop} {R : Result → Shared → Prop}
    (D : Addr) (ks : List (κ × Value)) (W : WalksS P w A.in1 I fp wr G ks.length Pv St) (ad : Adds P w D κ most Is J) (hD : D ∉ fp) (hm : ks.length ≤ most) (hv : ∀ i v, Pv i v → ∃ p, ks[i]? = some p ∧ v = p.2)
    (h0 : Heap) (hk : ∀ (h : Heap), (∀ b o, h0.get? b = some o → h.get? b = some o) → ∀ p ∈ ks, Is h p.1 p.2) (hD0 : h0.get? D = none) (hw0 : ∀ b ∈ wr, h0.get? b = none) (hu : A.in1.units + 1 < cLine)
    (hR : ∀ s' L, Moved (D :: wr) G s s' → J s'.heap L → Come ks ks.length L → (∀ b o, h0.get? b = some o → s'.heap.get? b = some o) → R (.ok (.ret .none)) s')
    (st : St 0 s) (k0 : ∀ b o, h0.get? b = some o → s.heap.get? b = some o) (j0 : J s.heap []) : codeAny (model P w) A (.builtin "set.update.loop" ⟨[.ref D, .ref I], []⟩) R s := by
  have hDw : D ∉ wr := fun z => hD (W.sub _ z)
  have wide : ∀ b ∈ wr, b ∈ D :: wr := fun b hb => List.mem_cons_of_mem _ hb
  have kept : ∀ {s1 s2 : Shared}, Moved wr G s1 s2 → (∀ b o, h0.get? b = some o → s1.heap.get? b = some o) → ∀ b o, h0.get? b = some o → s2.heap.get? b = some o := fun mv kp b o e =>
    mv.heap b o (fun hb => by rw [hw0 b hb] at e; cases e) (kp b o e)
  suffices go : ∀ (n i : Nat) (s1 : Shared), ks.length - i = n → i ≤ ks.length → St i s1 → (∀ b o, h0.get? b = some o → s1.heap.get? b = some o) → (∃ L, J s1.heap L ∧ Come ks i L) → Moved (D :: wr) G s s1 →
      codeAny (model P w) A (.builtin "set.update.loop" ⟨[.ref D, .ref I], []⟩) R s1 from
    go ks.length 0 s rfl (Nat.zero_le _) st k0 ⟨[], j0, ⟨fun p hp => (by cases hp), fun p hp => (by simp at hp), Nat.le_refl _⟩⟩ ⟨fun b o _ e => e, W.grefl _, rfl, rfl, Nat.le_refl _⟩
  intro n
  induction n with
  | zero =>
    intro i s1 hn hi hst kp ⟨L, hJ, g⟩ mv
    have ei : i = ks.length := by omega
    subst ei
    refine codeAny_builtin F.entry_set_update_loop ?_
    rw [Around.under_plainId F.plain_set_update_loop _]
    show wpAny _ A.in1 (pyNext (.ref I) >>= _) _ _ s1
    refine wpAny_bind (W.done s1 _ _ hst fun s2 m2 => ?_)
    have kp2 := kept m2 kp
    exact wpAny_pure (hR s2 L (Moved.trans W.gtrans mv (m2.mono wide)) (ad.keep _ _ L hJ (fun o e => m2.heap D o hDw e) fun p hp => hk _ kp2 p (List.mem_of_mem_take (g.sub p hp))) g kp2)
  | succ n ih =>
    intro i s1 hn hi hst kp ⟨L, hJ, g⟩ mv
    have hlt : i < ks.length := by omega
    refine codeAny_builtin F.entry_set_update_loop ?_
    rw [Around.under_plainId F.plain_set_update_loop _]
    show wpAny _ A.in1 (pyNext (.ref I) >>= _) _ _ s1
    refine wpAny_bind (W.item i s1 _ _ hlt hst fun v s2 hP hst2 m2 => ?_)
    obtain ⟨p, hp, rfl⟩ := hv i v hP
    have kp2 := kept m2 kp
    have hJ2 := ad.keep _ s2.heap L hJ (fun o e => m2.heap D o hDw e) fun q hq => hk _ kp2 q (List.mem_of_mem_take (g.sub q hq))
    show wpAny _ A.in1 (holding [p.2] (setAdd D p.2) >>= _) _ _ s2
    refine wpAny_bind (wpAny_holding (ad.add _ _ s2 p.1 p.2 L _ hu hJ2 (hk _ kp2 p (List.mem_of_getElem? hp)) (by have := g.len; omega) fun b h' tk L' sb ht hJ3 c1 c2 => ?_))
    have g2 : Come ks (i + 1) L' := (Classical.em (p.1 ∈ L.map (·.1))).elim (fun c => by rw [c1 c]; exact g.same hp c) fun c => g.more hp (c2 c)
    have away : ∀ b o, b ≠ D → s2.heap.get? b = some o → h'.get? b = some o := fun b o hb e => (sb.2 b hb).trans e
    have kp3 : ∀ b o, h0.get? b = some o → h'.get? b = some o := fun b o e => away b o (fun z => by rw [z, hD0] at e; cases e) (kp2 b o e)
    refine wpAny_pure ⟨plainId_quiet F.plain_set_update_loop _, ih (i + 1) _ (by omega) hlt (W.frame _ s2 _ _ hst2 ht fun b hb o e => away b o (fun z => hD (by rw [← z]; exact hb)) e) kp3 ⟨L', hJ3, g2⟩ ?_⟩
    exact Moved.trans W.gtrans mv ((m2.mono wide).then_heap ht fun b o hb e => away b o (fun z => hb (by rw [z]; exact List.mem_cons_self)) e)
/-- the empty set as it is made -/
abbrev set0 (w : World) : Obj := { cls := .type "set", dict := none, data := .set #[] 0 (.fresh 0 0 (!w.params.followText "set-order")) }
set_option maxRecDepth 100000 in
/-- set(xs), xs a list: the set stands at the heap's end -/
theorem call_setG {κ : Type} {most : Nat} {Is : Heap → κ → Value → Prop} {J : Heap → List (κ × Value) → Prop} {l : Addr} {items : Array Value} (ks : List (κ × Value)) {Q : Value → Shared → Prop} (hh : A.handled = none) (hl : s.heap.IsList l items)
    (hit : items.toList = ks.map (·.2)) (ad : Adds P w s.heap.objs.size κ most Is J) (hm : ks.length ≤ most) (hk : ∀ (h : Heap), (∀ b o, s.heap.get? b = some o → h.get? b = some o) → ∀ p ∈ ks, Is h p.1 p.2)
    (j0 : ∀ h : Heap, h.get? s.heap.objs.size = some (set0 w) → J h []) (hu : A.units + 6 < cLine)
    (h : ∀ (h' : Heap) (tk : Nat) L, J h' L → Come ks ks.length L → (∀ b o, s.heap.get? b = some o → h'.get? b = some o) → Q (.ref s.heap.objs.size) { s with heap := h', toks := tk }) : wpAny (model P w) A (call (.type "set") [.ref l]) Q E s := by
  have hsize : items.size = ks.length := by
    have q := congrArg List.length hit
    rwa [Array.length_toList, List.length_map] at q
  obtain ⟨c, tl, hmro⟩ := F.called_set.mro
  have hmade := F.called_set.made
  have hsub := F.called_set.sub
  refine wpAny_call (codeAny_of_tree ?_)
  show wpAny _ _ (callAny (.type "set") _) _ _ _
  refine wpAny_pure ⟨Code.quiet_builtin _ (by decide +kernel), codeAny_builtin F.entry_type_call ?_⟩
  rw [Around.under_plain (weight_type_call_type "set" [.ref l] []) rfl]
  have q1 := F.called_set.notType
  have q2 := F.called_set.canCreate
  have q3 := F.typeCall_set_1 (.ref l)
  repeat (any_goals (first | assumption | wp_step))
  refine codeAny_mono (code_set_led1 (.ref l) (E := E) (Q₁ := fun ob s1 => ob = .ref s.heap.objs.size ∧ s1 = { s with heap := s.heap.push (set0 w) }) ⟨rfl, rfl⟩) fun r s1 hr => ?_
  cases r with
  | error e => exact hr
  | ok fl =>
    cases fl with
    | ret ob =>
      obtain ⟨rfl, rfl⟩ := hr
      have hS : (s.heap.push (set0 w)).get? s.heap.objs.size = some (set0 w) := Heap.get?_push_size _ rfl
      have hT : Shared.TypeIs { s with heap := s.heap.push (set0 w) } (.ref s.heap.objs.size) "set" := ⟨_, hS, rfl⟩
      have q4 := F.called_set.init.lookup
      have q5 := F.called_set.init.bind (.ref s.heap.objs.size)
      repeat (any_goals (first | assumption | wp_step))
      refine codeAny_mono (codeAny_call_builtin (R := wants (fun r s2 => r = .none ∧ ∃ h' tk L, s2 = { s with heap := h', toks := tk } ∧ J h' L ∧ Come ks ks.length L ∧ (∀ b o, s.heap.get? b = some o → h'.get? b = some o)) E) F.called_set.init.plain F.entry_set_init (check_set_init_1 hT ?_)) fun r2 s2 hr2 => ?_
      · obtain ⟨⟨c1, d1, dt1, sl1⟩, hol, hcl, nl, hdl⟩ := hl
        replace hcl : c1 = .type "list" := hcl
        replace hdl : dt1 = .seq items nl := hdl
        subst hcl hdl
        have hol' : (s.heap.push (set0 w)).get? l = some { cls := .type "list", dict := d1, data := .seq items nl, slots := sl1 } := Heap.get?_push_of_some _ hol
        have q6 := F.sub_list_set
        have q7 := F.sub_list_frozenset
        have q8 : (Value.type "list" == Value.type "dict") = false := by decide
        have hl1 : (s.heap.push (set0 w)).IsList l items := ⟨_, hol', rfl, nl, rfl⟩
        unfold Builtin.«set.__init__» noKeywords Builtin.Frozenset.updateFrom
        generalize hPI : pyIter = PI
        wp_walk
        subst hPI
        refine wpAny_pyIter_list hl1 (wpAny_bind (wpAny_runValue ?_))
        have hlS : l < s.heap.objs.size := Heap.lt_size hol
        have hz1 : (s.heap.push (set0 w)).objs.size = s.heap.objs.size + 1 := Heap.size_push ..
        have none_of : ∀ b, s.heap.objs.size ≤ b → s.heap.get? b = none := fun b hb => by
          cases q : s.heap.get? b with
          | none => rfl
          | some o => exact absurd (Nat.lt_of_lt_of_le (Heap.lt_size q) hb) (Nat.lt_irrefl _)
        have W0 := (Walks.list (prog := P) (w := w) (A := A.in1.in1.in1) (by simp [hh]) (s.heap.push (set0 w)).objs.size l (by rw [hz1]; exact Nat.ne_of_lt (Nat.lt_succ_of_lt hlS)) items).toS
        rw [hsize] at W0
        refine fill_loop s.heap.objs.size ks W0 ad ?_ hm (fun i v hv => ?_) s.heap hk (none_of _ (Nat.le_refl _)) (fun b hb => none_of b (by rw [List.mem_singleton.mp hb, hz1]; exact Nat.le_succ _)) ?_ (fun s3 L m3 hJ g k3 => ?_)
          ⟨⟨_, Heap.get?_push_size _ rfl, rfl, rfl⟩, hl1.push _⟩ (fun b o e => Heap.get?_push_of_some _ (Heap.get?_push_of_some _ e)) (j0 _ (Heap.get?_push_of_some _ hS))
        · rw [hz1]
          intro z
          rcases List.mem_cons.mp z with z | z
          · exact absurd z (Nat.ne_of_lt (Nat.lt_succ_self _))
          · exact absurd (List.mem_singleton.mp z) (Nat.ne_of_gt hlS)
        · have q : items.toList[i]? = some v := by
            rw [Array.getElem?_toList]
            exact hv
          rw [hit, List.getElem?_map] at q
          cases e : ks[i]? with
          | none =>
            rw [e] at q
            cases q
          | some p =>
            rw [e] at q
            exact ⟨p, rfl, (Option.some.inj q).symm⟩
        · show A.units + 1 + 1 + 1 + 1 < cLine
          omega
        · obtain ⟨h', g2, d', tk', os'⟩ := s3
          have eg : g2 = s.gens := m3.gens
          have ed : d' = s.drawn := m3.drawn
          have eo : os' = s.os := m3.os
          subst eg ed eo
          show wpAny _ _ _ _ _ _
          refine wpAny_pure ?_
          show wpAny _ _ (ret Value.none) _ _ _
          exact wpAny_pure ⟨rfl, h', tk', L, rfl, hJ, g, k3⟩
      · cases r2 with
        | error e => exact hr2
        | ok fl2 =>
          cases fl2 with
          | ret r =>
            obtain ⟨rfl, h', tk, L, rfl, hJ, g, k3⟩ := hr2
            repeat (any_goals (first | assumption | wp_step))
            exact h _ _ _ hJ g k3
          | _ => exact hr2.elim
    | _ => exact hr.elim
end
end Sh
/-! sets of ints and texts (by scan) -/
namespace Sh
open PySem PySem.Spec PyProof.Rows L2
abbrev rowS (w : World) (p : Key × Value) : Int × Value := (keyH w p.1, p.2)
structure SetS (w : World) (h : Heap) (a : Addr) (L : List (Key × Value)) : Prop where
  ex : ∃ o es ep t, h.get? a = some o ∧ o.ExactSet ∧ o.data = .set es ep t ∧ es.toList = L.map (rowS w) ∧ es.size < scanBound ∧ t.fits es.size = true ∧ Ris t.place.toList ∧ (w.params.followText "set-order" = true ∨ t.led = true)
  is : ∀ p ∈ L, keyIs p.1 p.2 = true
  nd : (L.map (·.1)).Nodup
section
variable {P : Program} {w : World} {A : Around} {E : Value → Shared → Prop} {s : Shared} {a : Addr} {L : List (Key × Value)}
theorem SetS.v {h : Heap} (R : SetS w h a L) : SetV w h a (L.map (·.2)) := by
  obtain ⟨o, es, ep, t, h1, h2, h3, h4, h5, h6, h7, h8⟩ := R.ex
  exact ⟨o, es, ep, t, h1, h2, h3, by rw [h4, List.map_map]; rfl, h5, h6, h7, h8⟩
theorem scan_key {k : Key} {v : Value} (h : keyIs k v = true) : v.scannable = true := by
  rcases keyIs_shape h with ⟨i, t, _, rfl⟩ | ⟨x, t, _, rfl⟩ <;> rfl
theorem key_elems {es : List (Int × Value)} (e : es = L.map (rowS w)) (hi : ∀ p ∈ L, keyIs p.1 p.2 = true) : ElemsOf (mixKind P w) es := fun x hx => by
  rw [e] at hx
  obtain ⟨p, hp, rfl⟩ := List.mem_map.mp hx
  exact ⟨⟨p.1, hi p hp, rfl⟩, scan_key (hi p hp)⟩
/-- where the new rows stand the set is one again -/
theorem setS_store {o : Obj} {es es1 : Array (Int × Value)} {ep : Nat} {t t1 : SetTable} {L1 : List (Key × Value)} (ho : s.heap.get? a = some o) (hex : o.ExactSet) (hd : o.data = .set es ep t) (h1 : es1.toList = L1.map (rowS w)) (h2 : ∀ p ∈ L1, keyIs p.1 p.2 = true) (h3 : (L1.map (·.1)).Nodup)
    (hb : es1.size < scanBound) (hf : t1.fits es1.size = true) (hr : Ris t1.place.toList) (hl : w.params.followText "set-order" = true ∨ t1.led = true) : SetS w (s.heap.update a (Obj.putSet es1 t1)) a L1 :=
  ⟨⟨_, es1, _, t1, store_at ho hd, hex, rfl, h1, hb, hf, hr, hl⟩, h2, h3⟩
theorem gave_any {b : Bool} {A : Around} {E : Value → Shared → Prop} {s : Shared} {Q : Unit → Shared → Prop} (q : Q () s) : wpAny (model P w) A (match b with | true => rule "set.scan.the-table-gave-way" | false => pure ()) Q E s := by
  cases b with
  | true => exact wpAny_rule q
  | false => exact wpAny_pure q
/-- the end of adding: the rows are stored, and laid anew where the table is full -/
theorem setS_tail {g : Bool → Sem Unit} (hg : ∀ (b : Bool) (s1 : Shared) (Q' : Unit → Shared → Prop), Q' () s1 → wpAny (model P w) A (g b) Q' E s1) {o : Obj} {es es1 : Array (Int × Value)} {ep : Nat} {t t1 : SetTable} {L1 : List (Key × Value)} (ho : s.heap.get? a = some o) (hex : o.ExactSet) (hd : o.data = .set es ep t)
    (h1 : es1.toList = L1.map (rowS w)) (h2 : ∀ p ∈ L1, keyIs p.1 p.2 = true) (h3 : (L1.map (·.1)).Nodup) (hb : es1.size < scanBound) (hf : t1.fits es1.size = true) (hr : Ris t1.place.toList) (hl : w.params.followText "set-order" = true ∨ t1.led = true) {dummy : Bool} {R : Option Bool → Shared → Prop}
    (hR : ∀ h' L2, Heap.SameBut a s.heap h' → L2.Perm L1 → SetS w h' a L2 → R (some true) { s with heap := h' }) :
    wpAny (model P w) A (do
        storeSet a es1 t1
        if (!dummy && t1.tooFull) = true then do
            g (relayAll t1 es1 (SetTable.grown es1.size)).2.2
            storeSet a (relayAll t1 es1 (SetTable.grown es1.size)).1 (relayAll t1 es1 (SetTable.grown es1.size)).2.1
            pure (some true)
          else pure (some true)) R E s := by
  refine wpAny_bind (wpAny_storeSet_of ho hd ?_ (fits_of_scanBound hb))
  have sb := Heap.SameBut.update s.heap a (Obj.putSet es1 t1)
  have S1 := setS_store ho hex hd h1 h2 h3 hb hf hr hl
  have ho1 := store_at (es' := es1) (t' := t1) ho hd
  split
  · have p1 := relayAll_perm t1 es1 (SetTable.grown es1.size)
    have p2 := relayAll_fits t1 es1 (SetTable.grown es1.size)
    have p3 := relayAll_ris t1 es1 (SetTable.grown es1.size)
    have p4 := relayAll_led t1 es1 (SetTable.grown es1.size)
    obtain ⟨L2, q1, q2⟩ := perm_of_map p1 h1
    have hs : (relayAll t1 es1 (SetTable.grown es1.size)).1.size = es1.size := by rw [← Array.length_toList, p1.length_eq, Array.length_toList]
    refine wpAny_bind (hg _ _ _ (wpAny_bind (wpAny_storeSet_of ho1 rfl ?_ (fits_of_scanBound (by rw [hs]; exact hb)))))
    exact wpAny_pure (hR _ L2 (sb.trans (Heap.SameBut.update _ a _)) q1 (setS_store (s := { s with heap := s.heap.update a (Obj.putSet es1 t1) }) ho1 hex rfl q2 (fun p hp => h2 p (q1.mem_iff.mp hp)) ((q1.map (·.1)).nodup_iff.mpr h3) (by rw [hs]; exact hb) p2 p3 (hl.imp id fun z => p4.trans z)))
  · exact wpAny_pure (hR _ L1 sb (.refl _) S1)
theorem setS_add {k : Key} {v : Value} {Q : Bool → Shared → Prop} (R : SetS w s.heap a L) (hk : keyIs k v = true) (hm : L.length + 1 < scanBound)
    (hQ : ∀ b h' L', Heap.SameBut a s.heap h' → SetS w h' a L' → (k ∈ L.map (·.1) → L' = L) → (k ∉ L.map (·.1) → L'.Perm ((k, v) :: L)) → Q b { s with heap := h' }) : wpAny (model P w) A (setAddHashed a v (keyH w k)) Q E s := by
  obtain ⟨o, es, ep, t, ho, hex, hd, hr, hb, hf, hri, hl⟩ := R.ex
  have el : ElemsOf (mixKind P w) es.toList := key_elems hr R.is
  have hsc := scan_key hk
  have hkey : (mixKind P w).is k v = true := hk
  unfold setAddHashed setAddHashedIn
  refine wpAny_holding (wpAny_bind (wpAny_setState_of ho hd hf ?_))
  dsimp only
  rw [byScan_of hsc hb el]
  simp only [↓reduceIte]
  unfold setAddByScan
  refine wpAny_bind (wpAny_bind (wpAny_rule (wpAny_bind (wpAny_setScan_of (knd := mixKind P w) hkey ho hd hf el ?_))))
  cases hfi : List.findIdx? (fun e => (mixKind P w).is k e.2) es.toList with
  | some j =>
    dsimp only
    obtain ⟨hj, pj, _⟩ := List.findIdx?_eq_some_iff_getElem.mp hfi
    have mk : k ∈ L.map (·.1) := by
      have hm1 : es.toList[j] ∈ L.map (rowS w) := by
        rw [← hr]
        exact List.getElem_mem hj
      obtain ⟨p, hp, e⟩ := List.mem_map.mp hm1
      rw [← e] at pj
      have e1 : k = p.1 := (mixKind P w).inj p.2 k p.1 pj (R.is p hp)
      rw [e1]
      exact List.mem_map.mpr ⟨p, hp, rfl⟩
    exact wpAny_pure (wpAny_pure (hQ _ s.heap L (Heap.SameBut.refl a s.heap) R (fun _ => rfl) fun z => absurd mk z))
  | none =>
    dsimp only
    have nk : k ∉ L.map (·.1) := fun z => by
      obtain ⟨p, hp, rfl⟩ := List.mem_map.mp z
      have q : rowS w p ∈ es.toList := by
        rw [hr]
        exact List.mem_map.mpr ⟨p, hp, rfl⟩
      have c := List.findIdx?_eq_none_iff.mp hfi _ q
      have c2 : (mixKind P w).is p.1 p.2 = true := R.is p hp
      have c3 : (mixKind P w).is p.1 p.2 = false := c
      rw [c2] at c3
      cases c3
    have p1 := layNew_perm t es (keyH w k) v
    have p2 := layNew_fits t es (keyH w k) v
    have p3 := layNew_ris t es (keyH w k) v hri
    have p4 := layNew_led t es (keyH w k) v
    generalize layNew t es (keyH w k) v = Z at p1 p2 p3 p4 ⊢
    obtain ⟨es1, t1, dummy, gave⟩ := Z
    dsimp only at p1 p2 p3 p4 ⊢
    have pc : es1.toList.Perm (((k, v) :: L).map (rowS w)) := by
      rw [Array.toList_push] at p1
      rw [List.map_cons, ← hr]
      exact p1.trans (List.perm_append_singleton _ _)
    obtain ⟨L1, q1, q2⟩ := perm_of_map pc rfl
    have hi1 : ∀ p ∈ L1, keyIs p.1 p.2 = true := fun p hp => by
      rcases List.mem_cons.mp (q1.mem_iff.mp hp) with rfl | hp
      · exact hk
      · exact R.is p hp
    have nd1 : (L1.map (·.1)).Nodup := (q1.map (·.1)).nodup_iff.mpr (List.nodup_cons.mpr ⟨nk, R.nd⟩)
    have hs1 : es1.size = L.length + 1 := by rw [← Array.length_toList, q2, List.length_map, q1.length_eq, List.length_cons]
    have hb1 : es1.size < scanBound := by
      rw [hs1]
      exact hm
    have hl1 : w.params.followText "set-order" = true ∨ t1.led = true := hl.imp id fun z => p4.trans z
    have fin : ∀ h' L2, Heap.SameBut a s.heap h' → L2.Perm L1 → SetS w h' a L2 → Q true { s with heap := h' } := fun h' L2 sb pm S2 => hQ true h' L2 sb S2 (fun z => absurd z nk) fun _ => pm.trans q1
    refine wpAny_bind (gave_any ?_)
    split
    · refine wpAny_bind ?_
      rw [hashByValue_scannable 8 hsc]
      refine wpAny_pure (setS_tail (fun _ _ _ q => gave_any q) ho hex hd q2 hi1 nd1 hb1 ?_ ?_ ?_ fun h' L2 sb pm S2 => wpAny_pure (fin h' L2 sb pm S2))
      · split
        · exact p2
        · exact SetTable.fits_plain_off p2
      · split <;> exact p3
      · split <;> exact hl1
    · refine wpAny_bind (wpAny_pure ?_)
      simp only [↓reduceIte]
      exact setS_tail (fun _ _ _ q => gave_any q) ho hex hd q2 hi1 nd1 hb1 p2 p3 hl1 fun h' L2 sb pm S2 => wpAny_pure (fin h' L2 sb pm S2)
theorem setS_adds : Adds P w a Key 1000 (fun _ k v => keyIs k v = true) (fun h L => SetS w h a L) where
  keep := fun h h' L R k _ => by
    obtain ⟨o, es, ep, t, ho, r⟩ := R.ex
    exact ⟨⟨o, es, ep, t, k o ho, r⟩, R.is, R.nd⟩
  add := fun A E s k v L Q hu R hk hm hQ => by
    unfold setAdd
    refine wpAny_holding (wpAny_bind ((mixKind P w).pyHash (k := k) hk ?_))
    exact setS_add (k := k) (by exact R) hk (Nat.lt_trans (Nat.succ_lt_succ hm) (by decide)) fun b h' L' sb S' c1 c2 => hQ b h' _ L' sb (by first | exact Nat.le_refl _ | exact Nat.le_add_right _ _) S' c1 c2
end
end Sh
/-! sets of flat tuples of ints and texts (by the table) -/
namespace Sh
open PySem PySem.Spec PyProof.Rows L2
abbrev rkH (P : Program) (w : World) (k : List Key) : Int := tupleKeyHash (mixKind P w) k
abbrev rowT (P : Program) (w : World) (p : List Key × Value) : Int × Value := (rkH P w p.1, p.2)
def IsRow (P : Program) (w : World) (h : Heap) (k : List Key) (v : Value) : Prop := ∃ b, v = .ref b ∧ IsTupleKey (mixKind P w) h k b
structure SetT (P : Program) (w : World) (h : Heap) (a : Addr) (L : List (List Key × Value)) (es : Array (Int × Value)) (ep : Nat) (t : SetTable) : Prop where
  ob : ∃ o, h.get? a = some o ∧ o.ExactSet ∧ o.data = .set es ep t
  rows : es.toList = L.map (rowT P w)
  tab : TabOk t (L.map fun p => rkH P w p.1)
  is : ∀ p ∈ L, IsRow P w h p.1 p.2
  nd : (L.map (·.1)).Nodup
  led : w.params.followText "set-order" = true ∨ t.led = true
  room : L.length * 5 < t.mask * 3
  few : L.length < 64
section
variable {P : Program} {w : World} {A : Around} {E : Value → Shared → Prop} {s : Shared} {a : Addr} {L : List (List Key × Value)} {es : Array (Int × Value)} {ep : Nat} {t : SetTable}
theorem SetT.size (R : SetT P w s.heap a L es ep t) : es.size = L.length := by rw [← Array.length_toList, R.rows, List.length_map]
theorem SetT.fits (R : SetT P w s.heap a L es ep t) : t.fits es.size = true := by
  have h1 := R.tab.sz
  have h2 := R.size
  have h3 := R.room
  rw [List.length_map] at h1
  unfold SetTable.fits SetTable.fill
  rw [R.tab.dm, Bool.and_eq_true, beq_iff_eq, decide_eq_true_eq]
  exact ⟨by omega, by show t.place.size + 0 ≤ t.mask; omega⟩
theorem SetT.at (R : SetT P w s.heap a L es ep t) {i : Nat} {p : List Key × Value} (h : L[i]? = some p) : es[i]? = some (rowT P w p) := by
  rw [← Array.getElem?_toList, R.rows, List.getElem?_map, h]
  rfl
theorem SetT.v (R : SetT P w s.heap a L es ep t) : SetV w s.heap a (L.map (·.2)) := by
  obtain ⟨o, h1, h2, h3⟩ := R.ob
  exact ⟨o, es, ep, t, h1, h2, h3, by rw [R.rows, List.map_map]; rfl, by rw [R.size]; exact Nat.lt_trans R.few (by decide), R.fits, R.tab.ris, R.led⟩
theorem isRow_keep {h h' : Heap} {k : List Key} {v : Value} (x : IsRow P w h k v) (hk : ∀ c o, h.get? c = some o → o.cls = .type "tuple" → h'.get? c = some o) : IsRow P w h' k v := by
  obtain ⟨b, rfl, o, items, n, h1, h2, h3, h4⟩ := x
  exact ⟨b, rfl, o, items, n, hk b o h1 h2, h2, h3, h4⟩
/-- a change of the set leaves the tuples -/
theorem isRow_same {h h' : Heap} {k : List Key} {v : Value} {o : Obj} (x : IsRow P w h k v) (ho : h.get? a = some o) (hex : o.ExactSet) (sb : Heap.SameBut a h h') : IsRow P w h' k v := isRow_keep x fun c u e1 e2 => by
  refine (sb.2 c fun z => ?_).trans e1
  rw [z, ho] at e1
  cases e1
  rw [hex.1] at e2
  injection e2 with e2
  exact absurd e2 (by decide)
/-! a row's items are by value, of no class statement -/
theorem key_items {k : List Key} {vs : List Value} (h : ItemsAre (mixKind P w) k vs) : ∀ v ∈ vs, (∃ i t, v = Value.int i t) ∨ ∃ x t, v = Value.str x t := by
  induction h with
  | nil => intro v hv; cases hv
  | cons h1 _ ih =>
    intro v hv
    rcases List.mem_cons.mp hv with rfl | hv
    · rcases keyIs_shape h1 with ⟨i, t, _, e⟩ | ⟨x, t, _, e⟩
      · exact .inl ⟨i, t, e⟩
      · exact .inr ⟨x, t, e⟩
    · exact ih v hv
theorem noClass_row {k : List Key} {b : Addr} {Q : Bool → Shared → Prop} (hk : IsTupleKey (mixKind P w) s.heap k b) (h : Q false s) : wpAny (model P w) A (ofAClassStatement 8 (.ref b)) Q E s := by
  have hT := hk.typeIs
  obtain ⟨o, items, n, ho, _, hd, hi⟩ := hk
  unfold ofAClassStatement
  refine wpAny_bind (wpAny_typeOf hT ?_)
  dsimp only
  simp only [show (("tuple" : String) == "tuple") = true by decide, if_true, Bool.not_true, Bool.false_eq_true, if_false]
  try refine wpAny_bind (wpAny_pure ?_)
  try simp only [Bool.not_true, Bool.false_eq_true, if_false]
  show wpAny _ _ (seqItems? (.ref b) >>= _) _ _ s
  refine wpAny_bind (wpAny_seqItems ho hd ?_)
  dsimp only
  refine wpAny_bind ?_
  show wpAny _ _ (forIn items _ _) _ _ s
  rw [← Array.forIn_toList]
  refine wpAny_forIn_list _ (fun rest r s1 => r.1 = none ∧ s1 = s ∧ ∀ v ∈ rest, (∃ i t, v = Value.int i t) ∨ ∃ x t, v = Value.str x t) _ ?_ ?_ _ _ ⟨rfl, rfl, key_items hi⟩
  · rintro v rest r s1 ⟨hr, rfl, hall⟩
    have e : ofAClassStatement 7 v = pure false := by rcases hall v List.mem_cons_self with ⟨i, t, rfl⟩ | ⟨x, t, rfl⟩ <;> rfl
    rw [e]
    refine wpAny_bind (wpAny_pure ?_)
    simp only [Bool.false_eq_true, if_false]
    exact wpAny_pure ⟨rfl, rfl, fun u hu => hall u (List.mem_cons_of_mem _ hu)⟩
  · rintro ⟨r1, r2⟩ s1 ⟨hr, rfl, _⟩
    simp only at hr
    subst hr
    exact wpAny_pure h
/-- whether a row's hash goes by value: some answer -/
theorem byValue_row {k : List Key} {b : Addr} {Q : Bool → Shared → Prop} (hk : IsTupleKey (mixKind P w) s.heap k b) (h : ∀ r, Q r s) : wpAny (model P w) A (hashByValue 8 (.ref b)) Q E s := by
  have hT := hk.typeIs
  obtain ⟨o, items, n, ho, _, hd, hi⟩ := hk
  unfold hashByValue
  refine wpAny_bind (wpAny_specialOf hT F.slot_tuple_hash.lookup ?_)
  show wpAny _ _ (seqItems? (.ref b) >>= _) _ _ s
  refine wpAny_bind (wpAny_seqItems ho hd ?_)
  refine wpAny_bind ?_
  show wpAny _ _ (forIn items _ _) _ _ s
  rw [← Array.forIn_toList]
  refine wpAny_forIn_list _ (fun rest r s1 => r.1 = none ∧ s1 = s ∧ ∀ v ∈ rest, (∃ i t, v = Value.int i t) ∨ ∃ x t, v = Value.str x t) _ ?_ ?_ _ _ ⟨rfl, rfl, key_items hi⟩
  · rintro v rest r s1 ⟨hr, rfl, hall⟩
    rcases hall v List.mem_cons_self with ⟨i, t, rfl⟩ | ⟨x, t, rfl⟩
    · have e : hashByValue 7 (.int i t) = pure true := rfl
      rw [e]
      refine wpAny_bind (wpAny_pure ?_)
      simp only [Bool.not_true, Bool.false_eq_true, if_false]
      exact wpAny_pure ⟨rfl, rfl, fun u hu => hall u (List.mem_cons_of_mem _ hu)⟩
    · have e : hashByValue 7 (.str x t) = pure false := rfl
      rw [e]
      refine wpAny_bind (wpAny_pure ?_)
      simp only [Bool.not_false, if_true]
      refine wpAny_pure ?_
      exact wpAny_pure (h _)
  · rintro ⟨r1, r2⟩ s1 ⟨hr, rfl, _⟩
    simp only at hr
    subst hr
    exact wpAny_pure (h _)
theorem unseen_rows {k : List Key} {b : Addr} {Q : Bool → Shared → Prop} (hk : IsTupleKey (mixKind P w) s.heap k b) {ys : List Value} (hy : ∀ y ∈ ys, ∃ k', IsRow P w s.heap k' y) (h : Q false s) : wpAny (model P w) A (searchCouldBeSeen (.ref b) ys) Q E s := by
  unfold searchCouldBeSeen
  refine wpAny_bind ?_
  refine wpAny_forIn_list _ (fun rest r s1 => r.1 = none ∧ s1 = s ∧ ∀ y ∈ rest, ∃ k', IsRow P w s.heap k' y) _ ?_ ?_ _ _ ⟨rfl, rfl, hy⟩
  · rintro v rest r s1 ⟨hr, rfl, hall⟩
    obtain ⟨k', c, rfl, hc⟩ := hall v List.mem_cons_self
    have more : ∀ y ∈ rest, ∃ k', IsRow P w s1.heap k' y := fun u hu => hall u (List.mem_cons_of_mem _ hu)
    dsimp only
    by_cases hv : (b == c || (carriedByValue (.ref b) && carriedByValue (.ref c))) = true
    · exact wp_if_pos hv (wpAny_pure ⟨rfl, rfl, more⟩)
    · refine wp_if_neg hv (wpAny_bind (wpAny_eqIsQuiet_tuple hk ?_))
      simp only [Bool.not_true, Bool.false_eq_true, if_false]
      refine wpAny_bind (wpAny_eqIsQuiet_tuple hc ?_)
      simp only [Bool.not_true, Bool.false_eq_true, if_false]
      refine wpAny_bind (noClass_row hk ?_)
      simp only [Bool.false_eq_true, if_false]
      refine wpAny_bind (noClass_row hc ?_)
      simp only [Bool.false_eq_true, if_false]
      exact wpAny_pure ⟨rfl, rfl, more⟩
  · rintro ⟨r1, r2⟩ s1 ⟨hr, rfl, _⟩
    simp only at hr
    subst hr
    exact wpAny_pure h
end
end Sh
/-! a row sought, a row put in -/
namespace Sh
open PySem PySem.Spec PyProof.Rows L2
section
variable {P : Program} {w : World} {A : Around} {E : Value → Shared → Prop} {s : Shared} {a : Addr} {L : List (List Key × Value)} {es : Array (Int × Value)} {ep : Nat} {t : SetTable}
/-- the probe behind c steps of the way of a hash -/
abbrev prb (m : Nat) (h : Int) (c : Nat) : SetTable.Probe := nth m (runAt m (SetTable.bits h % (m + 1)) (SetTable.bits h)) c
theorem prb_j (m : Nat) (h : Int) (c q : Nat) : (nth m (prb m h c) q).j = way m h (c + q) := congrArg SetTable.Probe.j (nth_add m c _ q).symm
theorem prb_dummy (m : Nat) (h : Int) (c : Nat) : (prb m h c).dummy = none := by
  have key : ∀ (n : Nat) (p : SetTable.Probe), p.dummy = none → (nth m p n).dummy = none := by
    intro n
    induction n with
    | zero => exact fun p h => h
    | succ n ih =>
      intro p hp
      refine ih (adv m p) ?_
      unfold adv
      split <;> exact hp
  exact key c _ rfl
theorem seek_row (R : SetT P w s.heap a L es ep t) {k : List Key} {x : Addr} (hx : IsTupleKey (mixKind P w) s.heap k x) (hu : A.units < cLine) {h : Int} (eh : rkH P w k = h) {K : Nat} (hKf : K < 10 * SetTable.turns t.mask)
    (hK : way t.mask h K ∉ t.place.toList) (hKb : ∀ c, c < K → way t.mask h c ∈ t.place.toList) {Q : SetFound → Shared → Prop} (yes : k ∈ L.map (·.1) → Q (.there none) s) (no : k ∉ L.map (·.1) → Q (.free (way t.mask h K) false) s) :
    ∀ (f c : Nat) (stand : Option SetTable.Probe), stand.getD (t.probeStart h) = prb t.mask h c → c ≤ K → K - c < f → (∀ (i : Nat) p, L[i]? = some p → p.1 = k → ∃ c', c ≤ c' ∧ c' < K ∧ t.place.toList[i]? = some (way t.mask h c')) →
      wpAny (model P w) A (setSearchFrom a (.ref x) h true f stand) Q E s := by
  obtain ⟨o, ho, hex, hd⟩ := R.ob
  have hash_at : ∀ (i : Nat) p, L[i]? = some p → (es[i]?.map (·.1)).getD 0 = rkH P w p.1 := fun i p hp => by
    rw [R.at hp]
    rfl
  intro f
  induction f with
  | zero => exact fun c stand _ _ z => absurd z (Nat.not_lt_zero _)
  | succ f ih =>
    intro c stand hst hc hf hre
    rw [setSearchFrom_succ]
    refine wpAny_bind (wpAny_setState_of ho hd R.fits ?_)
    dsimp only
    refine wp_if_neg (show ¬ t.gaveWay = true by
      unfold SetTable.gaveWay
      have := mask_odd R.tab.mok
      simp [this]) ?_
    try refine wpAny_bind (wpAny_pure ?_)
    have spec := go_spec t R.tab.ris R.tab.dm (fun i => (es[i]?.map (·.1)).getD 0) h (10 * SetTable.turns t.mask) (K - c) (prb t.mask h c) (prb_dummy _ _ _) (by omega)
      (fun q hq => by rw [prb_j]; exact hKb (c + q) (by omega)) (by rw [prb_j, Nat.add_sub_cancel' hc]; exact hK)
    rcases spec with ⟨q, i, hq, hi, hh, hno, hpr⟩ | ⟨hno, hpr⟩
    · rw [prb_j] at hi
      have hpr' : t.probe (fun i => (es[i]?.map (·.1)).getD 0) h (stand.getD (t.probeStart h)) = some (.candidate (way t.mask h (c + q)) i (prb t.mask h (c + (q + 1)))) := by
        have e3 : nth t.mask (prb t.mask h c) (q + 1) = prb t.mask h (c + (q + 1)) := (nth_add t.mask c _ (q + 1)).symm
        rw [← prb_j, ← e3, hst]
        exact hpr
      rw [hpr']
      dsimp only
      have hil : i < L.length := by
        have h1 := (List.getElem?_eq_some_iff.mp hi).1
        have h2 := R.tab.sz
        rw [List.length_map] at h2
        rw [Array.length_toList] at h1
        omega
      obtain ⟨p, hp⟩ : ∃ p, L[i]? = some p := ⟨_, List.getElem?_eq_getElem hil⟩
      have mp : p ∈ L := List.mem_of_getElem? hp
      obtain ⟨b, hb, hpt⟩ := R.is p mp
      have rest : wpAny (model P w) A (searchRest a (.ref x) h true f es t (way t.mask h (c + q)) i (prb t.mask h (c + (q + 1)))) Q E s := by
        unfold searchRest
        rw [R.at hp]
        dsimp only
        rw [hb]
        refine wpAny_bind (wpAny_holding (wpAny_eqBool_tuple hu hpt hx ?_))
        refine wpAny_bind (wpAny_setState_of ho hd R.fits ?_)
        dsimp only
        by_cases hkk : p.1 = k
        · exact wp_if_pos (by simp [hkk]) (wpAny_pure (yes (List.mem_map.mpr ⟨p, mp, hkk⟩)))
        · refine wp_if_neg (by simp [hkk]) ?_
          try refine wpAny_bind (wpAny_pure ?_)
          rw [sameMem]
          dsimp only
          have hsl : t.slot (way t.mask h (c + q)) = .live i := slot_live R.tab.ris hi
          simp only [if_true, hsl, R.at hp, hb]
          refine wpAny_bind (wpAny_isSame_ref_self (wpAny_bind (wpAny_pure ?_)))
          simp only [if_true]
          refine wp_if_neg (by simp [hkk]) (ih (c + (q + 1)) _ rfl (by omega) (by omega) fun i0 p0 h0 hk0 => ?_)
          obtain ⟨c', a1, a2, a3⟩ := hre i0 p0 h0 hk0
          refine ⟨c', ?_, a2, a3⟩
          rcases Nat.lt_trichotomy c' (c + q) with z | z | z
          · refine absurd ((hash_at i0 p0 h0).trans ((congrArg (rkH P w) hk0).trans eh)) (hno (c' - c) i0 (by omega) ?_)
            rw [prb_j, Nat.add_sub_cancel' a1]
            exact a3
          · rw [z] at a3
            have s0 := slot_live R.tab.ris a3
            rw [hsl] at s0
            injection s0 with s0
            rw [← s0, hp] at h0
            exact absurd ((congrArg Prod.fst (Option.some.inj h0)).trans hk0) hkk
          · omega
      by_cases hl : t.led = true
      · refine wp_if_neg (by simp [hl]) ?_
        try refine wpAny_bind (wpAny_pure ?_)
        exact rest
      · refine wp_if_pos (by simp [hl]) (wpAny_bind (unseen_rows hx (fun y hy => ?_) ?_))
        · obtain ⟨e, he, rfl⟩ := List.mem_map.mp hy
          have he1 : e ∈ es ∧ e.1 = h := by simpa using he
          have he2 : e ∈ es.toList := by simpa using he1.1
          rw [R.rows] at he2
          obtain ⟨p2, hp2, rfl⟩ := List.mem_map.mp he2
          exact ⟨p2.1, R.is p2 hp2⟩
        · refine wp_if_neg (by decide) ?_
          try refine wpAny_bind (wpAny_pure ?_)
          exact rest
    · have hpr' : t.probe (fun i => (es[i]?.map (·.1)).getD 0) h (stand.getD (t.probeStart h)) = some (.empty (way t.mask h K) none) := by
        have e2 : way t.mask h K = (nth t.mask (prb t.mask h c) (K - c)).j := by rw [prb_j, Nat.add_sub_cancel' hc]
        rw [hst, e2]
        exact hpr
      rw [hpr']
      dsimp only
      refine wpAny_pure (no fun hm => ?_)
      obtain ⟨p0, h0, hk0⟩ := List.mem_map.mp hm
      obtain ⟨i0, hi0, e0⟩ := List.getElem_of_mem h0
      have h00 : L[i0]? = some p0 := by rw [List.getElem?_eq_getElem hi0, e0]
      obtain ⟨c', a1, a2, a3⟩ := hre i0 p0 h00 hk0
      refine hno (c' - c) i0 (by omega) ?_ ((hash_at i0 p0 h00).trans ((congrArg (rkH P w) hk0).trans eh))
      rw [prb_j, Nat.add_sub_cancel' a1]
      exact a3
theorem seek_at (R : SetT P w s.heap a L es ep t) {k : List Key} {x : Addr} (hx : IsTupleKey (mixKind P w) s.heap k x) (hu : A.units < cLine) {Q : SetFound → Shared → Prop} (yes : k ∈ L.map (·.1) → Q (.there none) s)
    (no : ∀ K, k ∉ L.map (·.1) → way t.mask (rkH P w k) K ∉ t.place.toList → (∀ c, c < K → way t.mask (rkH P w k) c ∈ t.place.toList) → Q (.free (way t.mask (rkH P w k) K) false) s) : wpAny (model P w) A (setSearch a (.ref x) (rkH P w k) true) Q E s := by
  have hroom := R.room
  obtain ⟨K, hKf, hK, hKb⟩ := R.tab.first (by rw [List.length_map]; omega) (rkH P w k)
  have hbig : K < 100000 := by
    have : 10 * SetTable.turns t.mask ≤ 1420 := by
      unfold SetTable.turns
      rcases R.tab.mok with e | e | e <;> omega
    omega
  unfold setSearch
  refine seek_row R hx hu rfl hKf hK hKb yes (fun hn => no K hn hK hKb) 100000 0 none rfl (Nat.zero_le _) (by omega) fun i p hp hk => ?_
  have hi : (L.map fun p => rkH P w p.1)[i]? = some (rkH P w k) := by
    rw [List.getElem?_map, hp, ← hk]
    rfl
  have hil : i < t.place.toList.length := by
    have h1 := (List.getElem?_eq_some_iff.mp hp).1
    have h2 := R.tab.sz
    rw [List.length_map] at h2
    rw [Array.length_toList]
    omega
  have hj := List.getElem?_eq_getElem hil
  obtain ⟨c, hc, e⟩ := R.tab.before hK hi hj
  exact ⟨c, Nat.zero_le _, hc, by rw [hj, e]⟩
end
end Sh
/-! a row put into a set of rows -/
namespace Sh
open PySem PySem.Spec PyProof.Rows L2
section
variable {P : Program} {w : World} {A : Around} {E : Value → Shared → Prop} {s : Shared} {a : Addr} {L : List (List Key × Value)} {es : Array (Int × Value)} {ep : Nat} {t : SetTable}
theorem pick_all {α : Type} (es : Array α) : (List.range es.size).filterMap (fun i => es[i]?) = es.toList := by
  have go : ∀ n, n ≤ es.size → (List.range n).filterMap (fun i => es[i]?) = es.toList.take n := by
    intro n
    induction n with
    | zero => intro _; rfl
    | succ n ih =>
      intro hn
      rw [List.range_succ, List.filterMap_append, ih (by omega), List.take_succ, Array.getElem?_toList]
      rw [List.filterMap_cons_some (Array.getElem?_eq_getElem hn), Array.getElem?_eq_getElem hn] <;> rfl
  rw [go _ (Nat.le_refl _), ← Array.length_toList, List.take_length]
theorem pick_keys (es : Array (Int × Value)) : ∀ l : List Nat, (∀ i ∈ l, i < es.size) → (l.filterMap fun i => es[i]?).map (·.1) = l.map fun i => (es.map (·.1)).getD i 0
  | [], _ => rfl
  | i :: l, h => by
    have hi := h i List.mem_cons_self
    have e := Array.getElem?_eq_getElem hi
    rw [List.filterMap_cons_some e, List.map_cons, List.map_cons, pick_keys es l fun j hj => h j (List.mem_cons_of_mem _ hj)]
    congr 1
    rw [Array.getD_eq_getD_getElem?, Array.getElem?_map, e]
    rfl
theorem relay_rows {o : Obj} (ho : s.heap.get? a = some o) (hex : o.ExactSet) (hd : o.data = .set es ep t) (hrows : es.toList = L.map (rowT P w)) (hsz : t.place.size = es.size) (hdm : t.dummies = #[]) (hfl : es.size ≤ t.mask)
    (nd : (L.map (·.1)).Nodup) (tup : ∀ p ∈ L, IsRow P w s.heap p.1 p.2) (ld : w.params.followText "set-order" = true ∨ t.led = true) (few : L.length < 64) {wanted M : Nat}
    (hw : SetTable.sizeAbove wanted - 1 = M) (hM : MaskOk M) (hw2 : SetTable.sizeAbove wanted ≤ 128) (hn : L.length * 5 < M * 3) {Q : Unit → Shared → Prop}
    (hQ : ∀ h' L' es' ep' t', Heap.SameBut a s.heap h' → SetT P w h' a L' es' ep' t' → L'.Perm L → Q () { s with heap := h' }) : wpAny (model P w) A (setRelay a wanted) Q E s := by
  have hsl : es.size = L.length := by rw [← Array.length_toList, hrows, List.length_map]
  have hfits : t.fits es.size = true := by
    unfold SetTable.fits SetTable.fill
    rw [hdm, Bool.and_eq_true, beq_iff_eq, decide_eq_true_eq]
    show t.place.size = es.size ∧ t.place.size + 0 ≤ t.mask
    omega
  obtain ⟨t', order, e, hp, T, em, el, e3, ed⟩ := relaid_ok t (hs := es.map (·.1)) (wanted := wanted) hw hM (by rw [Array.size_map, hsl]; omega)
  rw [Array.size_map] at hp
  have tl : (order.filterMap (es[·]?)).toList = order.toList.filterMap fun i => es[i]? := by simp
  have pm : (order.filterMap (es[·]?)).toList.Perm es.toList := by
    rw [tl, ← pick_all es]
    exact hp.filterMap _
  obtain ⟨L2, r2, r1⟩ := perm_of_map pm hrows
  have r3 : (L2.map fun p => rkH P w p.1) = order.toList.map fun i => (es.map (·.1)).getD i 0 := by
    rw [← pick_keys es order.toList fun i hi => List.mem_range.mp (hp.mem_iff.mp hi), ← tl, r1, List.map_map]
    rfl
  rw [← r3] at T
  have hs2 : (order.filterMap (es[·]?)).size = es.size := by rw [← Array.length_toList, pm.length_eq, Array.length_toList]
  rw [setRelay_eq]
  refine wpAny_bind (wpAny_setState_of ho hd hfits ?_)
  dsimp only
  refine wp_if_neg (by rw [sizeLine_eq]; omega) ?_
  try refine wpAny_bind (wpAny_pure ?_)
  rw [e]
  dsimp only
  refine wpAny_bind ?_
  refine wp_if_neg (by rw [hs2]; simp) ?_
  try refine wpAny_bind (wpAny_pure ?_)
  refine wpAny_pure ?_
  dsimp only
  refine wpAny_storeSet_of ho hd ?_ (by rw [hs2, hsl, sizeLine_eq]; omega)
  have sb : Heap.SameBut a s.heap (s.heap.update a (Obj.putSet (order.filterMap (es[·]?)) t')) := Heap.SameBut.update ..
  refine hQ _ L2 (order.filterMap (es[·]?)) (ep + 1) t' sb ?_ r2
  refine ⟨⟨_, store_at ho hd, ⟨hex.1, hex.2.1, hex.2.2⟩, rfl⟩, r1, T, fun p hpm => isRow_same (tup p (r2.mem_iff.mp hpm)) ho hex sb, (r2.map (·.1)).nodup_iff.mpr nd, by rw [el]; exact ld, ?_, by rw [r2.length_eq]; exact few⟩
  rw [r2.length_eq, em]
  exact hn
theorem add_row (R : SetT P w s.heap a L es ep t) {x : Addr} {k : List Key} (hx : IsTupleKey (mixKind P w) s.heap k x) (hu : A.units < cLine) (hfew : L.length + 1 < 64) {Q : Bool → Shared → Prop}
    (hQ : ∀ b h' L' es' ep' t', Heap.SameBut a s.heap h' → SetT P w h' a L' es' ep' t' → (k ∈ L.map (·.1) → L' = L) → (k ∉ L.map (·.1) → L'.Perm ((k, .ref x) :: L)) → Q b { s with heap := h' }) :
    wpAny (model P w) A (setAddHashed a (.ref x) (rkH P w k)) Q E s := by
  obtain ⟨o, ho, hex, hd⟩ := R.ob
  have hsl := R.size
  have hroom := R.room
  unfold setAddHashed
  refine wpAny_holding ?_
  rw [show (100000 : Nat) = 99999 + 1 from rfl, setAddHashedIn_succ]
  refine wpAny_bind (wpAny_setState_of ho hd R.fits ?_)
  dsimp only
  refine wp_if_neg (by simp [byScan, Value.scannable]) ?_
  try refine wpAny_bind (wpAny_pure ?_)
  refine wpAny_bind (seek_at R hx hu (fun hm => ?_) fun K hm hK hb => ?_)
  · dsimp only
    exact wpAny_pure (hQ false s.heap L es ep t (Heap.SameBut.refl a s.heap) R (fun _ => rfl) fun z => absurd hm z)
  · dsimp only
    refine wpAny_bind (wpAny_setState_of ho hd R.fits ?_)
    dsimp only
    obtain ⟨q1, q2, q3, q4, q5, q6, q7, q8, q9⟩ := R.tab.put hK hb
    generalize hpt : t.put (way t.mask (rkH P w k) K) = pt at q1 q3 q4 q5 q6 q7 q8 q9 ⊢
    obtain ⟨t1, p⟩ := pt
    dsimp only at q1 q3 q4 q5 q6 q7 q8 q9 ⊢
    subst q1
    have hin : (SetTable.insertAt es (SetTable.below t.place (way t.mask (rkH P w k) K)) (rkH P w k, Value.ref x)).toList = (L.take (SetTable.below t.place (way t.mask (rkH P w k) K)) ++ (k, Value.ref x) :: L.drop (SetTable.below t.place (way t.mask (rkH P w k) K))).map (rowT P w) := by
      rw [SetTable.toList_insertAt, R.rows, List.map_append, List.map_cons, List.map_take, List.map_drop]
    generalize hpp : SetTable.below t.place (way t.mask (rkH P w k) K) = p at q2 q3 hin ⊢
    have pm : (L.take p ++ (k, Value.ref x) :: L.drop p).Perm ((k, Value.ref x) :: L) := by
      have h : (L.take p ++ (k, Value.ref x) :: L.drop p).Perm ((k, Value.ref x) :: (L.take p ++ L.drop p)) := List.perm_middle
      rwa [List.take_append_drop] at h
    have hlen : (L.take p ++ (k, Value.ref x) :: L.drop p).length = L.length + 1 := pm.length_eq
    have hhs : (L.take p ++ (k, Value.ref x) :: L.drop p).map (fun p => rkH P w p.1) = (L.map fun p => rkH P w p.1).take p ++ rkH P w k :: (L.map fun p => rkH P w p.1).drop p := by
      rw [List.map_append, List.map_cons, List.map_take, List.map_drop]
    rw [← hhs] at q3
    have nd1 : ((L.take p ++ (k, Value.ref x) :: L.drop p).map (·.1)).Nodup := (pm.map (·.1)).nodup_iff.mpr (List.nodup_cons.mpr ⟨hm, R.nd⟩)
    have hes : (SetTable.insertAt es p (rkH P w k, Value.ref x)).size = L.length + 1 := by rw [← Array.length_toList, hin, List.length_map, hlen]
    generalize SetTable.insertAt es p (rkH P w k, Value.ref x) = es1 at hin hes ⊢
    generalize L.take p ++ (k, Value.ref x) :: L.drop p = L1 at pm hlen q3 nd1 hin
    have ld1 : w.params.followText "set-order" = true ∨ t1.led = true := by rw [q5]; exact R.led
    have core : ∀ t2 : SetTable, TabOk t2 (L1.map fun p => rkH P w p.1) → t2.mask = t.mask → (w.params.followText "set-order" = true ∨ t2.led = true) → t2.fill = L.length + 1 →
        wpAny (model P w) A (do
          storeSet a es1 t2
          if (!false && t2.tooFull) = true then do
              setRelay a (SetTable.grown (es.size + 1))
              pure true
            else pure true) Q E s := fun t2 q3 q4 ld1 q9 => by
      refine wpAny_bind (wpAny_storeSet_of ho hd ?_ (by rw [hes, sizeLine_eq]; omega))
      have sb : Heap.SameBut a s.heap (s.heap.update a (Obj.putSet es1 t2)) := Heap.SameBut.update ..
      have ho1 := store_at (es' := es1) (t' := t2) ho hd
      generalize s.heap.update a (Obj.putSet es1 t2) = h1 at sb ho1 ⊢
      have tup1 : ∀ p ∈ L1, IsRow P w h1 p.1 p.2 := fun p hp => by
        rcases List.mem_cons.mp (pm.mem_iff.mp hp) with e | hp
        · rw [e]; exact isRow_same ⟨x, rfl, hx⟩ ho hex sb
        · exact isRow_same (R.is p hp) ho hex sb
      by_cases hf : t2.tooFull = true
      · refine wp_if_pos (by simp [hf]) ?_
        refine wpAny_bind ?_
        have hfull : (L.length + 1) * 5 ≥ t2.mask * 3 := by
          have h := hf
          unfold SetTable.tooFull at h
          rw [decide_eq_true_eq, q9] at h
          exact h
        rw [hsl]
        have hsz1 : t2.place.size = es1.size := by
          have h := q3.sz
          rw [List.length_map, hlen] at h
          rw [h, hes]
        have cases2 : (t.mask = 7 ∧ L.length = 4) ∨ (t.mask = 31 ∧ L.length = 18) := by
          rcases R.tab.mok with e | e | e
          · left; rw [q4, e] at hfull; rw [e] at hroom; exact ⟨e, by omega⟩
          · right; rw [q4, e] at hfull; rw [e] at hroom; exact ⟨e, by omega⟩
          · exfalso; rw [q4, e] at hfull; omega
        have go : ∀ M, SetTable.sizeAbove (SetTable.grown (L.length + 1)) - 1 = M → MaskOk M → SetTable.sizeAbove (SetTable.grown (L.length + 1)) ≤ 128 → (L.length + 1) * 5 < M * 3 →
            wpAny (model P w) A (setRelay a (SetTable.grown (L.length + 1))) (fun _ s' => wpAny (model P w) A (pure true) Q E s') E { s with heap := h1 } := fun M h1' h2' h3' h4' => by
          refine relay_rows (s := { s with heap := h1 }) ho1 ⟨hex.1, hex.2.1, hex.2.2⟩ rfl hin hsz1 q3.dm (by rw [hes, q4]; rcases cases2 with ⟨e, e2⟩ | ⟨e, e2⟩ <;> omega) nd1 tup1 ld1 (by rw [hlen]; exact hfew) h1' h2' h3' (by rw [hlen]; exact h4') ?_
          intro h2 L2 es2 ep2 t2 sb2 R2 pm2
          exact wpAny_pure (hQ true h2 L2 es2 ep2 t2 (sb.trans sb2) R2 (fun z => absurd z hm) fun _ => pm2.trans pm)
        rcases cases2 with ⟨_, e2⟩ | ⟨_, e2⟩
        · refine go 31 (by rw [e2, size_20]) (.inr (.inl rfl)) (by rw [e2, size_20]; decide) (by omega)
        · refine go 127 (by rw [e2, size_76]) (.inr (.inr rfl)) (by rw [e2, size_76]; decide) (by omega)
      · refine wp_if_neg (by simp [hf]) ?_
        refine wpAny_pure (hQ true h1 L1 es1 (ep + 1) t2 sb ⟨⟨_, ho1, ⟨hex.1, hex.2.1, hex.2.2⟩, rfl⟩, hin, q3, tup1, nd1, ld1, ?_, by rw [hlen]; exact hfew⟩ (fun z => absurd z hm) fun _ => pm)
        have h := hf
        unfold SetTable.tooFull at h
        rw [decide_eq_true_eq, q9] at h
        rw [hlen]
        omega
    rw [List.length_map] at q9
    have bv : ∀ r : Bool, wpAny (model P w) A (do
          storeSet a es1 (if r = true then t1 else { t1 with plain := false })
          if (!false && (if r = true then t1 else { t1 with plain := false }).tooFull) = true then do
              setRelay a (SetTable.grown (es.size + 1))
              pure true
            else pure true) Q E s := fun r => by
      cases r
      · exact core { t1 with plain := false } ⟨q3.ris, q3.dm, q3.sz, q3.mok, q3.bd, q3.reach⟩ q4 ld1 q9
      · exact core t1 q3 q4 ld1 q9
    by_cases hpl : t1.plain = true
    · refine wp_if_pos hpl ?_
      refine wpAny_bind (byValue_row hx fun r => ?_)
      exact bv r
    · refine wp_if_neg hpl ?_
      refine wpAny_bind (wpAny_pure ?_)
      exact bv true
theorem rows_adds : Adds P w a (List Key) 63 (IsRow P w) (fun h L => ∃ es ep t, SetT P w h a L es ep t) where
  keep := fun h h' L R k hi => by
    obtain ⟨es, ep, t, R⟩ := R
    obtain ⟨o, ho, r⟩ := R.ob
    exact ⟨es, ep, t, ⟨o, k o ho, r⟩, R.rows, R.tab, hi, R.nd, R.led, R.room, R.few⟩
  add := fun A E s k v L Q hu R hk hm hQ => by
    obtain ⟨es, ep, t, R⟩ := R
    obtain ⟨b, rfl, hx⟩ := hk
    unfold setAdd
    refine wpAny_holding (wpAny_bind (wpAny_pyHash_tuple (by omega) hx ?_))
    exact add_row (s := { s with toks := s.toks + (k.length + 1) }) R hx (by omega) (by omega) fun b h' L' es' ep' t' sb S' c1 c2 => hQ b h' _ L' sb (Nat.le_add_right _ _) ⟨es', ep', t', S'⟩ c1 c2
end
end Sh
/-! sorted(set(xs)), len(set(xs)) -/
namespace Sh
open PySem PySem.Spec PyProof.Rows L2
theorem canSort_perm {l m : List Dat} (h : l.Perm m) (c : CanSort m) : CanSort l where
  al := fun d hd d' hd' => c.al d ((h.map Dat.py).mem_iff.mp hd) d' ((h.map Dat.py).mem_iff.mp hd')
  ok := c.ok.imp (fun f d hd => f d ((h.map Dat.py).mem_iff.mp hd)) (fun f d hd => f d ((h.map Dat.py).mem_iff.mp hd))
  fine := fun d hd => c.fine d (h.mem_iff.mp hd)
theorem canSort_sub {l m : List Dat} (h : ∀ d ∈ l, d ∈ m) (c : CanSort m) : CanSort l where
  al := fun d hd d' hd' => by
    obtain ⟨x, hx, rfl⟩ := List.mem_map.mp hd
    obtain ⟨y, hy, rfl⟩ := List.mem_map.mp hd'
    exact c.al _ (List.mem_map.mpr ⟨x, h x hx, rfl⟩) _ (List.mem_map.mpr ⟨y, h y hy, rfl⟩)
  ok := c.ok.imp (fun f d hd => by
    obtain ⟨x, hx, rfl⟩ := List.mem_map.mp hd
    exact f _ (List.mem_map.mpr ⟨x, h x hx, rfl⟩)) (fun f d hd => by
    obtain ⟨x, hx, rfl⟩ := List.mem_map.mp hd
    exact f _ (List.mem_map.mpr ⟨x, h x hx, rfl⟩))
  fine := fun d hd => c.fine d (h d hd)
theorem each_pairs {κ : Type} {enc : κ → Dat} {R : Value → Dat → Prop} : ∀ {L : List (κ × Value)}, (∀ p ∈ L, R p.2 (enc p.1)) → PySem.W.EachIs R (L.map (·.2)) (L.map fun p => enc p.1)
  | [], _ => .nil
  | p :: L, h => .cons (h p List.mem_cons_self) (each_pairs fun q hq => h q (List.mem_cons_of_mem _ hq))
section
variable {P : Program} {w : World} {A : Around} {E : Value → Shared → Prop} {s : Shared} {a : Addr}
theorem sorted_setV {κ : Type} {enc : κ → Dat} {L : List (κ × Value)} {R : Value → Dat → Prop} {Q : Value → Shared → Prop} (V : SetV w s.heap a (L.map (·.2))) (hh : A.handled = none) (hR : ∀ p ∈ L, R p.2 (enc p.1)) (hr : ∀ p ∈ L, ∃ as, Reads s.heap p.2 (enc p.1).py as)
    (cs : CanSort (L.map fun p => enc p.1)) (hu : A.units + 64 < cLine)
    (hQ : ∀ s' p (out : List Value) (c : Nat) (L' : List (κ × Value)), (∀ b o, s.heap.get? b = some o → s'.heap.get? b = some o) → s'.gens = s.gens → s'.os = s.os → s.heap.objs.size ≤ p →
      s'.heap.get? p = some (seqObj "list" out.toArray c) → L'.Perm L → out.length = L.length → PySem.W.EachIs R out (srt (L'.map fun p => enc p.1)) → L.length ≤ sizeLine → Q (.ref p) s') :
    wpAny (model P w) A (call (.builtin "sorted") [.ref a]) Q E s := by
  obtain ⟨o, es, ep, t, ho, hex, hd, hes, hsz, hf, hri, hl⟩ := V.ex
  refine Calls.call_function_entry kind_sorted plain_sorted entry_sorted (args_sorted1 _) ?_
  unfold Builtin.«sorted»
  refine wpAny_bind (m := checkCount "sorted" 1 1 _) (wpAny_pure ?_)
  refine wpAny_bind (collect_set (A := A.in1) hh ⟨o, ho, hex.1, hd⟩ hf hsz hri hl fun s1 vs k1 hz g1 o1 pm => ?_)
  rw [hes] at pm
  obtain ⟨L1, p1, e1⟩ := perm_of_map pm rfl
  have hLs : L.length ≤ sizeLine := by
    have e := congrArg List.length hes
    rw [List.length_map, List.length_map, Array.length_toList] at e
    rw [← e]
    have : scanBound ≤ sizeLine := by rw [sizeLine_eq]; decide
    omega
  have hvl : vs.length = L.length := by rw [pm.length_eq, List.length_map]
  refine wpAny_bind (wpAny_newList ?_ (by rw [hvl]; exact hLs))
  have hoL : (s1.heap.push (seqObj "list" vs.toArray 0)).get? s1.heap.objs.size = some (seqObj "list" vs.toArray 0) := Heap.get?_push_size _ rfl
  have cs1 : CanSort (L1.map fun p => enc p.1) := canSort_perm (p1.map _) cs
  have eR : PySem.W.EachIs R vs (L1.map fun p => enc p.1) := by
    rw [e1]
    exact each_pairs fun p hp => hR p (p1.mem_iff.mp hp)
  have er : PySem.W.EachIs (fun v d => ∃ as, Reads (PySem.W.sortingHeap (s1.heap.push (seqObj "list" vs.toArray 0)) s1.heap.objs.size vs) v (Dat.py d) as) vs (L1.map fun p => enc p.1) := by
    rw [e1]
    refine each_pairs fun p hp => ?_
    obtain ⟨as, r⟩ := hr p (p1.mem_iff.mp hp)
    refine ⟨as, PyProof.Rows.Reads.keeps (fun b u e => ?_) r⟩
    have q := k1 b u e
    exact PySem.W.sortingHeap_old (Nat.ne_of_lt (Heap.lt_size q)) (Heap.get?_push_of_some _ q)
  refine wpAny_bind (wpAny_holding (wpAny_call_entry slot_list_sort ⟨_, hoL, rfl⟩ entry_list_sort (PySem.W.list_sort_vals (κ := PySem.W.dataKind (PySem.W.sortingHeap (s1.heap.push (seqObj "list" vs.toArray 0)) s1.heap.objs.size vs) ((L1.map fun p => enc p.1).map Dat.py)) (s := { s1 with heap := s1.heap.push (seqObj "list" vs.toArray 0) }) hoL (PySem.W.SortsAt.data (s := { s1 with heap := PySem.W.sortingHeap (s1.heap.push (seqObj "list" vs.toArray 0)) s1.heap.objs.size vs }) (PySem.W.each_map (R := fun v d => ∃ as, Reads (PySem.W.sortingHeap (s1.heap.push (seqObj "list" vs.toArray 0)) s1.heap.objs.size vs) v d as) Dat.py er) cs1.al cs1.ok (PySem.W.bound_map fun d hd => ?_)) (by rw [hvl]; exact hLs) ⟨.none, rfl, ?_⟩) (args_list_sort _)))
  · have := (cs1.fine d hd).dep
    show A.units + 1 + 1 + _ < cLine
    omega
  · obtain ⟨c, hc⟩ := sortedHeap_at (vs := vs) (out := (PySem.W.sortVals (PySem.W.dataKind (PySem.W.sortingHeap (s1.heap.push (seqObj "list" vs.toArray 0)) s1.heap.objs.size vs) ((L1.map fun p => enc p.1).map Dat.py)) false vs vs).toArray) hoL
    refine wpAny_pure ⟨_, rfl, hQ _ s1.heap.objs.size _ c L1 (fun b u e => ?_) g1 o1 hz hc p1 ?_ (PySem.W.sortVals_data false eR er cs1.al) hLs⟩
    · have q := k1 b u e
      have hlt := Heap.lt_size q
      show (sortedHeap (s1.heap.push (seqObj "list" vs.toArray 0)) s1.heap.objs.size vs _).get? b = some u
      rw [sortedHeap_old (Nat.ne_of_lt hlt) (by rw [size_push']; exact Nat.lt_succ_of_lt hlt)]
      exact Heap.get?_push_of_some _ q
    · rw [PySem.W.sortVals_length false rfl, hvl]
end
def kD : Key → Dat
  | .inl n => .int n
  | .inr x => .str x
def rowD (k : List Key) : Dat := .tup (k.map kD)
theorem kD_inj {a b : Key} (h : kD a = kD b) : a = b := by
  cases a with
  | inl i => cases b with
    | inl j => injection h with h; rw [h]
    | inr y => exact nomatch (show Dat.int i = Dat.str y from h)
  | inr x => cases b with
    | inl j => exact nomatch (show Dat.str x = Dat.int j from h)
    | inr y => injection h with h; rw [h]
theorem kDs_inj : ∀ {a b : List Key}, a.map kD = b.map kD → a = b
  | [], [], _ => rfl
  | [], _ :: _, h => by cases h
  | _ :: _, [], h => by cases h
  | x :: a, y :: b, h => by
    rw [List.map_cons, List.map_cons] at h
    injection h with h1 h2
    rw [kD_inj h1, kDs_inj h2]
theorem rowD_inj {a b : List Key} (h : rowD a = rowD b) : a = b := by
  injection h with h
  exact kDs_inj h
/-- the members of sets: ints and texts, or flat tuples of these -/
structure Kin (P : Program) (w : World) (κ : Type) (enc : κ → Dat) (most : Nat) (Is : Heap → κ → Value → Prop) (J : Addr → Heap → List (κ × Value) → Prop) : Prop where
  inj : ∀ {a b : κ}, enc a = enc b → a = b
  ad : ∀ a, Adds P w a κ most Is (J a)
  is : ∀ {X : Cx} {pins : List (Addr × Obj)} {σ : L2.St} {H : Hp} {s : Shared} {S : Sc} {v : V} {u : Value} {k : κ}, X.prog = P → X.w = w → Inv X pins σ H s → RelV v u → Rp X.K S H v (enc k) → ∀ h, (∀ b o, s.heap.get? b = some o → h.get? b = some o) → Is h k u
  fresh : ∀ (h : Heap) (a : Addr), h.get? a = some (set0 w) → J a h []
  v : ∀ (h : Heap) (a : Addr) (L : List (κ × Value)), J a h L → SetV w h a (L.map (·.2)) ∧ (L.map (·.1)).Nodup
  most : most ≤ 1000
section
variable {P : Program} {w : World}
theorem led0 : w.params.followText "set-order" = true ∨ (!w.params.followText "set-order") = true := by
  cases w.params.followText "set-order"
  · exact .inr rfl
  · exact .inl rfl
theorem kv_of {K : PySem.W.Frag} {S : Sc} {H : Hp} {v : V} {k : Key} (h : Rp K S H v (kD k)) : v = kV k := by
  cases k with
  | inl n => cases h; rfl
  | inr x => cases h; rfl
theorem kvs_of {K : PySem.W.Frag} {S : Sc} {H : Hp} : ∀ {ks : List Key} {vs : List V}, Rps K S H vs (ks.map kD) → vs = ks.map kV
  | [], _, h => by
    cases h
    rfl
  | k :: ks, _, h => by
    rw [List.map_cons] at h
    cases h with
    | cons a t => rw [kv_of a, kvs_of t, List.map_cons]
theorem kinS : Kin P w Key kD 1000 (fun _ k v => keyIs k v = true) (fun a h L => SetS w h a L) where
  inj := kD_inj
  ad := fun a => setS_adds
  is := fun {X pins σ H s S v u k} e1 e2 I r h hp _ => by
    rw [kv_of h] at r
    exact kV_is (P := P) (w := w) r
  fresh := fun h a ho => ⟨⟨_, #[], 0, _, ho, ⟨rfl, rfl, rfl⟩, rfl, rfl, by decide, rfl, List.Pairwise.nil, led0⟩, (fun p hp => by cases hp), List.nodup_nil⟩
  v := fun h a L R => ⟨R.v, R.nd⟩
  most := by decide
theorem kinR : Kin P w (List Key) rowD 63 (IsRow P w) (fun a h L => ∃ es ep t, SetT P w h a L es ep t) where
  inj := rowD_inj
  ad := fun a => rows_adds
  is := fun {X pins σ H s S v u k} e1 e2 I r h hp kp => by
    subst e1 e2
    cases h with
    | @tup a vs _ n hs rr =>
      cases r
      rw [kvs_of rr] at hs
      obtain ⟨its, rv, ⟨o, ho, hc, m, hd⟩, _⟩ := I.tuple hs
      exact ⟨a, rfl, o, its.toArray, m, kp _ _ ho, hc, hd, by simpa using items_are rv⟩
  fresh := fun h a ho => ⟨#[], 0, _, ⟨_, ho, ⟨rfl, rfl, rfl⟩, rfl⟩, rfl, ⟨List.Pairwise.nil, rfl, rfl, .inl rfl, fun x hx => (by cases hx), fun i h j hi => (by simp at hi)⟩, fun p hp => (by cases hp), List.nodup_nil, led0, by
    show 0 * 5 < 7 * 3
    decide, by
    show 0 < 64
    decide⟩
  v := fun h a L ⟨es, ep, t, R⟩ => ⟨SetT.v (s := { heap := h, gens := #[], drawn := {}, toks := 0, os := {} }) R, R.nd⟩
  most := by decide
end
section
variable {P : Program} {w : World} {κ : Type} {enc : κ → Dat} {most : Nat} {Is : Heap → κ → Value → Prop} {J : Addr → Heap → List (κ × Value) → Prop} {X : Cx}
theorem pairs_of {R : Value → Dat → Prop} : ∀ {us : List Value} {ks : List κ}, PySem.W.EachIs R us (ks.map enc) → ∃ ps : List (κ × Value), us = ps.map (·.2) ∧ ks = ps.map (·.1) ∧ ∀ p ∈ ps, R p.2 (enc p.1)
  | _, [], h => by
    cases h
    exact ⟨[], rfl, rfl, fun p hp => by cases hp⟩
  | _, k :: ks, h => by
    rw [List.map_cons] at h
    cases h with
    | @cons u _ us _ a t =>
      obtain ⟨ps, e1, e2, h3⟩ := pairs_of t
      refine ⟨(k, u) :: ps, by rw [e1]; rfl, by rw [e2]; rfl, fun p hp => ?_⟩
      rcases List.mem_cons.mp hp with rfl | hp
      · exact a
      · exact h3 p hp
/-- set(xs) with what stands behind it -/
theorem set_of (N : Kin X.prog X.w κ enc most Is J) {pins : List (Addr × Obj)} {σ : L2.St} {H : Hp} {s : Shared} {S : Sc} {l : Addr} {xs : List V} {ks : List κ} {Q : Value → Shared → Prop} {E : Value → Shared → Prop} (hc : X.calm = true) (hu : X.A.units + 6 < cLine) (I : Inv X pins σ H s) (hl : SqL X.K H l xs)
    (hr : Rps X.K S H xs (ks.map enc)) (hm : ks.length ≤ most)
    (q : ∀ (h' : Heap) (tk : Nat) (a : Addr) (L : List (κ × Value)), Inv X pins σ H { s with heap := h', toks := tk } → J a h' L → (∀ p ∈ L, p.1 ∈ ks) → (∀ k ∈ ks, k ∈ L.map (·.1)) → (∀ p ∈ L, ∃ v, RelV v p.2 ∧ Rp X.K S H v (enc p.1)) → Q (.ref a) { s with heap := h', toks := tk }) :
    wpAny (model X.prog X.w) X.A (call (.type "set") [.ref l]) Q E s := by
  obtain ⟨its, rv, pl, hz⟩ := I.list hl
  obtain ⟨ps, e1, e2, h3⟩ := pairs_of (each_of (R := fun u d => ∃ v, RelV v u ∧ Rp X.K S H v d) rv hr fun v u d _ q1 q2 => ⟨v, q1, q2⟩)
  have hlen : ps.length = ks.length := by rw [e2, List.length_map]
  refine call_setG ps (I.ok.hd hc) pl.isList (by simpa using e1) (N.ad _) (by rw [hlen]; exact hm) (fun h k p hp => ?_) (fun h ho => N.fresh h _ ho) hu fun h' tk L hJ g k => ?_
  · obtain ⟨v, r1, r2⟩ := h3 p hp
    exact N.is rfl rfl I r1 r2 h k
  · refine q h' tk _ L (I.kept k) hJ (fun p hp => ?_) (fun x hx => ?_) fun p hp => h3 p (List.mem_of_mem_take (g.sub p hp))
    · rw [e2]
      exact List.mem_map.mpr ⟨p, List.mem_of_mem_take (g.sub p hp), rfl⟩
    · rw [e2] at hx
      obtain ⟨p, hp, rfl⟩ := List.mem_map.mp hx
      exact g.all p (by rw [List.take_length]; exact hp)
/-- a set can be made of these -/
def CanSet (ds : List Dat) : Prop := (∃ ks : List Key, ks.length ≤ 1000 ∧ ds = ks.map kD) ∨ ∃ ks : List (List Key), ks.length ≤ 63 ∧ ds = ks.map rowD
/-- sorted(set(e)) -/
def tSrtSet (K : PySem.W.Frag) (ta : TE) : TE := fun σ H Q => ta σ H fun x H1 => ∃ (S : Sc) (l : Addr) (xs : List V) (ds : List Dat), x = V.ref l ∧ SqL K H1 l xs ∧ Rps K S H1 xs ds ∧ CanSet ds ∧ CanSort ds ∧
  ∀ (p : Addr) (ys : List V) (L : List Dat), H1 p = none → L.Nodup → (∀ d, d ∈ L ↔ d ∈ ds) → Rps K S H1 ys (srt L) → Q (.ref p) (upd H1 p (.lst ys))
/-- len(set(e)) -/
def tLenSet (K : PySem.W.Frag) (ta : TE) : TE := fun σ H Q => ta σ H fun x H1 => ∃ (S : Sc) (l : Addr) (xs : List V) (ds : List Dat), x = V.ref l ∧ SqL K H1 l xs ∧ Rps K S H1 xs ds ∧ CanSet ds ∧
  ∀ (L : List Dat), L.Nodup → (∀ d, d ∈ L ↔ d ∈ ds) → Q (.int L.length) H1
theorem nodup_enc (N : Kin P w κ enc most Is J) : ∀ {L : List (κ × Value)}, (L.map (·.1)).Nodup → (L.map fun p => enc p.1).Nodup
  | [], _ => List.nodup_nil
  | p :: L, h => by
    rw [List.map_cons] at h
    have c := List.nodup_cons.mp h
    refine List.nodup_cons.mpr ⟨fun z => c.1 ?_, nodup_enc N c.2⟩
    obtain ⟨y, hy, e⟩ := List.mem_map.mp z
    rw [← N.inj e]
    exact List.mem_map.mpr ⟨y, hy, rfl⟩
theorem mem_enc (N : Kin P w κ enc most Is J) {L : List (κ × Value)} {ks : List κ} (h1 : ∀ p ∈ L, p.1 ∈ ks) (h2 : ∀ k ∈ ks, k ∈ L.map (·.1)) (d : Dat) : d ∈ (L.map fun p => enc p.1) ↔ d ∈ ks.map enc := by
  constructor
  · intro h
    obtain ⟨p, hp, rfl⟩ := List.mem_map.mp h
    exact List.mem_map.mpr ⟨p.1, h1 p hp, rfl⟩
  · intro h
    obtain ⟨k, hk, rfl⟩ := List.mem_map.mp h
    obtain ⟨p, hp, rfl⟩ := List.mem_map.mp (h2 k hk)
    exact List.mem_map.mpr ⟨p, hp, rfl⟩
theorem srt_step (N : Kin X.prog X.w κ enc most Is J) {pins : List (Addr × Obj)} {σ : L2.St} {H : Hp} {s : Shared} {S : Sc} {a : Addr} {ks : List κ} {L : List (κ × Value)} {Q : VK} {E : Value → Shared → Prop} (hc : X.calm = true) (hu : X.A.units + 64 < cLine) (I : Inv X pins σ H s)
    (hJ : J a s.heap L) (h1 : ∀ p ∈ L, p.1 ∈ ks) (h2 : ∀ k ∈ ks, k ∈ L.map (·.1)) (h3 : ∀ p ∈ L, ∃ v, RelV v p.2 ∧ Rp X.K S H v (enc p.1)) (cs : CanSort (ks.map enc))
    (q : ∀ (p : Addr) (ys : List V) (L : List Dat), H p = none → L.Nodup → (∀ d, d ∈ L ↔ d ∈ ks.map enc) → Rps X.K S H ys (srt L) → Q (.ref p) (upd H p (.lst ys))) :
    wpAny (model X.prog X.w) X.A (call (.builtin "sorted") [.ref a]) (fun v s' => ∃ x H', Inv X pins σ H' s' ∧ RelV x v ∧ Q x H') E s := by
  obtain ⟨V, nd⟩ := N.v _ _ _ hJ
  have mem := mem_enc N h1 h2
  refine sorted_setV (enc := enc) (R := fun u d => ∃ v, RelV v u ∧ Rp X.K S H v d) V (I.ok.hd hc) h3 (fun p hp => ?_) (canSort_sub (fun d hd => (mem d).mp hd) cs) hu fun s' p out c L' k g o hp hg pm hlen eo hz => ?_
  · obtain ⟨v, r1, r2⟩ := h3 p hp
    exact Dp.reads I _ v _ (r2.dp (cs.fine _ ((mem _).mp (List.mem_map.mpr ⟨p, hp, rfl⟩))).fine) r1
  · obtain ⟨ys, y1, y2⟩ := of_each eo
    have hn : H p = none := I.hok.fresh hp
    have J2 : Inv X pins σ (upd H p (.lst ys)) { s with heap := s'.heap, gens := s'.gens, drawn := s'.drawn, toks := s'.toks } :=
      I.call (ch := []) (Un.laid k hp hn) (I.hok.laid k hp ⟨by rw [y1.length, hlen]; exact hz, out, c, y1, hg⟩) (by rw [g]; exact I.bare) (fun _ z => nomatch z)
    have e : s' = { s with heap := s'.heap, gens := s'.gens, drawn := s'.drawn, toks := s'.toks } := by
      cases s'
      cases s
      cases o
      rfl
    rw [e]
    refine ⟨.ref p, _, J2, rfl, q p ys _ hn ((pm.map _).nodup_iff.mpr (nodup_enc N nd)) (fun d => ((pm.map _).mem_iff).trans (mem d)) y2⟩
theorem pe_srtset {e : Expr} {te : TE} {p p2 p3 pos : Pos} (b : Bn X.mg) (hu : X.A.units + 64 < cLine) (he : PE X e te) (hc : X.calm = true := by rfl) (hg : Gl X "sorted" := by rfl) (hg2 : Gl X "set" := by rfl) (na : starEach [e] X.env = (false, eval e X.env) :: starEach [] X.env := by rfl) :
    PE X (.Call (.Name "sorted" p) [.Call (.Name "set" p2) [e] [] p3] [] pos) (tSrtSet X.K te) := by
  refine ⟨fun pins s σ H Q I h => ?_⟩
  refine Call_ (ld_blt I hg b.sorted boot_sorted ?_)
  refine PyProof.Rows.callWith_builtin1 (PyProof.Rows.args_cons ?_ rfl) rfl rfl
  refine Call_ (ld_blt I hg2 b.set PyProof.Rows.boot_set ?_)
  refine PyProof.Rows.callWith_type1 (PyProof.Rows.args_cons (thn (he.run pins s σ H _ I h) fun v s1 ⟨x, H1, I1, r1, q1⟩ => PyProof.Rows.args_nil ?_) na) na rfl
  obtain ⟨S, l, xs, ds, rfl, hl, hr, ct, cs, q⟩ := q1
  cases r1
  rcases ct with ⟨ks, hm, rfl⟩ | ⟨ks, hm, rfl⟩
  · refine set_of (κ := Key) kinS hc (by omega) I1 hl hr hm fun h' tk a L I2 hJ h1 h2 h3 => PyProof.Rows.args_nil ?_
    exact srt_step (κ := Key) kinS hc hu I2 hJ h1 h2 h3 cs q
  · refine set_of (κ := List Key) kinR hc (by omega) I1 hl hr hm fun h' tk a L I2 hJ h1 h2 h3 => PyProof.Rows.args_nil ?_
    exact srt_step (κ := List Key) kinR hc hu I2 hJ h1 h2 h3 cs q
theorem len_step (N : Kin X.prog X.w κ enc most Is J) {pins : List (Addr × Obj)} {σ : L2.St} {H : Hp} {s : Shared} {a : Addr} {ks : List κ} {L : List (κ × Value)} {Q : VK} {E : Value → Shared → Prop} (I : Inv X pins σ H s)
    (hJ : J a s.heap L) (h1 : ∀ p ∈ L, p.1 ∈ ks) (h2 : ∀ k ∈ ks, k ∈ L.map (·.1)) (q : ∀ (L : List Dat), L.Nodup → (∀ d, d ∈ L ↔ d ∈ ks.map enc) → Q (.int L.length) H) :
    wpAny (model X.prog X.w) X.A (call (.builtin "len") [.ref a]) (fun v s' => ∃ x H', Inv X pins σ H' s' ∧ RelV x v ∧ Q x H') E s := by
  obtain ⟨V, nd⟩ := N.v _ _ _ hJ
  obtain ⟨o, es, ep, t, ho, hex, hd, hes, hsz, hf, hri, hl⟩ := V.ex
  have q2 := q (L.map fun p => enc p.1) (nodup_enc N nd) (mem_enc N h1 h2)
  have e := congrArg List.length hes
  rw [List.length_map, List.length_map, Array.length_toList] at e
  rw [List.length_map, ← e] at q2
  have : scanBound ≤ 2 ^ 62 := by decide
  exact call_len_set ho hex hd hf (by omega) ⟨.int es.size, H, I.tok _, ⟨_, rfl⟩, q2⟩
theorem pe_lenset {e : Expr} {te : TE} {p p2 p3 pos : Pos} (b : Bn X.mg) (hu : X.A.units + 64 < cLine) (he : PE X e te) (hc : X.calm = true := by rfl) (hg : Gl X "len" := by rfl) (hg2 : Gl X "set" := by rfl) (na : starEach [e] X.env = (false, eval e X.env) :: starEach [] X.env := by rfl) :
    PE X (.Call (.Name "len" p) [.Call (.Name "set" p2) [e] [] p3] [] pos) (tLenSet X.K te) := by
  refine ⟨fun pins s σ H Q I h => ?_⟩
  refine Call_ (ld_blt I hg b.len PySem.boot_len ?_)
  refine PyProof.Rows.callWith_builtin1 (PyProof.Rows.args_cons ?_ rfl) rfl rfl
  refine Call_ (ld_blt I hg2 b.set PyProof.Rows.boot_set ?_)
  refine PyProof.Rows.callWith_type1 (PyProof.Rows.args_cons (thn (he.run pins s σ H _ I h) fun v s1 ⟨x, H1, I1, r1, q1⟩ => PyProof.Rows.args_nil ?_) na) na rfl
  obtain ⟨S, l, xs, ds, rfl, hl, hr, ct, q⟩ := q1
  cases r1
  rcases ct with ⟨ks, hm, rfl⟩ | ⟨ks, hm, rfl⟩
  · refine set_of (κ := Key) kinS hc (by omega) I1 hl hr hm fun h' tk a L I2 hJ h1 h2 h3 => PyProof.Rows.args_nil ?_
    exact len_step (κ := Key) kinS I2 hJ h1 h2 q
  · refine set_of (κ := List Key) kinR hc (by omega) I1 hl hr hm fun h' tk a L I2 hJ h1 h2 h3 => PyProof.Rows.args_nil ?_
    exact len_step (κ := List Key) kinR I2 hJ h1 h2 q
end
section
variable {K : PySem.W.Frag} {S : Sc} {ta : TE} {ρ : Rho}
theorem ev_srtset {ds : List Dat} (ct : CanSet ds) (cs : CanSort ds) (ha : Ev K S ta ρ (Eq (.lst ds))) : Ev K S (tSrtSet K ta) ρ (fun d => ∃ L : List Dat, L.Nodup ∧ (∀ x, x ∈ L ↔ x ∈ ds) ∧ d = .lst (srt L)) := fun σ H e s Q q => ha σ H e s _ fun v H1 d f1 s1 p1 r1 => by
  subst p1
  cases r1 with
  | lst n hs r => exact ⟨S, _, _, _, rfl, hs, r, ct, cs, fun p ys L hp h1 h2 hy => q _ _ _ (f1.trans (.new hp)) (s1.new hp) ⟨L, h1, h2, rfl⟩ (.lst (.inl (s1.ne hp)) (SqL.of upd_same) (hy.mono (.new hp)))⟩
theorem ev_lenset {ds : List Dat} (ct : CanSet ds) (nd : ds.Nodup) (ha : Ev K S ta ρ (Eq (.lst ds))) : Ev K S (tLenSet K ta) ρ (Eq (.int ds.length)) := fun σ H e s Q q => ha σ H e s _ fun v H1 d f1 s1 p1 r1 => by
  subst p1
  cases r1 with
  | lst n hs r =>
    refine ⟨S, _, _, _, rfl, hs, r, ct, fun L h1 h2 => ?_⟩
    have e : L.length = ds.length := ((List.perm_ext_iff_of_nodup h1 nd).mpr h2).length_eq
    rw [e]
    exact q _ _ _ f1 s1 rfl (.int _)
end
end Sh
/-! dict, list, tuple, int of data; index, remove; dicts read -/
namespace Sh
open PySem PySem.Spec PyProof.Rows L2
section
variable {X : Cx}
theorem prs_of {pins : List (Addr × Obj)} {σ : L2.St} {H : Hp} {s : Shared} (I : Inv X pins σ H s) : ∀ {ps : List Addr} {kvs : List (Key × V)}, Paired (fun p kv => SqT X.K H p [kV kv.1, kv.2]) ps kvs →
    ∃ (prs : List (Key × Value)) (vps : List (Value × Value)), KV kvs prs ∧ prs.length = ps.length ∧ vps.length = ps.length ∧ ∀ (j : Nat) (k v : Value), vps[j]? = some (k, v) → ∃ (q : Key × Value) (b : Addr), prs[j]? = some q ∧ v = q.2 ∧ ps[j]? = some b ∧ IsTup s.heap b #[k, v] ∧ keyIs q.1 k = true
  | _, _, .nil => ⟨[], [], .nil, rfl, rfl, fun j k v e => by simp at e⟩
  | _, _, .cons (a := p) (b := kv) h t => by
    obtain ⟨prs, vps, r, hl, hv, hp⟩ := prs_of I t
    obtain ⟨its, rv, ht, _⟩ := I.tuple h
    obtain ⟨u, y, ei, ru, ry⟩ := vals2 rv
    subst ei
    refine ⟨(kv.1, y) :: prs, (u, y) :: vps, .cons ⟨rfl, ry⟩ r, by rw [List.length_cons, List.length_cons, hl], by rw [List.length_cons, List.length_cons, hv], fun j k v e => ?_⟩
    cases j with
    | zero =>
      have e' : (u, y) = (k, v) := Option.some.inj e
      injection e' with e1 e2
      subst e1 e2
      exact ⟨(kv.1, y), p, rfl, rfl, rfl, ht, kV_is (P := X.prog) (w := X.w) ru⟩
    | succ j =>
      obtain ⟨q, b, e0, e1, e2, e3, e4⟩ := hp j k v (by simpa using e)
      exact ⟨q, b, by simpa using e0, e1, by simpa using e2, e3, e4⟩
/-- dict(a frozen tuple of pairs) -/
def rDictH (K : PySem.W.Frag) : List V → Hp → VK → Prop := fun xs H Q => ∃ (a : Addr) (o : Obj) (ps : List Addr) (kvs : List (Key × V)), xs = [.ref a] ∧ o.dict = none ∧ H a = some (.frz o (.tup (ps.map V.ref))) ∧ Paired (fun p kv => SqT K H p [kV kv.1, kv.2]) ps kvs ∧
  ∀ p, H p = none → Q (.ref p) (upd H p (.dK (mergeK [] kvs)))
theorem call_dictH (hc : X.calm = true) : CallR X (.type "dict") (rDictH X.K) := by
  intro pins s σ H xs us Q I r q
  obtain ⟨a, o, ps, kvs, rfl, hod, hq, hp, q⟩ := q
  rw [Vals.ref1 r]
  obtain ⟨ho, hz, its, rv, o', ho', hcl, n, hdat⟩ := (show ObjOk X.prog X.w H s.heap a (.frz o (.tup (ps.map V.ref))) from I.hok a _ hq)
  have eo : o' = o := Option.some.inj (ho'.symm.trans ho)
  subst eo
  have ei := refs_at rv
  subst ei
  rw [List.length_map] at hz
  obtain ⟨prs, vps, rel, hl, hvl, vat⟩ := prs_of I hp
  have hlp : ps.length = kvs.length := Paired.length hp
  refine PySem.call_dict_pairs (knd := mixKind X.prog X.w) (kvs := prs) (PySem.PairArg.tuple a (ps.map Value.ref).toArray (fun j => ps.getD j 0) vps) (I.ok.hd hc) ⟨⟨o', n, ho, hcl, hod, hdat⟩, ⟨by simp [hvl], fun j k v e => ?_⟩⟩ ⟨by rw [hl, hvl], fun i key v e => ?_⟩ (by rw [hvl]; exact hz) fun h' tk hd' k => ?_
  · obtain ⟨q', b, _, _, e1, e2, _⟩ := vat j k v e
    refine ⟨?_, .inl ?_⟩
    · have : ps.getD j 0 = b := by rw [List.getD_eq_getElem?_getD, e1]; rfl
      show _ = some (Value.ref (ps.getD j 0))
      rw [this]
      simp [e1]
    · have : ps.getD j 0 = b := by rw [List.getD_eq_getElem?_getD, e1]; rfl
      show s.heap.IsTuple (ps.getD j 0) _
      rw [this]
      exact e2
  · obtain ⟨q', b, e0, ev, e1, e2, e3⟩ := vat i key v e
    exact ⟨q'.1, by rw [e0, ev], e3⟩
  · have hm : (s.heap.objs.size == sysModules) = false := beq_eq_false_iff_ne.mpr (Nat.ne_of_gt I.big)
    have hlen : (mergeK [] kvs).length ≤ sizeLine := by
      refine Nat.le_trans (length_mergeK kvs []) ?_
      rw [List.length_nil, Nat.zero_add, ← hlp]
      exact hz
    exact ⟨.ref s.heap.objs.size, upd H s.heap.objs.size (.dK (mergeK [] kvs)), I.laid (t' := tk) (fun b o e => k b o (by simp) e) (Nat.le_refl _) (show ObjOk X.prog X.w _ _ _ (.dK (mergeK [] kvs)) from ⟨hlen, hm, merged [] prs, KV.merge rel .nil, hd'⟩), rfl, q _ (I.hok.fresh (Nat.le_refl _))⟩
/-- tuple(a list), frozen -/
def rTupF (K : PySem.W.Frag) : List V → Hp → VK → Prop := fun xs H Q => ∃ a ys, xs = [.ref a] ∧ SqL K H a ys ∧ ∀ l o, H l = none → o.dict = none → Q (.ref l) (upd H l (.frz o (.tup ys)))
theorem call_tupF : CallR X (.type "tuple") (rTupF X.K) := by
  intro pins s σ H xs us Q I r h
  obtain ⟨p, ys, rfl, hq, q⟩ := h
  rw [Vals.ref1 r]
  obtain ⟨its, r', pl, hz⟩ := I.list hq
  have hlen := r'.length
  refine call_tuple_list pl.isList (fun h' kp => ?_) (by simp only [List.size_toArray] <;> omega)
  have I1 : Inv X pins σ H { s with heap := h' } := I.kept (t' := s.toks) kp
  have I2 : Inv X pins σ (upd H h'.objs.size (.frz { cls := .type "tuple", data := .seq its.toArray } (.tup ys))) { s with heap := h'.push { cls := .type "tuple", data := .seq its.toArray } } :=
    I1.laid (t' := s.toks) (fun b o e => Heap.get?_push_of_some _ e) (Nat.le_refl _) (show ObjOk X.prog X.w _ _ _ (.frz _ (.tup ys)) from ⟨Heap.get?_push_size _ rfl, hz, its, r', IsTup.new _ _⟩)
  exact ⟨.ref h'.objs.size, _, I2, rfl, q _ _ (I1.hok.fresh (Nat.le_refl _)) rfl⟩
/-- list.remove by data -/
def rRemD (K : PySem.W.Frag) : V → List V → Hp → VK → Prop := fun x xs H Q => ∃ (l : Addr) (vs : List V) (y : V) (d : PyData) (ds : List PyData) (j : Nat) (z : PyData), x = .ref l ∧ xs = [y] ∧ H l = some (.lst vs) ∧ DpAll K H vs ds ∧ Dp K H y d ∧
  PyData.canLayAll0 ds = true ∧ SeqAt.shaped d = true ∧ ds[j]? = some z ∧ PyData.eqv z d = true ∧ (∀ (m : Nat) (z' : PyData), m < j → ds[m]? = some z' → PyData.eqv z' d = false) ∧ Q .non (upd H l (.lst (vs.eraseIdx j)))
theorem mt_removeD (hu : X.A.units + 65 < cLine) : MtM X "list.remove" (rRemD X.K) := by
  intro pins s σ H x xs v us Q I rx rxs h
  obtain ⟨l, vs, y, d, ds, j, z, rfl, rfl, hH, ha, hy, hxs, sd, hz, hzj, hno, q⟩ := h
  cases rx
  obtain ⟨uy, rfl, ry⟩ := rxs.one
  obtain ⟨bs, r1⟩ := Dp.reads I d y uy hy ry
  have hroom : X.A.units + 1 + min (PyData.depthAll ds) d.depth < cLine := room_in_shaped sd hu
  obtain ⟨zl, its, n, r, hl, e⟩ := I.lstM hH
  obtain ⟨as, h4⟩ := Dp.readsAll I ds _ its ha r
  have hn : its.length = ds.length := SeqAt.ReadsAll.length ds its as h4
  have hmap : its.map (SeqAt.readOf s.heap) = ds := SeqAt.readsAll_map ds its as hxs h4
  have hvl := r.length
  obtain ⟨hjd, _⟩ := List.getElem?_eq_some_iff.mp hz
  have hjl : j < its.length := by omega
  have hj : j < its.toArray.size := by simpa using hjl
  have at_ : ∀ (m : Nat) (hm : m < its.toArray.size) (z' : PyData), ds[m]? = some z' → SeqAt.readOf s.heap its.toArray[m] = z' := by
    intro m hm z' hz'
    have hml : m < its.length := by simpa using hm
    rw [← hmap, List.getElem?_map, List.getElem?_eq_getElem hml] at hz'
    have e1 : SeqAt.readOf s.heap its[m] = z' := Option.some.inj (show some (SeqAt.readOf s.heap its[m]) = some z' from hz')
    simpa using e1
  refine call_meets PySem.F.slot_list_remove ⟨_, e, rfl⟩ PySem.F.entry_list_remove (PySem.F.args_list_remove_2 _ _)
    (SeqAt.list_removeAt l its.toArray n none #[] uy (fun u => PyData.eqv (SeqAt.readOf s.heap u) d) j hj ?_ ?_ (by rw [List.size_toArray]; omega)) ⟨e, SeqAt.items_eqAt (vs := its.toArray) (show ReadsAll s.heap its.toArray.toList ds as from h4) r1 hxs (SeqAt.canLay_of_shaped sd) hroom, ?_⟩
  · show PyData.eqv (SeqAt.readOf s.heap its.toArray[j]) d = true
    rw [at_ j hj z hz]
    exact hzj
  · intro m hm hmj
    have hmd : m < ds.length := by omega
    have hz' : ds[m]? = some ds[m] := List.getElem?_eq_getElem hmd
    show PyData.eqv (SeqAt.readOf s.heap its.toArray[m]) d = false
    rw [at_ m hm _ hz']
    exact hno m _ hmj hz'
  · refine ⟨.non, _, I.lset (its' := its.eraseIdx j) (t' := s.toks) hH e ?_ (r.eraseIdx j) ?_, rfl, q⟩
    · show its.toArray.eraseIdxIfInBounds j = (its.eraseIdx j).toArray
      rw [List.eraseIdxIfInBounds_toArray]
    · exact Nat.le_trans (List.length_eraseIdx_le ..) zl
end
section
variable {K : PySem.W.Frag} {S : Sc} {ρ : Rho} {ta tb te : TE} {x y z : Dat} {H : Hp}
/-- a frozen tuple is a tuple -/
theorem ev_un {xs : List Dat} (ha : Ev K S ta ρ (Eq (.hd xs))) : Ev K S ta ρ (Eq (.tup xs)) := fun σ H e s Q q => ha σ H e s _ fun v H1 d f1 s1 p1 r1 => by
  subst p1
  cases r1 with
  | hd n g h r => exact q _ _ _ f1 s1 rfl (.tup (.inl n) (.inl (.inr ⟨_, h⟩)) r)
/-! dicts by data -/
def valD (ds : List (Key × Dat)) (k : Key) : Option Dat := (ds.find? fun kv => decide (kv.1 = k)).map (·.2)
theorem Rpk.val {k : Key} : ∀ {vs : List (Key × V)} {ds : List (Key × Dat)}, Rpk K S H vs ds → (valV vs k = none ∧ valD ds k = none) ∨ ∃ v d, valV vs k = some v ∧ valD ds k = some d ∧ Rp K S H v d
  | _, _, .nil => .inl ⟨rfl, rfl⟩
  | _, _, .cons (k := j) (v := v) (d := d) a t => by
    by_cases e : j = k
    · right
      exact ⟨v, d, valV_pos e, by simp [valD, List.find?_cons, e], a⟩
    · rcases Rpk.val (k := k) t with ⟨h1, h2⟩ | ⟨u, c, h1, h2, h3⟩
      · left
        refine ⟨by rw [valV_neg e]; exact h1, ?_⟩
        rw [← h2]
        simp [valD, List.find?_cons, e]
      · right
        refine ⟨u, c, by rw [valV_neg e]; exact h1, ?_, h3⟩
        rw [← h2]
        simp [valD, List.find?_cons, e]
def keyOf : Dat → Option Key
  | .int n => some (.inl n)
  | .str x => some (.inr x)
  | _ => none
theorem key_v {k : Key} {v : V} (h : Rp K S H v (kD k)) : v = kV k := kv_of h
theorem ev_dget {ds : List (Key × Dat)} {k : Key} (hk : valD ds k = some z) (ha : Ev K S ta ρ (Eq (.dic ds))) (hb : Ev K S tb ρ (Eq (kD k))) : Ev K S (tDGet ta tb) ρ (Eq z) := fun σ H e s Q q =>
  ha σ H e s _ fun v H1 d f1 s1 p1 r1 => hb σ H1 (e.mono f1) s1 _ fun u H2 d2 f2 s2 p2 r2 => by
    subst p1 p2
    have r1 := r1.mono f2
    cases r1 with
    | dic n h r =>
      rw [key_v r2]
      rcases Rpk.val (k := k) r with ⟨_, h2⟩ | ⟨w, c, h1, h2, h3⟩
      · rw [hk] at h2
        cases h2
      · rw [hk] at h2
        cases h2
        exact ⟨_, w, rfl, .inl ⟨_, k, .inl h, rfl, h1.symm⟩, q _ _ _ (f1.trans f2) s2 rfl h3⟩
theorem ev_dget1 {ds : List (Key × Dat)} {k : Key} (ha : Ev K S ta ρ (Eq (.dic ds))) (hb : Ev K S tb ρ (Eq (kD k))) : Ev K S (tDGet1 ta tb) ρ (Eq ((valD ds k).getD .non)) := fun σ H e s Q q =>
  ha σ H e s _ fun v H1 d f1 s1 p1 r1 => by
    subst p1
    cases r1 with
    | @dic a kvs ds n h r =>
      refine ⟨_, rfl, .inl ⟨_, .inl h⟩, hb σ H1 (e.mono f1) s1 _ fun u H2 d2 f2 s2 p2 r2 => ?_⟩
      subst p2
      rw [key_v r2]
      refine ⟨valV kvs k, .inl ⟨_, k, .inl (f2 _ _ n.1 h), rfl, rfl⟩, ?_⟩
      rcases Rpk.val (k := k) (r.mono f2) with ⟨h1, h2⟩ | ⟨w, c, h1, h2, h3⟩
      · rw [h1]
        exact q _ _ _ (f1.trans f2) s2 (by rw [h2]; rfl) .non
      · rw [h1]
        exact q _ _ _ (f1.trans f2) s2 (by rw [h2]; rfl) h3
theorem ev_din {ds : List (Key × Dat)} {k : Key} {b : Bool} (hk : (valD ds k).isSome = b) (ha : Ev K S ta ρ (Eq (kD k))) (hb : Ev K S tb ρ (Eq (.dic ds))) : Ev K S (tDIn ta tb) ρ (Eq (.bl b)) := fun σ H e s Q q =>
  ha σ H e s _ fun v H1 d f1 s1 p1 r1 => hb σ H1 (e.mono f1) s1 _ fun u H2 d2 f2 s2 p2 r2 => by
    subst p1 p2
    cases r2 with
    | @dic a kvs ds n h r =>
      rw [key_v r1]
      refine ⟨_, valV kvs k, rfl, .inl ⟨_, k, .inl h, rfl, rfl⟩, ?_⟩
      have e2 : (valV kvs k).isSome = b := by
        rw [← hk]
        rcases Rpk.val (k := k) r with ⟨h1, h2⟩ | ⟨w, c, h1, h2, h3⟩ <;> rw [h1, h2] <;> rfl
      rw [e2]
      exact q _ _ _ (f1.trans f2) s2 rfl (.bl _)
theorem ev_dnotin {ds : List (Key × Dat)} {k : Key} {b : Bool} (hk : (valD ds k).isSome = b) (ha : Ev K S ta ρ (Eq (kD k))) (hb : Ev K S tb ρ (Eq (.dic ds))) : Ev K S (tDNotIn ta tb) ρ (Eq (.bl (!b))) := fun σ H e s Q q =>
  ha σ H e s _ fun v H1 d f1 s1 p1 r1 => hb σ H1 (e.mono f1) s1 _ fun u H2 d2 f2 s2 p2 r2 => by
    subst p1 p2
    cases r2 with
    | @dic a kvs ds n h r =>
      rw [key_v r1]
      refine ⟨_, valV kvs k, rfl, .inl ⟨_, k, .inl h, rfl, rfl⟩, ?_⟩
      have e2 : (valV kvs k).isSome = b := by
        rw [← hk]
        rcases Rpk.val (k := k) r with ⟨h1, h2⟩ | ⟨w, c, h1, h2, h3⟩ <;> rw [h1, h2] <;> rfl
      rw [e2]
      exact q _ _ _ (f1.trans f2) s2 rfl (.bl _)
theorem putK_new {vs : List (Key × V)} {k : Key} {v : V} (h : k ∉ vs.map (·.1)) : putK vs k v = vs ++ [(k, v)] := by
  unfold putK
  rw [if_neg]
  intro z
  obtain ⟨p, hp, e⟩ := List.any_eq_true.mp z
  exact h (List.mem_map.mpr ⟨p, hp, by simpa using e⟩)
theorem mergeK_nodup : ∀ (more kvs : List (Key × V)), ((kvs ++ more).map (·.1)).Nodup → mergeK kvs more = kvs ++ more
  | [], kvs, _ => by rw [List.append_nil]; rfl
  | p :: more, kvs, h => by
    have h1 : p.1 ∉ kvs.map (·.1) := fun z => by
      rw [List.map_append, List.map_cons] at h
      exact (List.nodup_append.mp h).2.2 _ z _ List.mem_cons_self rfl
    show mergeK (putK kvs p.1 p.2) more = _
    rw [putK_new h1]
    have e : kvs ++ p :: more = (kvs ++ [p]) ++ more := by simp
    rw [e] at h ⊢
    exact mergeK_nodup more _ h
theorem rpk_keys : ∀ {vs : List (Key × V)} {ds : List (Key × Dat)}, Rpk K S H vs ds → vs.map (·.1) = ds.map (·.1)
  | _, _, .nil => rfl
  | _, _, .cons a t => by rw [List.map_cons, List.map_cons, rpk_keys t]
/-- the pairs of a tuple of pairs -/
theorem pairs_at : ∀ {kds : List (Key × Dat)} {vs : List V}, Rps K S H vs (kds.map fun kd => .tup [kD kd.1, kd.2]) → ∃ (ps : List Addr) (kvs : List (Key × V)), vs = ps.map V.ref ∧ Paired (fun p kv => SqT K H p [kV kv.1, kv.2]) ps kvs ∧ Rpk K S H kvs kds
  | [], _, h => by
    cases h
    exact ⟨[], [], rfl, .nil, .nil⟩
  | kd :: kds, _, h => by
    rw [List.map_cons] at h
    cases h with
    | cons a t =>
      obtain ⟨ps, kvs, e, h1, h2⟩ := pairs_at t
      cases a with
      | @tup p vs _ n hs r =>
        cases r with
        | @cons v1 _ _ _ a1 t1 => cases t1 with
          | @cons v2 _ _ _ a2 t2 =>
            cases t2
            rw [kv_of a1] at hs
            exact ⟨p :: ps, (kd.1, v2) :: kvs, by rw [e, List.map_cons], .cons hs h1, .cons a2 h2⟩
theorem ev_dictH {kds : List (Key × Dat)} (nd : (kds.map (·.1)).Nodup) (ha : Ev K S ta ρ (Eq (.hd (kds.map fun kd => .tup [kD kd.1, kd.2])))) : Ev K S (tCB (rDictH K) (tCons ta tNil)) ρ (Eq (.dic kds)) := ev_cbD (ea_consD ha ea_nil) fun vs H r s Q q => by
  cases r with
  | cons a t =>
    cases t
    cases a with
    | hd n g h r =>
      obtain ⟨ps, kvs, rfl, h1, h2⟩ := pairs_at r
      refine ⟨_, _, ps, kvs, rfl, g, h, h1, fun p hp => ?_⟩
      rw [mergeK_nodup kvs [] (by rw [List.nil_append, rpk_keys h2]; exact nd), List.nil_append]
      exact q _ _ _ (.new hp) (s.new hp) rfl (.dic (s.ne hp) upd_same (h2.mono (.new hp)))
theorem ev_dictD {kds : List (Key × Dat)} (ha : Ev K S ta ρ (Eq (.dic kds))) : Ev K S (tCB (fun xs H Q => ∃ (a : Addr) (kvs : List (Key × V)), xs = [.ref a] ∧ Rd H a (.dK kvs) ∧ ∀ p, H p = none → Q (.ref p) (upd H p (.dK kvs))) (tCons ta tNil)) ρ (Eq (.dic kds)) := ev_cbD (ea_consD ha ea_nil) fun vs H r s Q q => by
  cases r with
  | cons a t =>
    cases t
    cases a with
    | dic n h r => exact ⟨_, _, rfl, .inl h, fun p hp => q _ _ _ (.new hp) (s.new hp) rfl (.dic (s.ne hp) upd_same (r.mono (.new hp)))⟩
/-! list, tuple, int -/
def rList (K : PySem.W.Frag) : List V → Hp → VK → Prop := fun xs H Q => ∃ p ys, xs = [.ref p] ∧ (SqL K H p ys ∨ SqT K H p ys) ∧ ∀ l, H l = none → Q (.ref l) (upd H l (.lst ys))
theorem ev_listL {xs : List Dat} (ha : Ev K S ta ρ (Eq (.lst xs))) : Ev K S (tCB (rList K) (tCons ta tNil)) ρ (Eq (.lst xs)) := ev_cbD (ea_consD ha ea_nil) fun vs H r s Q q => by
  cases r with
  | cons a t =>
    cases t
    cases a with
    | lst n h r => exact ⟨_, _, rfl, .inl h, fun p hp => q _ _ _ (.new hp) (s.new hp) rfl (.lst (.inl (s.ne hp)) (SqL.of upd_same) (r.mono (.new hp)))⟩
theorem ev_tupF {xs : List Dat} (ha : Ev K S ta ρ (Eq (.lst xs))) : Ev K S (tCB (rTupF K) (tCons ta tNil)) ρ (Eq (.hd xs)) := ev_cbD (ea_consD ha ea_nil) fun vs H r s Q q => by
  cases r with
  | cons a t =>
    cases t
    cases a with
    | lst n h r => exact ⟨_, _, rfl, h, fun p o hp ho => q _ _ _ (.new hp) (s.new hp) rfl (.hd (s.ne hp) ho upd_same (r.mono (.new hp)))⟩
def rTupS (K : PySem.W.Frag) : List V → Hp → VK → Prop := fun xs H Q => ∃ p ys, xs = [.ref p] ∧ ((SqL K H p ys ∧ ∀ l, H l = none → Q (.ref l) (upd H l (.tup ys))) ∨ (SqT K H p ys ∧ Q (.ref p) H))
theorem ev_tupS {xs : List Dat} (ha : Ev K S ta ρ (Eq (.tup xs))) : Ev K S (tCB (rTupS K) (tCons ta tNil)) ρ (Eq (.tup xs)) := ev_cbD (ea_consD ha ea_nil) fun vs H r s Q q => by
  cases r with
  | cons a t =>
    cases t
    cases a with
    | tup n h r => exact ⟨_, _, rfl, .inr ⟨h, q _ _ _ .refl s rfl (.tup n h r)⟩⟩
theorem ev_int1 {b : Bool} (ha : Ev K S ta ρ (Eq (.bl b))) : Ev K S (tCB (fun xs H Q => (∃ i, xs = [.int i] ∧ Q (.int i) H) ∨ ∃ k, xs = [.bl k] ∧ Q (.int (if k then 1 else 0)) H) (tCons ta tNil)) ρ (Eq (.int (if b then 1 else 0))) := ev_cbD (ea_consD ha ea_nil) fun vs H r s Q q => by
  cases r with
  | cons a t =>
    cases t
    cases a
    exact .inr ⟨b, rfl, q _ _ _ .refl s rfl (.int _)⟩
theorem ev_neg {i : Int} (ha : Ev K S ta ρ (Eq (.int i))) : Ev K S (tUn (rU fun i => .int (-i)) ta) ρ (Eq (.int (-i))) := fun σ H e s Q q => ha σ H e s _ fun v H1 d f1 s1 p1 r1 => by
  subst p1
  cases r1
  exact ⟨i, rfl, q _ _ _ f1 s1 rfl (.int _)⟩
/-! the place of a scalar in a list -/
theorem tyV_L {xs : List Dat} : ∀ v H, Rp K S H v (.lst xs) → tyV K "list" v H := fun v H r => by
  cases r with
  | lst n h r => exact .inl ⟨rfl, _, h⟩
theorem ev_indexL {xs : List Dat} {j : Nat} (hx : isSc x = true) (hd : ∀ d ∈ xs, isSc d = true) (hj : xs[j]? = some x) (hno : ∀ m, m < j → xs[m]? ≠ some x) (ha : Ev K S ta ρ (Eq (.lst xs))) (hb : Ev K S tb ρ (Eq x)) :
    Ev K S (tBM K "list" (rIndex K) ta (tCons tb tNil)) ρ (Eq (.int (j : Nat))) := ev_bm tyV_L ha (ea_consD hb ea_nil) fun v vs H r rs s => ⟨tyV_L v H r, fun Q q => by
  cases rs with
  | cons b t =>
    cases t
    cases r with
    | @lst a ys _ n hs r =>
      have hs2 := hs
      rw [r.flat hd] at hs2
      obtain rfl := b.flat hx
      have fl : ∀ d : Dat, isSc d = true → flatV d.flat = true := fun d h => by cases d <;> first | rfl | cases h
      refine ⟨a, _, _, j, x.flat, rfl, rfl, hs2, fl x hx, scs_flat hd, by rw [List.getElem?_map, hj]; rfl, by rw [flat_eqV hx hx]; exact deq_self, fun m z' hm hz => ?_, q _ _ _ .refl s rfl (.int _)⟩
      rw [List.getElem?_map] at hz
      cases e : xs[m]? with
      | none =>
        rw [e] at hz
        cases hz
      | some d =>
        rw [e] at hz
        obtain rfl : d.flat = z' := Option.some.inj hz
        rw [flat_eqV (hd d (List.mem_of_getElem? e)) hx]
        exact deq_ne fun z => hno m hm (by rw [e, z])⟩
/-! a row among rows -/
theorem pys_any {xs : List Dat} (hx : Eqd x) (hd : ∀ d ∈ xs, Eqd d) : (pys xs).any (fun z => PyData.eqv z x.py) = inD x xs := by
  rw [pys_map]
  unfold inD
  rw [List.any_map]
  induction xs with
  | nil => rfl
  | cons d ds ih =>
    rw [List.any_cons, List.any_cons, ih fun e he => hd e (List.mem_cons_of_mem _ he)]
    congr 1
    show PyData.eqv d.py x.py = deq d x
    have f1 := (hd d List.mem_cons_self).fine
    cases c : deq d x with
    | true => exact (eqv_fine d x f1 hx.fine).mpr (deq_iff.mp c)
    | false =>
      cases h : PyData.eqv d.py x.py with
      | true => rw [deq_iff.mpr ((eqv_fine d x f1 hx.fine).mp h)] at c; cases c
      | false => rfl
theorem ev_notinD {xs : List Dat} (hx : EqN 60 x) (hd : ∀ d ∈ xs, EqN 60 d) (ha : Ev K S ta ρ (Eq x)) (hb : Ev K S tb ρ (Eq (.lst xs))) : Ev K S (tOp (rNotInD K) ta tb) ρ (Eq (.bl (!inD x xs))) := ev_opD ha hb (rv_val fun v u H a c s Q q => by
  have hl : EqN 61 (.lst xs) := EqN.lst hd
  refine ⟨x.py, pys xs, a.dp hx.fine, c.dp hl.fine, (hx.eqd).shaped, (hl.eqd).shaped, ?_⟩
  rw [pys_any hx.eqd fun d h => (hd d h).eqd]
  exact q _ (.bl _))
end
end Sh
/-! list(text); the calls as they stand in the code -/
namespace Sh
open PySem PySem.Spec PyProof.Rows L2
section
variable {X : Cx}
def rListS : List V → Hp → VK → Prop := fun xs H Q => ∃ x : Str, xs = [.str x] ∧ x.length ≤ sizeLine ∧ ∀ p, H p = none → Q (.ref p) (upd H p (.lst (x.cps.toList.map fun c => V.str ⟨#[c]⟩)))
theorem vals_signs {x : Str} : ∀ {n : Nat} {us : List Value} {cs : List Nat}, us.length = cs.length → (∀ (j : Nat) (v : Value), us[j]? = some v → ∃ (c : Nat) (u : Tok), cs[j]? = some c ∧ v = Value.str ⟨#[c]⟩ u) → Vals (cs.map fun c => V.str ⟨#[c]⟩) us
  | _, [], [], _, _ => .nil
  | _, [], _ :: _, h, _ => by cases h
  | _, _ :: _, [], h, _ => by cases h
  | n, u :: us, c :: cs, h, g => by
    obtain ⟨c', t, e1, e2⟩ := g 0 u rfl
    obtain rfl : c = c' := Option.some.inj e1
    rw [List.map_cons]
    exact .cons ⟨t, e2⟩ (vals_signs (x := x) (n := n) (by simpa using h) fun j v e => g (j + 1) v (by simpa using e))
theorem call_listS (hc : X.calm = true) : CallR X (.type "list") rListS := by
  intro pins s σ H xs us Q I r h
  obtain ⟨x, rfl, hz, q⟩ := h
  obtain ⟨u, rfl, rx⟩ := vals1 r
  obtain ⟨t, rfl⟩ := rx
  refine call_list_str (I.ok.hd hc) x t (fun h' tk acc' c' k e g => ?_) hz
  refine ⟨.ref s.heap.objs.size, _, I.laid (t' := tk) k (Nat.le_refl _) (show ObjOk X.prog X.w _ h' _ (.lst (x.cps.toList.map fun c => V.str ⟨#[c]⟩)) from ⟨by rw [List.length_map, Array.length_toList]; exact hz, acc'.toList, c', vals_signs (x := x) (n := 0) (by rw [Array.length_toList, g.1, Array.length_toList]) fun j v ej => ?_, by simpa using e⟩), rfl, q _ (I.hok.fresh (Nat.le_refl _))⟩
  obtain ⟨c, w, e1, e2⟩ := g.2 j v (by simpa using ej)
  exact ⟨c, w, by simpa using e1, e2⟩
end
section
variable {K : PySem.W.Frag} {S : Sc} {ρ : Rho} {ta tb te : TE} {x y z : Dat} {H : Hp}
theorem rps_signs {cs : List Nat} : Rps K S H (cs.map fun c => V.str ⟨#[c]⟩) (cs.map fun c => Dat.str ⟨#[c]⟩) := by
  induction cs with
  | nil => exact .nil
  | cons c cs ih => exact .cons (.str _) ih
theorem ev_listS {w : Str} (hz : w.length ≤ sizeLine) (ha : Ev K S ta ρ (Eq (.str w))) : Ev K S (tCB rListS (tCons ta tNil)) ρ (Eq (.lst (sgnD w))) := ev_cbD (ea_consD ha ea_nil) fun vs H r s Q q => by
  cases r with
  | cons a t =>
    cases t
    cases a
    exact ⟨w, rfl, hz, fun p hp => q _ _ _ (.new hp) (s.new hp) rfl (.lst (.inl (s.ne hp)) (SqL.of upd_same) rps_signs)⟩
end
theorem boot_tuple2 : bootBuiltins "tuple" = some (.type "tuple") := by decide +kernel
theorem boot_list2 : bootBuiltins "list" = some (.type "list") := by decide +kernel
theorem boot_dict2 : bootBuiltins "dict" = some (.type "dict") := by decide +kernel
theorem boot_int2 : bootBuiltins "int" = some (.type "int") := by decide +kernel
section
variable {X : Cx} {e : Expr} {te : TE} {p pos : Pos}
theorem pe_dictH (b : Bn X.mg) (he : PE X e te) (hc : X.calm = true := by rfl) (hg : Gl X "dict" := by rfl) (h1 : starEach [e] X.env = (false, eval e X.env) :: starEach [] X.env := by rfl) : PE X (.Call (.Name "dict" p) [e] [] pos) (tCB (rDictH X.K) (tCons te tNil)) :=
  pe_callTy (call_dictH hc) hg b.dict boot_dict2 (pa_cons he pa_nil h1) (by decide) (by decide) h1 rfl
theorem pe_dictD (b : Bn X.mg) (he : PE X e te) (hg : Gl X "dict" := by rfl) (h1 : starEach [e] X.env = (false, eval e X.env) :: starEach [] X.env := by rfl) : PE X (.Call (.Name "dict" p) [e] [] pos) (tCB (fun xs H Q => ∃ (a : Addr) (kvs : List (Key × V)), xs = [.ref a] ∧ Rd H a (.dK kvs) ∧ ∀ p, H p = none → Q (.ref p) (upd H p (.dK kvs))) (tCons te tNil)) :=
  pe_callTy call_dictD hg b.dict boot_dict2 (pa_cons he pa_nil h1) (by decide) (by decide) h1 rfl
theorem pe_list (b : Bn X.mg) (he : PE X e te) (hg : Gl X "list" := by rfl) (h1 : starEach [e] X.env = (false, eval e X.env) :: starEach [] X.env := by rfl) : PE X (.Call (.Name "list" p) [e] [] pos) (tCB (rList X.K) (tCons te tNil)) :=
  pe_callTy call_list_of hg b.list boot_list2 (pa_cons he pa_nil h1) (by decide) (by decide) h1 rfl
theorem pe_listS (b : Bn X.mg) (he : PE X e te) (hc : X.calm = true := by rfl) (hg : Gl X "list" := by rfl) (h1 : starEach [e] X.env = (false, eval e X.env) :: starEach [] X.env := by rfl) : PE X (.Call (.Name "list" p) [e] [] pos) (tCB rListS (tCons te tNil)) :=
  pe_callTy (call_listS hc) hg b.list boot_list2 (pa_cons he pa_nil h1) (by decide) (by decide) h1 rfl
theorem pe_tupF (b : Bn X.mg) (he : PE X e te) (hg : Gl X "tuple" := by rfl) (h1 : starEach [e] X.env = (false, eval e X.env) :: starEach [] X.env := by rfl) : PE X (.Call (.Name "tuple" p) [e] [] pos) (tCB (rTupF X.K) (tCons te tNil)) :=
  pe_callTy call_tupF hg b.tuple boot_tuple2 (pa_cons he pa_nil h1) (by decide) (by decide) h1 rfl
theorem pe_tupS (b : Bn X.mg) (he : PE X e te) (hg : Gl X "tuple" := by rfl) (h1 : starEach [e] X.env = (false, eval e X.env) :: starEach [] X.env := by rfl) : PE X (.Call (.Name "tuple" p) [e] [] pos) (tCB (rTupS X.K) (tCons te tNil)) :=
  pe_callTy call_tuple_of hg b.tuple boot_tuple2 (pa_cons he pa_nil h1) (by decide) (by decide) h1 rfl
theorem pe_int1 (b : Bn X.mg) (he : PE X e te) (hg : Gl X "int" := by rfl) (h1 : starEach [e] X.env = (false, eval e X.env) :: starEach [] X.env := by rfl) : PE X (.Call (.Name "int" p) [e] [] pos) (tCB (fun xs H Q => (∃ i, xs = [.int i] ∧ Q (.int i) H) ∨ ∃ k, xs = [.bl k] ∧ Q (.int (if k then 1 else 0)) H) (tCons te tNil)) :=
  pe_callTy call_int1 hg b.int boot_int2 (pa_cons he pa_nil h1) (by decide) (by decide) h1 rfl
end
/-- several names, in a comprehension -/
theorem pg_tupK {X : Cx} {pos : Pos} {es : List Expr} {k : Nat} {t : TGs} {n : Nat} {K : PySem.W.Frag} (hK : X.K = K) (hc : X.calm = true) (h : PGs X es t)
    (hn : (assignEach es X.env).length = n := by rfl) (hst : (assignEach es X.env).findIdx? (·.1) = none := by rfl) : PG X (.Tuple es k pos) (gTup K n t) := by
  subst hK
  exact pg_tup hc h hn hst
theorem pe_fldK {X : Cx} {e : Expr} {f : Str} {pos : Pos} {ta : TE} {K : PySem.W.Frag} (hK : X.K = K) (he : PE X e ta) (hb : attributeBase e f X.env (eval e X.env) = eval e X.env) : PE X (.Attribute e f pos) (tFld K ta f) := by
  subst hK
  exact pe_fld he hb
end Sh
/-! a list that one variable owns -/
namespace Sh
open PySem PySem.Spec PyProof.Rows L2
/-- a fresh list comes -/
def EvN (K : PySem.W.Frag) (S : Sc) (t : TE) (ρ : Rho) (P : List Dat → Prop) : Prop :=
  ∀ σ H, EnvR K S H σ ρ → StOk S H → ∀ Q : VK, (∀ p ys ds H', Fr S H H' → H p = none → p ∉ S.st → StOk (S.but p) H' → H' p = some (.lst ys) → Rps K (S.but p) H' ys ds → P ds → Q (.ref p) H') → t σ H Q
section
variable {K : PySem.W.Frag} {S : Sc} {ρ : Rho} {ta tb te : TE} {x y z : Dat} {H : Hp} {g : TG}
theorem en_nil : EvN K S (tLst tNil) ρ (Eq []) := fun σ H e s Q q => ⟨Nat.zero_le _, fun p hp => q p [] [] _ (.new hp) hp (s.ne hp).1 (s.but hp) upd_same .nil rfl⟩
theorem en_list {xs : List Dat} (ha : Ev K S ta ρ (Eq (.lst xs))) : EvN K S (tCB (rList K) (tCons ta tNil)) ρ (Eq xs) := fun σ H e s Q q => ha σ H e s _ fun v H1 d f1 s1 p1 r1 => by
  subst p1
  cases r1 with
  | lst n h r => exact ⟨_, _, rfl, .inl h, fun p hp => q p _ xs _ (f1.trans (.new hp)) (f1.free (s1.ne hp).1 hp) (s1.ne hp).1 (s1.but hp) upd_same ((r.but hp).mono (.new hp)) rfl⟩
theorem en_listS {w : Str} (hz : w.length ≤ sizeLine) (ha : Ev K S ta ρ (Eq (.str w))) : EvN K S (tCB rListS (tCons ta tNil)) ρ (Eq (sgnD w)) := fun σ H e s Q q => ha σ H e s _ fun v H1 d f1 s1 p1 r1 => by
  subst p1
  cases r1
  exact ⟨w, rfl, hz, fun p hp => q p _ _ _ (f1.trans (.new hp)) (f1.free (s1.ne hp).1 hp) (s1.ne hp).1 (s1.but hp) upd_same rps_signs rfl⟩
theorem en_lc {wi : TI} {tt : TT} {vs is : List Nat} {P R : List Dat → Prop} (hw : IEv K S wi ρ P) (hi : ∀ i ∈ is, i ∈ vs) (Acc : List Dat → Nat → List Dat → Prop) (hz : ∀ xs, P xs → xs.length < sizeLine)
    (h0 : ∀ xs, P xs → Acc xs 0 []) (hl : ∀ xs i acc, P xs → Acc xs i acc → acc.length ≤ i)
    (step : ∀ (S' : Sc), S'.Like S → ∀ (xs : List Dat) (i : Nat) (x : Dat) (acc : List Dat), P xs → xs[i]? = some x → Acc xs i acc → ∃ ρ' b P2, GEv K S' g is (wipeR vs ρ) x ρ' ∧ EvT K S' tt ρ' (Eq b) ∧ (b = true → Ev K S' te ρ' P2 ∧ ∀ d, P2 d → Acc xs (i + 1) (acc ++ [d])) ∧ (b = false → Acc xs (i + 1) acc))
    (hd : ∀ xs acc, P xs → Acc xs xs.length acc → R acc) : EvN K S (tLc wi g tt te vs) ρ R := fun σ H e s Q q => hw σ H e s _ fun J H1 xs f1 s1 p1 go D hD => by
  have sb : Sub S (S.but D) H1 := .but hD
  have nD : S.no D := s1.ne hD
  have e1 : EnvR K (S.but D) H1 σ ρ := (e.mono f1).but hD
  refine ⟨fun i m H' => m + i = xs.length ∧ Fr S H1 H' ∧ StOk (S.but D) H' ∧ ∃ ys acc, H' D = some (.lst ys) ∧ Rps K (S.but D) H' ys acc ∧ Acc xs i acc,
    ⟨xs.length, rfl, .new hD, s1.but hD, [], [], upd_same, .nil, h0 xs p1⟩, fun i m H' ⟨hm, f', s', ys, acc, hy, ry, ha⟩ => ?_⟩
  obtain ⟨g1, g2⟩ := go (S.but D) H' i sb f' s'
  cases hx : xs[i]? with
  | none =>
    have := List.getElem?_eq_none_iff.mp hx
    have e : i = xs.length := by omega
    exact .inl ⟨g2 e, q D ys acc H' (f1.trans f') (f1.free nD.1 hD) nD.1 s' hy ry (hd xs acc p1 (e ▸ ha))⟩
  | some x =>
    obtain ⟨hgo, hyld⟩ := g1 x hx
    have hil : i < xs.length := (List.getElem?_eq_some_iff.mp hx).1
    refine .inr ⟨hgo, fun H2 => (Fr S H1 H2 ∧ StOk (S.but D) H2 ∧ ∃ ys acc, H2 D = some (.lst ys) ∧ Rps K (S.but D) H2 ys acc ∧ Acc xs (i + 1) acc), fun H2 h => ⟨m - 1, by omega, by omega, h⟩, fun v H2 hv => ?_⟩
    obtain ⟨f2, s2, r2⟩ := hyld v H2 hv
    obtain ⟨ρ', b, P2, k1, k2, k3, k4⟩ := step (S.but D) .but xs i x acc p1 hx ha
    have up : ∀ {A B : Hp}, Fr S A B → Fr (S.but D) A B := fun f => f.to rfl
    have dn : ∀ {A B : Hp}, Fr (S.but D) A B → Fr S A B := fun f => f.to rfl
    refine k1 v (wipe σ vs) H2 r2 ((e1.mono (up (f'.trans f2))).wipe vs) _ fun σ2 e2 a2 => ⟨wipe_agr a2 hi, k2 σ2 H2 e2 s2 _ fun c H3 f3 s3 hc => ?_⟩
    subst hc
    cases b with
    | false => exact ⟨(f'.trans f2).trans (dn f3), s3, ys, acc, f3 _ _ nD.1 (f2 _ _ nD.1 hy), (ry.mono (up f2)).mono f3, k4 rfl⟩
    | true =>
      obtain ⟨k5, k6⟩ := k3 rfl
      refine k5 σ2 H3 (e2.mono f3) s3 _ fun w H4 d f4 s4 p4 r4 => ?_
      have hy4 : H4 D = some (.lst ys) := f4 _ _ nD.1 (f3 _ _ nD.1 (f2 _ _ nD.1 hy))
      have hlen : ys.length < sizeLine := by
        rw [ry.length]
        exact Nat.lt_of_le_of_lt (Nat.le_trans (hl xs i acc p1 ha) (Nat.le_of_lt hil)) (hz xs p1)
      have ry4 : Rps K (S.but D) H4 ys acc := ((ry.mono (up f2)).mono f3).mono f4
      have dm : D ∈ (S.but D).ex := List.mem_cons_self
      exact ⟨ys, hy4, hlen, (((f'.trans f2).trans (dn f3)).trans (dn f4)).put hD, s4.put fun z => nD.1 (s4.sub D z), _, _, upd_same, (ry4.at_ex dm).snoc (r4.at_ex dm), k6 d p4⟩
theorem en_lcFil {wi : TI} {tt : TT} {vs is : List Nat} {xs : List Dat} (b : Dat → Bool) (f : Dat → Dat) (hw : IEv K S wi ρ (Eq xs)) (hi : ∀ i ∈ is, i ∈ vs) (hz : xs.length < sizeLine)
    (step : ∀ (S' : Sc), S'.Like S → ∀ x, x ∈ xs → ∃ ρ', GEv K S' g is (wipeR vs ρ) x ρ' ∧ EvT K S' tt ρ' (Eq (b x)) ∧ (b x = true → Ev K S' te ρ' (Eq (f x)))) :
    EvN K S (tLc wi g tt te vs) ρ (Eq ((xs.filter b).map f)) :=
  en_lc hw hi (fun xs i acc => acc = ((xs.take i).filter b).map f) (fun _ e => e ▸ hz) (fun _ _ => by simp) (fun xs i acc _ h => by
      rw [h, List.length_map]
      exact Nat.le_trans (List.length_filter_le _ _) (by rw [List.length_take]; omega))
    (fun S' hS xs' i x acc p hx ha => by
      subst p
      obtain ⟨ρ', k1, k2, k3⟩ := step S' hS x (List.mem_of_getElem? hx)
      have ht : xs.take (i + 1) = xs.take i ++ [x] := by rw [List.take_succ, hx]; rfl
      refine ⟨ρ', b x, Eq (f x), k1, k2, fun hb => ⟨k3 hb, fun d hd => ?_⟩, fun hb => ?_⟩
      · rw [ht, List.filter_append, List.map_append, ← ha, ← hd]
        simp [hb]
      · rw [ht, List.filter_append, List.map_append, ← ha]
        simp [hb])
    fun xs acc p ha => by
      rw [ha, List.take_length, p]
end
/-- all but p and the states are kept -/
def Frp (S : Sc) (p : Addr) (H H' : Hp) : Prop := ∀ a o, a ∉ S.st → a ≠ p → H a = some o → H' a = some o
theorem Frp.of {S : Sc} {p : Addr} {H H' : Hp} (f : Fr S H H') : Frp S p H H' := fun a o h _ e => f a o h e
theorem Frp.trans {S : Sc} {p : Addr} {H H1 H2 : Hp} (f : Frp S p H H1) (g : Frp S p H1 H2) : Frp S p H H2 := fun a o h n e => g a o h n (f a o h n e)
theorem Fr.trans' {S : Sc} {p : Addr} {H H1 H2 : Hp} (f : Fr S H H1) (g : Frp S p H1 H2) (h : H p = none) : Fr S H H2 := fun a o n e => g a o n (fun z => by rw [z, h] at e; cases e) (f a o n e)
theorem Frp.fr {S : Sc} {p : Addr} {H H' : Hp} (f : Frp S p H H') (h : H p = none) : Fr S H H' := fun a o n e => f a o n (fun z => by rw [z, h] at e; cases e) e
/-- the variable at i owns the list at p -/
structure Own (K : PySem.W.Frag) (S : Sc) (i : Nat) (p : Addr) (H : Hp) (σ : L2.St) (ρ : Rho) (ds : List Dat) : Prop where
  no : S.no p
  env : EnvR K (S.but p) H σ (ρ.set i (some (.raw (.ref p))))
  ok : StOk (S.but p) H
  il : i < ρ.length
  at_ : ∃ ys, H p = some (.lst ys) ∧ Rps K (S.but p) H ys ds
def SOv (K : PySem.W.Frag) (S : Sc) (i : Nat) (p : Addr) (t : TS) (ρ : Rho) (ds : List Dat) (nx : Rho → List Dat → Prop) (rt : Dat → Prop) : Prop :=
  ∀ σ H, Own K S i p H σ ρ ds → ∀ D : Ends, (∀ σ' H' ρ' ds', Frp S p H H' → Own K S i p H' σ' ρ' ds' → nx ρ' ds' → D.nx σ' H') → (∀ v H' d, Frp S p H H' → StOk S H' → rt d → Rp K S H' v d → D.rt v H') → t D σ H
section
variable {K : PySem.W.Frag} {S : Sc} {ρ : Rho} {ta tb te : TE} {tt : TT} {t u : TS} {x y z : Dat} {H : Hp} {g : TG} {i : Nat} {p : Addr} {ds : List Dat} {nx : Rho → List Dat → Prop} {rt : Dat → Prop} {σ : L2.St}
theorem Own.get (o : Own K S i p H σ ρ ds) : σ[i]? = some (some (.ref p)) := by
  obtain ⟨v, h1, h2⟩ := o.env.get i (.raw (.ref p)) (by rw [List.getElem?_set_self o.il])
  cases h2
  exact h1
theorem set_set {ρ : Rho} {i : Nat} {a b : Option Dat} : (ρ.set i a).set i b = ρ.set i b := List.set_set ..
theorem EnvR.swap {v : V} {d : Dat} {a : Option Dat} (h : EnvR K S H σ (ρ.set i a)) (hv : σ[i]? = some (some v)) (r : Rp K S H v d) : EnvR K S H σ (ρ.set i (some d)) := ⟨by rw [h.len, List.length_set, List.length_set], fun j c e => by
  by_cases q : i = j
  · subst q
    by_cases l : i < ρ.length
    · rw [List.getElem?_set_self l] at e
      cases e
      exact ⟨v, hv, r⟩
    · rw [List.getElem?_eq_none (by rw [List.length_set]; omega)] at e
      cases e
  · rw [List.getElem?_set_ne q] at e
    exact h.get j c (by rw [List.getElem?_set_ne q]; exact e)⟩
/-- with the list as its data: for what only reads -/
theorem Own.full (o : Own K S i p H σ ρ ds) : EnvR K S H σ (ρ.set i (some (.lst ds))) ∧ StOk S H := by
  obtain ⟨ys, h1, h2⟩ := o.at_
  have s := o.ok.unbut
  have e : EnvR K S H σ (ρ.set i (some (.raw (.ref p)))) := ⟨o.env.len, fun j d q => by
      obtain ⟨v, a, b⟩ := o.env.get j d q
      exact ⟨v, a, b.unbut⟩⟩
  exact ⟨e.swap o.get (.lst (.inl o.no) (SqL.of h1) h2.unbut), s⟩
theorem Own.kept {H' : Hp} (o : Own K S i p H σ ρ ds) (f : Fr S H H') (s : StOk S H') : Own K S i p H' σ ρ ds := by
  obtain ⟨ys, h1, h2⟩ := o.at_
  have h1' := f _ _ o.no.1 h1
  refine ⟨o.no, o.env.mono (f.to (T := S.but p) rfl), ⟨s.st, fun a ha => ?_, s.al, s.sub⟩, o.il, ys, h1', h2.mono (f.to (T := S.but p) rfl)⟩
  rcases List.mem_cons.mp ha with rfl | ha
  · exact ⟨_, h1'⟩
  · exact s.ex a ha
/-- a fresh list is put into a variable -/
theorem so_begin {te : TE} {P : List Dat → Prop} {O : Out} (hi : i < ρ.length) (h : EvN K S te ρ P) (k : ∀ p ds, P ds → SOv K S i p u ρ ds (fun _ _ => False) O.rt) : SEv K S (tSeq (tAsg te (gName i)) u) ρ O := fun σ H e s D n r b c =>
  h σ H e s _ fun p ys ds H1 f1 hp hn s1 h1 h2 p1 => k p ds p1 (σ.set i (some (.ref p))) H1
    ⟨s.ne hp, ⟨by rw [List.length_set, List.length_set, e.len], fun j d q => by
      by_cases c : i = j
      · subst c
        rw [List.getElem?_set_self hi] at q
        cases q
        refine ⟨.ref p, ?_, .raw _⟩
        rw [List.getElem?_set_self (by rw [e.len]; exact hi)]
      · rw [List.getElem?_set_ne c] at q
        obtain ⟨v, a, b⟩ := e.get j d q
        refine ⟨v, by rw [List.getElem?_set_ne c]; exact a, ?_⟩
        exact (b.but hp).mono (f1.to (T := S.but p) rfl)⟩, s1, hi, ys, h1, h2⟩ _ (fun _ _ _ _ _ _ z => z.elim) (fun v H2 d f2 s2 k2 r2 => r v H2 d (f1.trans' f2 hp) s2 k2 r2)
theorem so_seq {nx2 : Rho → List Dat → Prop} (h : SOv K S i p t ρ ds nx2 rt) (k : ∀ ρ' ds', nx2 ρ' ds' → SOv K S i p u ρ' ds' nx rt) : SOv K S i p (tSeq t u) ρ ds nx rt := fun σ H o D n r =>
  h σ H o { D with nx := u D } (fun σ' H' ρ' ds' f o' q => k ρ' ds' q σ' H' o' D (fun σ2 H2 ρ2 ds2 f2 o2 q2 => n σ2 H2 ρ2 ds2 (f.trans f2) o2 q2) fun v H2 d f2 s2 q2 r2 => r v H2 d (f.trans f2) s2 q2 r2) r
theorem so_next (h : nx ρ ds) : SOv K S i p tNext ρ ds nx rt := fun σ H o D n r => n σ H ρ ds (fun _ _ _ _ e => e) o h
/-- what leaves the list alone -/
theorem so_set {j : Nat} {P : Dat → Prop} (hij : i ≠ j) (h : ∀ S' : Sc, S'.Like S → ∀ a, Ev K S' te (ρ.set i (some (.raw (.ref a)))) P) (k : ∀ d, P d → nx (ρ.set j (some d)) ds) : SOv K S i p (tAsg te (gName j)) ρ ds nx rt := fun σ H o D n r =>
  h (S.but p) .but p σ H o.env o.ok _ fun v H1 d f1 s1 p1 r1 => by
    have o1 := o.kept (f1.to (T := S) rfl) s1.unbut
    refine n _ H1 _ ds (Frp.of (f1.to (T := S) rfl)) ⟨o.no, ?_, s1, by rw [List.length_set]; exact o.il, o1.at_⟩ (k d p1)
    rw [List.set_comm _ _ (Ne.symm hij)]
    exact (o.env.mono f1).set r1
theorem so_asg {is : List Nat} {ρ' : Rho} (h : ∀ S' : Sc, S'.Like S → ∀ a, Ev K S' te (ρ.set i (some (.raw (.ref a)))) (Eq x)) (hg : ∀ (S' : Sc) a, GEv K S' g is (ρ.set i (some (.raw (.ref a)))) x (ρ'.set i (some (.raw (.ref a))))) (hl : ρ'.length = ρ.length) (k : nx ρ' ds) : SOv K S i p (tAsg te g) ρ ds nx rt := fun σ H o D n r =>
  h (S.but p) .but p σ H o.env o.ok _ fun v H1 d f1 s1 p1 r1 => by
    subst p1
    have o1 := o.kept (f1.to (T := S) rfl) s1.unbut
    exact hg (S.but p) p v σ H1 r1 o1.env _ fun σ' e' a' => n σ' H1 ρ' ds (Frp.of (f1.to (T := S) rfl)) ⟨o.no, e', s1, by rw [hl]; exact o.il, o1.at_⟩ k
/-- x.append(e) -/
theorem so_app {P : Dat → Prop} (hz : ds.length < sizeLine) (h : ∀ S' : Sc, S'.Like S → ∀ a, Ev K S' te (ρ.set i (some (.raw (.ref a)))) P) (k : ∀ d, P d → nx ρ (ds ++ [d])) : SOv K S i p (tDrop (tBM K "list" rAppend (tVar i) (tCons te tNil))) ρ ds nx rt := fun σ H o D n r => by
  obtain ⟨ys, h1, h2⟩ := o.at_
  refine ⟨.ref p, o.get, .inl ⟨rfl, _, SqL.of h1⟩, h (S.but p) .but p σ H o.env o.ok _ fun v H1 d f1 s1 p1 r1 => ⟨p, ys, v, rfl, rfl, f1 _ _ o.no.1 h1, by rw [h2.length]; exact hz, ?_⟩⟩
  have dm : p ∈ (S.but p).ex := List.mem_cons_self
  refine n σ _ ρ (ds ++ [d]) (fun a u ha hne e => by rw [upd_ne hne]; exact f1 a u ha e) ⟨o.no, ⟨o.env.len, fun j c q => ?_⟩, s1.put fun z => o.no.1 (s1.sub p z), o.il, _, upd_same, ((h2.mono f1).at_ex dm).snoc (r1.at_ex dm)⟩ (k d p1)
  obtain ⟨w, q1, q2⟩ := o.env.get j c q
  exact ⟨w, q1, (q2.mono f1).at_ex dm⟩
/-- x.extend(e), e a fresh list -/
theorem so_ext {P : List Dat → Prop} (h : ∀ S' : Sc, S'.Like S → ∀ a, EvN K S' te (ρ.set i (some (.raw (.ref a)))) P) (hz : ∀ es, P es → ds.length + es.length ≤ sizeLine) (k : ∀ es, P es → nx ρ (ds ++ es)) : SOv K S i p (tDrop (tBM K "list" rExtend (tVar i) (tCons te tNil))) ρ ds nx rt := fun σ H o D n r => by
  obtain ⟨ys, h1, h2⟩ := o.at_
  refine ⟨.ref p, o.get, .inl ⟨rfl, _, SqL.of h1⟩, h (S.but p) .but p σ H o.env o.ok _ fun b zs es H1 f1 hb hnb s1 h3 r1 p1 => ⟨p, b, ys, zs, rfl, rfl, f1 _ _ o.no.1 h1, h3, by rw [h2.length, r1.length]; exact hz es p1, ?_⟩⟩
  have dm : p ∈ (S.but p).ex := List.mem_cons_self
  have s1' := s1.unbut
  refine n σ _ ρ (ds ++ es) (fun a u ha hne e => by rw [upd_ne hne]; exact f1 a u ha e) ⟨o.no, ⟨o.env.len, fun j c q => ?_⟩, s1'.put fun z => o.no.1 (s1'.sub p z), o.il, _, upd_same, ((h2.mono f1).at_ex dm).append (r1.unbut.at_ex dm)⟩ (k es p1)
  obtain ⟨w, q1, q2⟩ := o.env.get j c q
  exact ⟨w, q1, (q2.mono f1).at_ex dm⟩
/-- x.reverse() -/
theorem so_rev (k : nx ρ ds.reverse) : SOv K S i p (tDrop (tBM0 K "list" rReverse (tVar i))) ρ ds nx rt := fun σ H o D n r => by
  obtain ⟨ys, h1, h2⟩ := o.at_
  refine ⟨.ref p, o.get, .inl ⟨rfl, _, SqL.of h1⟩, p, ys, rfl, rfl, h1, ?_⟩
  have dm : p ∈ (S.but p).ex := List.mem_cons_self
  refine n σ _ ρ ds.reverse (fun a u ha hne e => by rw [upd_ne hne]; exact e) ⟨o.no, ⟨o.env.len, fun j c q => ?_⟩, o.ok.put fun z => o.no.1 (o.ok.sub p z), o.il, _, upd_same, (h2.at_ex dm).reverse⟩ k
  obtain ⟨w, q1, q2⟩ := o.env.get j c q
  exact ⟨w, q1, q2.at_ex dm⟩
/-- an if whose test may read the list -/
theorem so_if {R : Bool → Prop} (h : EvT K S tt (ρ.set i (some (.lst ds))) R) (h1 : R true → SOv K S i p t ρ ds nx rt) (h2 : R false → SOv K S i p u ρ ds nx rt) : SOv K S i p (tIfS tt t u) ρ ds nx rt := fun σ H o D n r =>
  h σ H o.full.1 o.full.2 _ fun c H1 f1 s1 p1 => by
    have o1 := o.kept f1 s1
    have go : ∀ {w : TS}, SOv K S i p w ρ ds nx rt → w D σ H1 := fun hw => hw σ H1 o1 D (fun σ2 H2 ρ2 ds2 f2 o2 q2 => n σ2 H2 ρ2 ds2 ((Frp.of f1).trans f2) o2 q2) fun v H2 d f2 s2 q2 r2 => r v H2 d ((Frp.of f1).trans f2) s2 q2 r2
    cases c with
    | true => exact go (h1 p1)
    | false => exact go (h2 p1)
/-- from here on it's only read -/
theorem so_close (h : SEv K S t (ρ.set i (some (.lst ds))) { rt := rt }) : SOv K S i p t ρ ds nx rt := fun σ H o D n r =>
  h σ H o.full.1 o.full.2 D (fun _ _ _ _ _ _ z => z.elim) (fun v H' d f s q r' => r v H' d (Frp.of f) s q r') (fun _ _ _ _ _ _ z => z.elim) fun _ _ _ _ _ _ z => z.elim
/-- another fresh list takes its place -/
theorem so_new {P : List Dat → Prop} (h : EvN K S te (ρ.set i (some (.lst ds))) P) (k : ∀ q es, P es → SOv K S i q u ρ es (fun _ _ => False) rt) : SOv K S i p (tSeq (tAsg te (gName i)) u) ρ ds nx rt := fun σ H o D n r =>
  h σ H o.full.1 o.full.2 _ fun q ys es H1 f1 hq hn s1 h1 h2 p1 => k q es p1 (σ.set i (some (.ref q))) H1
    ⟨o.full.2.ne hq, ⟨by rw [List.length_set, o.env.len, List.length_set, List.length_set], fun j d e => by
      by_cases c : i = j
      · subst c
        rw [List.getElem?_set_self o.il] at e
        cases e
        refine ⟨.ref q, ?_, .raw _⟩
        rw [List.getElem?_set_self (by rw [o.env.len, List.length_set]; exact o.il)]
      · rw [List.getElem?_set_ne c] at e
        obtain ⟨v, a, b⟩ := o.full.1.get j d (by rw [List.getElem?_set_ne c]; exact e)
        refine ⟨v, by rw [List.getElem?_set_ne c]; exact a, ?_⟩
        exact (b.but hq).mono (f1.to (T := S.but q) rfl)⟩, s1, o.il, ys, h1, h2⟩ _ (fun _ _ _ _ _ _ z => z.elim) fun v H2 d f2 s2 k2 r2 => r v H2 d (fun a u ha hne e => f2 a u ha (fun z => by rw [z, hq] at e; cases e) (f1 a u ha e)) s2 k2 r2
end
section
variable {K : PySem.W.Frag} {S : Sc} {H H' : Hp}
/-- what is not left alone is kept -/
def Kp (S : Sc) (H H' : Hp) : Prop := ∀ a o, S.no a → H a = some o → H' a = some o
theorem Kp.sqT (e : Kp S H H') {a : Addr} {xs : List V} (n : S.no a ∨ SqT K NoHp a xs) (h : SqT K H a xs) : SqT K H' a xs := by
  rcases n with n | n
  · rcases h with (h | ⟨o, h⟩) | h
    · exact .inl (.inl (e _ _ n h))
    · exact .inl (.inr ⟨o, e _ _ n h⟩)
    · exact .inr h
  · exact nohp_t n
theorem Kp.sqL (e : Kp S H H') {a : Addr} {xs : List V} (n : S.no a ∨ SqL K NoHp a xs) (h : SqL K H a xs) : SqL K H' a xs := by
  rcases n with n | n
  · rcases h with (h | ⟨o, h⟩) | h
    · exact .inl (.inl (e _ _ n h))
    · exact .inl (.inr ⟨o, e _ _ n h⟩)
    · exact .inr h
  · exact nohp_l n
theorem Rp.kp (e : Kp S H H') {v : V} {d : Dat} (h : Rp K S H v d) : Rp K S H' v d :=
  Rp.rec (motive_1 := fun v d _ => Rp K S H' v d) (motive_2 := fun vs ds _ => Rps K S H' vs ds) (motive_3 := fun vs ds _ => Rpk K S H' vs ds) (motive_4 := fun vs ds _ => Rpf K S H' vs ds)
    .non (fun b => .bl b) (fun i => .int i) (fun x => .str x) (fun n h _ ih => .tup n (e.sqT n h) ih) (fun n h _ ih => .lst n (e.sqL n h) ih)
    (fun n h _ ih => .dic n (e _ _ n h) ih) (fun n h _ ih => .ob n (e _ _ n h) ih) (fun n g h _ ih => .hd n g (e _ _ n h) ih) (fun v => .raw v) .nil (fun _ _ a b => .cons a b) .nil (fun _ _ a b => .cons a b) .nil (fun _ _ a b => .cons a b) h
theorem Rps.kp (e : Kp S H H') : ∀ {vs : List V} {ds : List Dat}, Rps K S H vs ds → Rps K S H' vs ds
  | _, _, .nil => .nil
  | _, _, .cons a b => .cons (a.kp e) (Rps.kp e b)
theorem Rpk.kp (e : Kp S H H') : ∀ {vs : List (Key × V)} {ds : List (Key × Dat)}, Rpk K S H vs ds → Rpk K S H' vs ds
  | _, _, .nil => .nil
  | _, _, .cons a b => .cons (a.kp e) (Rpk.kp e b)
theorem EnvR.kp (e : Kp S H H') {σ : L2.St} {ρ : Rho} (h : EnvR K S H σ ρ) : EnvR K S H' σ ρ := ⟨h.len, fun i d x => by
  obtain ⟨v, a, b⟩ := h.get i d x
  exact ⟨v, a, b.kp e⟩⟩
theorem Frp.kp {p : Addr} (f : Frp S p H H') (hp : p ∈ S.ex) : Kp S H H' := fun a o n e => f a o n.1 (fun z => n.2 (z ▸ hp)) e
/-- at each turn the next datum comes, whatever becomes of p -/
def GoesX (K : PySem.W.Frag) (S : Sc) (p : Addr) (J : It) (H1 : Hp) (xs : List Dat) : Prop := ∀ (H' : Hp) (i : Nat), Frp S p H1 H' → StOk S H' →
  (∀ x, xs[i]? = some x → J.go i H' ∧ ∀ v H2, J.yld i H' v H2 → Fr S H' H2 ∧ StOk S H2 ∧ Rp K S H2 v x) ∧ (i = xs.length → J.stop i H')
def IEvX (K : PySem.W.Frag) (S : Sc) (p : Addr) (wi : TI) (ρ : Rho) (P : List Dat → Prop) : Prop :=
  ∀ σ H, EnvR K S H σ ρ → StOk S H → ∀ R : It → Hp → Prop, (∀ J H1 xs, Fr S H H1 → StOk S H1 → P xs → GoesX K S p J H1 xs → R J H1) → wi σ H R
end
section
variable {K : PySem.W.Frag} {S : Sc} {ρ : Rho} {ta tb te : TE} {tt : TT} {t u : TS} {x y z : Dat} {H : Hp} {g : TG} {i : Nat} {p : Addr} {ds : List Dat} {nx : Rho → List Dat → Prop} {rt : Dat → Prop} {σ : L2.St}
theorem ix_list {P : List Dat → Prop} (hp : p ∈ S.ex) (ha : Ev K S ta ρ (fun d => ∃ xs, d = .lst xs ∧ P xs)) : IEvX K S p (iList K ta) ρ P := fun σ H e s R k => ha σ H e s _ fun v H1 d f1 s1 p1 r1 => by
  obtain ⟨xs, rfl, p1⟩ := p1
  cases r1 with
  | @lst a vs _ n hs r =>
    refine ⟨a, rfl, ⟨_, hs⟩, k _ _ _ f1 s1 p1 fun H' i f' s' => ⟨fun x hx => ?_, fun hx => ?_⟩⟩
    · obtain ⟨v, h1, h2⟩ := r.get hx
      refine ⟨⟨vs, v, (f'.kp hp).sqL n hs, h1⟩, fun w H2 hw => ?_⟩
      obtain ⟨rfl, h3⟩ := hw
      have h4 := h3 vs ((f'.kp hp).sqL n hs)
      rw [h1] at h4
      cases h4
      exact ⟨.refl, s', h2.kp (f'.kp hp)⟩
    · refine ⟨vs, (f'.kp hp).sqL n hs, ?_⟩
      rw [r.length]
      exact Nat.le_of_eq hx.symm
theorem ix_range {P : Int → Prop} {tr : TA} (h : EvA K S tr ρ (fun ds => ∃ j, ds = [.int j] ∧ P j)) (hj : ∀ j, P j → -(2 ^ 62) ≤ j ∧ j < 2 ^ 62) : IEvX K S p (iRng1 tr) ρ (fun xs => ∃ j, P j ∧ xs = rngD j.toNat) := fun σ H e s R k =>
  h σ H e s _ fun vs H1 ds f1 s1 p1 r1 => by
    obtain ⟨j, rfl, hp⟩ := p1
    cases r1 with
    | cons a t =>
      cases t
      cases a
      refine ⟨j, rfl, (hj j hp).1, (hj j hp).2, k _ _ _ f1 s1 ⟨j, hp, rfl⟩ fun H' i f' s' => ⟨fun x hx => ?_, fun hx => ?_⟩⟩
      · have hi : i < j.toNat := by
          have := (List.getElem?_eq_some_iff.mp hx).1
          simpa [rngD] using this
        refine ⟨hi, fun w H2 hw => ?_⟩
        obtain ⟨rfl, rfl⟩ := hw
        have e : x = .int (i : Int) := by
          simp [rngD, hi] at hx
          exact hx.symm
        subst e
        refine ⟨.refl, s', ?_⟩
        rw [Int.zero_add]
        exact .int _
      · show j.toNat ≤ i
        simp [rngD] at hx
        omega
/-- a loop that turns the list -/
theorem so_for {wi : TI} {is : List Nat} {P : List Dat → Prop} (hi : i ∉ is) (hw : ∀ S' : Sc, S'.Like S → p ∈ S'.ex → IEvX K S' p wi (ρ.set i (some (.raw (.ref p)))) P) (J : List Dat → Nat → Rho → List Dat → Prop) (h0 : ∀ xs, P xs → J xs 0 ρ ds)
    (step : ∀ (xs : List Dat) (j : Nat) (x : Dat) (ρ1 : Rho) (es : List Dat), P xs → xs[j]? = some x → J xs j ρ1 es → ∃ ρ2, (∀ S', GEv K S' g is (ρ1.set i (some (.raw (.ref p)))) x (ρ2.set i (some (.raw (.ref p))))) ∧ ρ2.length = ρ1.length ∧ SOv K S i p t ρ2 es (J xs (j + 1)) rt)
    (hd : ∀ xs ρ1 es, P xs → J xs xs.length ρ1 es → nx ρ1 es) : SOv K S i p (tFor wi g t) ρ ds nx rt := fun σ H o D n r =>
  hw (S.but p) .but List.mem_cons_self σ H o.env o.ok _ fun Jt H1 xs f1 s1 p1 go => by
    have o1 := o.kept (f1.to (T := S) rfl) s1.unbut
    have f1' : Frp S p H H1 := Frp.of (f1.to (T := S) rfl)
    refine ⟨fun j m σ' H' => m + j = xs.length ∧ Frp S p H1 H' ∧ ∃ ρ1 es, Own K S i p H' σ' ρ1 es ∧ J xs j ρ1 es, ⟨xs.length, rfl, fun _ _ _ _ e => e, ρ, ds, o1, h0 xs p1⟩, fun j m σ' H' ⟨hm, f', ρ1, es, o', hj⟩ => ?_⟩
    obtain ⟨g1, g2⟩ := go H' j f' o'.ok
    cases hx : xs[j]? with
    | none =>
      have := List.getElem?_eq_none_iff.mp hx
      have e0 : j = xs.length := by omega
      exact .inl ⟨g2 e0, n σ' H' ρ1 es (f1'.trans f') o' (hd xs ρ1 es p1 (e0 ▸ hj))⟩
    | some x =>
      obtain ⟨hgo, hyld⟩ := g1 x hx
      have hil : j < xs.length := (List.getElem?_eq_some_iff.mp hx).1
      refine .inr ⟨hgo, fun σ2 H2 => (Frp S p H1 H2 ∧ ∃ ρ1 es, Own K S i p H2 σ2 ρ1 es ∧ J xs (j + 1) ρ1 es), fun σ2 H2 h => ⟨m - 1, by omega, by omega, h⟩, fun v H2 hv => ?_⟩
      obtain ⟨f2, s2, r2⟩ := hyld v H2 hv
      obtain ⟨ρ2, k1, kl, k2⟩ := step xs j x ρ1 es p1 hx hj
      have o2 := o'.kept (f2.to (T := S) rfl) s2.unbut
      have f12 : Frp S p H1 H2 := f'.trans (Frp.of (f2.to (T := S) rfl))
      refine k1 (S.but p) v σ' H2 r2 o2.env _ fun σ2 e2 a2 => ?_
      exact k2 σ2 H2 ⟨o2.no, e2, o2.ok, by rw [kl]; exact o2.il, o2.at_⟩ _ (fun σ3 H3 ρ3 es3 f3 o3 q => ⟨f12.trans f3, ρ3, es3, o3, q⟩) fun v H3 d f3 s3 q r3 => r v H3 d (f1'.trans (f12.trans f3)) s3 q r3
end
section
variable {K : PySem.W.Frag} {S : Sc} {H : Hp} {σ : L2.St} {ρ : Rho}
theorem EnvR.nil : EnvR K S H [] [] := ⟨rfl, fun i d x => by simp at x⟩
theorem EnvR.consS {v : V} {d : Dat} (r : Rp K S H v d) (h : EnvR K S H σ ρ) : EnvR K S H (some v :: σ) (some d :: ρ) := ⟨by rw [List.length_cons, List.length_cons, h.len], fun i e x => by
  cases i with
  | zero =>
    cases x
    exact ⟨v, rfl, r⟩
  | succ i => exact h.get i e (by simpa using x) |> fun ⟨u, a, b⟩ => ⟨u, by simpa using a, b⟩⟩
theorem EnvR.consN {a : Option V} (h : EnvR K S H σ ρ) : EnvR K S H (a :: σ) (none :: ρ) := ⟨by rw [List.length_cons, List.length_cons, h.len], fun i e x => by
  cases i with
  | zero => cases x
  | succ i => exact h.get i e (by simpa using x) |> fun ⟨u, a, b⟩ => ⟨u, by simpa using a, b⟩⟩
theorem EnvR.at_ex {D : Addr} {o : HO} (hD : D ∈ S.ex) (h : EnvR K S H σ ρ) : EnvR K S (upd H D o) σ ρ := ⟨h.len, fun i d e => by
  obtain ⟨v, a, b⟩ := h.get i d e
  exact ⟨v, a, b.at_ex hD⟩⟩
theorem EnvR.raw {i : Nat} {v : V} (h : EnvR K S H σ ρ) (e : ρ[i]? = some (some (.raw v))) : σ[i]? = some (some v) := by
  obtain ⟨u, a, b⟩ := h.get i _ e
  cases b
  exact a
theorem EnvR.str {i : Nat} {x : Str} (h : EnvR K S H σ ρ) (e : ρ[i]? = some (some (.str x))) : σ[i]? = some (some (.str x)) := by
  obtain ⟨u, a, b⟩ := h.get i _ e
  cases b
  exact a
end
/-- all but x is kept -/
def Kx (x : Addr) (H H' : Hp) : Prop := ∀ a o, a ≠ x → H a = some o → H' a = some o
theorem Kx.trans {x : Addr} {H H1 H2 : Hp} (f : Kx x H H1) (g : Kx x H1 H2) : Kx x H H2 := fun a o n e => g a o n (f a o n e)
theorem Kx.new {x p : Addr} {o : HO} {H : Hp} (h : H p = none) : Kx x H (upd H p o) := fun a u _ e => by
  rw [upd_ne (fun z => by rw [z, h] at e; cases e)]
  exact e
theorem Kx.put {x : Addr} {o : HO} {H : Hp} : Kx x H (upd H x o) := fun a u n e => by
  rw [upd_ne n]
  exact e
theorem Kx.frp {S : Sc} {x : Addr} {H H' : Hp} (f : Kx x H H') : Frp S x H H' := fun a o _ n e => f a o n e
end Sh
/-! heads, rows, kinds -/
namespace Sh
open PySem PySem.Spec PyProof.Rows L2
abbrev Cols := List (Str × Str)
def colD (c : Str × Str) : Dat := .tup [.str c.1, .str c.2]
def headD (cs : Cols) : List Dat := cs.map colD
structure HeadOk (cs : Cols) : Prop where
  one : 1 ≤ cs.length
  most : cs.length ≤ 8
  nd : (cs.map (·.1)).Nodup
  names : ∀ c ∈ cs, NameOk c.1
  kinds : ∀ c ∈ cs, c.2 = "number" ∨ c.2 = "word"
/-- a row's values are of the head's kinds -/
def RowK : Cols → List Dat → Prop
  | [], [] => True
  | c :: cs, d :: ds => ValK c.2 d ∧ RowK cs ds
  | _, _ => False
theorem RowK.len : ∀ {cs : Cols} {ds : List Dat}, RowK cs ds → ds.length = cs.length
  | [], [], _ => rfl
  | _ :: _, _ :: _, h => by rw [List.length_cons, List.length_cons, RowK.len h.2]
  | [], _ :: _, h => h.elim
  | _ :: _, [], h => h.elim
theorem RowK.at : ∀ {cs : Cols} {ds : List Dat} {i : Nat} {c : Str × Str} {d : Dat}, RowK cs ds → cs[i]? = some c → ds[i]? = some d → ValK c.2 d
  | [], [], _, _, _, _, e, _ => by simp at e
  | _ :: _, _ :: _, 0, _, _, h, e1, e2 => by
    cases e1
    cases e2
    exact h.1
  | _ :: _, _ :: _, i + 1, _, _, h, e1, e2 => RowK.at (i := i) h.2 (by simpa using e1) (by simpa using e2)
  | [], _ :: _, _, _, _, h, _, _ => h.elim
  | _ :: _, [], _, _, _, h, _, _ => h.elim
theorem ValK.sc {k : Str} {d : Dat} (h : ValK k d) : isSc d = true := by
  rcases h with ⟨_, i, rfl⟩ | ⟨_, x, rfl, _⟩ <;> rfl
theorem ValK.fine {k : Str} {d : Dat} (h : ValK k d) : d.fine = true := by
  rcases h with ⟨_, i, rfl⟩ | ⟨_, x, rfl, hx⟩
  · rfl
  · exact hx.ok
theorem ValK.eqn {k : Str} {d : Dat} {n : Nat} (h : ValK k d) : EqN n d := by
  rcases h with ⟨_, i, rfl⟩ | ⟨_, x, rfl, hx⟩
  · exact .int
  · exact .str hx.ok
theorem ValK.same {k : Str} {d e : Dat} (h : ValK k d) (g : ValK k e) : sSame d e = true := by
  rcases h with ⟨h0, i, rfl⟩ | ⟨h0, x, rfl, _⟩
  · rcases g with ⟨_, j, rfl⟩ | ⟨g0, _⟩
    · rfl
    · rw [h0] at g0
      exact absurd g0 (by decide)
  · rcases g with ⟨g0, _⟩ | ⟨_, y, rfl, _⟩
    · rw [h0] at g0
      exact absurd g0 (by decide)
    · rfl
section
variable {P : Program} {w : World} {K : PySem.W.Frag} {mg : Str → Option Value} {base : Heap} {aW aK : Addr} {f : Addr} {fd : FuncData}
/-- is_head -/
abbrev s_is_head : Stmt := top 23
theorem sc_is_head : FnScope ["thing", "column", "name", "kind"] ["thing"] (defScope s_is_head) := ⟨rfl, rfl, rfl, by decide +kernel, rfl, by decide +kernel, by decide +kernel⟩
def pre_is_head : Sc → List Dat → Prop := fun _ ds => ∃ cs, ds = [.tup (headD cs)] ∧ HeadOk cs
def post_is_head : List Dat → Dat → Prop := fun _ r => r = .bl true
def firstD : Dat → Dat
  | .tup (n :: _) => n
  | _ => .non
theorem nameD_col {cs : Cols} : (headD cs).map firstD = cs.map fun c => Dat.str c.1 := by
  unfold headD
  rw [List.map_map]
  rfl
theorem names_nodup {cs : Cols} (h : (cs.map (·.1)).Nodup) : (cs.map fun c => Dat.str c.1).Nodup := by
  have e : (cs.map fun c => Dat.str c.1) = (cs.map (·.1)).map Dat.str := by rw [List.map_map]; rfl
  rw [e]
  refine List.pairwise_map.mpr (List.Pairwise.imp (fun hne z => hne ?_) h)
  injection z
theorem ok_is_head (F : Fun K "is_head" "is_head" s_is_head f fd) (T : Txt K mg aW aK) (c_is_column : Cl P w K mg base "is_column" 3 ["thing"] (SpD K pre_is_column post_is_column)) : FnOk P w K mg base CX0 4 f fd ["thing"] (SpD K pre_is_head post_is_head) := by
  refine ok_of F sc_is_head (fun S ds ⟨cs, h, _⟩ => by rw [h]; rfl) fun cdv A outer s H E hr => ?_
  have nd := sc_is_head.nd
  have hu := hr.units
  have hu0 := hr.units0
  have hu1 := hu_of hr
  have hu65 := u65 hr
  refine ⟨_, (pss_cons (ps_if (PW.pt (pw_or (pt_not (pt_val (pe_isi T.b T.b.tuple boot_tuple (pv 0)))) (pw_or1 (pt_not (pt_chain op_leS op_leS pe_int (pe_len T.b (pv 0)) (pe_gI T.g_MOST_COLUMNS)))))) (pss_one (ps_ret pe_bl)) pss_nil)
      (pss_cons (ps_if (pt_not (pt_val (pe_all T.b (pe_lc rfl nd (pi_tup (pv 0)) (blkOk_by (own := [("column", 1)]) (N := ["thing", "column", "name", "kind"]) (sc := defScope s_is_head) (by decide +kernel)) (fun _ _ _ _ _ => (pg_name (i := 1) nd rfl (Or.inl rfl))) (fun _ _ _ _ _ => pts_nil) (fun _ _ _ _ _ => (pe_fn c_is_column (hr.mono (by decide)) (pa_cons (pv 1) pa_nil))))))) (pss_one (ps_ret pe_bl)) pss_nil)
      (pss_one (ps_ret (pe_cmpR (op_eqD hu) (pe_lenset T.b hu (pe_lc rfl nd (pi_tup (pv 0)) (blkOk_by (own := [("name", 2), ("kind", 3)]) (N := ["thing", "column", "name", "kind"]) (sc := defScope s_is_head) (by decide +kernel)) (fun _ _ _ _ _ => (pg_tupK (K := K) (n := 2) rfl rfl (pgs_cons (pg_name (i := 2) nd rfl (Or.inl rfl)) (pgs_cons (pg_name (i := 3) nd rfl (Or.inl rfl)) pgs_nil)))) (fun _ _ _ _ _ => pts_nil) (fun _ _ _ _ _ => (pv 2)))) (pe_len T.b (pv 0)) (nomark _)))))), ?_⟩
  rintro S ds ⟨cs, rfl, hc⟩
  have e0 : ∀ {S : Sc} {b c d : Option Dat}, Ev K S (tVar 0) [some (.tup (headD cs)), b, c, d] (Eq (.tup (headD cs))) := ev_var rfl
  have hlen : (headD cs).length = cs.length := List.length_map ..
  have hsl : (headD cs).length < sizeLine := by rw [hlen]; exact Nat.lt_of_le_of_lt hc.most (by decide)
  refine s_seq (s_no (et_or (et_not (et_BD (ev_isi rfl e0 kb_tuple_tuple))) fun _ => et_not (et_testD (ev_chLL rfl rfl ev_int (ev_lenT e0) ev_int))) ?_ (s_next (s_seq (s_no (et_not (et_BD (ev_allMap (is := [1]) (fun _ => true) (ie_tup e0) (by simp) hsl fun S' hS d hd => ?_))) ?_ (s_next (s_retD ((ev_eq (x := .int _) .int .int (ev_lenset ?ct ?nd (ev_lcMapD (is := [2, 3]) firstD (ie_tup e0) (by simp) hsl fun S' hS d hd => ?_)) (ev_lenT e0)).is ?_) rfl))))))
  · have h1 := hc.one
    have h2 := hc.most
    rw [sLe_int, sLe_int, hlen, decide_eq_true (by omega), decide_eq_true (by omega)]
    rfl
  · obtain ⟨c, hcm, rfl⟩ := List.mem_map.mp hd
    exact ⟨_, g_name, ev_callD (ea_consD (ev_var rfl) ea_nil) ⟨c.1, c.2, rfl, hc.names c hcm, hc.kinds c hcm⟩ fun d h => h.symm⟩
  · rw [List.all_eq_true.mpr fun _ _ => rfl]
    rfl
  · rw [nameD_col]
    refine .inl ⟨cs.map fun c => .inr c.1, by rw [List.length_map]; have := hc.most; omega, by rw [List.map_map]; rfl⟩
  · rw [nameD_col]
    exact names_nodup hc.nd
  · obtain ⟨c, hcm, rfl⟩ := List.mem_map.mp hd
    exact ⟨_, g_two, ev_var rfl⟩
  · rw [List.length_map, deq_self]
/-- is_row -/
abbrev s_is_row : Stmt := top 24
theorem sc_is_row : FnScope ["head", "thing", "value", "column"] ["head", "thing"] (defScope s_is_row) := ⟨rfl, rfl, rfl, by decide +kernel, rfl, by decide +kernel, by decide +kernel⟩
def pre_is_row : Sc → List Dat → Prop := fun _ ds => ∃ cs xs, ds = [.tup (headD cs), .tup xs] ∧ HeadOk cs ∧ RowK cs xs
def post_is_row : List Dat → Dat → Prop := fun _ r => r = .bl true
theorem ok_is_row (F : Fun K "is_row" "is_row" s_is_row f fd) (T : Txt K mg aW aK) (c_is_value : Cl P w K mg base "is_value" 2 ["thing"] (SpD K pre_is_value post_is_value)) (c_kind_of : Cl P w K mg base "kind_of" 1 ["value"] (SpD K pre_kind_of post_kind_of)) : FnOk P w K mg base CX0 3 f fd ["head", "thing"] (SpD K pre_is_row post_is_row) := by
  refine ok_of F sc_is_row (fun S ds ⟨cs, xs, h, _⟩ => by rw [h]; rfl) fun cdv A outer s H E hr => ?_
  have nd := sc_is_row.nd
  have hu := hr.units
  have hu0 := hr.units0
  have hu1 := hu_of hr
  have hu65 := u65 hr
  refine ⟨_, (pss_cons (ps_if (PW.pt (pw_or (pt_not (pt_val (pe_isi T.b T.b.tuple boot_tuple (pv 1)))) (pw_or1 (pt_cmpR (op_neD hu) (pe_len T.b (pv 1)) (pe_len T.b (pv 0)) (nomark _))))) (pss_one (ps_ret pe_bl)) pss_nil)
      (pss_cons (ps_for PassesOwn.never rfl (RZ.pi_zipA rfl T.b.zip (pa_cons (pv 1) (pa_cons (pv 0) pa_nil))) (pg_tup rfl (pgs_cons (pg_name (i := 2) nd rfl (Or.inl rfl)) (pgs_cons (pg_name (i := 3) nd rfl (Or.inl rfl)) pgs_nil))) (pss_one (ps_if (PW.pt (pw_or (pt_not (pt_val (pe_fn c_is_value (hr.mono (by decide)) (pa_cons (pv 2) pa_nil)))) (pw_or1 (pt_cmpR (op_neD hu) (pe_fn c_kind_of (hr.mono (by decide)) (pa_cons (pv 2) pa_nil)) (pe_ix ix_seq (pv 3) pe_int (fun _ _ => rfl)) (nomark _))))) (pss_one (ps_ret pe_bl)) pss_nil)))
      (pss_one (ps_ret pe_bl)))), ?_⟩
  rintro S ds ⟨cs, xs, rfl, hc, hx⟩
  have e0 : ∀ {b c : Option Dat}, Ev K S (tVar 0) [some (.tup (headD cs)), some (.tup xs), b, c] (Eq (.tup (headD cs))) := ev_var rfl
  have e1 : ∀ {b c : Option Dat}, Ev K S (tVar 1) [some (.tup (headD cs)), some (.tup xs), b, c] (Eq (.tup xs)) := ev_var rfl
  have hlen : (headD cs).length = cs.length := List.length_map ..
  refine s_seq (s_no (et_or (et_not (et_BD (ev_isi rfl e1 kb_tuple_tuple))) fun _ => et_testD (ev_ne (x := .int _) (y := .int _) .int .int (ev_lenT e1) (ev_lenT e0))) ?_ (s_next (s_seq (s_for (is := [2, 3]) (P := Eq (zipD xs (headD cs))) (ie_zipT (ea_consD e1 (ea_consD e0 ea_nil))) (fun _ _ ρ => ∃ b c, ρ = [some (.tup (headD cs)), some (.tup xs), b, c]) (fun _ _ => ⟨_, _, rfl⟩) ?_ ?_))))
  · rw [hx.len, hlen, deq_self]
    rfl
  · rintro zs i z ρ1 rfl hz ⟨b, c, rfl⟩
    obtain ⟨x, y, h1, h2, rfl⟩ := zipD_get _ _ _ _ hz
    unfold headD at h2
    rw [List.getElem?_map] at h2
    cases h3 : cs[i]? with
    | none =>
      rw [h3] at h2
      cases h2
    | some col =>
      rw [h3] at h2
      obtain rfl : colD col = y := Option.some.inj h2
      have hv := hx.at h3 h1
      refine ⟨_, g_two, s_no (et_or (et_not (et_BD (b := true) (ev_callD (ea_consD (ev_var rfl) ea_nil) ⟨col.2, x, rfl, hv⟩ fun d h => by rw [h]))) fun _ => et_testD (ev_ne (x := .str col.2) (y := .str col.2) ?_ ?_ (ev_callD (ea_consD (ev_var rfl) ea_nil) ⟨col.2, x, rfl, hv⟩ fun d h => (h col.2 x rfl hv).symm) (ev_ixT rfl (ev_var rfl) ev_int))) ?_ (s_next ⟨_, _, rfl⟩)⟩
      · rcases hc.kinds col (List.mem_of_getElem? h3) with e | e <;> rw [e] <;> exact (EqN.str (n := 1) (by decide +kernel)).eqd
      · rcases hc.kinds col (List.mem_of_getElem? h3) with e | e <;> rw [e] <;> exact (EqN.str (n := 1) (by decide +kernel)).eqd
      · rw [deq_self]
        rfl
  · rintro zs ρ1 _ ⟨b, c, rfl⟩
    exact s_retD ev_bl rfl
/-- is_house -/
abbrev s_is_house : Stmt := top 30
theorem sc_is_house : FnScope ["thing", "many"] ["thing", "many"] (defScope s_is_house) := ⟨rfl, rfl, rfl, by decide +kernel, rfl, by decide +kernel, by decide +kernel⟩
def pre_is_house : Sc → List Dat → Prop := fun _ ds => ∃ h m, ds = [.int h, .int m] ∧ 0 ≤ h ∧ h < m
def post_is_house : List Dat → Dat → Prop := fun _ r => r = .bl true
theorem ok_is_house (F : Fun K "is_house" "is_house" s_is_house f fd) (T : Txt K mg aW aK) (c_is_whole : Cl P w K mg base "is_whole" 1 ["thing"] (SpD K preWhole postWhole)) : FnOk P w K mg base CX0 2 f fd ["thing", "many"] (SpD K pre_is_house post_is_house) := by
  refine ok_of F sc_is_house (fun S ds ⟨h, m, e, _⟩ => by rw [e]; rfl) fun cdv A outer s H E hr => ?_
  have nd := sc_is_house.nd
  refine ⟨_, (pss_one (ps_ret (pe_and (pe_fn c_is_whole (hr.mono (by decide)) (pa_cons (pv 0) pa_nil)) (pe_one (pe_chain op_leS op_ltS pe_int (pv 0) (pv 1)))))), ?_⟩
  rintro S ds ⟨h, m, rfl, h1, h2⟩
  refine s_retD ((ev_andV (a := true) (ev_callD (ea_consD (ev_var rfl) ea_nil) ⟨.int h, rfl, rfl, rfl⟩ fun d ⟨_, e1, e2⟩ => by cases e1; exact e2.symm) fun _ => ev_chLT rfl rfl ev_int (ev_var (d := .int h) rfl) (ev_var (d := .int m) rfl)).is ?_) rfl
  rw [sLe_int, sLt_int, decide_eq_true h1, decide_eq_true h2]
  rfl
/-- kind_in -/
abbrev s_kind_in : Stmt := top 31
theorem sc_kind_in : FnScope ["head", "name"] ["head", "name"] (defScope s_kind_in) := ⟨rfl, rfl, rfl, by decide +kernel, rfl, by decide +kernel, by decide +kernel⟩
def pre_kind_in : Sc → List Dat → Prop := fun _ ds => ∃ cs n k, ds = [.hd (headD cs), .str n] ∧ HeadOk cs ∧ (n, k) ∈ cs
def post_kind_in : List Dat → Dat → Prop := fun ds r => ∀ cs n k, ds = [.hd (headD cs), .str n] → HeadOk cs → (n, k) ∈ cs → r = .str k
theorem headD_inj : ∀ {a b : Cols}, headD a = headD b → a = b
  | [], [], _ => rfl
  | [], _ :: _, h => by cases h
  | _ :: _, [], h => by cases h
  | x :: a, y :: b, h => by
    have h' : colD x :: headD a = colD y :: headD b := h
    injection h' with h1 h2
    have h1' : Dat.tup [.str x.1, .str x.2] = Dat.tup [.str y.1, .str y.2] := h1
    injection h1' with h1
    injection h1 with p1 p2
    injection p2 with p2 _
    injection p1 with p1
    injection p2 with p2
    rw [headD_inj h2, Prod.ext p1 p2]
theorem find_kind {cs : Cols} {n k : Str} (nd : (cs.map (·.1)).Nodup) (h : (n, k) ∈ cs) : valD (cs.map fun c => ((.inr c.1 : Key), Dat.str c.2)) (.inr n) = some (.str k) := by
  induction cs with
  | nil => cases h
  | cons c cs ih =>
    rw [List.map_cons] at nd
    have q := List.nodup_cons.mp nd
    by_cases e : c.1 = n
    · have ec : c = (n, k) := by
        rcases List.mem_cons.mp h with z | z
        · exact z.symm
        · exact absurd (List.mem_map.mpr ⟨(n, k), z, rfl⟩) (e ▸ q.1)
      rw [ec]
      simp [valD]
    · have h2 : (n, k) ∈ cs := by
        rcases List.mem_cons.mp h with z | z
        · rw [← z] at e
          exact absurd rfl e
        · exact z
      rw [← ih q.2 h2]
      unfold valD
      rw [List.map_cons, List.find?_cons_of_neg]
      simpa using e
theorem ok_kind_in (F : Fun K "kind_in" "kind_in" s_kind_in f fd) (T : Txt K mg aW aK) : FnOk P w K mg base CX0 1 f fd ["head", "name"] (SpD K pre_kind_in post_kind_in) := by
  refine ok_of F sc_kind_in (fun S ds ⟨cs, n, k, e, _⟩ => by rw [e]; rfl) fun cdv A outer s H E hr => ?_
  have nd := sc_kind_in.nd
  have hu := hr.units
  have hu0 := hr.units0
  have hu1 := hu_of hr
  have hu65 := u65 hr
  refine ⟨_, (pss_one (ps_ret (pe_ifExp (pt_val (pe_isi T.b T.b.str boot_str (pv 1))) (pe_dget1 hu1 (pe_dictH T.b (pv 0)) (pv 1) ⟨rfl, rfl, rfl, rfl⟩) pe_non))), ?_⟩
  rintro S ds ⟨cs, n, k, rfl, hc, hk⟩
  have e0 : Ev K S (tVar 0) [some (.hd (headD cs)), some (.str n)] (Eq (.hd ((cs.map fun c => ((.inr c.1 : Key), Dat.str c.2)).map fun kd => .tup [kD kd.1, kd.2]))) := ev_var (by rw [List.map_map]; rfl)
  have e1 : Ev K S (tVar 1) [some (.hd (headD cs)), some (.str n)] (Eq (.str n)) := ev_var rfl
  refine s_retD ((ev_if (et_BD (ev_isi rfl e1 kb_str_str)) (fun _ => ev_dget1 (k := .inr n) (ev_dictH ?_ e0) e1) fun z => nomatch z).is (y := .str k) ?_) fun cs' n' k' h1 h2 h3 => ?_
  · rw [List.map_map]
    have : (cs.map ((fun x : Key × Dat => x.1) ∘ fun c => ((.inr c.1 : Key), Dat.str c.2))) = (cs.map (·.1)).map (Sum.inr : Str → Key) := by rw [List.map_map]; rfl
    rw [this]
    refine List.pairwise_map.mpr (List.Pairwise.imp (fun hne z => hne ?_) hc.nd)
    injection z
  · rw [find_kind hc.nd hk]
    rfl
  · injection h1 with h4 h5
    injection h5 with h5 _
    injection h4 with h4
    injection h5 with h5
    have := headD_inj h4
    subst this h5
    have a1 := find_kind hc.nd hk
    rw [find_kind hc.nd h3] at a1
    exact (Option.some.inj a1).symm
end
end Sh
/-! cuts, placings, tables -/
namespace Sh
open PySem PySem.Spec PyProof.Rows L2
section
variable {K : PySem.W.Frag} {S : Sc} {ρ : Rho} {t u : TS} {tt tu : TT} {O : Out}
/-- an if that isn't taken -/
theorem s_skip {b : Bool} (h : EvT K S tt ρ (Eq b)) (hb : b = false) (k : SEv K S u ρ O) : SEv K S (tSeq (tIfS tt t tNext) u) ρ O := s_seq (s_no h hb (s_next k))
theorem et_andF {a : Bool} (h : EvT K S tt ρ (Eq a)) (ha : a = false) : EvT K S (tAnd tt tu) ρ (Eq false) := by
  subst ha
  exact (et_and (b := false) h fun z => nomatch z).is rfl
theorem et_orT {a : Bool} (h : EvT K S tt ρ (Eq a)) (ha : a = true) : EvT K S (tOr tt tu) ρ (Eq true) := by
  subst ha
  exact (et_or (b := true) h fun z => nomatch z).is rfl
end
abbrev Cuts := List (Dat × Int)
def cutD1 (c : Dat × Int) : Dat := .tup [c.1, .int c.2]
def cutsD (h0 : Int) (rest : Cuts) : List Dat := cutD1 (.non, h0) :: rest.map cutD1
structure CutsOk (k : Str) (m h0 : Int) (rest : Cuts) : Prop where
  h0 : 0 ≤ h0 ∧ h0 < m
  most : rest.length ≤ 7
  each : ∀ c ∈ rest, ValK k c.1 ∧ 0 ≤ c.2 ∧ c.2 < m
  up : rest.Pairwise fun a b => sLt a.1 b.1 = true
theorem cut1_inj {a b : Dat × Int} (h : cutD1 a = cutD1 b) : a = b := by
  injection h with h
  injection h with h1 h2
  injection h2 with h2
  injection h2 with h2
  exact Prod.ext h1 h2
theorem cuts_inj0 : ∀ {a b : Cuts}, a.map cutD1 = b.map cutD1 → a = b
  | [], [], _ => rfl
  | [], _ :: _, h => by cases h
  | _ :: _, [], h => by cases h
  | x :: a, y :: b, h => by
    rw [List.map_cons, List.map_cons] at h
    injection h with h1 h2
    rw [cut1_inj h1, cuts_inj0 h2]
theorem cutsD_inj {h h' : Int} {a b : Cuts} (e : cutsD h a = cutsD h' b) : h = h' ∧ a = b := by
  have e : cutD1 (.non, h) :: a.map cutD1 = cutD1 (.non, h') :: b.map cutD1 := e
  injection e with e1 e2
  have := cut1_inj e1
  injection this with _ e3
  exact ⟨e3, cuts_inj0 e2⟩
theorem ValK.non {k : Str} {d : Dat} (h : ValK k d) : d.isNon = false := by
  rcases h with ⟨_, i, rfl⟩ | ⟨_, x, rfl, _⟩ <;> rfl
theorem ltle {k : Str} {a b v : Dat} (ha : ValK k a) (hb : ValK k b) (hv : ValK k v) (h1 : sLt a b = true) (h2 : sLe b v = true) : sLe a v = true := by
  rcases ha with ⟨e, i, rfl⟩ | ⟨e, x, rfl, _⟩
  · rcases hb with ⟨_, j, rfl⟩ | ⟨e', _⟩
    · rcases hv with ⟨_, l, rfl⟩ | ⟨e', _⟩
      · rw [sLt_int, decide_eq_true_eq] at h1
        rw [sLe_int, decide_eq_true_eq] at h2 ⊢
        omega
      · rw [e] at e'
        exact absurd e' (by decide)
    · rw [e] at e'
      exact absurd e' (by decide)
  · rcases hb with ⟨e', _⟩ | ⟨_, y, rfl, _⟩
    · rw [e] at e'
      exact absurd e' (by decide)
    · rcases hv with ⟨e', _⟩ | ⟨_, z, rfl, _⟩
      · rw [e] at e'
        exact absurd e' (by decide)
      · rw [sLt_str, decide_eq_true_eq] at h1
        rw [sLe_str, Bool.not_eq_true', decide_eq_false_iff_not] at h2 ⊢
        exact fun z => h2 (List.lt_trans z h1)
/-- how many cuts lie at or below a value -/
def spanN (rest : Cuts) (v : Dat) : Nat := rest.countP fun c => sLe c.1 v
section
variable {P : Program} {w : World} {K : PySem.W.Frag} {mg : Str → Option Value} {base : Heap} {aW aK : Addr} {f : Addr} {fd : FuncData}
/-- are_cuts -/
abbrev s_are_cuts : Stmt := top 32
theorem sc_are_cuts : FnScope ["thing", "kind", "many", "k", "cut"] ["thing", "kind", "many"] (defScope s_are_cuts) := ⟨rfl, rfl, rfl, by decide +kernel, rfl, by decide +kernel, by decide +kernel⟩
def pre_are_cuts : Sc → List Dat → Prop := fun _ ds => ∃ k m h0 rest, ds = [.tup (cutsD h0 rest), .str k, .int m] ∧ CutsOk k m h0 rest ∧ (k = "number" ∨ k = "word")
def post_are_cuts : List Dat → Dat → Prop := fun _ r => r = .bl true
theorem ok_are_cuts (F : Fun K "are_cuts" "are_cuts" s_are_cuts f fd) (T : Txt K mg aW aK) (c_is_house : Cl P w K mg base "is_house" 2 ["thing", "many"] (SpD K pre_is_house post_is_house)) (c_is_value : Cl P w K mg base "is_value" 2 ["thing"] (SpD K pre_is_value post_is_value)) (c_kind_of : Cl P w K mg base "kind_of" 1 ["value"] (SpD K pre_kind_of post_kind_of)) : FnOk P w K mg base CX0 3 f fd ["thing", "kind", "many"] (SpD K pre_are_cuts post_are_cuts) := by
  refine ok_of F sc_are_cuts (fun S ds ⟨k, m, h0, rest, h, _⟩ => by rw [h]; rfl) fun cdv A outer s H E hr => ?_
  have nd := sc_are_cuts.nd
  have hu := hr.units
  have hu0 := hr.units0
  have hu1 := hu_of hr
  have hu65 := u65 hr
  refine ⟨_, (pss_cons (ps_if (PW.pt (pw_or (pt_not (pt_val (pe_isi T.b T.b.tuple boot_tuple (pv 0)))) (pw_or1 (pt_not (pt_chain op_leS op_leS pe_int (pe_len T.b (pv 0)) (pe_gI T.g_MOST_CUTS_towns)))))) (pss_one (ps_ret pe_bl)) pss_nil)
      (pss_cons (ps_for PassesOwn.never rfl (pi_enumT rfl T.b.enumerate (pa_cons (pv 0) pa_nil)) (pg_tup rfl (pgs_cons (pg_name (i := 3) nd rfl (Or.inl rfl)) (pgs_cons (pg_name (i := 4) nd rfl (Or.inl rfl)) pgs_nil))) (pss_cons (ps_if (PW.pt (pw_or (pt_not (pt_val (pe_isi T.b T.b.tuple boot_tuple (pv 4)))) (pw_or (pt_cmpR (op_neD hu) (pe_len T.b (pv 4)) pe_int (nomark _)) (pw_or1 (pt_not (pt_val (pe_fn c_is_house (hr.mono (by decide)) (pa_cons (pe_ix ix_seq (pv 4) pe_int (fun _ _ => rfl)) (pa_cons (pv 2) pa_nil))))))))) (pss_one (ps_ret pe_bl)) pss_nil)
      (pss_cons (ps_if (PW.pt (pw_and (pt_cmpR (op_eqD hu) (pv 3) pe_int (nomark _)) (pw_and1 (pt_cmpR op_isnot0 (pe_ix ix_seq (pv 4) pe_int (fun _ _ => rfl)) pe_non (nomark _))))) (pss_one (ps_ret pe_bl)) pss_nil)
      (pss_cons (ps_if (PW.pt (pw_and (pt_cmpR op_gtS (pv 3) pe_int (nomark _)) (pw_and1 (PW.pt (pw_or (pt_not (pt_val (pe_fn c_is_value (hr.mono (by decide)) (pa_cons (pe_ix ix_seq (pv 4) pe_int (fun _ _ => rfl)) pa_nil)))) (pw_or1 (pt_cmpR (op_neD hu) (pe_fn c_kind_of (hr.mono (by decide)) (pa_cons (pe_ix ix_seq (pv 4) pe_int (fun _ _ => rfl)) pa_nil)) (pv 1) (nomark _)))))))) (pss_one (ps_ret pe_bl)) pss_nil)
      (pss_one (ps_if (PW.pt (pw_and (pt_cmpR op_gtS (pv 3) pe_int (nomark _)) (pw_and1 (pt_not (pt_cmpR op_ltS (pe_ix ix_seq (pe_ix ix_seq (pv 0) (pe_op op_subI (pv 3) pe_int) (fun _ _ => rfl)) pe_int (fun _ _ => rfl)) (pe_ix ix_seq (pv 4) pe_int (fun _ _ => rfl)) (nomark _)))))) (pss_one (ps_ret pe_bl)) pss_nil))))))
      (pss_one (ps_ret pe_bl)))), ?_⟩
  rintro S ds ⟨k, m, h0, rest, rfl, hc, hk⟩
  have e0 : ∀ {b c : Option Dat}, Ev K S (tVar 0) [some (.tup (cutsD h0 rest)), some (.str k), some (.int m), b, c] (Eq (.tup (cutsD h0 rest))) := ev_var rfl
  have e1 : ∀ {b c : Option Dat}, Ev K S (tVar 1) [some (.tup (cutsD h0 rest)), some (.str k), some (.int m), b, c] (Eq (.str k)) := ev_var rfl
  have e2 : ∀ {b c : Option Dat}, Ev K S (tVar 2) [some (.tup (cutsD h0 rest)), some (.str k), some (.int m), b, c] (Eq (.int m)) := ev_var rfl
  have hlen : (cutsD h0 rest).length = rest.length + 1 := by
    unfold cutsD
    rw [List.length_cons, List.length_map]
  have ek : Eqd (.str k) := by rcases hk with rfl | rfl <;> exact (EqN.str (n := 1) (by decide +kernel)).eqd
  refine s_seq (s_no (et_or (et_not (et_BD (ev_isi rfl e0 kb_tuple_tuple))) fun _ => et_not (et_testD (ev_chLL rfl rfl ev_int (ev_lenT e0) ev_int))) ?_ (s_next (s_seq (s_for (is := [3, 4]) (P := Eq (enumD 0 (cutsD h0 rest))) (ie_enumT (ea_consD e0 ea_nil)) (fun _ _ ρ => ∃ b c, ρ = [some (.tup (cutsD h0 rest)), some (.str k), some (.int m), b, c]) (fun _ _ => ⟨_, _, rfl⟩) ?_ ?_))))
  · have := hc.most
    rw [sLe_int, sLe_int, hlen, decide_eq_true (by omega), decide_eq_true (by omega)]
    rfl
  · rintro zs i z ρ1 rfl hz ⟨b, c, rfl⟩
    rw [enumD_get] at hz
    cases i with
    | zero =>
      cases hz
      refine ⟨_, g_two, ?_⟩
      refine s_skip (et_or (et_not (et_BD (ev_isi (x := .tup [.non, .int h0]) rfl (ev_var rfl) kb_tuple_tuple))) fun _ => et_or (et_testD (ev_ne (x := .int _) (y := .int _) .int .int (ev_lenT (xs := [.non, .int h0]) (ev_var rfl)) ev_int)) fun _ => et_not (et_BD (b := true) (ev_callD (ea_consD (ev_ixT (xs := [.non, .int h0]) rfl (ev_var rfl) ev_int) (ea_consD e2 ea_nil)) ⟨h0, m, rfl, hc.h0⟩ fun d h => h.symm))) (by rw [deq_int]; rfl) ?_
      refine s_skip (et_and (et_testD (ev_eq (x := .int _) (y := .int _) .int .int (ev_var rfl) ev_int)) fun _ => et_testD (ev_isnot (x := .non) (ev_ixT (xs := [.non, .int h0]) rfl (ev_var rfl) ev_int))) (by simp [Dat.isNon]) ?_
      refine s_skip (et_andF (et_testD (ev_gtS (x := .int _) (y := .int _) rfl (ev_var rfl) ev_int)) (by rw [sLt_int]; simp)) rfl ?_
      exact s_no (et_andF (et_testD (ev_gtS (x := .int _) (y := .int _) rfl (ev_var rfl) ev_int)) (by rw [sLt_int]; simp)) rfl (s_next ⟨_, _, rfl⟩)
    | succ j =>
      have hz' : (rest.map cutD1)[j]?.map (fun x => Dat.tup [.int ((0 + (j + 1) : Nat) : Int), x]) = some z := by
        rw [← hz]
        rfl
      rw [List.getElem?_map] at hz'
      cases hj : rest[j]? with
      | none =>
        rw [hj] at hz'
        cases hz'
      | some c1 =>
        rw [hj] at hz'
        cases hz'
        obtain ⟨hv, h1, h2⟩ := hc.each c1 (List.mem_of_getElem? hj)
        have ej : (0 + (j + 1) : Nat) = j + 1 := by omega
        refine ⟨_, g_two, ?_⟩
        refine s_skip (et_or (et_not (et_BD (ev_isi (x := cutD1 c1) rfl (ev_var rfl) kb_tuple_tuple))) fun _ => et_or (et_testD (ev_ne (x := .int _) (y := .int _) .int .int (ev_lenT (xs := [c1.1, .int c1.2]) (ev_var rfl)) ev_int)) fun _ => et_not (et_BD (b := true) (ev_callD (ea_consD (ev_ixT (xs := [c1.1, .int c1.2]) rfl (ev_var rfl) ev_int) (ea_consD e2 ea_nil)) ⟨c1.2, m, rfl, h1, h2⟩ fun d h => h.symm))) (by rw [deq_int]; rfl) ?_
        refine s_skip (et_andF (et_testD (ev_eq (x := .int _) (y := .int _) .int .int (ev_var rfl) ev_int)) (by rw [deq_int, decide_eq_false]; omega)) rfl ?_
        have ex : ∀ {S : Sc} {a b c d : Option Dat}, Ev K S (tOp (rIx K) (tVar 4) (tC (.int 0))) [a, b, c, d, some (cutD1 c1)] (Eq c1.1) := ev_ixT (xs := [c1.1, .int c1.2]) rfl (ev_var rfl) ev_int
        refine s_skip (et_and (b := false) (et_testD (ev_gtS (x := .int _) (y := .int _) rfl (ev_var rfl) ev_int)) fun _ => ?_) (by rw [Bool.and_false]) ?_
        · refine (et_or (a := false) (b := false) ((et_not (et_BD (b := true) (ev_callD (ea_consD ex ea_nil) ⟨k, c1.1, rfl, hv⟩ fun d h => by rw [h])))) fun _ => (et_testD (ev_ne (x := .str k) (y := .str k) ek ek (ev_callD (ea_consD ex ea_nil) ⟨k, c1.1, rfl, hv⟩ fun d h => (h k c1.1 rfl hv).symm) e1)).is ?_)
          rw [deq_self]
          rfl
        refine s_no (et_and (b := false) (et_testD (ev_gtS (x := .int _) (y := .int _) rfl (ev_var rfl) ev_int)) fun z => ?_) (by rw [Bool.and_false]) (s_next ⟨_, _, rfl⟩)
        rw [sLt_int, decide_eq_true_eq] at z
        cases j with
        | zero => omega
        | succ i =>
          have hi : i < rest.length := by
            have := (List.getElem?_eq_some_iff.mp hj).1
            omega
          have hi2 : rest[i]? = some rest[i] := List.getElem?_eq_getElem hi
          have hv2 := (hc.each _ (List.getElem_mem hi)).1
          have lt : sLt rest[i].1 c1.1 = true := by
            have hj2 := List.getElem?_eq_some_iff.mp hj
            have := List.pairwise_iff_getElem.mp hc.up i (i + 1) hi hj2.1 (by omega)
            rw [hj2.2] at this
            exact this
          have eo : Ev K S (tOp (rIx K) (tOp (rIx K) (tVar 0) (tOp rSubI (tVar 3) (tC (.int 1)))) (tC (.int 0))) [some (.tup (cutsD h0 rest)), some (.str k), some (.int m), some (.int ((0 + (i + 1 + 1) : Nat) : Int)), some (cutD1 c1)] (Eq rest[i].1) := by
            refine ev_ixT (xs := [rest[i].1, .int rest[i].2]) rfl (ev_ixT (xs := cutsD h0 rest) (i := ((i + 1 : Nat) : Int)) ?_ e0 ((ev_sub (ev_var rfl) ev_int).is ?_)) ev_int
            · refine atI_nat ?_
              show (rest.map cutD1)[i]? = _
              rw [List.getElem?_map, hi2]
              rfl
            · congr 1
              omega
          exact (et_not (a := true) ((et_testD (ev_ltS (hv2.same hv) eo ex)).is lt)).is rfl
  · rintro zs ρ1 _ ⟨b, c, rfl⟩
    exact s_retD ev_bl rfl
end
end Sh
/-! placings, tables, spans, houses -/
namespace Sh
open PySem PySem.Spec PyProof.Rows L2
/-- a table's fixed part: the column that places its rows, its kind, the spans -/
def plD (n : Str) (h0 : Int) (rest : Cuts) : Dat := .tup [.str "spans", .str n, .tup (cutsD h0 rest)]
theorem plD_inj {n n' : Str} {h h' : Int} {a b : Cuts} (e : plD n h a = plD n' h' b) : n = n' ∧ h = h' ∧ a = b := by
  unfold plD at e
  injection e with e
  injection e with _ e
  injection e with e1 e
  injection e with e2 _
  injection e1 with e1
  injection e2 with e2
  exact ⟨e1, cutsD_inj e2⟩
structure PlOk (cs : Cols) (m : Int) (n k : Str) (h0 : Int) (rest : Cuts) : Prop where
  head : HeadOk cs
  mem : (n, k) ∈ cs
  cuts : CutsOk k m h0 rest
theorem PlOk.kind {cs : Cols} {m : Int} {n k : Str} {h0 : Int} {rest : Cuts} (h : PlOk cs m n k h0 rest) : k = "number" ∨ k = "word" := h.head.kinds _ h.mem
theorem PlOk.name {cs : Cols} {m : Int} {n k : Str} {h0 : Int} {rest : Cuts} (h : PlOk cs m n k h0 rest) : NameOk n := h.head.names _ h.mem
theorem valK_isNon {k : Str} (h : k = "number" ∨ k = "word") : (Dat.str k).isNon = false := rfl
theorem kind_eqn {k : Str} {n : Nat} (h : k = "number" ∨ k = "word") : EqN n (.str k) := by rcases h with rfl | rfl <;> exact EqN.str (by decide +kernel)
theorem spans_eqn {n : Nat} : EqN n (.str "spans") := EqN.str (by decide +kernel)
theorem CutsOk.eqn {k : Str} {m h0 : Int} {rest : Cuts} {n : Nat} (h : CutsOk k m h0 rest) : EqN (n + 2) (.tup (cutsD h0 rest)) := EqN.tup fun d hd => by
  rcases List.mem_cons.mp hd with rfl | hd
  · refine EqN.tup fun d hd => ?_
    rcases List.mem_cons.mp hd with rfl | hd
    · exact .non
    · rw [List.mem_singleton.mp hd]
      exact .int
  · obtain ⟨c, hc, rfl⟩ := List.mem_map.mp hd
    refine EqN.tup fun d hd => ?_
    rcases List.mem_cons.mp hd with rfl | hd
    · exact (h.each c hc).1.eqn
    · rw [List.mem_singleton.mp hd]
      exact .int
theorem PlOk.eqn {cs : Cols} {m : Int} {n k : Str} {h0 : Int} {rest : Cuts} {j : Nat} (h : PlOk cs m n k h0 rest) : EqN (j + 3) (plD n h0 rest) := EqN.tup fun d hd => by
  rcases List.mem_cons.mp hd with rfl | hd
  · exact spans_eqn
  · rcases List.mem_cons.mp hd with rfl | hd
    · exact EqN.str h.name.ok
    · rw [List.mem_singleton.mp hd]
      exact h.cuts.eqn
section
variable {P : Program} {w : World} {K : PySem.W.Frag} {mg : Str → Option Value} {base : Heap} {aW aK : Addr} {f : Addr} {fd : FuncData}
/-- is_placing -/
abbrev s_is_placing : Stmt := top 33
theorem sc_is_placing : FnScope ["thing", "head", "many"] ["thing", "head", "many"] (defScope s_is_placing) := ⟨rfl, rfl, rfl, by decide +kernel, rfl, by decide +kernel, by decide +kernel⟩
def pre_is_placing : Sc → List Dat → Prop := fun _ ds => ∃ cs m n k h0 rest, ds = [plD n h0 rest, .hd (headD cs), .int m] ∧ PlOk cs m n k h0 rest
def post_is_placing : List Dat → Dat → Prop := fun _ r => r = .bl true
theorem ok_is_placing (F : Fun K "is_placing" "is_placing" s_is_placing f fd) (T : Txt K mg aW aK) (c_kind_in : Cl P w K mg base "kind_in" 1 ["head", "name"] (SpD K pre_kind_in post_kind_in)) (c_are_cuts : Cl P w K mg base "are_cuts" 3 ["thing", "kind", "many"] (SpD K pre_are_cuts post_are_cuts)) : FnOk P w K mg base CX0 4 f fd ["thing", "head", "many"] (SpD K pre_is_placing post_is_placing) := by
  refine ok_of F sc_is_placing (fun S ds ⟨cs, m, n, k, h0, rest, h, _⟩ => by rw [h]; rfl) fun cdv A outer s H E hr => ?_
  have nd := sc_is_placing.nd
  have hu := hr.units
  have hu0 := hr.units0
  have hu1 := hu_of hr
  have hu65 := u65 hr
  refine ⟨_, (pss_cons (ps_if (pt_cmpR (op_eqD hu) (pv 0) (pe_tup (pa_cons pe_str pa_nil)) (nomark _)) pss_never pss_nil)
      (pss_cons (ps_if (PW.pt (pw_or (pt_not (pt_val (pe_isi T.b T.b.tuple boot_tuple (pv 0)))) (pw_or (pt_cmpR op_notIn_seq (pe_len T.b (pv 0)) (pe_tup (pa_cons pe_int (pa_cons pe_int pa_nil))) (by with_unfolding_all rfl)) (pw_or1 (pt_cmpR op_is0 (pe_fn c_kind_in (hr.mono (by decide)) (pa_cons (pv 1) (pa_cons (pe_ix (r := rIx K) ix_seq (pv 0) pe_int (fun _ _ => rfl)) pa_nil))) pe_non (nomark _)))))) (pss_one (ps_ret pe_bl)) pss_nil)
      (pss_cons (ps_if (pt_cmpR (op_eqD hu) (pe_ix (r := rIx K) ix_seq (pv 0) pe_int (fun _ _ => rfl)) pe_str (nomark _)) pss_never pss_nil)
      (pss_one (ps_ret (pe_and (pe_cmpR (op_eqD hu) (pe_ix (r := rIx K) ix_seq (pv 0) pe_int (fun _ _ => rfl)) pe_str (nomark _)) (pe_and (pe_cmpR (op_eqD hu) (pe_len T.b (pv 0)) pe_int (nomark _)) (pe_one (pe_fn c_are_cuts (hr.mono (by decide)) (pa_cons (pe_ix (r := rIx K) ix_seq (pv 0) pe_int (fun _ _ => rfl)) (pa_cons (pe_fn c_kind_in (hr.mono (by decide)) (pa_cons (pv 1) (pa_cons (pe_ix (r := rIx K) ix_seq (pv 0) pe_int (fun _ _ => rfl)) pa_nil))) (pa_cons (pv 2) pa_nil)))))))))))), ?_⟩
  rintro S ds ⟨cs, m, n, k, h0, rest, rfl, hc⟩
  have e0 : Ev K S (tVar 0) [some (plD n h0 rest), some (.hd (headD cs)), some (.int m)] (Eq (.tup [.str "spans", .str n, .tup (cutsD h0 rest)])) := ev_var rfl
  have e1 : Ev K S (tVar 1) [some (plD n h0 rest), some (.hd (headD cs)), some (.int m)] (Eq (.hd (headD cs))) := ev_var rfl
  have e2 : Ev K S (tVar 2) [some (plD n h0 rest), some (.hd (headD cs)), some (.int m)] (Eq (.int m)) := ev_var rfl
  have eq : Eqd (.tup [.str "spans", .str n, .tup (cutsD h0 rest)]) := (hc.eqn (j := 0)).eqd
  have ek : Ev K S (tCall (SpD K pre_kind_in post_kind_in) [] E0 (tCons (tVar 1) (tCons (tOp (rIx K) (tVar 0) (tC (.int 1))) tNil))) [some (plD n h0 rest), some (.hd (headD cs)), some (.int m)] (Eq (.str k)) := ev_callD (ea_consD e1 (ea_consD (ev_ixT rfl e0 ev_int) ea_nil)) ⟨cs, n, k, rfl, hc.head, hc.mem⟩ fun d h => (h cs n k rfl hc.head hc.mem).symm
  refine s_seq (s_no (et_testD (ev_eq eq (EqN.tup (n := 1) fun d hd => ?_).eqd e0 (ev_tupD (ea_consD ev_str ea_nil) (by decide)))) ?_ (s_next ?_))
  · rw [List.mem_singleton.mp hd]
    exact EqN.str (by decide +kernel)
  · refine deq_ne fun z => ?_
    injection z with z
    injection z with _ z
    cases z
  refine s_skip (et_or (et_not (et_BD (ev_isi rfl e0 kb_tuple_tuple))) fun _ => et_or (et_testD (ev_inT (b := true) (x := .int _) (ds := [.int 2, .int 3]) rfl (fun d hd => ?_) (ev_lenT e0) (ev_tupD (ea_consD ev_int (ea_consD ev_int ea_nil)) (by decide)))) fun _ => et_testD (ev_is ek)) ?_ ?_
  · rcases List.mem_cons.mp hd with rfl | hd
    · rfl
    · rw [List.mem_singleton.mp hd]
      rfl
  · rw [if_pos rfl, show inD (.int (([.str "spans", .str n, .tup (cutsD h0 rest)] : List Dat).length : Int)) [.int 2, .int 3] = true from inD_iff.mpr (by simp)]
    rfl
  refine s_seq (s_no (et_testD (ev_eq (x := .str "spans") (y := .str "keys") (spans_eqn (n := 1)).eqd (EqN.str (n := 1) (by decide +kernel)).eqd (ev_ixT rfl e0 ev_int) ev_str)) ?_ (s_next ?_))
  · exact deq_ne fun z => by
      injection z with z
      exact absurd z (by decide)
  refine s_retD ((ev_andV (ev_eq (x := .str "spans") (y := .str "spans") (spans_eqn (n := 1)).eqd (spans_eqn (n := 1)).eqd (ev_ixT rfl e0 ev_int) ev_str) fun _ => ev_andV (ev_eq (x := .int _) (y := .int _) .int .int (ev_lenT e0) ev_int) fun _ => ev_callD (P := Eq (.bl true)) (ea_consD (ev_ixT rfl e0 ev_int) (ea_consD ek (ea_consD e2 ea_nil))) ⟨k, m, h0, rest, rfl, hc.cuts, hc.kind⟩ fun d h => h.symm).is ?_) rfl
  rw [deq_self, deq_int]
  rfl
/-- is_table -/
abbrev s_is_table : Stmt := top 34
theorem sc_is_table : FnScope ["thing", "many", "row"] ["thing", "many"] (defScope s_is_table) := ⟨rfl, rfl, rfl, by decide +kernel, rfl, by decide +kernel, by decide +kernel⟩
def rowsD (rows : List (List Dat)) : List Dat := rows.map Dat.tup
def tabD (cs : Cols) (n : Str) (h0 : Int) (rest : Cuts) (rows : List (List Dat)) : Dat := .tup [.hd (headD cs), plD n h0 rest, .lst (rowsD rows)]
structure RowsOk (cs : Cols) (rows : List (List Dat)) : Prop where
  each : ∀ r ∈ rows, RowK cs r
  few : rows.length ≤ 60
def pre_is_table : Sc → List Dat → Prop := fun _ ds => ∃ cs m n k h0 rest rows, ds = [tabD cs n h0 rest rows, .int m] ∧ PlOk cs m n k h0 rest ∧ RowsOk cs rows
def post_is_table : List Dat → Dat → Prop := fun _ r => r = .bl true
theorem ok_is_table (F : Fun K "is_table" "is_table" s_is_table f fd) (T : Txt K mg aW aK) (c_is_head : Cl P w K mg base "is_head" 4 ["thing"] (SpD K pre_is_head post_is_head)) (c_is_placing : Cl P w K mg base "is_placing" 4 ["thing", "head", "many"] (SpD K pre_is_placing post_is_placing)) (c_is_row : Cl P w K mg base "is_row" 3 ["head", "thing"] (SpD K pre_is_row post_is_row)) : FnOk P w K mg base CX0 5 f fd ["thing", "many"] (SpD K pre_is_table post_is_table) := by
  refine ok_of F sc_is_table (fun S ds ⟨cs, m, n, k, h0, rest, rows, h, _⟩ => by rw [h]; rfl) fun cdv A outer s H E hr => ?_
  have nd := sc_is_table.nd
  have hu := hr.units
  have hu0 := hr.units0
  have hu1 := hu_of hr
  have hu65 := u65 hr
  refine ⟨_, (pss_cons (ps_if (PW.pt (pw_or (pt_not (pt_val (pe_isi T.b T.b.tuple boot_tuple (pv 0)))) (pw_or (pt_cmpR (op_neD hu) (pe_len T.b (pv 0)) pe_int (nomark _)) (pw_or1 (pt_not (pt_val (pe_fn c_is_head (hr.mono (by decide)) (pa_cons (pe_ix (r := rIx K) ix_seq (pv 0) pe_int (fun _ _ => rfl)) pa_nil)))))))) (pss_one (ps_ret pe_bl)) pss_nil)
      (pss_cons (ps_if (PW.pt (pw_or (pt_not (pt_val (pe_fn c_is_placing (hr.mono (by decide)) (pa_cons (pe_ix (r := rIx K) ix_seq (pv 0) pe_int (fun _ _ => rfl)) (pa_cons (pe_ix (r := rIx K) ix_seq (pv 0) pe_int (fun _ _ => rfl)) (pa_cons (pv 1) pa_nil)))))) (pw_or1 (pt_not (pt_val (pe_isi T.b T.b.list boot_list (pe_ix (r := rIx K) ix_seq (pv 0) pe_int (fun _ _ => rfl)))))))) (pss_one (ps_ret pe_bl)) pss_nil)
      (pss_one (ps_ret (pe_all T.b (pe_lc rfl nd (pi_list (pe_ix (r := rIx K) ix_seq (pv 0) pe_int (fun _ _ => rfl))) (blkOk_by (own := [("row", 2)]) (N := ["thing", "many", "row"]) (sc := defScope s_is_table) (by decide +kernel)) (fun _ _ _ _ _ => (pg_name (i := 2) nd rfl (Or.inl rfl))) (fun _ _ _ _ _ => pts_nil) (fun _ _ _ _ _ => (pe_fn c_is_row (hr.mono (by decide)) (pa_cons (pe_ix (r := rIx K) ix_seq (pv 0) pe_int (fun _ _ => rfl)) (pa_cons (pv 2) pa_nil)))))))))), ?_⟩
  rintro S ds ⟨cs, m, n, k, h0, rest, rows, rfl, hc, hw⟩
  have e0 : ∀ {S : Sc} {c : Option Dat}, Ev K S (tVar 0) [some (tabD cs n h0 rest rows), some (.int m), c] (Eq (.tup [.hd (headD cs), plD n h0 rest, .lst (rowsD rows)])) := ev_var rfl
  have e1 : ∀ {S : Sc} {c : Option Dat}, Ev K S (tVar 1) [some (tabD cs n h0 rest rows), some (.int m), c] (Eq (.int m)) := ev_var rfl
  have ex : ∀ {S : Sc} {c : Option Dat}, Ev K S (tOp (rIx K) (tVar 0) (tC (.int 0))) [some (tabD cs n h0 rest rows), some (.int m), c] (Eq (.hd (headD cs))) := ev_ixT rfl e0 ev_int
  refine s_skip (et_or (et_not (et_BD (ev_isi rfl e0 kb_tuple_tuple))) fun _ => et_or (et_testD (ev_ne (x := .int _) (y := .int _) .int .int (ev_lenT e0) ev_int)) fun _ => et_not (et_BD (b := true) (ev_callD (ea_consD (ev_un ex) ea_nil) ⟨cs, rfl, hc.head⟩ fun d h => h.symm))) (by rw [deq_int]; rfl) ?_
  refine s_skip (et_or (et_not (et_BD (b := true) (ev_callD (ea_consD (ev_ixT rfl e0 ev_int) (ea_consD ex (ea_consD e1 ea_nil))) ⟨cs, m, n, k, h0, rest, rfl, hc⟩ fun d h => h.symm))) fun _ => et_not (et_BD (ev_isi (x := .lst _) rfl (ev_ixT rfl e0 ev_int) kb_list_list))) rfl ?_
  have hlen : (rowsD rows).length = rows.length := List.length_map ..
  refine s_retD ((ev_allMap (is := [2]) (fun _ => true) (ie_list (xs := rowsD rows) (ev_ixT rfl e0 ev_int)) (by simp) ?_ fun S' hS d hd => ?_).is ?_) rfl
  · rw [hlen]
    exact Nat.lt_of_le_of_lt hw.few (by decide)
  · obtain ⟨r, hr2, rfl⟩ := List.mem_map.mp hd
    exact ⟨_, g_name, ev_callD (ea_consD (ev_un ex) (ea_consD (ev_var rfl) ea_nil)) ⟨cs, r, rfl, hc.head, hw.each r hr2⟩ fun d h => h.symm⟩
  · rw [List.all_eq_true.mpr fun _ _ => rfl]
/-- span_of -/
abbrev s_span_of : Stmt := top 36
theorem sc_span_of : FnScope ["cuts", "value", "found", "k", "cut"] ["cuts", "value"] (defScope s_span_of) := ⟨rfl, rfl, rfl, by decide +kernel, rfl, by decide +kernel, by decide +kernel⟩
def pre_span_of : Sc → List Dat → Prop := fun _ ds => ∃ k m h0 rest v, ds = [.tup (cutsD h0 rest), v] ∧ CutsOk k m h0 rest ∧ ValK k v
def post_span_of : List Dat → Dat → Prop := fun ds r => ∀ h0 rest v, ds = [.tup (cutsD h0 rest), v] → r = .int (spanN rest v : Int)
theorem span_all {k : Str} {m h0 : Int} {rest : Cuts} {v : Dat} (hc : CutsOk k m h0 rest) (hv : ValK k v) {j : Nat} {c : Dat × Int} (hj : rest[j]? = some c) (hl : sLe c.1 v = true) : spanN (rest.take (j + 1)) v = j + 1 := by
  have hjl := (List.getElem?_eq_some_iff.mp hj).1
  have : ((rest.take (j + 1)).countP fun c => sLe c.1 v) = (rest.take (j + 1)).length := List.countP_eq_length.mpr fun a ha => by
    obtain ⟨i, hi, e⟩ := List.getElem_of_mem ha
    rw [List.length_take] at hi
    rw [List.getElem_take] at e
    subst e
    have hir : i < rest.length := by omega
    by_cases c1 : i = j
    · subst c1
      have := (List.getElem?_eq_some_iff.mp hj).2
      rw [this]
      exact hl
    · have lt := List.pairwise_iff_getElem.mp hc.up i j hir hjl (by omega)
      rw [(List.getElem?_eq_some_iff.mp hj).2] at lt
      exact ltle (hc.each _ (List.getElem_mem hir)).1 (hc.each c (List.mem_of_getElem? hj)).1 hv lt hl
  unfold spanN
  rw [this, List.length_take]
  omega
theorem ok_span_of (F : Fun K "span_of" "span_of" s_span_of f fd) (T : Txt K mg aW aK) : FnOk P w K mg base CX0 1 f fd ["cuts", "value"] (SpD K pre_span_of post_span_of) := by
  refine ok_of F sc_span_of (fun S ds ⟨k, m, h0, rest, v, h, _⟩ => by rw [h]; rfl) fun cdv A outer s H E hr => ?_
  have nd := sc_span_of.nd
  have hu := hr.units
  have hu0 := hr.units0
  have hu1 := hu_of hr
  have hu65 := u65 hr
  refine ⟨_, (pss_cons (ps_set (i := 2) nd rfl (Or.inl rfl) pe_int)
      (pss_cons (ps_for PassesOwn.never rfl (pi_enumT rfl T.b.enumerate (pa_cons (pv 0) pa_nil)) (pg_tup rfl (pgs_cons (pg_name (i := 3) nd rfl (Or.inl rfl)) (pgs_cons (pg_name (i := 4) nd rfl (Or.inl rfl)) pgs_nil))) (pss_one (ps_if (PW.pt (pw_and (pt_cmpR op_isnot0 (pe_ix (r := rIx K) ix_seq (pv 4) pe_int (fun _ _ => rfl)) pe_non (nomark _)) (pw_and1 (pt_cmpR op_leS (pe_ix (r := rIx K) ix_seq (pv 4) pe_int (fun _ _ => rfl)) (pv 1) (nomark _))))) (pss_one (ps_set (i := 2) nd rfl (Or.inl rfl) (pv 3))) pss_nil)))
      (pss_one (ps_ret (pv 2))))), ?_⟩
  rintro S ds ⟨k, m, h0, rest, v, rfl, hc, hv⟩
  refine s_seq (s_setD ev_int (s_seq (s_for (is := [3, 4]) (P := Eq (enumD 0 (cutsD h0 rest))) (ie_enumT (ea_consD (ev_var rfl) ea_nil)) (fun _ i ρ => ∃ b c, ρ = [some (.tup (cutsD h0 rest)), some v, some (.int (spanN (rest.take (i - 1)) v : Int)), b, c]) (fun _ _ => ⟨none, none, rfl⟩) ?_ ?_)))
  · rintro zs i z ρ1 rfl hz ⟨b, c, rfl⟩
    rw [enumD_get] at hz
    cases i with
    | zero =>
      cases hz
      exact ⟨_, g_two, s_no (et_andF (et_testD (ev_isnot (x := .non) (ev_ixT (xs := [.non, .int h0]) rfl (ev_var rfl) ev_int))) rfl) rfl (s_next ⟨_, _, rfl⟩)⟩
    | succ j =>
      have hz' : (rest.map cutD1)[j]?.map (fun x => Dat.tup [.int ((0 + (j + 1) : Nat) : Int), x]) = some z := by
        rw [← hz]
        rfl
      rw [List.getElem?_map] at hz'
      cases hj : rest[j]? with
      | none =>
        rw [hj] at hz'
        cases hz'
      | some c1 =>
        rw [hj] at hz'
        cases hz'
        have hv1 := (hc.each c1 (List.mem_of_getElem? hj)).1
        have ht : rest.take (j + 1) = rest.take j ++ [c1] := by rw [List.take_succ, hj]; rfl
        have e1 : (j + 1 - 1 : Nat) = j := by omega
        have e2 : (j + 1 + 1 - 1 : Nat) = j + 1 := by omega
        have ex : ∀ {a b c d : Option Dat}, Ev K S (tOp (rIx K) (tVar 4) (tC (.int 0))) [a, b, c, d, some (cutD1 c1)] (Eq c1.1) := ev_ixT (xs := [c1.1, .int c1.2]) rfl (ev_var rfl) ev_int
        refine ⟨_, g_two, s_if (R := Eq (sLe c1.1 v)) ((et_and (et_testD (ev_isnot ex)) fun _ => et_testD (ev_leS (hv1.same hv) ex (ev_var rfl))).is (by rw [hv1.non]; rfl)) (fun hl => s_setD (ev_var (d := .int ((0 + (j + 1) : Nat) : Int)) rfl) ⟨some (.int ((0 + (j + 1) : Nat) : Int)), some (cutD1 c1), ?_⟩) fun hl => s_next ⟨some (.int ((0 + (j + 1) : Nat) : Int)), some (cutD1 c1), ?_⟩⟩
        · rw [e2, span_all hc hv hj hl]
          have ez : (0 + (j + 1) : Nat) = j + 1 := by omega
          show [_, _, some (Dat.int ((0 + (j + 1) : Nat) : Int)), _, _] = _
          rw [ez]
        · have : spanN (rest.take (j + 1)) v = spanN (rest.take j) v := by
            unfold spanN
            rw [ht, List.countP_append, List.countP_cons, if_neg (by rw [hl]; decide)]
            simp
          rw [e2, this]
          rfl
  · rintro zs ρ1 rfl ⟨b, c, rfl⟩
    refine s_retD (ev_var rfl) fun h0' rest' v' e => ?_
    injection e with q1 q2
    injection q1 with q1
    injection q2 with q2
    obtain ⟨_, rfl⟩ := cutsD_inj q1
    subst q2
    have : (enumD 0 (cutsD h0 rest)).length - 1 = rest.length := by
      rw [enumD_len]
      unfold cutsD
      rw [List.length_cons, List.length_map]
      omega
    rw [this, List.take_length]
/-- where a column stands -/
def spotN (cs : Cols) (n : Str) : Nat := cs.findIdx fun c => decide (c.1 = n)
theorem spot_at {cs : Cols} {n k : Str} (nd : (cs.map (·.1)).Nodup) (h : (n, k) ∈ cs) : cs[spotN cs n]? = some (n, k) := by
  have hl : spotN cs n < cs.length := List.findIdx_lt_length_of_exists ⟨(n, k), h, by simp⟩
  have h1 : (cs[spotN cs n]'hl).1 = n := by
    have := List.findIdx_getElem (p := fun c : Str × Str => decide (c.1 = n)) (xs := cs) (w := hl)
    exact of_decide_eq_true this
  rw [List.getElem?_eq_getElem hl]
  congr 1
  obtain ⟨j, hj, e⟩ := List.getElem_of_mem h
  have e2 : spotN cs n = j := by
    have q := List.pairwise_iff_getElem.mp nd
    have l1 : spotN cs n < (cs.map (·.1)).length := by rw [List.length_map]; exact hl
    have l2 : j < (cs.map (·.1)).length := by rw [List.length_map]; exact hj
    rcases Nat.lt_trichotomy (spotN cs n) j with z | z | z
    · exact absurd (by rw [List.getElem_map, List.getElem_map, h1, e]) (q _ _ l1 l2 z)
    · exact z
    · exact absurd (by rw [List.getElem_map, List.getElem_map, h1, e]) (q _ _ l2 l1 z)
  subst e2
  exact e
theorem spot_first {cs : Cols} {n : Str} {j : Nat} (h : j < spotN cs n) : (cs.map fun c => Dat.str c.1)[j]? ≠ some (.str n) := fun z => by
  rw [List.getElem?_map] at z
  cases e : cs[j]? with
  | none =>
    rw [e] at z
    cases z
  | some c =>
    rw [e] at z
    have z : some (Dat.str c.1) = some (.str n) := z
    injection z with z
    injection z with z
    have hj := (List.getElem?_eq_some_iff.mp e).1
    have := List.not_of_lt_findIdx (p := fun c : Str × Str => decide (c.1 = n)) (xs := cs) h
    have e3 := (List.getElem?_eq_some_iff.mp e).2
    rw [e3] at this
    simp [z] at this
def valAt (xs : List Dat) (j : Nat) : Dat := (xs[j]?).getD .non
theorem RowK.val {cs : Cols} {xs : List Dat} {n k : Str} (nd : (cs.map (·.1)).Nodup) (h : (n, k) ∈ cs) (hx : RowK cs xs) : xs[spotN cs n]? = some (valAt xs (spotN cs n)) ∧ ValK k (valAt xs (spotN cs n)) := by
  have h1 := spot_at nd h
  have hl : spotN cs n < xs.length := by
    rw [hx.len]
    exact (List.getElem?_eq_some_iff.mp h1).1
  have e : xs[spotN cs n]? = some xs[spotN cs n] := List.getElem?_eq_getElem hl
  have e2 : valAt xs (spotN cs n) = xs[spotN cs n] := by
    unfold valAt
    rw [e]
    rfl
  rw [e2]
  exact ⟨e, hx.at h1 e⟩
def houseAt (h0 : Int) (rest : Cuts) (v : Dat) : Int := ((h0 :: rest.map (·.2))[spanN rest v]?).getD 0
theorem span_le {rest : Cuts} {v : Dat} : spanN rest v ≤ rest.length := List.countP_le_length
theorem cut_at {h0 : Int} {rest : Cuts} {i : Nat} (h : i ≤ rest.length) : ∃ x, (cutsD h0 rest)[i]? = some (.tup [x, .int (((h0 :: rest.map (·.2))[i]?).getD 0)]) := by
  cases i with
  | zero => exact ⟨.non, rfl⟩
  | succ i =>
    have hi : i < rest.length := h
    refine ⟨rest[i].1, ?_⟩
    show (rest.map cutD1)[i]? = _
    rw [List.getElem?_map, List.getElem?_eq_getElem hi]
    have : ((h0 :: rest.map (·.2))[i + 1]?).getD 0 = rest[i].2 := by
      rw [List.getElem?_cons_succ, List.getElem?_map, List.getElem?_eq_getElem hi]
      rfl
    rw [this]
    rfl
/-- houses_of -/
abbrev s_houses_of : Stmt := top 37
theorem sc_houses_of : FnScope ["head", "placing", "row", "many", "value", "name", "kind"] ["head", "placing", "row", "many"] (defScope s_houses_of) := ⟨rfl, rfl, rfl, by decide +kernel, rfl, by decide +kernel, by decide +kernel⟩
def pre_houses_of : Sc → List Dat → Prop := fun _ ds => ∃ cs m n k h0 rest xs, ds = [.tup (headD cs), plD n h0 rest, .tup xs, .int m] ∧ PlOk cs m n k h0 rest ∧ RowK cs xs
def post_houses_of : List Dat → Dat → Prop := fun ds r => ∀ cs n h0 rest xs m, ds = [.tup (headD cs), plD n h0 rest, .tup xs, .int m] → r = .lst [.int (houseAt h0 rest (valAt xs (spotN cs n)))]
theorem ok_houses_of (F : Fun K "houses_of" "houses_of" s_houses_of f fd) (T : Txt K mg aW aK) (c_span_of : Cl P w K mg base "span_of" 1 ["cuts", "value"] (SpD K pre_span_of post_span_of)) : FnOk P w K mg base CX0 2 f fd ["head", "placing", "row", "many"] (SpD K pre_houses_of post_houses_of) := by
  refine ok_of F sc_houses_of (fun S ds ⟨cs, m, n, k, h0, rest, xs, h, _⟩ => by rw [h]; rfl) fun cdv A outer s H E hr => ?_
  have nd := sc_houses_of.nd
  have hu := hr.units
  have hu0 := hr.units0
  have hu1 := hu_of hr
  have hu65 := u65 hr
  refine ⟨_, (pss_cons (ps_if (pt_cmpR (r := rEqD K) (op_eqD hu) (pe_ix (r := rIx K) ix_seq (pv 1) pe_int (fun _ _ => rfl)) pe_str (nomark _)) pss_never pss_nil)
      (pss_cons (ps_set (i := 4) nd rfl (Or.inl rfl) (pe_ix (r := rIx K) ix_seq (pv 2) (pe_bm PySem.F.plainAttrs_list PySem.F.slot_list_index PySem.F.type_list_index mt_index (pe_lc rfl nd (pi_tup (pv 0)) (blkOk_by (own := [("name", 5), ("kind", 6)]) (N := ["head", "placing", "row", "many", "value", "name", "kind"]) (sc := defScope s_houses_of) (by decide +kernel)) (fun _ _ _ _ _ => (pg_tupK (K := K) (n := 2) rfl rfl (pgs_cons (pg_name (i := 5) nd rfl (Or.inl rfl)) (pgs_cons (pg_name (i := 6) nd rfl (Or.inl rfl)) pgs_nil)))) (fun _ _ _ _ _ => pts_nil) (fun _ _ _ _ _ => (pv 5))) (pa_cons (pe_ix (r := rIx K) ix_seq (pv 1) pe_int (fun _ _ => rfl)) pa_nil)) (fun _ _ => rfl)))
      (pss_cons (ps_if (pt_cmpR (r := rEqD K) (op_eqD hu) (pe_ix (r := rIx K) ix_seq (pv 1) pe_int (fun _ _ => rfl)) pe_str (nomark _)) pss_never pss_nil)
      (pss_one (ps_ret (pe_lst (pa_cons (pe_ix (r := rIx K) ix_seq (pe_ix (r := rIx K) ix_seq (pe_ix (r := rIx K) ix_seq (pv 1) pe_int (fun _ _ => rfl)) (pe_fn c_span_of (hr.mono (by decide)) (pa_cons (pe_ix (r := rIx K) ix_seq (pv 1) pe_int (fun _ _ => rfl)) (pa_cons (pv 4) pa_nil))) (fun _ _ => rfl)) pe_int (fun _ _ => rfl)) pa_nil))))))), ?_⟩
  rintro S ds ⟨cs, m, n, k, h0, rest, xs, rfl, hc, hx⟩
  have hv := hx.val hc.head.nd hc.mem
  have e0 : ∀ {S : Sc} {b c d : Option Dat}, Ev K S (tVar 0) [some (.tup (headD cs)), some (plD n h0 rest), some (.tup xs), some (.int m), b, c, d] (Eq (.tup (headD cs))) := ev_var rfl
  have e1 : ∀ {b c d : Option Dat}, Ev K S (tVar 1) [some (.tup (headD cs)), some (plD n h0 rest), some (.tup xs), some (.int m), b, c, d] (Eq (.tup [.str "spans", .str n, .tup (cutsD h0 rest)])) := ev_var rfl
  have hlen : (headD cs).length = cs.length := List.length_map ..
  refine s_seq (s_no (et_testD (ev_eq (x := .str "spans") (y := .str "copies") (spans_eqn (n := 1)).eqd (EqN.str (n := 1) (by decide +kernel)).eqd (ev_ixT rfl e1 ev_int) ev_str)) ?_ (s_next ?_))
  · exact deq_ne fun z => by
      injection z with z
      exact absurd z (by decide)
  have eL : Ev K S (tLc (iTup K (tVar 0)) (gTup K 2 (gCons (gName 5) (gCons (gName 6) gNil))) tYes (tVar 5) ([(("name" : Str), 5), (("kind" : Str), 6)].map (·.2))) [some (.tup (headD cs)), some (plD n h0 rest), some (.tup xs), some (.int m), none, none, none] (Eq (.lst (cs.map fun c => Dat.str c.1))) := by
    refine (ev_lcMapD (is := [5, 6]) firstD (ie_tup e0) (by simp) (by rw [hlen]; exact Nat.lt_of_le_of_lt hc.head.most (by decide)) fun S' hS d hd => ?_).is (by rw [nameD_col])
    obtain ⟨c, hcm, rfl⟩ := List.mem_map.mp hd
    exact ⟨_, g_two, ev_var rfl⟩
  have eI := ev_indexL (x := .str n) (j := spotN cs n) rfl (fun d hd => by
    obtain ⟨c, _, rfl⟩ := List.mem_map.mp hd
    rfl) (by rw [List.getElem?_map, spot_at hc.head.nd hc.mem]; rfl) (fun m hm => spot_first hm) eL (ev_ixT (tb := tC (.int 1)) rfl e1 ev_int)
  refine s_seq (s_setD (ev_ixT (atI_nat hv.1) (ev_var rfl) eI) ?_)
  refine s_seq (s_no (et_testD (ev_eq (x := .str "spans") (y := .str "keys") (spans_eqn (n := 1)).eqd (EqN.str (n := 1) (by decide +kernel)).eqd (ev_ixT rfl e1 ev_int) ev_str)) ?_ (s_next ?_))
  · exact deq_ne fun z => by
      injection z with z
      exact absurd z (by decide)
  obtain ⟨x, hx2⟩ := cut_at (h0 := h0) (span_le (rest := rest) (v := valAt xs (spotN cs n)))
  have eC : Ev K S (tOp (rIx K) (tVar 1) (tC (.int 2))) [some (.tup (headD cs)), some (plD n h0 rest), some (.tup xs), some (.int m), some (valAt xs (spotN cs n)), none, none] (Eq (.tup (cutsD h0 rest))) := ev_ixT rfl e1 ev_int
  refine s_retD (ev_lstD (ea_consD (ev_ixT (xs := [x, .int (houseAt h0 rest (valAt xs (spotN cs n)))]) rfl (ev_ixT (i := (spanN rest (valAt xs (spotN cs n)) : Int)) (atI_nat hx2) eC (ev_callD (ea_consD eC (ea_consD (ev_var rfl) ea_nil)) ⟨k, m, h0, rest, _, rfl, hc.cuts, hv.2⟩ fun d h => (h h0 rest _ rfl).symm)) ev_int) ea_nil) (show 1 ≤ sizeLine by decide)) fun cs' n' h0' rest' xs' m' e => ?_
  injection e with q1 q
  injection q with q2 q
  injection q with q3 _
  injection q1 with q1
  injection q3 with q3
  obtain ⟨rfl, rfl, rfl⟩ := plD_inj q2
  have := headD_inj q1
  subst this q3
  rfl
end
end Sh
/-! a store's and a town's reading methods -/
namespace Sh
open PySem PySem.Spec PyProof.Rows L2
abbrev Row := List Dat
abbrev Mv := Option (Int × Int × Option Row)
structure Tb where
  cs : Cols
  m : Int
  n : Str
  h0 : Int
  rest : Cuts
  name : Str
  rows : List Row
  mv : Mv
def markD : Option Row → Dat
  | none => .non
  | some r => .tup r
def moveD (x : Int × Int × Option Row) : Dat := .tup [.int x.1, .int x.2.1, markD x.2.2]
def mvD (name : Str) : Mv → List (Key × Dat)
  | none => []
  | some x => [(.inr name, moveD x)]
def movD : Mv → Dat
  | none => .non
  | some x => moveD x
def Tb.tab (T : Tb) : Dat := tabD T.cs T.n T.h0 T.rest T.rows
def Tb.fields (T : Tb) : List (Str × Dat) := [("count", .int T.m), ("held", .dic [(.inr T.name, T.tab)]), ("moves", .dic (mvD T.name T.mv))]
def Tb.store (C : Addr) (T : Tb) : Dat := .ob C T.fields
def Tb.tfields (T : Tb) : List (Str × Dat) := [("many", .int T.m), ("told_heads", .dic [(.inr T.name, .hd (headD T.cs))]), ("placings", .dic [(.inr T.name, plD T.n T.h0 T.rest)]), ("rows", .dic [(.inr T.name, .lst (rowsD T.rows))])]
def Tb.town (C : Addr) (T : Tb) : Dat := .ob C T.tfields
structure MvOk (T : Tb) (x : Int × Int × Option Row) : Prop where
  num : 0 ≤ x.1 ∧ x.1 ≤ T.rest.length
  house : 0 ≤ x.2.1 ∧ x.2.1 < T.m
  mark : ∀ r, x.2.2 = some r → RowK T.cs r
structure TbOk (T : Tb) (k : Str) : Prop where
  pl : PlOk T.cs T.m T.n k T.h0 T.rest
  rows : RowsOk T.cs T.rows
  name : NameOk T.name
  m : 2 ≤ T.m ∧ T.m ≤ 6
  mv : ∀ x, T.mv = some x → MvOk T x
theorem rowsD_inj : ∀ {a b : List Row}, rowsD a = rowsD b → a = b
  | [], [], _ => rfl
  | [], _ :: _, h => by cases h
  | _ :: _, [], h => by cases h
  | x :: a, y :: b, h => by
    have h' : Dat.tup x :: rowsD a = Dat.tup y :: rowsD b := h
    injection h' with h1 h2
    injection h1 with h1
    rw [h1, rowsD_inj h2]
theorem markD_inj : ∀ {a b : Option Row}, markD a = markD b → a = b
  | none, none, _ => rfl
  | none, some _, h => by cases h
  | some _, none, h => by cases h
  | some x, some y, h => by
    injection h with h
    rw [h]
theorem moveD_inj {a b : Int × Int × Option Row} (h : moveD a = moveD b) : a = b := by
  injection h with h
  injection h with h1 h
  injection h with h2 h
  injection h with h3 _
  injection h1 with h1
  injection h2 with h2
  exact Prod.ext h1 (Prod.ext h2 (markD_inj h3))
theorem movD_inj : ∀ {a b : Mv}, movD a = movD b → a = b
  | none, none, _ => rfl
  | none, some _, h => by cases h
  | some _, none, h => by cases h
  | some x, some y, h => by rw [moveD_inj h]
theorem tabD_inj {cs cs' : Cols} {n n' : Str} {h h' : Int} {a a' : Cuts} {r r' : List Row} (e : tabD cs n h a r = tabD cs' n' h' a' r') : cs = cs' ∧ n = n' ∧ h = h' ∧ a = a' ∧ r = r' := by
  injection e with e
  injection e with e1 e
  injection e with e2 e
  injection e with e3 _
  injection e1 with e1
  injection e3 with e3
  obtain ⟨q1, q2, q3⟩ := plD_inj e2
  exact ⟨headD_inj e1, q1, q2, q3, rowsD_inj e3⟩
theorem mvD_inj {n : Str} : ∀ {a b : Mv}, mvD n a = mvD n b → a = b
  | none, none, _ => rfl
  | none, some _, h => by cases h
  | some _, none, h => by cases h
  | some x, some y, h => by
    injection h with h _
    injection h with _ h
    rw [moveD_inj h]
theorem store_inj {C : Addr} {T T' : Tb} (e : T.store C = T'.store C) : T = T' := by
  injection e with _ e
  injection e with e1 e
  injection e with e2 e
  injection e with e3 _
  injection e1 with _ e1
  injection e1 with e1
  injection e2 with _ e2
  injection e2 with e2
  injection e2 with e2 _
  injection e2 with q1 q2
  injection q1 with q1
  injection e3 with _ e3
  injection e3 with e3
  cases T
  cases T'
  obtain ⟨a1, a2, a3, a4, a5⟩ := tabD_inj q2
  have q1 : _ = _ := q1
  dsimp only at a1 a2 a3 a4 a5 e1 q1 e3
  subst a1 a2 a3 a4 a5 e1 q1
  rw [mvD_inj e3]
theorem town_inj {C : Addr} {T T' : Tb} (e : T.town C = T'.town C) : T.cs = T'.cs ∧ T.m = T'.m ∧ T.n = T'.n ∧ T.h0 = T'.h0 ∧ T.rest = T'.rest ∧ T.name = T'.name ∧ T.rows = T'.rows := by
  injection e with _ e
  injection e with e1 e
  injection e with e2 e
  injection e with e3 e
  injection e with e4 _
  injection e1 with _ e1
  injection e1 with e1
  injection e2 with _ e2
  injection e2 with e2
  injection e2 with e2 _
  injection e2 with q1 q2
  injection q1 with q1
  injection q2 with q2
  injection e3 with _ e3
  injection e3 with e3
  injection e3 with e3 _
  injection e3 with _ e3
  injection e4 with _ e4
  injection e4 with e4
  injection e4 with e4 _
  injection e4 with _ e4
  injection e4 with e4
  obtain ⟨a1, a2, a3⟩ := plD_inj e3
  exact ⟨headD_inj q2, e1, a1, a2, a3, q1, rowsD_inj e4⟩
/-! rows filtered -/
def rowOf : Dat → Row
  | .tup xs => xs
  | _ => []
theorem rowsD_fil (f : Row → Bool) (rows : List Row) : ((rowsD rows).filter fun d => f (rowOf d)).map id = rowsD (rows.filter f) := by
  unfold rowsD
  rw [List.map_id, List.filter_map]
  rfl
theorem RowsOk.fil {cs : Cols} {rows : List Row} (h : RowsOk cs rows) (f : Row → Bool) : RowsOk cs (rows.filter f) := ⟨fun r hr => h.each r (List.mem_filter.mp hr).1, Nat.le_trans (List.length_filter_le _ _) h.few⟩
theorem RowsOk.line {cs : Cols} {rows : List Row} (h : RowsOk cs rows) : (rowsD rows).length < sizeLine := by
  have e : (rowsD rows).length = rows.length := List.length_map ..
  rw [e]
  exact Nat.lt_of_le_of_lt h.few (by decide)
theorem RowK.scs : ∀ {cs : Cols} {xs : Row}, RowK cs xs → ∀ d ∈ xs, isSc d = true
  | [], [], _ => fun d hd => by cases hd
  | _ :: _, _ :: _, h => fun d hd => by
    rcases List.mem_cons.mp hd with rfl | hd
    · exact h.1.sc
    · exact RowK.scs h.2 d hd
  | [], _ :: _, h => h.elim
  | _ :: _, [], h => h.elim
theorem RowK.same {cs : Cols} {xs ys : Row} (h : RowK cs xs) (g : RowK cs ys) : rowsSame xs ys := fun j x y e1 e2 => by
  have hj : j < cs.length := by
    rw [← h.len]
    exact (List.getElem?_eq_some_iff.mp e1).1
  exact (h.at (List.getElem?_eq_getElem hj) e1).same (g.at (List.getElem?_eq_getElem hj) e2)
theorem RowK.eqn {cs : Cols} {xs : Row} {n : Nat} (h : RowK cs xs) : EqN (n + 1) (.tup xs) := EqN.tup fun d hd => by
  obtain ⟨j, hj, e⟩ := List.getElem_of_mem hd
  have hjc : j < cs.length := by rw [← h.len]; exact hj
  exact (h.at (List.getElem?_eq_getElem hjc) (by rw [List.getElem?_eq_getElem hj, e])).eqn
theorem valk_alike {k : Str} {d e : Dat} (h : ValK k d) (g : ValK k e) : PySem.W.alike d.py e.py = true := by
  rcases h with ⟨h0, i, rfl⟩ | ⟨h0, x, rfl, _⟩
  · rcases g with ⟨_, j, rfl⟩ | ⟨g0, _⟩
    · rfl
    · rw [h0] at g0
      exact absurd g0 (by decide)
  · rcases g with ⟨g0, _⟩ | ⟨_, y, rfl, _⟩
    · rw [h0] at g0
      exact absurd g0 (by decide)
    · rfl
theorem rowk_alike : ∀ {cs : Cols} {xs ys : Row}, RowK cs xs → RowK cs ys → PySem.W.alikeAll (pys xs) (pys ys) = true
  | [], [], [], _, _ => rfl
  | _ :: _, x :: xs, y :: ys, h, g => by
    show (PySem.W.alike x.py y.py && PySem.W.alikeAll (pys xs) (pys ys)) = true
    rw [valk_alike h.1 g.1, rowk_alike h.2 g.2]
    rfl
  | [], _ :: _, _, h, _ => h.elim
  | [], [], _ :: _, _, g => g.elim
  | _ :: _, [], _, h, _ => h.elim
  | _ :: _, _ :: _, [], _, g => g.elim
theorem rows_sort {cs : Cols} {rows : List Row} (hc : HeadOk cs) (h : ∀ r ∈ rows, RowK cs r) : CanSort (rowsD rows) where
  al := fun d hd d' hd' => by
    unfold rowsD at hd hd'
    rw [List.map_map] at hd hd'
    obtain ⟨r, hr, rfl⟩ := List.mem_map.mp hd
    obtain ⟨r', hr', rfl⟩ := List.mem_map.mp hd'
    exact rowk_alike (h r hr) (h r' hr')
  ok := .inl fun d hd => by
    unfold rowsD at hd
    rw [List.map_map] at hd
    obtain ⟨r, hr, rfl⟩ := List.mem_map.mp hd
    have := (h r hr).len
    have := hc.one
    cases r with
    | nil =>
      rw [List.length_nil] at *
      omega
    | cons x r => exact ⟨x.py, pys r, rfl⟩
  fine := fun d hd => by
    obtain ⟨r, hr, rfl⟩ := List.mem_map.mp hd
    exact (h r hr).eqn
theorem TbOk.valk {T : Tb} {k : Str} (h : TbOk T k) {r : Row} (hr : RowK T.cs r) : r[spotN T.cs T.n]? = some (valAt r (spotN T.cs T.n)) ∧ ValK k (valAt r (spotN T.cs T.n)) := hr.val h.pl.head.nd h.pl.mem
def Tb.span (T : Tb) (r : Row) : Int := spanN T.rest (valAt r (spotN T.cs T.n))
def Tb.house (T : Tb) (r : Row) : Int := houseAt T.h0 T.rest (valAt r (spotN T.cs T.n))
def Tb.spanRows (T : Tb) (num : Int) : List Row := T.rows.filter fun r => decide (T.span r = num)
def aboveM : Option Row → Row → Bool
  | none, _ => true
  | some q, r => rowGt r q
def Tb.above (T : Tb) (x : Int × Int × Option Row) : List Row := (T.spanRows x.1).filter fun r => aboveM x.2.2 r
def Tb.stood (T : Tb) (h : Int) : List Row := T.rows.filter fun r => decide (T.house r = h)
def Tb.taken (T : Tb) (h : Int) : List Row := match T.mv with
  | some (num, h', some q) => if h' = h then (T.spanRows num).filter fun r => rowLe r q else []
  | _ => []
structure StoreC (K : PySem.W.Frag) (C : Addr) : Prop where
  cls : Cls K C
  count : NoAttr K C "count"
  held : NoAttr K C "held"
  moves : NoAttr K C "moves"
structure TownC (K : PySem.W.Frag) (C : Addr) : Prop where
  cls : Cls K C
  many : NoAttr K C "many"
  told : NoAttr K C "told_heads"
  placings : NoAttr K C "placings"
  rows : NoAttr K C "rows"
section
variable {K : PySem.W.Frag} {S : Sc} {ρ : Rho} {ta : TE} {C : Addr} {T : Tb}
theorem ev_held (c : StoreC K C) (h : Ev K S ta ρ (Eq (T.store C))) : Ev K S (tFld K ta "held") ρ (Eq (.dic [(.inr T.name, T.tab)])) := ev_fld c.cls c.held h rfl
theorem ev_count (c : StoreC K C) (h : Ev K S ta ρ (Eq (T.store C))) : Ev K S (tFld K ta "count") ρ (Eq (.int T.m)) := ev_fld c.cls c.count h rfl
theorem ev_moves (c : StoreC K C) (h : Ev K S ta ρ (Eq (T.store C))) : Ev K S (tFld K ta "moves") ρ (Eq (.dic (mvD T.name T.mv))) := ev_fld c.cls c.moves h rfl
theorem val_one {n : Str} {d : Dat} : valD [((.inr n : Key), d)] (.inr n) = some d := by simp [valD]
theorem val_mv {n : Str} {mv : Mv} : (valD (mvD n mv) (.inr n)).isSome = mv.isSome := by
  cases mv with
  | none => rfl
  | some x => rw [show mvD n (some x) = [((.inr n : Key), moveD x)] from rfl, val_one]; rfl
theorem val_mvD {n : Str} {mv : Mv} : (valD (mvD n mv) (.inr n)).getD .non = movD mv := by
  cases mv with
  | none => rfl
  | some x => rw [show mvD n (some x) = [((.inr n : Key), moveD x)] from rfl, val_one]; rfl
theorem ev_rows {wi : TI} {tt : TT} {te : TE} {g : TG} {vs is : List Nat} {rows : List Row} (f : Row → Bool) (hw : IEv K S wi ρ (Eq (rowsD rows))) (hi : ∀ i ∈ is, i ∈ vs) (hz : (rowsD rows).length < sizeLine)
    (step : ∀ (S' : Sc), S'.Like S → ∀ r, r ∈ rows → ∃ ρ', GEv K S' g is (wipeR vs ρ) (.tup r) ρ' ∧ EvT K S' tt ρ' (Eq (f r)) ∧ Ev K S' te ρ' (Eq (.tup r))) : Ev K S (tLc wi g tt te vs) ρ (Eq (.lst (rowsD (rows.filter f)))) :=
  (ev_lcFil (fun d => f (rowOf d)) id hw hi hz fun S' hS d hd => by
    obtain ⟨r, hr, rfl⟩ := List.mem_map.mp hd
    obtain ⟨ρ', h1, h2, h3⟩ := step S' hS r hr
    exact ⟨ρ', h1, h2, fun _ => h3⟩).is (congrArg Dat.lst (rowsD_fil f rows))
theorem en_rows {wi : TI} {tt : TT} {te : TE} {g : TG} {vs is : List Nat} {rows : List Row} (f : Row → Bool) (hw : IEv K S wi ρ (Eq (rowsD rows))) (hi : ∀ i ∈ is, i ∈ vs) (hz : (rowsD rows).length < sizeLine)
    (step : ∀ (S' : Sc), S'.Like S → ∀ r, r ∈ rows → ∃ ρ', GEv K S' g is (wipeR vs ρ) (.tup r) ρ' ∧ EvT K S' tt ρ' (Eq (f r)) ∧ Ev K S' te ρ' (Eq (.tup r))) : EvN K S (tLc wi g tt te vs) ρ (Eq (rowsD (rows.filter f))) := by
  have h := en_lcFil (K := K) (S := S) (ρ := ρ) (fun d => f (rowOf d)) id hw hi hz (te := te) (tt := tt) (g := g) (is := is) fun S' hS d hd => by
    obtain ⟨r, hr, rfl⟩ := List.mem_map.mp hd
    obtain ⟨ρ', h1, h2, h3⟩ := step S' hS r hr
    exact ⟨ρ', h1, h2, fun _ => h3⟩
  rw [rowsD_fil f rows] at h
  exact h
end
end Sh
/-! a store's and a town's reading methods -/
namespace Sh
open PySem PySem.Spec PyProof.Rows L2
/-- the defs below -/
structure Lo (P : Program) (w : World) (K : PySem.W.Frag) (mg : Str → Option Value) (base : Heap) : Prop where
  is_whole : Cl P w K mg base "is_whole" 1 ["thing"] (SpD K preWhole postWhole)
  is_name : Cl P w K mg base "is_name" 2 ["thing"] (SpD K pre_is_name post_is_name)
  is_row : Cl P w K mg base "is_row" 3 ["head", "thing"] (SpD K pre_is_row post_is_row)
  is_house : Cl P w K mg base "is_house" 2 ["thing", "many"] (SpD K pre_is_house post_is_house)
  is_table : Cl P w K mg base "is_table" 5 ["thing", "many"] (SpD K pre_is_table post_is_table)
  span_of : Cl P w K mg base "span_of" 1 ["cuts", "value"] (SpD K pre_span_of post_span_of)
  houses_of : Cl P w K mg base "houses_of" 2 ["head", "placing", "row", "many"] (SpD K pre_houses_of post_houses_of)
section
variable {P : Program} {w : World} {K : PySem.W.Frag} {mg : Str → Option Value} {base : Heap} {aW aK : Addr} {f : Addr} {fd : FuncData} {CS CT : Addr}
/-- Store.table_of -/
abbrev s_Store_table_of : Stmt := inClass (top 41) 2
theorem sc_Store_table_of : FnScope ["self", "name"] ["self", "name"] (defScope s_Store_table_of) := ⟨rfl, rfl, rfl, by decide +kernel, rfl, by decide +kernel, by decide +kernel⟩
def pre_Store_table_of (CS : Addr) : Sc → List Dat → Prop := fun _ ds => ∃ T k, ds = [T.store CS, .str T.name] ∧ TbOk T k
def post_Store_table_of (CS : Addr) : List Dat → Dat → Prop := fun ds r => ∀ T : Tb, ds = [T.store CS, .str T.name] → r = T.tab
theorem ok_Store_table_of (F : Fun K "table_of" "Store.table_of" s_Store_table_of f fd) (X : Txt K mg aW aK) (L : Lo P w K mg base) (c : StoreC K CS) : FnOk P w K mg base CX0 3 f fd ["self", "name"] (SpD K (pre_Store_table_of CS) (post_Store_table_of CS)) := by
  refine ok_of F sc_Store_table_of (fun S ds h => by obtain ⟨T, k, rfl, h⟩ := h; rfl) fun cdv A outer s H E hr => ?_
  have nd := sc_Store_table_of.nd
  have hu := hr.units
  have hu0 := hr.units0
  have hu1 := hu_of hr
  have hu65 := u65 hr
  refine ⟨_, (pss_cons (ps_if (PW.pt (pw_or (pt_not (pt_val (pe_fn L.is_name (hr.mono (by decide)) (pa_cons (pv 1) pa_nil)))) (pw_or1 (pt_cmp (pc_dnotin hu1 (pv 1) (pe_fldK (K := K) rfl (pv 0) rfl)) (by with_unfolding_all rfl))))) pss_never pss_nil)
      (pss_one (ps_ret (pe_dget hu1 (pe_fldK (K := K) rfl (pv 0) rfl) (pv 1) (fun _ _ => rfl))))), ?_⟩
  rintro S ds ⟨T, k, rfl, h⟩
  have e0 : Ev K S (tVar 0) [some (T.store CS), some (.str T.name)] (Eq (T.store CS)) := ev_var rfl
  have e1 : Ev K S (tVar 1) [some (T.store CS), some (.str T.name)] (Eq (.str T.name)) := ev_var rfl
  refine s_skip (et_or (et_not (et_BD (b := true) (ev_callD (ea_consD e1 ea_nil) ⟨_, rfl, h.name⟩ fun d q => q.symm))) fun _ => et_BD (ev_dnotin (k := .inr T.name) (b := true) (by rw [val_one]; rfl) e1 (ev_held c e0))) rfl ?_
  refine s_retD (ev_dget (k := .inr T.name) val_one (ev_held c e0) e1) fun T' q => ?_
  injection q with q _
  rw [store_inj q]
/-- Store.spans_of -/
abbrev s_Store_spans_of : Stmt := inClass (top 41) 3
theorem sc_Store_spans_of : FnScope ["self", "name", "head", "placing", "rows", "column", "kind"] ["self", "name"] (defScope s_Store_spans_of) := ⟨rfl, rfl, rfl, by decide +kernel, rfl, by decide +kernel, by decide +kernel⟩
def pre_Store_spans_of (CS : Addr) : Sc → List Dat → Prop := pre_Store_table_of CS
def Tb.spans (T : Tb) : List Dat := [.hd (headD T.cs), .int (spotN T.cs T.n : Int), .tup (cutsD T.h0 T.rest)]
def post_Store_spans_of (CS : Addr) : List Dat → Dat → Prop := fun ds r => ∀ T : Tb, ds = [T.store CS, .str T.name] → r = .tup T.spans
theorem ok_Store_spans_of (F : Fun K "spans_of" "Store.spans_of" s_Store_spans_of f fd) (X : Txt K mg aW aK) (L : Lo P w K mg base) (c : StoreC K CS) (m_Store_table_of : Ml P w K mg base CS "table_of" 3 ["self", "name"] (SpD K (pre_Store_table_of CS) (post_Store_table_of CS))) : FnOk P w K mg base CX0 4 f fd ["self", "name"] (SpD K (pre_Store_spans_of CS) (post_Store_spans_of CS)) := by
  refine ok_of F sc_Store_spans_of (fun S ds h => by obtain ⟨T, k, rfl, h⟩ := h; rfl) fun cdv A outer s H E hr => ?_
  have nd := sc_Store_spans_of.nd
  have hu := hr.units
  have hu0 := hr.units0
  have hu1 := hu_of hr
  have hu65 := u65 hr
  refine ⟨_, (pss_cons (ps_asg (pe_mt m_Store_table_of (hr.mono (by decide)) (pv 0) (pa_cons (pv 1) pa_nil)) (pg_tup rfl (pgs_cons (pg_name (i := 2) nd rfl (by first | exact Or.inl rfl | exact Or.inr rfl)) (pgs_cons (pg_name (i := 3) nd rfl (by first | exact Or.inl rfl | exact Or.inr rfl)) (pgs_cons (pg_name (i := 4) nd rfl (by first | exact Or.inl rfl | exact Or.inr rfl)) pgs_nil)))))
      (pss_cons (ps_if (pt_cmpR (r := rNeD K) (op_neD hu) (pe_ix (r := rIx K) ix_seq (pv 3) pe_int (fun _ _ => rfl)) pe_str (nomark _)) pss_never pss_nil)
      (pss_one (ps_ret (pe_tup (pa_cons (pv 2) (pa_cons (pe_bm PySem.F.plainAttrs_list PySem.F.slot_list_index PySem.F.type_list_index mt_index (pe_lc rfl nd (pi_tup (pv 2)) (blkOk_by (own := [("column", 5), ("kind", 6)]) (N := ["self", "name", "head", "placing", "rows", "column", "kind"]) (sc := defScope s_Store_spans_of) (by decide +kernel)) (fun _ _ _ _ _ => (pg_tupK (K := K) (n := 2) rfl rfl (pgs_cons (pg_name (i := 5) nd rfl (by first | exact Or.inl rfl | exact Or.inr rfl)) (pgs_cons (pg_name (i := 6) nd rfl (by first | exact Or.inl rfl | exact Or.inr rfl)) pgs_nil)))) (fun _ _ _ _ _ => pts_nil) (fun _ _ _ _ _ => (pv 5))) (pa_cons (pe_ix (r := rIx K) ix_seq (pv 3) pe_int (fun _ _ => rfl)) pa_nil)) (pa_cons (pe_ix (r := rIx K) ix_seq (pv 3) pe_int (fun _ _ => rfl)) pa_nil)))))))), ?_⟩
  rintro S ds ⟨T, k, rfl, h⟩
  refine s_seq (s_asg (x := T.tab) (ev_meth rfl (ev_var (d := T.store CS) rfl) (ea_consD (ev_var (d := .str T.name) rfl) ea_nil) ⟨T, k, rfl, h⟩ fun d q => (q T rfl).symm) g_three ?_)
  have e3 : ∀ {a b c d : Option Dat}, Ev K S (tVar 3) [a, b, c, some (plD T.n T.h0 T.rest), d, none, none] (Eq (.tup [.str "spans", .str T.n, .tup (cutsD T.h0 T.rest)])) := ev_var rfl
  have hlen : (headD T.cs).length = T.cs.length := List.length_map ..
  refine s_skip (et_testD (ev_ne (x := .str "spans") (y := .str "spans") (spans_eqn (n := 1)).eqd (spans_eqn (n := 1)).eqd (ev_ixT rfl e3 ev_int) ev_str)) (by rw [deq_self]; rfl) ?_
  refine s_retD (ev_tupD (ea_consD (ev_var rfl) (ea_consD (ev_indexL (x := .str T.n) (xs := T.cs.map fun c => Dat.str c.1) (j := spotN T.cs T.n) rfl (fun d hd => ?_) (by rw [List.getElem?_map, spot_at h.pl.head.nd h.pl.mem]; rfl) (fun m hm => spot_first hm) ?_ (ev_ixT rfl e3 ev_int)) (ea_consD (ev_ixT rfl e3 ev_int) ea_nil))) (show 3 ≤ sizeLine by decide)) fun T' q => ?_
  · obtain ⟨c, _, rfl⟩ := List.mem_map.mp hd
    rfl
  · refine (ev_lcMapD (is := [5, 6]) firstD (ie_tup (xs := headD T.cs) (ev_un (ev_var rfl))) (by simp) (by rw [hlen]; exact Nat.lt_of_le_of_lt h.pl.head.most (by decide)) fun S' hS d hd => ?_).is (by rw [nameD_col])
    obtain ⟨c, hcm, rfl⟩ := List.mem_map.mp hd
    exact ⟨_, g_two, ev_var rfl⟩
  · injection q with q _
    rw [store_inj q]
    rfl
/-- Store.move_of -/
abbrev s_Store_move_of : Stmt := inClass (top 41) 9
theorem sc_Store_move_of : FnScope ["self", "name"] ["self", "name"] (defScope s_Store_move_of) := ⟨rfl, rfl, rfl, by decide +kernel, rfl, by decide +kernel, by decide +kernel⟩
def pre_Store_move_of (CS : Addr) : Sc → List Dat → Prop := fun _ ds => ∃ T k x, ds = [T.store CS, .str T.name] ∧ TbOk T k ∧ T.mv = some x
def post_Store_move_of (CS : Addr) : List Dat → Dat → Prop := fun ds r => ∀ (T : Tb) x, ds = [T.store CS, .str T.name] → T.mv = some x → r = moveD x
theorem ok_Store_move_of (F : Fun K "move_of" "Store.move_of" s_Store_move_of f fd) (X : Txt K mg aW aK) (L : Lo P w K mg base) (c : StoreC K CS) (m_Store_spans_of : Ml P w K mg base CS "spans_of" 4 ["self", "name"] (SpD K (pre_Store_spans_of CS) (post_Store_spans_of CS))) : FnOk P w K mg base CX0 5 f fd ["self", "name"] (SpD K (pre_Store_move_of CS) (post_Store_move_of CS)) := by
  refine ok_of F sc_Store_move_of (fun S ds h => by obtain ⟨T, k, x, rfl, h, hm⟩ := h; rfl) fun cdv A outer s H E hr => ?_
  have nd := sc_Store_move_of.nd
  have hu := hr.units
  have hu0 := hr.units0
  have hu1 := hu_of hr
  have hu65 := u65 hr
  refine ⟨_, (pss_cons (ps_expr (pe_mt m_Store_spans_of (hr.mono (by decide)) (pv 0) (pa_cons (pv 1) pa_nil)))
      (pss_cons (ps_if (pt_cmp (pc_dnotin hu1 (pv 1) (pe_fldK (K := K) rfl (pv 0) rfl)) (by with_unfolding_all rfl)) pss_never pss_nil)
      (pss_one (ps_ret (pe_dget hu1 (pe_fldK (K := K) rfl (pv 0) rfl) (pv 1) (fun _ _ => rfl)))))), ?_⟩
  rintro S ds ⟨T, k, x, rfl, h, hm⟩
  have e0 : Ev K S (tVar 0) [some (T.store CS), some (.str T.name)] (Eq (T.store CS)) := ev_var rfl
  have e1 : Ev K S (tVar 1) [some (T.store CS), some (.str T.name)] (Eq (.str T.name)) := ev_var rfl
  have hv : valD (mvD T.name T.mv) (.inr T.name) = some (moveD x) := by
    rw [hm]
    exact val_one
  refine s_seq (s_drop (P := fun _ => True) (ev_meth rfl e0 (ea_consD e1 ea_nil) ⟨T, k, rfl, h⟩ fun d _ => trivial) ?_)
  refine s_skip (et_BD (ev_dnotin (k := .inr T.name) (b := true) (by rw [hv]; rfl) e1 (ev_moves c e0))) rfl ?_
  refine s_retD (ev_dget (k := .inr T.name) hv (ev_moves c e0) e1) fun T' x' q hm' => ?_
  injection q with q _
  have := store_inj q
  subst this
  rw [hm] at hm'
  cases hm'
  rfl
/-- Store.span_rows -/
abbrev s_Store_span_rows : Stmt := inClass (top 41) 10
theorem sc_Store_span_rows : FnScope ["self", "name", "number", "spot", "cuts", "row"] ["self", "name", "number"] (defScope s_Store_span_rows) := ⟨rfl, rfl, rfl, by decide +kernel, rfl, by decide +kernel, by decide +kernel⟩
def pre_Store_span_rows (CS : Addr) : Sc → List Dat → Prop := fun _ ds => ∃ T k n, ds = [T.store CS, .str T.name, .int n] ∧ TbOk T k
def post_Store_span_rows (CS : Addr) : List Dat → Dat → Prop := fun ds r => ∀ (T : Tb) n, ds = [T.store CS, .str T.name, .int n] → r = .lst (rowsD (T.spanRows n))
theorem cut_one {xs : List Dat} {x : Dat} : cutD (x :: xs) (some 1) none = xs := by
  unfold cutD HT.sIx
  simp
theorem ok_Store_span_rows (F : Fun K "span_rows" "Store.span_rows" s_Store_span_rows f fd) (X : Txt K mg aW aK) (L : Lo P w K mg base) (c : StoreC K CS) (m_Store_spans_of : Ml P w K mg base CS "spans_of" 4 ["self", "name"] (SpD K (pre_Store_spans_of CS) (post_Store_spans_of CS))) : FnOk P w K mg base CX0 5 f fd ["self", "name", "number"] (SpD K (pre_Store_span_rows CS) (post_Store_span_rows CS)) := by
  refine ok_of F sc_Store_span_rows (fun S ds h => by obtain ⟨T, k, n, rfl, h⟩ := h; rfl) fun cdv A outer s H E hr => ?_
  have nd := sc_Store_span_rows.nd
  have hu := hr.units
  have hu0 := hr.units0
  have hu1 := hu_of hr
  have hu65 := u65 hr
  refine ⟨_, (pss_cons (ps_asg (pe_slice sl_tupA (pe_mt m_Store_spans_of (hr.mono (by decide)) (pv 0) (pa_cons (pv 1) pa_nil)) (po_some pe_int) po_none) (pg_tup rfl (pgs_cons (pg_name (i := 3) nd rfl (by first | exact Or.inl rfl | exact Or.inr rfl)) (pgs_cons (pg_name (i := 4) nd rfl (by first | exact Or.inl rfl | exact Or.inr rfl)) pgs_nil))))
      (pss_one (ps_ret (pe_lc rfl nd (pi_list (pe_ix (r := rIx K) ix_seq (pe_dget hu1 (pe_fldK (K := K) rfl (pv 0) rfl) (pv 1) (fun _ _ => rfl)) pe_int (fun _ _ => rfl))) (blkOk_by (own := [("row", 5)]) (N := ["self", "name", "number", "spot", "cuts", "row"]) (sc := defScope s_Store_span_rows) (by decide +kernel)) (fun _ _ _ _ _ => (pg_name (i := 5) nd rfl (by first | exact Or.inl rfl | exact Or.inr rfl))) (fun _ _ _ _ _ => (pts_one (pt_cmpR (r := rEqD K) (op_eqD hu) (pe_fn L.span_of (hr.mono (by decide)) (pa_cons (pv 4) (pa_cons (pe_ix (r := rIx K) ix_seq (pv 5) (pv 3) (fun _ _ => rfl)) pa_nil))) (pv 2) (nomark _)))) (fun _ _ _ _ _ => (pv 5)))))), ?_⟩
  rintro S ds ⟨T, k, n, rfl, h⟩
  have e0 : ∀ {S : Sc} {a b c d : Option Dat}, Ev K S (tVar 0) [some (T.store CS), a, b, c, d, none] (Eq (T.store CS)) := ev_var rfl
  have e1 : ∀ {S : Sc} {a b c d : Option Dat}, Ev K S (tVar 1) [a, some (.str T.name), b, c, d, none] (Eq (.str T.name)) := ev_var rfl
  refine s_seq (s_asg (x := .tup [.int (spotN T.cs T.n : Int), .tup (cutsD T.h0 T.rest)]) ((ev_slT (xs := T.spans) (ev_meth rfl e0 (ea_consD e1 ea_nil) ⟨T, k, rfl, h⟩ fun d q => (q T rfl).symm) (eo_some ev_int) eo_none).is ?_) g_two ?_)
  · unfold Tb.spans
    rw [cut_one]
  refine s_retD (ev_rows (is := [5]) (fun r => decide (T.span r = n)) (ie_list (xs := rowsD T.rows) (ev_ixT (xs := [.hd (headD T.cs), plD T.n T.h0 T.rest, .lst (rowsD T.rows)]) rfl (ev_dget (k := .inr T.name) val_one (ev_held c e0) e1) ev_int)) (by simp) h.rows.line fun S' hS r hr => ?_) fun T' n' q => ?_
  · have hv := h.valk (h.rows.each r hr)
    exact ⟨_, g_name, (et_testD (ev_eq (x := .int (T.span r)) (y := .int n) .int .int (ev_callD (ea_consD (ev_var rfl) (ea_consD (ev_ixT (xs := r) (atI_nat hv.1) (ev_var rfl) (ev_var rfl)) ea_nil)) ⟨k, T.m, T.h0, T.rest, _, rfl, h.pl.cuts, hv.2⟩ fun d q => (q _ _ _ rfl).symm) (ev_var rfl))).is deq_int, ev_var rfl⟩
  · injection q with q q2
    injection q2 with _ q2
    injection q2 with q2 _
    injection q2 with q2
    have := store_inj q
    subst this q2
    rfl
/-- Store.rows_above -/
abbrev s_Store_rows_above : Stmt := inClass (top 41) 11
theorem sc_Store_rows_above : FnScope ["self", "name", "number", "house", "mark", "row"] ["self", "name"] (defScope s_Store_rows_above) := ⟨rfl, rfl, rfl, by decide +kernel, rfl, by decide +kernel, by decide +kernel⟩
def pre_Store_rows_above (CS : Addr) : Sc → List Dat → Prop := pre_Store_move_of CS
def post_Store_rows_above (CS : Addr) : List Dat → Dat → Prop := fun ds r => ∀ (T : Tb) x, ds = [T.store CS, .str T.name] → T.mv = some x → r = .lst (rowsD (T.above x))
theorem ok_Store_rows_above (F : Fun K "rows_above" "Store.rows_above" s_Store_rows_above f fd) (X : Txt K mg aW aK) (L : Lo P w K mg base) (c : StoreC K CS) (m_Store_span_rows : Ml P w K mg base CS "span_rows" 5 ["self", "name", "number"] (SpD K (pre_Store_span_rows CS) (post_Store_span_rows CS))) : FnOk P w K mg base CX0 6 f fd ["self", "name"] (SpD K (pre_Store_rows_above CS) (post_Store_rows_above CS)) := by
  refine ok_of F sc_Store_rows_above (fun S ds h => by obtain ⟨T, k, x, rfl, h, hm⟩ := h; rfl) fun cdv A outer s H E hr => ?_
  have nd := sc_Store_rows_above.nd
  have hu := hr.units
  have hu0 := hr.units0
  have hu1 := hu_of hr
  have hu65 := u65 hr
  refine ⟨_, (pss_cons (ps_asg (pe_dget hu1 (pe_fldK (K := K) rfl (pv 0) rfl) (pv 1) (fun _ _ => rfl)) (pg_tup rfl (pgs_cons (pg_name (i := 2) nd rfl (by first | exact Or.inl rfl | exact Or.inr rfl)) (pgs_cons (pg_name (i := 3) nd rfl (by first | exact Or.inl rfl | exact Or.inr rfl)) (pgs_cons (pg_name (i := 4) nd rfl (by first | exact Or.inl rfl | exact Or.inr rfl)) pgs_nil)))))
      (pss_one (ps_ret (pe_lc rfl nd (pi_list (pe_mt m_Store_span_rows (hr.mono (by decide)) (pv 0) (pa_cons (pv 1) (pa_cons (pv 2) pa_nil)))) (blkOk_by (own := [("row", 5)]) (N := ["self", "name", "number", "house", "mark", "row"]) (sc := defScope s_Store_rows_above) (by decide +kernel)) (fun _ _ _ _ _ => (pg_name (i := 5) nd rfl (by first | exact Or.inl rfl | exact Or.inr rfl))) (fun _ _ _ _ _ => (pts_one (PW.pt (pw_or (pt_cmpR op_is0 (pv 4) pe_non (nomark _)) (pw_or1 (pt_cmpR (r := rTup tupGt K) (op_gtR hu0) (pv 5) (pv 4) (nomark _))))))) (fun _ _ _ _ _ => (pv 5)))))), ?_⟩
  rintro S ds ⟨T, k, x, rfl, h, hm⟩
  have e0 : ∀ {S : Sc} {a b c d : Option Dat}, Ev K S (tVar 0) [some (T.store CS), a, b, c, d, none] (Eq (T.store CS)) := ev_var rfl
  have e1 : ∀ {S : Sc} {a b c d : Option Dat}, Ev K S (tVar 1) [a, some (.str T.name), b, c, d, none] (Eq (.str T.name)) := ev_var rfl
  have hv : valD (mvD T.name T.mv) (.inr T.name) = some (moveD x) := by
    rw [hm]
    exact val_one
  have mo := h.mv x hm
  obtain ⟨num, hs, mark⟩ := x
  refine s_seq (s_asg (ev_dget (k := .inr T.name) hv (ev_moves c e0) e1) g_three ?_)
  refine s_retD (ev_rows (is := [5]) (fun r => aboveM mark r) (ie_list (xs := rowsD (T.spanRows num)) (ev_meth rfl e0 (ea_consD e1 (ea_consD (ev_var rfl) ea_nil)) ⟨T, k, num, rfl, h⟩ fun d q => (q T num rfl).symm)) (by simp) (h.rows.fil _).line fun S' hS r hr => ?_) fun T' x' q hm' => ?_
  · have hr1 := h.rows.each r (List.mem_filter.mp hr).1
    refine ⟨_, g_name, ?_, ev_var rfl⟩
    cases mark with
    | none => exact et_orT (et_testD (ev_is (x := .non) (ev_var rfl))) rfl
    | some q =>
      have hq := mo.mark q rfl
      exact (et_or (et_testD (ev_is (x := .tup q) (ev_var rfl))) fun _ => et_testD (ev_gtR hr1.scs hq.scs (hr1.same hq) (ev_var rfl) (ev_var rfl))).is rfl
  · injection q with q _
    have := store_inj q
    subst this
    rw [hm] at hm'
    cases hm'
    rfl
/-- Store.moving -/
abbrev s_Store_moving : Stmt := inClass (top 41) 14
theorem sc_Store_moving : FnScope ["self", "name"] ["self", "name"] (defScope s_Store_moving) := ⟨rfl, rfl, rfl, by decide +kernel, rfl, by decide +kernel, by decide +kernel⟩
def pre_Store_moving (CS : Addr) : Sc → List Dat → Prop := pre_Store_table_of CS
def post_Store_moving (CS : Addr) : List Dat → Dat → Prop := fun ds r => ∀ T : Tb, ds = [T.store CS, .str T.name] → r = movD T.mv
theorem ok_Store_moving (F : Fun K "moving" "Store.moving" s_Store_moving f fd) (X : Txt K mg aW aK) (L : Lo P w K mg base) (c : StoreC K CS) (m_Store_table_of : Ml P w K mg base CS "table_of" 3 ["self", "name"] (SpD K (pre_Store_table_of CS) (post_Store_table_of CS))) : FnOk P w K mg base CX0 4 f fd ["self", "name"] (SpD K (pre_Store_moving CS) (post_Store_moving CS)) := by
  refine ok_of F sc_Store_moving (fun S ds h => by obtain ⟨T, k, rfl, h⟩ := h; rfl) fun cdv A outer s H E hr => ?_
  have nd := sc_Store_moving.nd
  have hu := hr.units
  have hu0 := hr.units0
  have hu1 := hu_of hr
  have hu65 := u65 hr
  refine ⟨_, (pss_cons (ps_expr (pe_mt m_Store_table_of (hr.mono (by decide)) (pv 0) (pa_cons (pv 1) pa_nil)))
      (pss_one (ps_ret (pe_dget1 hu1 (pe_fldK (K := K) rfl (pv 0) rfl) (pv 1) ⟨rfl, rfl, rfl, rfl⟩)))), ?_⟩
  rintro S ds ⟨T, k, rfl, h⟩
  have e0 : Ev K S (tVar 0) [some (T.store CS), some (.str T.name)] (Eq (T.store CS)) := ev_var rfl
  have e1 : Ev K S (tVar 1) [some (T.store CS), some (.str T.name)] (Eq (.str T.name)) := ev_var rfl
  refine s_seq (s_drop (P := fun _ => True) (ev_meth rfl e0 (ea_consD e1 ea_nil) ⟨T, k, rfl, h⟩ fun d _ => trivial) ?_)
  refine s_retD ((ev_dget1 (k := .inr T.name) (ev_moves c e0) e1).is val_mvD) fun T' q => ?_
  injection q with q _
  rw [store_inj q]
/-- a house among the one -/
theorem in_one {a b : Int} : inD (.int a) [.int b] = decide (b = a) := by
  unfold inD
  rw [List.any_cons, List.any_nil, Bool.or_false, deq_int]
/-- Store.stands -/
abbrev s_Store_stands : Stmt := inClass (top 41) 15
theorem sc_Store_stands : FnScope ["self", "name", "house", "head", "placing", "rows", "found", "row", "number", "mark"] ["self", "name", "house"] (defScope s_Store_stands) := ⟨rfl, rfl, rfl, by decide +kernel, rfl, by decide +kernel, by decide +kernel⟩
def pre_Store_stands (CS : Addr) : Sc → List Dat → Prop := fun _ ds => ∃ T k hs, ds = [T.store CS, .str T.name, .int hs] ∧ TbOk T k ∧ 0 ≤ hs ∧ hs < T.m
def post_Store_stands (CS : Addr) : List Dat → Dat → Prop := fun ds r => ∀ (T : Tb) hs, ds = [T.store CS, .str T.name, .int hs] → r = .lst (srt (rowsD (T.stood hs ++ T.taken hs)))
theorem rowsD_app {a b : List Row} : rowsD a ++ rowsD b = rowsD (a ++ b) := (List.map_append ..).symm
theorem ok_Store_stands (F : Fun K "stands" "Store.stands" s_Store_stands f fd) (X : Txt K mg aW aK) (L : Lo P w K mg base) (c : StoreC K CS) (m_Store_table_of : Ml P w K mg base CS "table_of" 3 ["self", "name"] (SpD K (pre_Store_table_of CS) (post_Store_table_of CS))) (m_Store_span_rows : Ml P w K mg base CS "span_rows" 5 ["self", "name", "number"] (SpD K (pre_Store_span_rows CS) (post_Store_span_rows CS))) : FnOk P w K mg base CX0 6 f fd ["self", "name", "house"] (SpD K (pre_Store_stands CS) (post_Store_stands CS)) := by
  refine ok_of F sc_Store_stands (fun S ds h => by obtain ⟨T, k, hs, rfl, h, h1, h2⟩ := h; rfl) fun cdv A outer s H E hr => ?_
  have nd := sc_Store_stands.nd
  have hu := hr.units
  have hu0 := hr.units0
  have hu1 := hu_of hr
  have hu65 := u65 hr
  refine ⟨_, (pss_cons (ps_asg (pe_mt m_Store_table_of (hr.mono (by decide)) (pv 0) (pa_cons (pv 1) pa_nil)) (pg_tup rfl (pgs_cons (pg_name (i := 3) nd rfl (by first | exact Or.inl rfl | exact Or.inr rfl)) (pgs_cons (pg_name (i := 4) nd rfl (by first | exact Or.inl rfl | exact Or.inr rfl)) (pgs_cons (pg_name (i := 5) nd rfl (by first | exact Or.inl rfl | exact Or.inr rfl)) pgs_nil)))))
      (pss_cons (ps_if (pt_not (pt_val (pe_fn L.is_house (hr.mono (by decide)) (pa_cons (pv 2) (pa_cons (pe_fldK (K := K) rfl (pv 0) rfl) pa_nil))))) pss_never pss_nil)
      (pss_cons (ps_setLc (i := 6) rfl nd rfl rfl (sw_true rfl rfl rfl (by decide +kernel)) (pi_list (pv 5)) (blkOk_by (own := [("row", 7)]) (N := ["self", "name", "house", "head", "placing", "rows", "found", "row", "number", "mark"]) (sc := defScope s_Store_stands) (by decide +kernel)) (fun _ _ _ _ _ => (pg_name (i := 7) nd rfl (by first | exact Or.inl rfl | exact Or.inr rfl))) (fun _ _ _ _ _ => (pts_one (pt_cmpR (r := rIn K false) op_in_seq (pv 2) (pe_fn L.houses_of (hr.mono (by decide)) (pa_cons (pv 3) (pa_cons (pv 4) (pa_cons (pv 7) (pa_cons (pe_fldK (K := K) rfl (pv 0) rfl) pa_nil))))) (by with_unfolding_all rfl)))) (fun _ _ _ _ _ => (pv 7)))
      (pss_cons (ps_if (PW.pt (pw_and (pt_cmp (pc_din hu1 (pv 1) (pe_fldK (K := K) rfl (pv 0) rfl)) (by with_unfolding_all rfl)) (pw_and1 (pt_cmpR (r := rEqD K) (op_eqD hu) (pe_ix (r := rIx K) ix_seq (pe_dget hu1 (pe_fldK (K := K) rfl (pv 0) rfl) (pv 1) (fun _ _ => rfl)) pe_int (fun _ _ => rfl)) (pv 2) (nomark _))))) (pss_cons (ps_asg (pe_dget hu1 (pe_fldK (K := K) rfl (pv 0) rfl) (pv 1) (fun _ _ => rfl)) (pg_tup rfl (pgs_cons (pg_name (i := 8) nd rfl (by first | exact Or.inl rfl | exact Or.inr rfl)) (pgs_cons (pg_name (i := 2) nd rfl (by first | exact Or.inl rfl | exact Or.inr rfl)) (pgs_cons (pg_name (i := 9) nd rfl (by first | exact Or.inl rfl | exact Or.inr rfl)) pgs_nil)))))
      (pss_one (ps_if (pt_cmpR op_isnot0 (pv 9) pe_non (nomark _)) (pss_one (ps_expr (pe_bm PySem.F.plainAttrs_list PySem.F.slot_list_extend PySem.F.type_list_extend mt_extend (pv 6) (pa_cons (pe_lc rfl nd (pi_list (pe_mt m_Store_span_rows (hr.mono (by decide)) (pv 0) (pa_cons (pv 1) (pa_cons (pv 8) pa_nil)))) (blkOk_by (own := [("row", 7)]) (N := ["self", "name", "house", "head", "placing", "rows", "found", "row", "number", "mark"]) (sc := defScope s_Store_stands) (by decide +kernel)) (fun _ _ _ _ _ => (pg_name (i := 7) nd rfl (by first | exact Or.inl rfl | exact Or.inr rfl))) (fun _ _ _ _ _ => (pts_one (pt_cmpR (r := rTup tupLe K) (op_leR hu0) (pv 7) (pv 9) (nomark _)))) (fun _ _ _ _ _ => (pv 7))) pa_nil)))) pss_nil))) pss_nil)
      (pss_one (ps_ret (pe_srt X.b hu (pv 6)))))))), ?_⟩
  rintro S ds ⟨T, k, hs, rfl, h, h1, h2⟩
  have e0 : ∀ {S : Sc} {c d e f g h i j k : Option Dat}, Ev K S (tVar 0) [some (T.store CS), c, d, e, f, g, h, i, j, k] (Eq (T.store CS)) := ev_var rfl
  have e1 : ∀ {S : Sc} {c d e f g h i j k : Option Dat}, Ev K S (tVar 1) [c, some (.str T.name), d, e, f, g, h, i, j, k] (Eq (.str T.name)) := ev_var rfl
  have e2 : ∀ {S : Sc} {c d e f g h i j k : Option Dat}, Ev K S (tVar 2) [c, d, some (.int hs), e, f, g, h, i, j, k] (Eq (.int hs)) := ev_var rfl
  refine s_seq (s_asg (x := T.tab) (ev_meth rfl e0 (ea_consD e1 ea_nil) ⟨T, k, rfl, h⟩ fun d q => (q T rfl).symm) g_three ?_)
  refine s_skip (et_not (et_BD (b := true) (ev_callD (ea_consD e2 (ea_consD (ev_count c e0) ea_nil)) ⟨hs, T.m, rfl, h1, h2⟩ fun d q => q.symm))) rfl ?_
  have fin : post_Store_stands CS [T.store CS, .str T.name, .int hs] (.lst (srt (rowsD (T.stood hs ++ T.taken hs)))) := fun T' hs' q => by
    injection q with q q2
    injection q2 with _ q2
    injection q2 with q2 _
    injection q2 with q2
    have := store_inj q
    subst this q2
    rfl
  have cs : CanSort (rowsD (T.stood hs ++ T.taken hs)) := rows_sort h.pl.head fun r hr => by
    rcases List.mem_append.mp hr with hr | hr
    · exact h.rows.each r (List.mem_filter.mp hr).1
    · unfold Tb.taken at hr
      split at hr
      · split at hr
        · exact h.rows.each r (List.mem_filter.mp (List.mem_filter.mp hr).1).1
        · cases hr
      · cases hr
  refine so_begin (P := Eq (rowsD (T.stood hs))) (show 6 < 10 by decide) (en_rows (is := [7]) (fun r => decide (T.house r = hs)) (ie_list (xs := rowsD T.rows) (ev_var rfl)) (by simp) h.rows.line fun S' hS r hr => ?_) fun p ds hp => ?_
  · have hr1 := h.rows.each r hr
    exact ⟨_, g_name, (et_testD (ev_inL (b := false) (x := .int hs) (ds := [.int (T.house r)]) rfl (fun d hd => by rw [List.mem_singleton.mp hd]; rfl) e2 (ev_callD (ea_consD (ev_un (ev_var rfl)) (ea_consD (ev_var rfl) (ea_consD (ev_var rfl) (ea_consD (ev_count c e0) ea_nil)))) ⟨T.cs, T.m, T.n, k, T.h0, T.rest, r, rfl, h.pl, hr1⟩ fun d q => (q _ _ _ _ _ _ rfl).symm))).is in_one, ev_var rfl⟩
  subst hp
  have endS : ∀ {ρ : Rho} {ds : List Dat}, ρ.length = 10 → ds = rowsD (T.stood hs ++ T.taken hs) → SOv K S 6 p (tRet (tCB (rSrt K) (tCons (tVar 6) tNil))) ρ ds (fun _ _ => False) (post_Store_stands CS [T.store CS, .str T.name, .int hs]) := by
    rintro ρ ds hl rfl
    exact so_close (s_retD (ev_srt cs (ev_var (List.getElem?_set_self (by rw [hl]; decide)))) fin)
  cases hm : T.mv with
  | none =>
    have et : T.taken hs = [] := by
      unfold Tb.taken
      rw [hm]
    refine so_seq (nx2 := fun ρ' ds' => ρ'.length = 10 ∧ ds' = rowsD (T.stood hs ++ T.taken hs)) (so_if (R := Eq false) (et_andF (et_BD (ev_din (k := .inr T.name) (b := false) (by rw [val_mv, hm]; rfl) e1 (ev_moves c e0))) rfl) (fun z => nomatch z) fun _ => so_next ⟨rfl, by rw [et, List.append_nil]⟩) fun ρ' ds' q => endS q.1 q.2
  | some x =>
    obtain ⟨num, h', mark⟩ := x
    have mo := h.mv _ hm
    have hv : valD (mvD T.name T.mv) (.inr T.name) = some (moveD (num, h', mark)) := by
      rw [hm]
      exact val_one
    refine so_seq (nx2 := fun ρ' ds' => ρ'.length = 10 ∧ ds' = rowsD (T.stood hs ++ T.taken hs)) (so_if (R := Eq (decide (h' = hs))) ((et_and (et_BD (ev_din (k := .inr T.name) (b := true) (by rw [val_mv, hm]; rfl) e1 (ev_moves c e0))) fun _ => et_testD (ev_eq (x := .int h') (y := .int hs) .int .int (ev_ixT (xs := [.int num, .int h', markD mark]) rfl (ev_dget (k := .inr T.name) hv (ev_moves c e0) e1) ev_int) e2)).is (by rw [deq_int]; rfl)) (fun hq => ?_) fun hq => so_next ⟨rfl, ?_⟩) fun ρ' ds' q => endS q.1 q.2
    · have hq : h' = hs := of_decide_eq_true hq
      refine so_seq (nx2 := fun ρ' ds' => ρ' = [some (T.store CS), some (.str T.name), some (.int h'), some (.hd (headD T.cs)), some (plD T.n T.h0 T.rest), some (.lst (rowsD T.rows)), none, none, some (.int num), some (markD mark)] ∧ ds' = rowsD (T.stood hs)) (so_asg (x := moveD (num, h', mark)) (ρ' := [some (T.store CS), some (.str T.name), some (.int h'), some (.hd (headD T.cs)), some (plD T.n T.h0 T.rest), some (.lst (rowsD T.rows)), none, none, some (.int num), some (markD mark)]) (fun S' hS a => ev_dget (k := .inr T.name) hv (ev_moves c e0) e1) (fun S' a => g_three) rfl ⟨rfl, rfl⟩) ?_
      rintro ρ' ds' ⟨rfl, rfl⟩
      cases mark with
      | none =>
        have et : T.taken hs = [] := by
          unfold Tb.taken
          rw [hm]
        exact so_if (R := Eq false) (et_testD (ev_isnot (x := .non) (ev_var rfl))) (fun z => nomatch z) fun _ => so_next ⟨rfl, by rw [et, List.append_nil]⟩
      | some q =>
        have hqr := mo.mark q rfl
        have et : T.taken hs = (T.spanRows num).filter fun r => rowLe r q := by
          unfold Tb.taken
          rw [hm]
          exact if_pos hq
        refine so_if (R := Eq true) (et_testD (ev_isnot (x := .tup q) (ev_var rfl))) (fun _ => so_ext (P := Eq (rowsD (T.taken hs))) (fun S' hS a => ?_) (fun es e => ?_) fun es e => ⟨rfl, by rw [← e, rowsD_app]⟩) fun z => nomatch z
        · rw [et]
          refine en_rows (is := [7]) (fun r => rowLe r q) (ie_list (xs := rowsD (T.spanRows num)) (ev_meth rfl e0 (ea_consD e1 (ea_consD (ev_var rfl) ea_nil)) ⟨T, k, num, rfl, h⟩ fun d q => (q T num rfl).symm)) (by simp) (h.rows.fil _).line fun S' hS r hr => ?_
          have hr1 := h.rows.each r (List.mem_filter.mp hr).1
          exact ⟨_, g_name, et_testD (ev_leR hr1.scs hqr.scs (hr1.same hqr) (ev_var rfl) (ev_var rfl)), ev_var rfl⟩
        · subst e
          have l1 : (rowsD (T.stood hs)).length ≤ 60 := by
            unfold rowsD
            rw [List.length_map]
            exact Nat.le_trans (List.length_filter_le _ _) h.rows.few
          have l2 : (rowsD (T.taken hs)).length ≤ 60 := by
            rw [et]
            unfold rowsD
            rw [List.length_map]
            exact Nat.le_trans (List.length_filter_le _ _) (Nat.le_trans (List.length_filter_le _ _) h.rows.few)
          rw [sizeLine_eq]
          omega
    · have hq : h' ≠ hs := fun z => by
        rw [decide_eq_true z] at hq
        cases hq
      have et : T.taken hs = [] := by
        unfold Tb.taken
        rw [hm]
        cases mark with
        | none => rfl
        | some q => exact if_neg hq
      rw [et, List.append_nil]
end
end Sh
/-! a town's reading methods -/
namespace Sh
open PySem PySem.Spec PyProof.Rows L2
section
variable {K : PySem.W.Frag} {S : Sc} {ρ : Rho} {ta : TE} {C : Addr} {T : Tb}
theorem ev_many (c : TownC K C) (h : Ev K S ta ρ (Eq (T.town C))) : Ev K S (tFld K ta "many") ρ (Eq (.int T.m)) := ev_fld c.cls c.many h rfl
theorem ev_told (c : TownC K C) (h : Ev K S ta ρ (Eq (T.town C))) : Ev K S (tFld K ta "told_heads") ρ (Eq (.dic [(.inr T.name, .hd (headD T.cs))])) := ev_fld c.cls c.told h rfl
theorem ev_plcs (c : TownC K C) (h : Ev K S ta ρ (Eq (T.town C))) : Ev K S (tFld K ta "placings") ρ (Eq (.dic [(.inr T.name, plD T.n T.h0 T.rest)])) := ev_fld c.cls c.placings h rfl
theorem ev_trows (c : TownC K C) (h : Ev K S ta ρ (Eq (T.town C))) : Ev K S (tFld K ta "rows") ρ (Eq (.dic [(.inr T.name, .lst (rowsD T.rows))])) := ev_fld c.cls c.rows h rfl
end
section
variable {P : Program} {w : World} {K : PySem.W.Frag} {mg : Str → Option Value} {base : Heap} {aW aK : Addr} {f : Addr} {fd : FuncData} {CS CT : Addr}
/-- Town.check_name -/
abbrev s_Town_check_name : Stmt := inClass (top 38) 3
theorem sc_Town_check_name : FnScope ["self", "name"] ["self", "name"] (defScope s_Town_check_name) := ⟨rfl, rfl, rfl, by decide +kernel, rfl, by decide +kernel, by decide +kernel⟩
def pre_Town_check_name (CT : Addr) : Sc → List Dat → Prop := fun _ ds => ∃ T k, ds = [T.town CT, .str T.name] ∧ TbOk T k
def post_Town_check_name (CT : Addr) : List Dat → Dat → Prop := fun ds r => r = .non
theorem ok_Town_check_name (F : Fun K "check_name" "Town.check_name" s_Town_check_name f fd) (X : Txt K mg aW aK) (L : Lo P w K mg base) (c : TownC K CT) : FnOk P w K mg base CX0 3 f fd ["self", "name"] (SpD K (pre_Town_check_name CT) (post_Town_check_name CT)) := by
  refine ok_of F sc_Town_check_name (fun S ds h => by obtain ⟨T, k, rfl, h⟩ := h; rfl) fun cdv A outer s H E hr => ?_
  have nd := sc_Town_check_name.nd
  have hu := hr.units
  have hu0 := hr.units0
  have hu1 := hu_of hr
  have hu65 := u65 hr
  refine ⟨_, (pss_one (ps_if (PW.pt (pw_or (pt_not (pt_val (pe_fn L.is_name (hr.mono (by decide)) (pa_cons (pv 1) pa_nil)))) (pw_or1 (pt_cmp (pc_dnotin hu1 (pv 1) (pe_fldK (K := K) rfl (pv 0) rfl)) (by with_unfolding_all rfl))))) pss_never pss_nil)), ?_⟩
  rintro S ds ⟨T, k, rfl, h⟩
  have e0 : Ev K S (tVar 0) [some (T.town CT), some (.str T.name)] (Eq (T.town CT)) := ev_var rfl
  have e1 : Ev K S (tVar 1) [some (T.town CT), some (.str T.name)] (Eq (.str T.name)) := ev_var rfl
  exact s_no (et_or (et_not (et_BD (b := true) (ev_callD (ea_consD e1 ea_nil) ⟨_, rfl, h.name⟩ fun d q => q.symm))) fun _ => et_BD (ev_dnotin (k := .inr T.name) (b := true) (by rw [val_one]; rfl) e1 (ev_trows c e0))) rfl (s_next rfl)
/-- Town.placing -/
abbrev s_Town_placing : Stmt := inClass (top 38) 4
theorem sc_Town_placing : FnScope ["self", "name"] ["self", "name"] (defScope s_Town_placing) := ⟨rfl, rfl, rfl, by decide +kernel, rfl, by decide +kernel, by decide +kernel⟩
def pre_Town_placing (CT : Addr) : Sc → List Dat → Prop := pre_Town_check_name CT
def post_Town_placing (CT : Addr) : List Dat → Dat → Prop := fun ds r => ∀ T : Tb, ds = [T.town CT, .str T.name] → r = plD T.n T.h0 T.rest
theorem ok_Town_placing (F : Fun K "placing" "Town.placing" s_Town_placing f fd) (X : Txt K mg aW aK) (L : Lo P w K mg base) (c : TownC K CT) (m_Town_check_name : Ml P w K mg base CT "check_name" 3 ["self", "name"] (SpD K (pre_Town_check_name CT) (post_Town_check_name CT))) : FnOk P w K mg base CX0 4 f fd ["self", "name"] (SpD K (pre_Town_placing CT) (post_Town_placing CT)) := by
  refine ok_of F sc_Town_placing (fun S ds h => by obtain ⟨T, k, rfl, h⟩ := h; rfl) fun cdv A outer s H E hr => ?_
  have nd := sc_Town_placing.nd
  have hu := hr.units
  have hu0 := hr.units0
  have hu1 := hu_of hr
  have hu65 := u65 hr
  refine ⟨_, (pss_cons (ps_expr (pe_mt m_Town_check_name (hr.mono (by decide)) (pv 0) (pa_cons (pv 1) pa_nil)))
      (pss_one (ps_ret (pe_dget hu1 (pe_fldK (K := K) rfl (pv 0) rfl) (pv 1) (fun _ _ => rfl))))), ?_⟩
  rintro S ds ⟨T, k, rfl, h⟩
  have e0 : Ev K S (tVar 0) [some (T.town CT), some (.str T.name)] (Eq (T.town CT)) := ev_var rfl
  have e1 : Ev K S (tVar 1) [some (T.town CT), some (.str T.name)] (Eq (.str T.name)) := ev_var rfl
  refine s_seq (s_drop (P := fun _ => True) (ev_meth rfl e0 (ea_consD e1 ea_nil) ⟨T, k, rfl, h⟩ fun d _ => trivial) ?_)
  refine s_retD (ev_dget (k := .inr T.name) val_one (ev_plcs c e0) e1) fun T' q => ?_
  injection q with q _
  obtain ⟨_, _, a1, a2, a3, _⟩ := town_inj q
  rw [a1, a2, a3]
/-- Town.whole -/
abbrev s_Town_whole : Stmt := inClass (top 38) 5
theorem sc_Town_whole : FnScope ["self", "name"] ["self", "name"] (defScope s_Town_whole) := ⟨rfl, rfl, rfl, by decide +kernel, rfl, by decide +kernel, by decide +kernel⟩
def pre_Town_whole (CT : Addr) : Sc → List Dat → Prop := pre_Town_check_name CT
def post_Town_whole (CT : Addr) : List Dat → Dat → Prop := fun ds r => ∀ T : Tb, ds = [T.town CT, .str T.name] → r = .lst (rowsD T.rows)
theorem ok_Town_whole (F : Fun K "whole" "Town.whole" s_Town_whole f fd) (X : Txt K mg aW aK) (L : Lo P w K mg base) (c : TownC K CT) (m_Town_check_name : Ml P w K mg base CT "check_name" 3 ["self", "name"] (SpD K (pre_Town_check_name CT) (post_Town_check_name CT))) : FnOk P w K mg base CX0 4 f fd ["self", "name"] (SpD K (pre_Town_whole CT) (post_Town_whole CT)) := by
  refine ok_of F sc_Town_whole (fun S ds h => by obtain ⟨T, k, rfl, h⟩ := h; rfl) fun cdv A outer s H E hr => ?_
  have nd := sc_Town_whole.nd
  have hu := hr.units
  have hu0 := hr.units0
  have hu1 := hu_of hr
  have hu65 := u65 hr
  refine ⟨_, (pss_cons (ps_expr (pe_mt m_Town_check_name (hr.mono (by decide)) (pv 0) (pa_cons (pv 1) pa_nil)))
      (pss_one (ps_ret (pe_list X.b (pe_dget hu1 (pe_fldK (K := K) rfl (pv 0) rfl) (pv 1) (fun _ _ => rfl)))))), ?_⟩
  rintro S ds ⟨T, k, rfl, h⟩
  have e0 : Ev K S (tVar 0) [some (T.town CT), some (.str T.name)] (Eq (T.town CT)) := ev_var rfl
  have e1 : Ev K S (tVar 1) [some (T.town CT), some (.str T.name)] (Eq (.str T.name)) := ev_var rfl
  refine s_seq (s_drop (P := fun _ => True) (ev_meth rfl e0 (ea_consD e1 ea_nil) ⟨T, k, rfl, h⟩ fun d _ => trivial) ?_)
  refine s_retD (ev_listL (ev_dget (k := .inr T.name) val_one (ev_trows c e0) e1)) fun T' q => ?_
  injection q with q _
  obtain ⟨_, _, _, _, _, _, a⟩ := town_inj q
  rw [a]
/-- Town.heads -/
abbrev s_Town_heads : Stmt := inClass (top 38) 2
theorem sc_Town_heads : FnScope ["self"] ["self"] (defScope s_Town_heads) := ⟨rfl, rfl, rfl, by decide +kernel, rfl, by decide +kernel, by decide +kernel⟩
/-- Town.part -/
abbrev s_Town_part : Stmt := inClass (top 38) 7
theorem sc_Town_part : FnScope ["self", "name", "house", "head", "row"] ["self", "name", "house"] (defScope s_Town_part) := ⟨rfl, rfl, rfl, by decide +kernel, rfl, by decide +kernel, by decide +kernel⟩
def pre_Town_part (CT : Addr) : Sc → List Dat → Prop := fun _ ds => ∃ T k hs, ds = [T.town CT, .str T.name, .int hs] ∧ TbOk T k ∧ 0 ≤ hs ∧ hs < T.m
def post_Town_part (CT : Addr) : List Dat → Dat → Prop := fun ds r => ∀ (T : Tb) hs, ds = [T.town CT, .str T.name, .int hs] → r = .lst (rowsD (T.stood hs))
theorem ok_Town_part (F : Fun K "part" "Town.part" s_Town_part f fd) (X : Txt K mg aW aK) (L : Lo P w K mg base) (c : TownC K CT) (m_Town_check_name : Ml P w K mg base CT "check_name" 3 ["self", "name"] (SpD K (pre_Town_check_name CT) (post_Town_check_name CT))) : FnOk P w K mg base CX0 4 f fd ["self", "name", "house"] (SpD K (pre_Town_part CT) (post_Town_part CT)) := by
  refine ok_of F sc_Town_part (fun S ds h => by obtain ⟨T, k, hs, rfl, h, h1, h2⟩ := h; rfl) fun cdv A outer s H E hr => ?_
  have nd := sc_Town_part.nd
  have hu := hr.units
  have hu0 := hr.units0
  have hu1 := hu_of hr
  have hu65 := u65 hr
  refine ⟨_, (pss_cons (ps_expr (pe_mt m_Town_check_name (hr.mono (by decide)) (pv 0) (pa_cons (pv 1) pa_nil)))
      (pss_cons (ps_if (pt_not (pt_val (pe_fn L.is_house (hr.mono (by decide)) (pa_cons (pv 2) (pa_cons (pe_fldK (K := K) rfl (pv 0) rfl) pa_nil))))) pss_never pss_nil)
      (pss_cons (ps_set (i := 3) nd rfl (by first | exact Or.inl rfl | exact Or.inr rfl) (pe_dget hu1 (pe_fldK (K := K) rfl (pv 0) rfl) (pv 1) (fun _ _ => rfl)))
      (pss_one (ps_ret (pe_lc rfl nd (pi_list (pe_dget hu1 (pe_fldK (K := K) rfl (pv 0) rfl) (pv 1) (fun _ _ => rfl))) (blkOk_by (own := [("row", 4)]) (N := ["self", "name", "house", "head", "row"]) (sc := defScope s_Town_part) (by decide +kernel)) (fun _ _ _ _ _ => (pg_name (i := 4) nd rfl (by first | exact Or.inl rfl | exact Or.inr rfl))) (fun _ _ _ _ _ => (pts_one (pt_cmpR (r := rIn K false) op_in_seq (pv 2) (pe_fn L.houses_of (hr.mono (by decide)) (pa_cons (pv 3) (pa_cons (pe_dget hu1 (pe_fldK (K := K) rfl (pv 0) rfl) (pv 1) (fun _ _ => rfl)) (pa_cons (pv 4) (pa_cons (pe_fldK (K := K) rfl (pv 0) rfl) pa_nil))))) (by with_unfolding_all rfl)))) (fun _ _ _ _ _ => (pv 4)))))))), ?_⟩
  rintro S ds ⟨T, k, hs, rfl, h, h1, h2⟩
  have e0 : ∀ {S : Sc} {a b c d : Option Dat}, Ev K S (tVar 0) [some (T.town CT), a, b, c, d] (Eq (T.town CT)) := ev_var rfl
  have e1 : ∀ {S : Sc} {a b c d : Option Dat}, Ev K S (tVar 1) [a, some (.str T.name), b, c, d] (Eq (.str T.name)) := ev_var rfl
  have e2 : ∀ {S : Sc} {a b c d : Option Dat}, Ev K S (tVar 2) [a, b, some (.int hs), c, d] (Eq (.int hs)) := ev_var rfl
  refine s_seq (s_drop (P := fun _ => True) (ev_meth rfl e0 (ea_consD e1 ea_nil) ⟨T, k, rfl, h⟩ fun d _ => trivial) ?_)
  refine s_skip (et_not (et_BD (b := true) (ev_callD (ea_consD e2 (ea_consD (ev_many c e0) ea_nil)) ⟨hs, T.m, rfl, h1, h2⟩ fun d q => q.symm))) rfl ?_
  refine s_seq (s_setD (ev_dget (k := .inr T.name) val_one (ev_told c e0) e1) ?_)
  refine s_retD (ev_rows (is := [4]) (fun r => decide (T.house r = hs)) (ie_list (xs := rowsD T.rows) (ev_dget (k := .inr T.name) val_one (ev_trows c e0) e1)) (by simp) h.rows.line fun S' hS r hr => ?_) fun T' hs' q => ?_
  · have hr1 := h.rows.each r hr
    exact ⟨_, g_name, (et_testD (ev_inL (b := false) (x := .int hs) (ds := [.int (T.house r)]) rfl (fun d hd => by rw [List.mem_singleton.mp hd]; rfl) e2 (ev_callD (ea_consD (ev_un (ev_var rfl)) (ea_consD (ev_dget (k := .inr T.name) val_one (ev_plcs c e0) e1) (ea_consD (ev_var rfl) (ea_consD (ev_many c e0) ea_nil)))) ⟨T.cs, T.m, T.n, k, T.h0, T.rest, r, rfl, h.pl, hr1⟩ fun d q => (q _ _ _ _ _ _ rfl).symm))).is in_one, ev_var rfl⟩
  · injection q with q q2
    injection q2 with _ q2
    injection q2 with q2 _
    injection q2 with q2
    obtain ⟨a1, _, a2, a3, a4, _, a5⟩ := town_inj q
    unfold Tb.stood Tb.house
    rw [a1, a2, a3, a4, a5, q2]
end
end Sh
/-! order: sorted lists are one by their items -/
namespace Sh
open PySem PySem.Spec PyProof.Rows L2
section
variable {α : Type} {le : α → α → Bool}
theorem one_of_perm : ∀ {l m : List α}, l.Perm m → l.Pairwise (fun a b => le a b = true) → m.Pairwise (fun a b => le a b = true) → (∀ a ∈ l, ∀ b ∈ l, le a b = true → le b a = true → a = b) → l = m
  | [], m, h, _, _, _ => by rw [List.nil_perm.mp h]
  | a :: l, [], h, _, _, _ => by cases List.perm_nil.mp h
  | a :: l, b :: m, h, s1, s2, an => by
    have e : a = b := by
      have hb : b ∈ a :: l := h.mem_iff.mpr List.mem_cons_self
      have ha : a ∈ b :: m := h.mem_iff.mp List.mem_cons_self
      rcases List.mem_cons.mp ha with e | ha
      · exact e
      · rcases List.mem_cons.mp hb with e | hb
        · exact e.symm
        · exact an a List.mem_cons_self b (List.mem_cons_of_mem _ hb) (List.rel_of_pairwise_cons s1 hb) (List.rel_of_pairwise_cons s2 ha)
    subst e
    rw [one_of_perm (List.perm_cons a |>.mp h) (List.pairwise_cons.mp s1).2 (List.pairwise_cons.mp s2).2 fun x hx y hy => an x (List.mem_cons_of_mem _ hx) y (List.mem_cons_of_mem _ hy)]
end
theorem dle_tot : PySem.W.TotalLe dle := PySem.W.sortLe_total (listOrd itemOrd) false fun b : Dat => PySem.W.keyToks b.py
theorem srt_perm (ds : List Dat) : (srt ds).Perm ds := List.mergeSort_perm ds dle
theorem srt_sorted (ds : List Dat) : (srt ds).Pairwise fun a b => dle a b = true := List.pairwise_mergeSort (fun a b c => dle_tot.trans a b c) (fun a b => by rw [Bool.or_eq_true]; exact dle_tot.total a b) ds
theorem toks_inj {d e : Dat} (al : PySem.W.alike d.py e.py = true) (fd : d.fine = true) (fe : e.fine = true) (h : PySem.W.keyToks d.py = PySem.W.keyToks e.py) : d = e := by
  obtain ⟨_, q⟩ := PySem.W.toks_eqv d.py e.py al
  cases c : PyData.eqv d.py e.py with
  | true => exact (eqv_fine d e fd fe).mp c
  | false =>
    have z := q c [] [Sum.inl 0]
    rw [h, lex_irrefl (O := itemOrd), PySem.W.lex_pre] at z
    exact absurd z (by decide)
theorem dle_anti {d e : Dat} (al : PySem.W.alike d.py e.py = true) (fd : d.fine = true) (fe : e.fine = true) (h1 : dle d e = true) (h2 : dle e d = true) : d = e := by
  refine toks_inj al fd fe ?_
  have h1 : (!PyProof.Rows.lexLt itemOrd (PySem.W.keyToks e.py) (PySem.W.keyToks d.py)) = true := h1
  have h2 : (!PyProof.Rows.lexLt itemOrd (PySem.W.keyToks d.py) (PySem.W.keyToks e.py)) = true := h2
  rw [Bool.not_eq_true'] at h1 h2
  exact lex_total (O := itemOrd) _ _ h2 h1
/-- sorted lists of the same data are one -/
theorem sorted_one {l m : List Dat} (c : CanSort l) (h : l.Perm m) (s1 : l.Pairwise fun a b => dle a b = true) (s2 : m.Pairwise fun a b => dle a b = true) : l = m :=
  one_of_perm h s1 s2 fun a ha b hb h1 h2 => dle_anti (c.al _ (List.mem_map.mpr ⟨a, ha, rfl⟩) _ (List.mem_map.mpr ⟨b, hb, rfl⟩)) (c.fine a ha).fine (c.fine b hb).fine h1 h2
theorem srt_one {l m : List Dat} (c : CanSort l) (h : l.Perm m) : srt l = srt m :=
  sorted_one (canSort_perm (srt_perm l) c) ((srt_perm l).trans (h.trans (srt_perm m).symm)) (srt_sorted l) (srt_sorted m)
theorem srt_self {l : List Dat} (c : CanSort l) (s : l.Pairwise fun a b => dle a b = true) : srt l = l :=
  sorted_one (canSort_perm (srt_perm l) c) (srt_perm l) (srt_sorted l) s
/-! rows -/
noncomputable def srtR (rows : List Row) : List Row := (srt (rowsD rows)).map rowOf
theorem srtR_d (rows : List Row) : rowsD (srtR rows) = srt (rowsD rows) := by
  unfold srtR rowsD
  rw [List.map_map]
  refine (List.map_congr_left fun d hd => ?_).trans (List.map_id _)
  have := (srt_perm _).mem_iff.mp hd
  obtain ⟨r, _, rfl⟩ := List.mem_map.mp this
  rfl
theorem rowOf_d (rows : List Row) : (rowsD rows).map rowOf = rows := by
  unfold rowsD
  rw [List.map_map]
  exact List.map_id _
theorem srtR_perm (rows : List Row) : (srtR rows).Perm rows := by
  have h := (srt_perm (rowsD rows)).map rowOf
  rw [rowOf_d] at h
  exact h
def leR (a b : Row) : Bool := dle (.tup a) (.tup b)
theorem srtR_sorted (rows : List Row) : (srtR rows).Pairwise fun a b => leR a b = true := by
  have h := srt_sorted (rowsD rows)
  rw [← srtR_d] at h
  unfold rowsD at h
  exact List.pairwise_map.mp h
theorem rows_one {cs : Cols} {a b : List Row} (hc : HeadOk cs) (ha : ∀ r ∈ a, RowK cs r) (h : a.Perm b) (s1 : a.Pairwise fun x y => leR x y = true) (s2 : b.Pairwise fun x y => leR x y = true) : a = b :=
  one_of_perm h s1 s2 fun x hx y hy h1 h2 => by
    have := dle_anti (d := .tup x) (e := .tup y) (rowk_alike (ha x hx) (ha y hy)) ((ha x hx).eqn (n := 1)).fine ((ha y hy).eqn (n := 1)).fine h1 h2
    injection this
theorem srtR_one {cs : Cols} {a b : List Row} (hc : HeadOk cs) (ha : ∀ r ∈ a, RowK cs r) (h : a.Perm b) : srtR a = srtR b :=
  rows_one hc (fun r hr => ha r ((srtR_perm a).mem_iff.mp hr)) ((srtR_perm a).trans (h.trans (srtR_perm b).symm)) (srtR_sorted a) (srtR_sorted b)
theorem srtR_self {cs : Cols} {a : List Row} (hc : HeadOk cs) (ha : ∀ r ∈ a, RowK cs r) (s : a.Pairwise fun x y => leR x y = true) : srtR a = a :=
  rows_one hc (fun r hr => ha r ((srtR_perm a).mem_iff.mp hr)) (srtR_perm a) (srtR_sorted a) s
theorem srtR_fil {cs : Cols} {a : List Row} (hc : HeadOk cs) (ha : ∀ r ∈ a, RowK cs r) (f : Row → Bool) : srtR (a.filter f) = (srtR a).filter f :=
  rows_one hc (fun r hr => ha r (List.mem_filter.mp ((srtR_perm _).mem_iff.mp hr)).1) ((srtR_perm _).trans ((srtR_perm a).filter f).symm) (srtR_sorted _) ((srtR_sorted a).filter f)
theorem srtR_srtR {cs : Cols} {a : List Row} (hc : HeadOk cs) (ha : ∀ r ∈ a, RowK cs r) : srtR (srtR a) = srtR a :=
  srtR_self hc (fun r hr => ha r ((srtR_perm a).mem_iff.mp hr)) (srtR_sorted a)
theorem srtR_len (a : List Row) : (srtR a).length = a.length := (srtR_perm a).length_eq
/-! lists put together -/
def rCatL (K : PySem.W.Frag) : R2 := fun x y H Q => ∃ l b xs zs, x = .ref l ∧ y = .ref b ∧ SqL K H l xs ∧ SqL K H b zs ∧ xs.length + zs.length ≤ sizeLine ∧ ∀ p, H p = none → Q (.ref p) (upd H p (.lst (xs ++ zs)))
theorem op_catL {X : Cx} : OpR X (binaryOp .Add) (rCatL X.K) := by
  intro pins s σ H x y v u Q I rx ry h
  obtain ⟨l, b, xs, zs, rfl, rfl, hH, hB, hz, q⟩ := h
  cases rx
  cases ry
  obtain ⟨its, r, p1, z1⟩ := I.list hH
  obtain ⟨its2, r2, p2, z2⟩ := I.list hB
  obtain ⟨⟨cls, dd, data, sl⟩, ho, hc, n, hd⟩ := p1.isList
  obtain ⟨⟨cls2, dd2, data2, sl2⟩, ho2, hc2, n2, hd2⟩ := p2.isList
  simp only at hc hd hc2 hd2
  subst hc hd hc2 hd2
  have e : its.toArray ++ its2.toArray = (its ++ its2).toArray := by simp
  have l1 := r.length
  have l2 := r2.length
  refine concat_meets ⟨_, ho, rfl⟩ ⟨_, ho2, rfl⟩ noFill_list_add seq_list_add PySem.F.slot_list_add PySem.F.entry_list_add (PySem.F.args_list_add_2 _ _) (list_addW l b its.toArray its2.toArray n n2 dd dd2 sl sl2 (by simp only [List.size_toArray]; omega)) ⟨ho, ho2, ?_⟩
  rw [e]
  exact ⟨.ref _, _, I.lnew (t' := s.toks) (r.append r2) (by rw [List.length_append]; omega), rfl, q _ I.fresh⟩
section
variable {K : PySem.W.Frag} {S : Sc} {ρ : Rho} {ta tb : TE}
theorem ev_catL {xs ys : List Dat} (hl : xs.length + ys.length ≤ sizeLine) (ha : Ev K S ta ρ (Eq (.lst xs))) (hb : Ev K S tb ρ (Eq (.lst ys))) : Ev K S (tOp (rCatL K) ta tb) ρ (Eq (.lst (xs ++ ys))) := ev_opD ha hb fun v u H a b s Q q => by
  cases a with
  | @lst a0 vs _ n1 h1 r1 =>
    cases b with
    | @lst b0 ws _ n2 h2 r2 =>
      exact ⟨_, _, _, _, rfl, rfl, h1, h2, by rw [r1.length, r2.length]; exact hl, fun p hp => q _ _ _ (.new hp) (s.new hp) rfl (.lst (.inl (s.ne hp)) (SqL.of upd_same) ((r1.mono (.new hp)).append (r2.mono (.new hp))))⟩
end
end Sh
/-! the law's own reading of a table -/
namespace Sh
open PySem PySem.Spec PyProof.Rows L2
def Tb.law (T : Tb) (tr : List Row) : Dat := .lst [.hd (headD T.cs), plD T.n T.h0 T.rest, .lst (rowsD tr), movD T.mv]
theorem law_inj {T T' : Tb} {tr tr' : List Row} (e : T.law tr = T'.law tr') : T.cs = T'.cs ∧ T.n = T'.n ∧ T.h0 = T'.h0 ∧ T.rest = T'.rest ∧ tr = tr' ∧ T.mv = T'.mv := by
  injection e with e
  injection e with e1 e
  injection e with e2 e
  injection e with e3 e
  injection e with e4 _
  injection e1 with e1
  injection e3 with e3
  obtain ⟨a1, a2, a3⟩ := plD_inj e2
  exact ⟨headD_inj e1, a1, a2, a3, rowsD_inj e3, movD_inj e4⟩
structure LawOk (T : Tb) (k : Str) (tr : List Row) : Prop extends TbOk T k where
  same : T.rows = srtR tr
theorem LawOk.trow {T : Tb} {k : Str} {tr : List Row} (h : LawOk T k tr) : RowsOk T.cs tr := ⟨fun r hr => h.rows.each r (by rw [h.same]; exact (srtR_perm tr).mem_iff.mpr hr), by
  have := h.rows.few
  rw [h.same, srtR_len] at this
  exact this⟩
theorem srt_fil {cs : Cols} {a : List Row} (hc : HeadOk cs) (ha : ∀ r ∈ a, RowK cs r) (f : Row → Bool) : srt (rowsD (a.filter f)) = rowsD ((srtR a).filter f) := by rw [← srtR_d, srtR_fil hc ha]
/-- the law's defs below -/
structure Lw (P : Program) (w : World) (K : PySem.W.Frag) (mg : Str → Option Value) (base : Heap) : Prop where
  u : True := trivial
section
variable {P : Program} {w : World} {K : PySem.W.Frag} {mg : Str → Option Value} {base : Heap} {aW aK : Addr} {f : Addr} {fd : FuncData} {CS CT : Addr}
/-- _law_span -/
abbrev s_law_span : Stmt := top 52
theorem sc_law_span : FnScope ["_law_cuts", "_law_value_here", "_law_low", "_law_house"] ["_law_cuts", "_law_value_here"] (defScope s_law_span) := ⟨rfl, rfl, rfl, by decide +kernel, rfl, by decide +kernel, by decide +kernel⟩
def pre_law_span : Sc → List Dat → Prop := pre_span_of
def post_law_span : List Dat → Dat → Prop := post_span_of
theorem ok_law_span (F : Fun K "_law_span" "_law_span" s_law_span f fd) (X : Txt K mg aW aK) : FnOk P w K mg base CX0 1 f fd ["_law_cuts", "_law_value_here"] (SpD K pre_law_span post_law_span) := by
  refine ok_of F sc_law_span (fun S ds h => by obtain ⟨k, m, h0, rest, v, rfl, hc, hv⟩ := h; rfl) fun cdv A outer s H E hr => ?_
  have nd := sc_law_span.nd
  have hu := hr.units
  have hu0 := hr.units0
  have hu1 := hu_of hr
  have hu65 := u65 hr
  refine ⟨_, (pss_one (ps_ret (pe_len X.b (pe_lc rfl nd (pi_tup (pe_slice sl_tupA (pv 0) (po_some pe_int) po_none)) (blkOk_by (own := [("_law_low", 2), ("_law_house", 3)]) (N := ["_law_cuts", "_law_value_here", "_law_low", "_law_house"]) (sc := defScope s_law_span) (by decide +kernel)) (fun _ _ _ _ _ => (pg_tupK (K := K) (n := 2) rfl rfl (pgs_cons (pg_name (i := 2) nd rfl (by first | exact Or.inl rfl | exact Or.inr rfl)) (pgs_cons (pg_name (i := 3) nd rfl (by first | exact Or.inl rfl | exact Or.inr rfl)) pgs_nil)))) (fun _ _ _ _ _ => (pts_one (pt_cmpR op_leS (pv 2) (pv 1) (nomark _)))) (fun _ _ _ _ _ => (pv 2)))))), ?_⟩
  rintro S ds ⟨k, m, h0, rest, v, rfl, hc, hv⟩
  have hl : (rest.map cutD1).length < sizeLine := by
    rw [List.length_map]
    exact Nat.lt_of_le_of_lt hc.most (by decide)
  refine s_retD (ev_lenL (ev_lcFil (xs := rest.map cutD1) (is := [2, 3]) (fun d => sLe (firstD d) v) firstD (ie_tup ((ev_slT (xs := cutsD h0 rest) (ev_var rfl) (eo_some ev_int) eo_none).is (by unfold cutsD; rw [cut_one]))) (by simp) hl fun S' hS d hd => ?_)) fun h0' rest' v' q => ?_
  · obtain ⟨c, hcm, rfl⟩ := List.mem_map.mp hd
    exact ⟨_, g_two, et_testD (ev_leS ((hc.each c hcm).1.same hv) (ev_var rfl) (ev_var rfl)), fun _ => ev_var rfl⟩
  · injection q with q1 q2
    injection q1 with q1
    injection q2 with q2
    obtain ⟨_, rfl⟩ := cutsD_inj q1
    subst q2
    rw [List.length_map, List.filter_map, List.length_map]
    unfold spanN
    rw [List.countP_eq_length_filter]
    rfl
/-- _law_spot -/
abbrev s_law_spot : Stmt := top 53
theorem sc_law_spot : FnScope ["_law_head_here", "_law_name", "_law_column", "_law_kind"] ["_law_head_here", "_law_name"] (defScope s_law_spot) := ⟨rfl, rfl, rfl, by decide +kernel, rfl, by decide +kernel, by decide +kernel⟩
def pre_law_spot : Sc → List Dat → Prop := fun _ ds => ∃ cs n k, ds = [.tup (headD cs), .str n] ∧ HeadOk cs ∧ (n, k) ∈ cs
def post_law_spot : List Dat → Dat → Prop := fun ds r => ∀ cs n, ds = [.tup (headD cs), .str n] → r = .int (spotN cs n : Int)
theorem ok_law_spot (F : Fun K "_law_spot" "_law_spot" s_law_spot f fd) (X : Txt K mg aW aK) : FnOk P w K mg base CX0 1 f fd ["_law_head_here", "_law_name"] (SpD K pre_law_spot post_law_spot) := by
  refine ok_of F sc_law_spot (fun S ds h => by obtain ⟨cs, n, k, rfl, hc, hm⟩ := h; rfl) fun cdv A outer s H E hr => ?_
  have nd := sc_law_spot.nd
  have hu := hr.units
  have hu0 := hr.units0
  have hu1 := hu_of hr
  have hu65 := u65 hr
  refine ⟨_, (pss_one (ps_ret (pe_bm PySem.F.plainAttrs_list PySem.F.slot_list_index PySem.F.type_list_index mt_index (pe_lc rfl nd (pi_tup (pv 0)) (blkOk_by (own := [("_law_column", 2), ("_law_kind", 3)]) (N := ["_law_head_here", "_law_name", "_law_column", "_law_kind"]) (sc := defScope s_law_spot) (by decide +kernel)) (fun _ _ _ _ _ => (pg_tupK (K := K) (n := 2) rfl rfl (pgs_cons (pg_name (i := 2) nd rfl (by first | exact Or.inl rfl | exact Or.inr rfl)) (pgs_cons (pg_name (i := 3) nd rfl (by first | exact Or.inl rfl | exact Or.inr rfl)) pgs_nil)))) (fun _ _ _ _ _ => pts_nil) (fun _ _ _ _ _ => (pv 2))) (pa_cons (pv 1) pa_nil)))), ?_⟩
  rintro S ds ⟨cs, n, k, rfl, hc, hm⟩
  have hlen : (headD cs).length = cs.length := List.length_map ..
  refine s_retD (ev_indexL (x := .str n) (xs := cs.map fun c => Dat.str c.1) (j := spotN cs n) rfl (fun d hd => ?_) (by rw [List.getElem?_map, spot_at hc.nd hm]; rfl) (fun m hm => spot_first hm) ?_ (ev_var rfl)) fun cs' n' q => ?_
  · obtain ⟨c, _, rfl⟩ := List.mem_map.mp hd
    rfl
  · refine (ev_lcMapD (is := [2, 3]) firstD (ie_tup (xs := headD cs) (ev_var rfl)) (by simp) (by rw [hlen]; exact Nat.lt_of_le_of_lt hc.most (by decide)) fun S' hS d hd => ?_).is (by rw [nameD_col])
    obtain ⟨c, hcm, rfl⟩ := List.mem_map.mp hd
    exact ⟨_, g_two, ev_var rfl⟩
  · injection q with q1 q2
    injection q1 with q1
    injection q2 with q2 _
    injection q2 with q2
    have := headD_inj q1
    subst this q2
    rfl
end
structure Lx (P : Program) (w : World) (K : PySem.W.Frag) (mg : Str → Option Value) (base : Heap) : Prop where
  law_span : Cl P w K mg base "_law_span" 1 ["_law_cuts", "_law_value_here"] (SpD K pre_law_span post_law_span)
  law_spot : Cl P w K mg base "_law_spot" 1 ["_law_head_here", "_law_name"] (SpD K pre_law_spot post_law_spot)
section
variable {P : Program} {w : World} {K : PySem.W.Frag} {mg : Str → Option Value} {base : Heap} {aW aK : Addr} {f : Addr} {fd : FuncData} {CS CT : Addr}
/-- _law_stood -/
abbrev s_law_stood : Stmt := top 54
theorem sc_law_stood : FnScope ["_law_table", "_law_houses", "_law_house", "_law_head_here", "_law_placing", "_law_rows", "_law_move", "_law_spot_here", "_law_row_here"] ["_law_table", "_law_houses", "_law_house"] (defScope s_law_stood) := ⟨rfl, rfl, rfl, by decide +kernel, rfl, by decide +kernel, by decide +kernel⟩
def pre_law_stood : Sc → List Dat → Prop := fun _ ds => ∃ T k tr m hs, ds = [T.law tr, .int m, .int hs] ∧ LawOk T k tr
def post_law_stood : List Dat → Dat → Prop := fun ds r => ∀ (T : Tb) tr m hs, ds = [T.law tr, .int m, .int hs] → T.rows = srtR tr → r = .lst (rowsD (T.stood hs))
theorem ok_law_stood (F : Fun K "_law_stood" "_law_stood" s_law_stood f fd) (X : Txt K mg aW aK) (L : Lx P w K mg base) : FnOk P w K mg base CX0 2 f fd ["_law_table", "_law_houses", "_law_house"] (SpD K pre_law_stood post_law_stood) := by
  refine ok_of F sc_law_stood (fun S ds h => by obtain ⟨T, k, tr, m, hs, rfl, h⟩ := h; rfl) fun cdv A outer s H E hr => ?_
  have nd := sc_law_stood.nd
  have hu := hr.units
  have hu0 := hr.units0
  have hu1 := hu_of hr
  have hu65 := u65 hr
  refine ⟨_, (pss_cons (ps_asg (pv 0) (pg_lst rfl (pgs_cons (pg_name (i := 3) nd rfl (by first | exact Or.inl rfl | exact Or.inr rfl)) (pgs_cons (pg_name (i := 4) nd rfl (by first | exact Or.inl rfl | exact Or.inr rfl)) (pgs_cons (pg_name (i := 5) nd rfl (by first | exact Or.inl rfl | exact Or.inr rfl)) (pgs_cons (pg_name (i := 6) nd rfl (by first | exact Or.inl rfl | exact Or.inr rfl)) pgs_nil))))))
      (pss_cons (ps_if (pt_cmpR (r := rEqD K) (op_eqD hu) (pe_ix (r := rIx K) ix_seq (pv 4) pe_int (fun _ _ => rfl)) pe_str (nomark _)) pss_never pss_nil)
      (pss_cons (ps_set (i := 7) nd rfl (by first | exact Or.inl rfl | exact Or.inr rfl) (pe_fn L.law_spot (hr.mono (by decide)) (pa_cons (pv 3) (pa_cons (pe_ix (r := rIx K) ix_seq (pv 4) pe_int (fun _ _ => rfl)) pa_nil))))
      (pss_cons (ps_if (pt_cmpR (r := rEqD K) (op_eqD hu) (pe_ix (r := rIx K) ix_seq (pv 4) pe_int (fun _ _ => rfl)) pe_str (nomark _)) pss_never pss_nil)
      (pss_one (ps_ret (pe_srt X.b hu (pe_lc rfl nd (pi_list (pv 5)) (blkOk_by (own := [("_law_row_here", 8)]) (N := ["_law_table", "_law_houses", "_law_house", "_law_head_here", "_law_placing", "_law_rows", "_law_move", "_law_spot_here", "_law_row_here"]) (sc := defScope s_law_stood) (by decide +kernel)) (fun _ _ _ _ _ => (pg_name (i := 8) nd rfl (by first | exact Or.inl rfl | exact Or.inr rfl))) (fun _ _ _ _ _ => (pts_one (pt_cmpR (r := rEqD K) (op_eqD hu) (pe_ix (r := rIx K) ix_seq (pe_ix (r := rIx K) ix_seq (pe_ix (r := rIx K) ix_seq (pv 4) pe_int (fun _ _ => rfl)) (pe_fn L.law_span (hr.mono (by decide)) (pa_cons (pe_ix (r := rIx K) ix_seq (pv 4) pe_int (fun _ _ => rfl)) (pa_cons (pe_ix (r := rIx K) ix_seq (pv 8) (pv 7) (fun _ _ => rfl)) pa_nil))) (fun _ _ => rfl)) pe_int (fun _ _ => rfl)) (pv 2) (nomark _)))) (fun _ _ _ _ _ => (pv 8)))))))))), ?_⟩
  rintro S ds ⟨T, k, tr, m, hs, rfl, h⟩
  refine s_seq (s_asg (x := T.law tr) (ev_var rfl) g_four ?_)
  have e4 : ∀ {S : Sc} {a b c d e f g h : Option Dat}, Ev K S (tVar 4) [a, b, c, d, some (plD T.n T.h0 T.rest), e, f, g, h] (Eq (.tup [.str "spans", .str T.n, .tup (cutsD T.h0 T.rest)])) := ev_var rfl
  refine s_seq (s_no (et_testD (ev_eq (x := .str "spans") (y := .str "copies") (spans_eqn (n := 1)).eqd (EqN.str (n := 1) (by decide +kernel)).eqd (ev_ixT rfl e4 ev_int) ev_str)) ?_ (s_next ?_))
  · exact deq_ne fun z => by
      injection z with z
      exact absurd z (by decide)
  refine s_seq (s_setD (x := .int (spotN T.cs T.n : Int)) (ev_callD (ea_consD (ev_un (xs := headD T.cs) (ev_var rfl)) (ea_consD (ev_ixT rfl e4 ev_int) ea_nil)) ⟨T.cs, T.n, k, rfl, h.pl.head, h.pl.mem⟩ fun d q => (q _ _ rfl).symm) ?_)
  refine s_seq (s_no (et_testD (ev_eq (x := .str "spans") (y := .str "keys") (spans_eqn (n := 1)).eqd (EqN.str (n := 1) (by decide +kernel)).eqd (ev_ixT rfl e4 ev_int) ev_str)) ?_ (s_next ?_))
  · exact deq_ne fun z => by
      injection z with z
      exact absurd z (by decide)
  refine s_retD (ev_srt (rows_sort h.pl.head fun r hr => h.trow.each r (List.mem_filter.mp hr).1) (ev_rows (is := [8]) (fun r => decide (T.house r = hs)) (ie_list (xs := rowsD tr) (ev_var rfl)) (by simp) h.trow.line fun S' hS r hr => ?_)) fun T' tr' m' hs' q hsm => ?_
  · have hr1 := h.trow.each r hr
    have hv := h.toTbOk.valk hr1
    obtain ⟨x, hx2⟩ := cut_at (h0 := T.h0) (span_le (rest := T.rest) (v := valAt r (spotN T.cs T.n)))
    exact ⟨_, g_name, (et_testD (ev_eq (x := .int (T.house r)) (y := .int hs) .int .int (ev_ixT (xs := [x, .int (T.house r)]) rfl (ev_ixT (i := (spanN T.rest (valAt r (spotN T.cs T.n)) : Int)) (atI_nat hx2) (ev_ixT rfl e4 ev_int) (ev_callD (ea_consD (ev_ixT rfl e4 ev_int) (ea_consD (ev_ixT (xs := r) (atI_nat hv.1) (ev_var rfl) (ev_var rfl)) ea_nil)) ⟨k, T.m, T.h0, T.rest, _, rfl, h.pl.cuts, hv.2⟩ fun d q => (q _ _ _ rfl).symm)) ev_int) (ev_var rfl))).is deq_int, ev_var rfl⟩
  · injection q with q q2
    injection q2 with _ q2
    injection q2 with q2 _
    injection q2 with q2
    obtain ⟨a1, a2, a3, a4, a5, _⟩ := law_inj q
    rw [srt_fil h.pl.head h.trow.each, ← h.same]
    have e6 : T'.rows = T.rows := by rw [hsm, h.same, a5]
    unfold Tb.stood Tb.house
    rw [a1, a2, a3, a4, e6, q2]
/-- _law_of_span -/
abbrev s_law_of_span : Stmt := top 55
theorem sc_law_of_span : FnScope ["_law_table", "_law_head_here", "_law_placing", "_law_rows", "_law_move", "_law_spot_here", "_law_row_here"] ["_law_table"] (defScope s_law_of_span) := ⟨rfl, rfl, rfl, by decide +kernel, rfl, by decide +kernel, by decide +kernel⟩
def pre_law_of_span : Sc → List Dat → Prop := fun _ ds => ∃ T k tr x, ds = [T.law tr] ∧ LawOk T k tr ∧ T.mv = some x
def post_law_of_span : List Dat → Dat → Prop := fun ds r => ∀ (T : Tb) tr x, ds = [T.law tr] → T.rows = srtR tr → T.mv = some x → r = .lst (rowsD (T.spanRows x.1))
theorem ok_law_of_span (F : Fun K "_law_of_span" "_law_of_span" s_law_of_span f fd) (X : Txt K mg aW aK) (L : Lx P w K mg base) : FnOk P w K mg base CX0 2 f fd ["_law_table"] (SpD K pre_law_of_span post_law_of_span) := by
  refine ok_of F sc_law_of_span (fun S ds h => by obtain ⟨T, k, tr, x, rfl, h, hm⟩ := h; rfl) fun cdv A outer s H E hr => ?_
  have nd := sc_law_of_span.nd
  have hu := hr.units
  have hu0 := hr.units0
  have hu1 := hu_of hr
  have hu65 := u65 hr
  refine ⟨_, (pss_cons (ps_asg (pv 0) (pg_lst rfl (pgs_cons (pg_name (i := 1) nd rfl (by first | exact Or.inl rfl | exact Or.inr rfl)) (pgs_cons (pg_name (i := 2) nd rfl (by first | exact Or.inl rfl | exact Or.inr rfl)) (pgs_cons (pg_name (i := 3) nd rfl (by first | exact Or.inl rfl | exact Or.inr rfl)) (pgs_cons (pg_name (i := 4) nd rfl (by first | exact Or.inl rfl | exact Or.inr rfl)) pgs_nil))))))
      (pss_cons (ps_set (i := 5) nd rfl (by first | exact Or.inl rfl | exact Or.inr rfl) (pe_fn L.law_spot (hr.mono (by decide)) (pa_cons (pv 1) (pa_cons (pe_ix (r := rIx K) ix_seq (pv 2) pe_int (fun _ _ => rfl)) pa_nil))))
      (pss_one (ps_ret (pe_srt X.b hu (pe_lc rfl nd (pi_list (pv 3)) (blkOk_by (own := [("_law_row_here", 6)]) (N := ["_law_table", "_law_head_here", "_law_placing", "_law_rows", "_law_move", "_law_spot_here", "_law_row_here"]) (sc := defScope s_law_of_span) (by decide +kernel)) (fun _ _ _ _ _ => (pg_name (i := 6) nd rfl (by first | exact Or.inl rfl | exact Or.inr rfl))) (fun _ _ _ _ _ => (pts_one (pt_cmpR (r := rEqD K) (op_eqD hu) (pe_fn L.law_span (hr.mono (by decide)) (pa_cons (pe_ix (r := rIx K) ix_seq (pv 2) pe_int (fun _ _ => rfl)) (pa_cons (pe_ix (r := rIx K) ix_seq (pv 6) (pv 5) (fun _ _ => rfl)) pa_nil))) (pe_ix (r := rIx K) ix_seq (pv 4) pe_int (fun _ _ => rfl)) (nomark _)))) (fun _ _ _ _ _ => (pv 6)))))))), ?_⟩
  rintro S ds ⟨T, k, tr, x, rfl, h, hm⟩
  obtain ⟨num, hs, mark⟩ := x
  have el : T.law tr = .lst [.hd (headD T.cs), plD T.n T.h0 T.rest, .lst (rowsD tr), moveD (num, hs, mark)] := by
    unfold Tb.law
    rw [hm]
    rfl
  refine s_seq (s_asg ((ev_var (d := T.law tr) rfl).is el) g_four ?_)
  have e2 : ∀ {S : Sc} {a b c d e f : Option Dat}, Ev K S (tVar 2) [a, b, some (plD T.n T.h0 T.rest), c, d, e, f] (Eq (.tup [.str "spans", .str T.n, .tup (cutsD T.h0 T.rest)])) := ev_var rfl
  refine s_seq (s_setD (x := .int (spotN T.cs T.n : Int)) (ev_callD (ea_consD (ev_un (xs := headD T.cs) (ev_var rfl)) (ea_consD (ev_ixT rfl e2 ev_int) ea_nil)) ⟨T.cs, T.n, k, rfl, h.pl.head, h.pl.mem⟩ fun d q => (q _ _ rfl).symm) ?_)
  refine s_retD (ev_srt (rows_sort h.pl.head fun r hr => h.trow.each r (List.mem_filter.mp hr).1) (ev_rows (is := [6]) (fun r => decide (T.span r = num)) (ie_list (xs := rowsD tr) (ev_var rfl)) (by simp) h.trow.line fun S' hS r hr => ?_)) fun T' tr' x' q hsm hm' => ?_
  · have hr1 := h.trow.each r hr
    have hv := h.toTbOk.valk hr1
    exact ⟨_, g_name, (et_testD (ev_eq (x := .int (T.span r)) (y := .int num) .int .int (ev_callD (ea_consD (ev_ixT rfl e2 ev_int) (ea_consD (ev_ixT (xs := r) (atI_nat hv.1) (ev_var rfl) (ev_var rfl)) ea_nil)) ⟨k, T.m, T.h0, T.rest, _, rfl, h.pl.cuts, hv.2⟩ fun d q => (q _ _ _ rfl).symm) (ev_ixT (xs := [.int num, .int hs, markD mark]) rfl (ev_var rfl) ev_int))).is deq_int, ev_var rfl⟩
  · injection q with q _
    obtain ⟨a1, a2, a3, a4, a5, a6⟩ := law_inj q
    rw [hm, hm'] at a6
    cases a6
    rw [srt_fil h.pl.head h.trow.each, ← h.same]
    have e6 : T'.rows = T.rows := by rw [hsm, h.same, a5]
    unfold Tb.spanRows Tb.span
    rw [a1, a2, a4, e6]
end
end Sh
/-! the law's own reading of a table, above and stands -/
namespace Sh
open PySem PySem.Spec PyProof.Rows L2
structure Ly (P : Program) (w : World) (K : PySem.W.Frag) (mg : Str → Option Value) (base : Heap) : Prop where
  law_stood : Cl P w K mg base "_law_stood" 2 ["_law_table", "_law_houses", "_law_house"] (SpD K pre_law_stood post_law_stood)
  law_of_span : Cl P w K mg base "_law_of_span" 2 ["_law_table"] (SpD K pre_law_of_span post_law_of_span)
section
variable {P : Program} {w : World} {K : PySem.W.Frag} {mg : Str → Option Value} {base : Heap} {aW aK : Addr} {f : Addr} {fd : FuncData} {CS CT : Addr}
theorem law_mv {T : Tb} {tr : List Row} {x : Int × Int × Option Row} (hm : T.mv = some x) : T.law tr = .lst [.hd (headD T.cs), plD T.n T.h0 T.rest, .lst (rowsD tr), moveD x] := by
  unfold Tb.law
  rw [hm]
  rfl
/-- _law_above -/
abbrev s_law_above : Stmt := top 59
theorem sc_law_above : FnScope ["_law_table", "_law_number", "_law_house", "_law_mark", "_law_row_here"] ["_law_table"] (defScope s_law_above) := ⟨rfl, rfl, rfl, by decide +kernel, rfl, by decide +kernel, by decide +kernel⟩
def pre_law_above : Sc → List Dat → Prop := pre_law_of_span
def post_law_above : List Dat → Dat → Prop := fun ds r => ∀ (T : Tb) tr x, ds = [T.law tr] → T.rows = srtR tr → T.mv = some x → r = .lst (rowsD (T.above x))
theorem ok_law_above (F : Fun K "_law_above" "_law_above" s_law_above f fd) (X : Txt K mg aW aK) (L : Ly P w K mg base) : FnOk P w K mg base CX0 3 f fd ["_law_table"] (SpD K pre_law_above post_law_above) := by
  refine ok_of F sc_law_above (fun S ds h => by obtain ⟨T, k, tr, x, rfl, h, hm⟩ := h; rfl) fun cdv A outer s H E hr => ?_
  have nd := sc_law_above.nd
  have hu := hr.units
  have hu0 := hr.units0
  have hu1 := hu_of hr
  have hu65 := u65 hr
  refine ⟨_, (pss_cons (ps_asg (pe_ix (r := rIx K) ix_seq (pv 0) pe_int (fun _ _ => rfl)) (pg_tup rfl (pgs_cons (pg_name (i := 1) nd rfl (by first | exact Or.inl rfl | exact Or.inr rfl)) (pgs_cons (pg_name (i := 2) nd rfl (by first | exact Or.inl rfl | exact Or.inr rfl)) (pgs_cons (pg_name (i := 3) nd rfl (by first | exact Or.inl rfl | exact Or.inr rfl)) pgs_nil)))))
      (pss_one (ps_ret (pe_lc rfl nd (pi_list (pe_fn L.law_of_span (hr.mono (by decide)) (pa_cons (pv 0) pa_nil))) (blkOk_by (own := [("_law_row_here", 4)]) (N := ["_law_table", "_law_number", "_law_house", "_law_mark", "_law_row_here"]) (sc := defScope s_law_above) (by decide +kernel)) (fun _ _ _ _ _ => (pg_name (i := 4) nd rfl (by first | exact Or.inl rfl | exact Or.inr rfl))) (fun _ _ _ _ _ => (pts_one (PW.pt (pw_or (pt_cmpR op_is0 (pv 3) pe_non (nomark _)) (pw_or1 (pt_cmpR (r := rTup tupGt K) (op_gtR hu0) (pv 4) (pv 3) (nomark _))))))) (fun _ _ _ _ _ => (pv 4)))))), ?_⟩
  rintro S ds ⟨T, k, tr, x, rfl, h, hm⟩
  have mo := h.mv x hm
  have e0 : ∀ {S : Sc} {a b c d : Option Dat}, Ev K S (tVar 0) [some (T.law tr), a, b, c, d] (Eq (T.law tr)) := ev_var rfl
  obtain ⟨num, hs, mark⟩ := x
  refine s_seq (s_asg (x := moveD (num, hs, mark)) (ev_ixL rfl (e0.is (law_mv hm)) ev_int) g_three ?_)
  refine s_retD (ev_rows (is := [4]) (fun r => aboveM mark r) (ie_list (xs := rowsD (T.spanRows num)) (ev_callD (ea_consD e0 ea_nil) ⟨T, k, tr, _, rfl, h, hm⟩ fun d q => (q T tr _ rfl h.same hm).symm)) (by simp) (h.rows.fil _).line fun S' hS r hr => ?_) fun T' tr' x' q hsm hm' => ?_
  · have hr1 := h.rows.each r (List.mem_filter.mp hr).1
    refine ⟨_, g_name, ?_, ev_var rfl⟩
    cases mark with
    | none => exact et_orT (et_testD (ev_is (x := .non) (ev_var rfl))) rfl
    | some q =>
      have hq := mo.mark q rfl
      exact (et_or (et_testD (ev_is (x := .tup q) (ev_var rfl))) fun _ => et_testD (ev_gtR hr1.scs hq.scs (hr1.same hq) (ev_var rfl) (ev_var rfl))).is rfl
  · injection q with q _
    obtain ⟨a1, a2, a3, a4, a5, a6⟩ := law_inj q
    rw [hm, hm'] at a6
    cases a6
    have e6 : T'.rows = T.rows := by rw [hsm, h.same, a5]
    unfold Tb.above Tb.spanRows Tb.span
    rw [a1, a2, a4, e6]
/-- _law_stands -/
abbrev s_law_stands : Stmt := top 56
theorem sc_law_stands : FnScope ["_law_table", "_law_houses", "_law_house", "_law_found", "_law_move", "_law_row_here"] ["_law_table", "_law_houses", "_law_house"] (defScope s_law_stands) := ⟨rfl, rfl, rfl, by decide +kernel, rfl, by decide +kernel, by decide +kernel⟩
def pre_law_stands : Sc → List Dat → Prop := pre_law_stood
def post_law_stands : List Dat → Dat → Prop := fun ds r => ∀ (T : Tb) tr m hs, ds = [T.law tr, .int m, .int hs] → T.rows = srtR tr → r = .lst (srt (rowsD (T.stood hs ++ T.taken hs)))
theorem ok_law_stands (F : Fun K "_law_stands" "_law_stands" s_law_stands f fd) (X : Txt K mg aW aK) (L : Ly P w K mg base) : FnOk P w K mg base CX0 3 f fd ["_law_table", "_law_houses", "_law_house"] (SpD K pre_law_stands post_law_stands) := by
  refine ok_of F sc_law_stands (fun S ds h => by obtain ⟨T, k, tr, m, hs, rfl, h⟩ := h; rfl) fun cdv A outer s H E hr => ?_
  have nd := sc_law_stands.nd
  have hu := hr.units
  have hu0 := hr.units0
  have hu1 := hu_of hr
  have hu65 := u65 hr
  refine ⟨_, (pss_cons (ps_set (i := 3) nd rfl (by first | exact Or.inl rfl | exact Or.inr rfl) (pe_fn L.law_stood (hr.mono (by decide)) (pa_cons (pv 0) (pa_cons (pv 1) (pa_cons (pv 2) pa_nil)))))
      (pss_cons (ps_set (i := 4) nd rfl (by first | exact Or.inl rfl | exact Or.inr rfl) (pe_ix (r := rIx K) ix_seq (pv 0) pe_int (fun _ _ => rfl)))
      (pss_cons (ps_if (PW.pt (pw_and (pt_cmpR op_isnot0 (pv 4) pe_non (nomark _)) (pw_and (pt_cmpR (r := rEqD K) (op_eqD hu) (pe_ix (r := rIx K) ix_seq (pv 4) pe_int (fun _ _ => rfl)) (pv 2) (nomark _)) (pw_and1 (pt_cmpR op_isnot0 (pe_ix (r := rIx K) ix_seq (pv 4) pe_int (fun _ _ => rfl)) pe_non (nomark _)))))) (pss_one (ps_set (i := 3) nd rfl (by first | exact Or.inl rfl | exact Or.inr rfl) (pe_op (r := rCatL K) op_catL (pv 3) (pe_lc rfl nd (pi_list (pe_fn L.law_of_span (hr.mono (by decide)) (pa_cons (pv 0) pa_nil))) (blkOk_by (own := [("_law_row_here", 5)]) (N := ["_law_table", "_law_houses", "_law_house", "_law_found", "_law_move", "_law_row_here"]) (sc := defScope s_law_stands) (by decide +kernel)) (fun _ _ _ _ _ => (pg_name (i := 5) nd rfl (by first | exact Or.inl rfl | exact Or.inr rfl))) (fun _ _ _ _ _ => (pts_one (pt_cmpR (r := rTup tupLe K) (op_leR hu0) (pv 5) (pe_ix (r := rIx K) ix_seq (pv 4) pe_int (fun _ _ => rfl)) (nomark _)))) (fun _ _ _ _ _ => (pv 5)))))) pss_nil)
      (pss_one (ps_ret (pe_srt X.b hu (pv 3))))))), ?_⟩
  rintro S ds ⟨T, k, tr, m, hs, rfl, h⟩
  have e0 : ∀ {S : Sc} {a b c d e : Option Dat}, Ev K S (tVar 0) [some (T.law tr), a, b, c, d, e] (Eq (T.law tr)) := ev_var rfl
  have e2 : ∀ {S : Sc} {a b c d e : Option Dat}, Ev K S (tVar 2) [a, b, some (.int hs), c, d, e] (Eq (.int hs)) := ev_var rfl
  have cs : CanSort (rowsD (T.stood hs ++ T.taken hs)) := rows_sort h.pl.head fun r hr => by
    rcases List.mem_append.mp hr with hr | hr
    · exact h.rows.each r (List.mem_filter.mp hr).1
    · unfold Tb.taken at hr
      split at hr
      · split at hr
        · exact h.rows.each r (List.mem_filter.mp (List.mem_filter.mp hr).1).1
        · cases hr
      · cases hr
  have fin : post_law_stands [T.law tr, .int m, .int hs] (.lst (srt (rowsD (T.stood hs ++ T.taken hs)))) := fun T' tr' m' hs' q hsm => by
    injection q with q q2
    injection q2 with _ q2
    injection q2 with q2 _
    injection q2 with q2
    obtain ⟨a1, a2, a3, a4, a5, a6⟩ := law_inj q
    have e6 : T'.rows = T.rows := by rw [hsm, h.same, a5]
    unfold Tb.stood Tb.taken Tb.house Tb.spanRows Tb.span
    rw [a1, a2, a3, a4, a6, e6, q2]
  have endS : ∀ {ρ : Rho} {b : List Row}, ρ[3]? = some (some (.lst (rowsD (T.stood hs ++ b)))) → T.taken hs = b → SEv K S (tRet (tCB (rSrt K) (tCons (tVar 3) tNil))) ρ { nx := fun _ => post_law_stands [T.law tr, .int m, .int hs] .non, rt := post_law_stands [T.law tr, .int m, .int hs] } := by
    rintro ρ b hl rfl
    exact s_retD (ev_srt cs (ev_var hl)) fin
  refine s_seq (s_setD (x := .lst (rowsD (T.stood hs))) (ev_callD (ea_consD e0 (ea_consD (ev_var rfl) (ea_consD e2 ea_nil))) ⟨T, k, tr, m, hs, rfl, h⟩ fun d q => (q T tr m hs rfl h.same).symm) ?_)
  have e4 : ∀ {x : Mv} {a b c : Option Dat}, T.mv = x → Ev K S (tOp (rIx K) (tVar 0) (tC (.int 3))) [some (T.law tr), some (.int m), some (.int hs), a, b, c] (Eq (movD x)) := fun e => by
    subst e
    exact ev_ixL (xs := [.hd (headD T.cs), plD T.n T.h0 T.rest, .lst (rowsD tr), movD T.mv]) rfl e0 ev_int
  cases hm : T.mv with
  | none =>
    have et : T.taken hs = [] := by
      unfold Tb.taken
      rw [hm]
    exact s_seq (s_setD (e4 hm) (s_skip (et_andF (et_testD (ev_isnot (x := .non) (ev_var rfl))) rfl) rfl (endS (b := []) (by rw [List.append_nil]; rfl) et)))
  | some x =>
    obtain ⟨num, h', mark⟩ := x
    have mo := h.mv _ hm
    refine s_seq (s_setD (x := moveD (num, h', mark)) (e4 hm) ?_)
    have ex : ∀ {S : Sc} {a b c d e : Option Dat}, Ev K S (tVar 4) [a, b, c, d, some (moveD (num, h', mark)), e] (Eq (.tup [.int num, .int h', markD mark])) := ev_var rfl
    by_cases hq : h' = hs
    · cases mark with
      | none =>
        have et : T.taken hs = [] := by
          unfold Tb.taken
          rw [hm]
        refine s_skip ((et_and (et_testD (ev_isnot (x := moveD (num, h', none)) (ev_var rfl))) fun _ => et_and (et_testD (ev_eq (x := .int h') (y := .int hs) .int .int (ev_ixT rfl ex ev_int) e2)) fun _ => et_testD (ev_isnot (x := .non) (ev_ixT rfl ex ev_int)))) ?_ (endS (b := []) (by rw [List.append_nil]; rfl) et)
        show (_ && (_ && false)) = false
        rw [Bool.and_false, Bool.and_false]
      | some q =>
        have hqr := mo.mark q rfl
        have et : T.taken hs = (T.spanRows num).filter fun r => rowLe r q := by
          unfold Tb.taken
          rw [hm]
          exact if_pos hq
        refine s_seq (s_yes ((et_and (et_testD (ev_isnot (x := moveD (num, h', some q)) (ev_var rfl))) fun _ => et_and (et_testD (ev_eq (x := .int h') (y := .int hs) .int .int (ev_ixT rfl ex ev_int) e2)) fun _ => et_testD (ev_isnot (x := .tup q) (ev_ixT rfl ex ev_int)))) ?_ (s_setD ((ev_catL ?_ (ev_var rfl) (ev_rows (is := [5]) (fun r => rowLe r q) (ie_list (xs := rowsD (T.spanRows num)) (ev_callD (ea_consD e0 ea_nil) ⟨T, k, tr, _, rfl, h, hm⟩ fun d q => (q T tr _ rfl h.same hm).symm)) (by simp) (h.rows.fil _).line fun S' hS r hr => ?_)).is (congrArg Dat.lst rowsD_app)) (endS rfl et)))
        · rw [deq_int, decide_eq_true hq]
          rfl
        · have l1 : (rowsD (T.stood hs)).length ≤ 60 := by
            unfold rowsD
            rw [List.length_map]
            exact Nat.le_trans (List.length_filter_le _ _) h.rows.few
          have l2 : (rowsD ((T.spanRows num).filter fun r => rowLe r q)).length ≤ 60 := by
            unfold rowsD
            rw [List.length_map]
            exact Nat.le_trans (List.length_filter_le _ _) (Nat.le_trans (List.length_filter_le _ _) h.rows.few)
          exact Nat.le_trans (Nat.add_le_add l1 l2) (by decide)
        · have hr1 := h.rows.each r (List.mem_filter.mp hr).1
          exact ⟨_, g_name, et_testD (ev_leR hr1.scs hqr.scs (hr1.same hqr) (ev_var rfl) (ev_ixT (xs := [.int num, .int h', .tup q]) rfl (ev_var rfl) ev_int)), ev_var rfl⟩
    · have et : T.taken hs = [] := by
        unfold Tb.taken
        rw [hm]
        cases mark with
        | none => rfl
        | some q => exact if_neg hq
      refine s_skip ((et_and (et_testD (ev_isnot (x := moveD (num, h', mark)) (ev_var rfl))) fun _ => et_andF (et_testD (ev_eq (x := .int h') (y := .int hs) .int .int (ev_ixT rfl ex ev_int) e2)) (by rw [deq_int, decide_eq_false hq]))) ?_ (endS (b := []) (by rw [List.append_nil]; rfl) et)
      rw [Bool.and_false]
end
end Sh
/-! a dict's items walked while it's locked -/
namespace Sh
open PySem PySem.Spec PyProof.Rows L2
mutual
/-- no dict, no object in it -/
def Dat.seq : Dat → Bool
  | .tup xs => seqs xs
  | .lst xs => seqs xs
  | .hd xs => seqs xs
  | .dic _ => false
  | .ob _ _ => false
  | _ => true
def seqs : List Dat → Bool
  | [] => true
  | x :: xs => x.seq && seqs xs
end
theorem seqs_of : ∀ {xs : List Dat}, (∀ x ∈ xs, x.seq = true) → seqs xs = true
  | [], _ => rfl
  | x :: xs, h => by
    show (x.seq && seqs xs) = true
    rw [h x List.mem_cons_self, seqs_of fun y hy => h y (List.mem_cons_of_mem _ hy)]
    rfl
/-- what is no tuple and no list -/
def Odd : HO → Prop
  | .tup _ => False
  | .lst _ => False
  | .frz _ _ => False
  | _ => True
section
variable {K : PySem.W.Frag} {S : Sc} {H : Hp} {d : Addr} {u0 : HO}
mutual
theorem Rp.off (hd : H d = some u0) (od : Odd u0) : ∀ {x : Dat} {v : V}, x.seq = true → Rp K S H v x → Rp K (S.but d) H v x
  | .non, _, _, h => by cases h; exact .non
  | .bl _, _, _, h => by cases h; exact .bl _
  | .int _, _, _, h => by cases h; exact .int _
  | .str _, _, _, h => by cases h; exact .str _
  | .raw _, _, _, h => by cases h; exact .raw _
  | .tup xs, _, q, h => by
    have q : seqs xs = true := q
    cases h with
    | @tup a vs _ n hs r =>
      refine .tup ?_ hs (Rps.off hd od q r)
      rcases hs with (z | ⟨o, z⟩) | z
      · exact n.imp_left fun n => Sc.no_but n fun e => by rw [e, hd] at z; cases z; exact od
      · exact n.imp_left fun n => Sc.no_but n fun e => by rw [e, hd] at z; cases z; exact od
      · exact .inr (.inr z)
  | .lst xs, _, q, h => by
    have q : seqs xs = true := q
    cases h with
    | @lst a vs _ n hs r =>
      refine .lst ?_ hs (Rps.off hd od q r)
      rcases hs with (z | ⟨o, z⟩) | z
      · exact n.imp_left fun n => Sc.no_but n fun e => by rw [e, hd] at z; cases z; exact od
      · exact n.imp_left fun n => Sc.no_but n fun e => by rw [e, hd] at z; cases z; exact od
      · exact .inr (.inr z)
  | .hd xs, _, q, h => by
    have q : seqs xs = true := q
    cases h with
    | hd n g z r => exact .hd (Sc.no_but n fun e => by rw [e, hd] at z; cases z; exact od) g z (Rps.off hd od q r)
  | .dic _, _, q, _ => by cases q
  | .ob _ _, _, q, _ => by cases q
theorem Rps.off (hd : H d = some u0) (od : Odd u0) : ∀ {xs : List Dat} {vs : List V}, seqs xs = true → Rps K S H vs xs → Rps K (S.but d) H vs xs
  | [], _, _, h => by cases h; exact .nil
  | x :: xs, _, q, h => by
    have q : (x.seq && seqs xs) = true := q
    rw [Bool.and_eq_true] at q
    cases h with
    | cons a t => exact .cons (Rp.off hd od q.1 a) (Rps.off hd od q.2 t)
end
end
section
variable {K : PySem.W.Frag} {S : Sc} {ρ : Rho} {g : TG} {t : TS} {O : Out}
theorem rp_key {S : Sc} {H : Hp} : ∀ (k : Key), Rp K S H (kV k) (kD k)
  | .inl n => .int n
  | .inr x => .str x
theorem s_items1 {i : Nat} {is : List Nat} {k : Key} {x : Dat} {J : Rho → Prop} (hρ : ρ[i]? = some (some (.dic [(k, x)]))) (hl : ∀ j c, j ≠ i → ρ[j]? = some (some c) → c.seq = true) (hs : x.seq = true)
    (step : ∀ S' : Sc, S'.Like S → ∃ ρ2, GEv K S' g is (ρ.set i none) (.tup [kD k, x]) ρ2 ∧ SEv K S' t ρ2 { nx := J, ct := J }) (hd : ∀ ρ1, J ρ1 → O.nx ρ1) : SEv K S (tLock (tFor (iItems (tVar i)) g t)) ρ O := fun σ H e s D n r b c => by
  obtain ⟨v, hv, rv⟩ := e.get i _ hρ
  have hil : i < ρ.length := (List.getElem?_eq_some_iff.mp hρ).1
  cases rv with
  | @dic d kvs _ nd hd0 rk =>
    refine ⟨d, .dK kvs, hd0, trivial, fun od => ?_⟩
    cases rk with
    | @cons _ w _ _ _ rw1 rt =>
      cases rt
      have s1 : StOk (S.but d) (upd H d (.frz od (.dK [(k, w)]))) := by
        have s0 : StOk (S.but d) H := ⟨s.st, fun a ha => (List.mem_cons.mp ha).elim (fun z => z ▸ ⟨_, hd0⟩) (s.ex a), s.al, s.sub⟩
        exact s0.put fun z => nd.1 (s.sub d z)
      have dm : d ∈ (S.but d).ex := List.mem_cons_self
      have rx : Rp K (S.but d) (upd H d (.frz od (.dK [(k, w)]))) w x := (rw1.off hd0 trivial hs).at_ex dm
      have e1 : EnvR K (S.but d) (upd H d (.frz od (.dK [(k, w)]))) σ (ρ.set i none) := ⟨by rw [List.length_set]; exact e.len, fun j y q => by
        by_cases z : i = j
        · subst z
          rw [List.getElem?_set_self hil] at q
          cases q
        · rw [List.getElem?_set_ne z] at q
          obtain ⟨u, h1, h2⟩ := e.get j y q
          exact ⟨u, h1, (h2.off hd0 trivial (hl j y (Ne.symm z) q)).at_ex dm⟩⟩
      obtain ⟨ρ2, k1, k2⟩ := step (S.but d) .but
      have same : upd H d (.frz od (.dK [(k, w)])) d = some (.frz od (.dK [(k, w)])) := upd_same
      refine ⟨.ref d, hv, d, od, [(k, w)], rfl, same, ?_⟩
      -- the frame: all but d as before, d locked
      let J1 : L2.St → Hp → Prop := fun σ' H' => Fr (S.but d) (upd H d (.frz od (.dK [(k, w)]))) H' ∧ StOk (S.but d) H' ∧ ∃ ρ1, EnvR K (S.but d) H' σ' ρ1 ∧ J ρ1
      refine ⟨fun j m σ' H' => (j = 0 ∧ m = 1 ∧ σ' = σ ∧ H' = upd H d (.frz od (.dK [(k, w)]))) ∨ (j = 1 ∧ m = 0 ∧ J1 σ' H'), ⟨1, .inl ⟨rfl, rfl, rfl, rfl⟩⟩, ?_⟩
      rintro j m σ' H' (⟨rfl, rfl, rfl, rfl⟩ | ⟨rfl, rfl, f', s', ρ1, e', hj⟩)
      · refine .inr ⟨⟨same, Nat.zero_lt_one⟩, J1, fun σ2 H2 h => ⟨0, Nat.zero_lt_one, .inr ⟨rfl, rfl, h⟩⟩, fun y H2 hy => ?_⟩
        obtain ⟨q, k', w', e2, rfl, hq, rfl⟩ := hy
        obtain ⟨rfl, rfl⟩ : k = k' ∧ w = w' := by
          have e3 : (k, w) = (k', w') := Option.some.inj e2
          exact ⟨congrArg Prod.fst e3, congrArg Prod.snd e3⟩
        have rp : Rp K (S.but d) (upd (upd H d (.frz od (.dK [(k, w)]))) q (.tup [kV k, w])) (.ref q) (.tup [kD k, x]) := .tup (.inl (s1.ne hq)) (SqT.of upd_same) (.cons (rp_key k) (.cons (rx.mono (.new hq)) .nil))
        refine k1 (.ref q) σ' _ rp (e1.mono (.new hq)) _ fun σ2 e2 a2 => ?_
        exact k2 σ2 _ e2 (s1.new hq) _ (fun σ3 H3 ρ3 f3 s3 e3 hj => ⟨(Fr.new hq).trans f3, s3, ρ3, e3, hj⟩) (fun _ _ _ _ _ z => z.elim) (fun _ _ _ _ _ _ z => z.elim) fun σ3 H3 ρ3 f3 s3 e3 hj => ⟨(Fr.new hq).trans f3, s3, ρ3, e3, hj⟩
      · have hd' : H' d = some (.frz od (.dK [(k, w)])) := f' d _ nd.1 same
        refine .inl ⟨⟨hd', Nat.le_refl 1⟩, hd', n σ' _ ρ1 (fun a o ha he => ?_) ((StOk.unbut s').put fun z => nd.1 (s'.sub d z)) ⟨e'.len, fun j y q => ?_⟩ (hd ρ1 hj)⟩
        · by_cases z : a = d
          · subst z
            rw [hd0] at he
            rw [upd_same]
            exact he
          · rw [upd_ne z]
            exact f' a o ha (by rw [upd_ne z]; exact he)
        · obtain ⟨u, h1, h2⟩ := e'.get j y q
          exact ⟨u, h1, (h2.at_ex dm).unbut⟩
end
end Sh
/-! a town made -/
namespace Sh
open PySem PySem.Spec PyProof.Rows L2
theorem ValK.seq {k : Str} {d : Dat} (h : ValK k d) : d.seq = true := by
  rcases h with ⟨_, i, rfl⟩ | ⟨_, x, rfl, _⟩ <;> rfl
theorem headD_seq (cs : Cols) : seqs (headD cs) = true := seqs_of fun d hd => by
  obtain ⟨c, _, rfl⟩ := List.mem_map.mp hd
  rfl
theorem plD_seq {k : Str} {m : Int} {n : Str} {h0 : Int} {rest : Cuts} (h : CutsOk k m h0 rest) : (plD n h0 rest).seq = true := by
  have q : seqs (cutsD h0 rest) = true := seqs_of fun d hd => by
    rcases List.mem_cons.mp hd with rfl | hd
    · rfl
    · obtain ⟨c, hc, rfl⟩ := List.mem_map.mp hd
      show (c.1.seq && (true && true)) = true
      rw [(h.each c hc).1.seq]
      rfl
  show (true && (true && (seqs (cutsD h0 rest) && true))) = true
  rw [q]
  rfl
theorem row_seq {cs : Cols} {r : Row} (h : RowK cs r) : (Dat.tup r).seq = true := seqs_of fun d hd => by
  have := h.scs d hd
  cases d <;> first | rfl | cases this
theorem rowsD_seq {cs : Cols} {rows : List Row} (h : ∀ r ∈ rows, RowK cs r) : (Dat.lst (rowsD rows)).seq = true := seqs_of fun d hd => by
  obtain ⟨r, hr, rfl⟩ := List.mem_map.mp hd
  exact row_seq (h r hr)
theorem tabD_seq {k : Str} {m : Int} {cs : Cols} {n : Str} {h0 : Int} {rest : Cuts} {rows : List Row} (h : CutsOk k m h0 rest) (hr : ∀ r ∈ rows, RowK cs r) : (tabD cs n h0 rest rows).seq = true := by
  show (seqs (headD cs) && ((plD n h0 rest).seq && ((Dat.lst (rowsD rows)).seq && true))) = true
  rw [headD_seq, plD_seq h, rowsD_seq hr]
  rfl
section
variable {P : Program} {w : World} {K : PySem.W.Frag} {mg : Str → Option Value} {base : Heap} {aW aK : Addr} {f : Addr} {fd : FuncData} {CS CT : Addr}
/-- check_town -/
abbrev s_check_town : Stmt := top 35
theorem sc_check_town : FnScope ["houses", "tables", "name", "table"] ["houses", "tables"] (defScope s_check_town) := ⟨rfl, rfl, rfl, by decide +kernel, rfl, by decide +kernel, by decide +kernel⟩
def pre_check_town : Sc → List Dat → Prop := fun _ ds => ∃ T k, ds = [.int T.m, .dic [(.inr T.name, T.tab)]] ∧ TbOk T k
def post_check_town : List Dat → Dat → Prop := fun _ r => r = .non
theorem ok_check_town (F : Fun K "check_town" "check_town" s_check_town f fd) (X : Txt K mg aW aK) (L : Lo P w K mg base) : FnOk P w K mg base CX0 6 f fd ["houses", "tables"] (SpD K pre_check_town post_check_town) := by
  refine ok_of F sc_check_town (fun S ds h => by obtain ⟨T, k, rfl, h⟩ := h; rfl) fun cdv A outer s H E hr => ?_
  have nd := sc_check_town.nd
  have hu := hr.units
  have hu0 := hr.units0
  have hu1 := hu_of hr
  have hu65 := u65 hr
  refine ⟨_, (pss_cons (ps_if (PW.pt (pw_or (pt_not (pt_val (pe_fn L.is_whole (hr.mono (by decide)) (pa_cons (pv 0) pa_nil)))) (pw_or (pt_not (pt_chain op_leS op_leS pe_int (pv 0) (pe_gI X.g_MOST_HOUSES))) (pw_or1 (pt_not (pt_val (pe_isi X.b X.b.dict boot_dict (pv 1)))))))) pss_never pss_nil)
      (pss_one (ps_lock (ps_for PassesOwn.never rfl (pi_items (pv 1)) (pg_tup rfl (pgs_cons (pg_name (i := 2) nd rfl (by first | exact Or.inl rfl | exact Or.inr rfl)) (pgs_cons (pg_name (i := 3) nd rfl (by first | exact Or.inl rfl | exact Or.inr rfl)) pgs_nil))) (pss_one (ps_if (PW.pt (pw_or (pt_not (pt_val (pe_fn L.is_name (hr.mono (by decide)) (pa_cons (pv 2) pa_nil)))) (pw_or1 (pt_not (pt_val (pe_fn L.is_table (hr.mono (by decide)) (pa_cons (pv 3) (pa_cons (pv 0) pa_nil)))))))) pss_never pss_nil)))))), ?_⟩
  rintro S ds ⟨T, k, rfl, h⟩
  have e0 : ∀ {S : Sc} {a b c : Option Dat}, Ev K S (tVar 0) [some (.int T.m), a, b, c] (Eq (.int T.m)) := ev_var rfl
  refine s_skip (et_or (et_not (et_BD (b := true) (ev_callD (ea_consD e0 ea_nil) ⟨.int T.m, rfl, rfl, rfl⟩ fun d ⟨_, q1, q2⟩ => by cases q1; exact q2.symm))) fun _ => et_or (et_not (et_testD (ev_chLL (x := .int 1) (y := .int T.m) (z := .int 6) rfl rfl ev_int e0 ev_int))) fun _ => et_not (et_BD (ev_isi (x := .dic [(.inr T.name, T.tab)]) rfl (ev_var rfl) kb_dict_dict))) ?_ ?_
  · have h1 := h.m
    rw [sLe_int, sLe_int, decide_eq_true (by omega), decide_eq_true (by omega)]
    rfl
  refine s_items1 (i := 1) (is := [2, 3]) (k := .inr T.name) (x := T.tab) (J := fun _ => True) rfl (fun j c hj hc => ?_) (tabD_seq h.pl.cuts h.rows.each) (fun S' hS => ⟨_, g_two, ?_⟩) fun _ _ => rfl
  · match j, hj with
    | 0, _ =>
      cases hc
      rfl
    | 2, _ => cases hc
    | 3, _ => cases hc
    | j + 4, _ =>
      have : (List.map some [Dat.int T.m, .dic [(.inr T.name, T.tab)]] ++ List.replicate 2 none : Rho)[j + 4]? = none := List.getElem?_eq_none (by simp)
      rw [show (List.map some [Dat.int T.m, .dic [(.inr T.name, T.tab)]] ++ List.replicate ([("houses" : Str), "tables", "name", "table"].length - [Dat.int T.m, .dic [(.inr T.name, T.tab)]].length) none : Rho)[j + 4]? = none from this] at hc
      cases hc
  · exact s_no (et_or (et_not (et_BD (b := true) (ev_callD (ea_consD (ev_var (d := .str T.name) rfl) ea_nil) ⟨T.name, rfl, h.name⟩ fun d q => q.symm))) fun _ => et_not (et_BD (b := true) (ev_callD (ea_consD (ev_var (d := T.tab) rfl) (ea_consD e0 ea_nil)) ⟨T.cs, T.m, T.n, k, T.h0, T.rest, T.rows, rfl, h.pl, h.rows⟩ fun d q => q.symm))) rfl (s_next trivial)
end
end Sh
/-! a town made -/
namespace Sh
open PySem PySem.Spec PyProof.Rows L2
noncomputable def Tb.sorted (T : Tb) : Tb := { T with rows := srtR T.rows }
/-- Town(..): self is at x, the tables at d -/
def spTown (K : PySem.W.Frag) (CT : Addr) : Sp := fun vs H Q _ => ∃ (S : Sc) (T : Tb) (k : Str) (x dx d : Addr) (vt : V), vs = [.ref x, .int T.m, .ref d] ∧ S.no x ∧ S.no d ∧ x ≠ d ∧ H x = some (.ins CT dx []) ∧ H d = some (.dK [(.inr T.name, vt)]) ∧ StOk S H ∧ Rp K S H vt T.tab ∧ TbOk T k ∧
  ∀ H', Frp S x H H' → StOk S H' → Rp K S H' (.ref x) (T.sorted.town CT) → Q .non H'
structure Lz (P : Program) (w : World) (K : PySem.W.Frag) (mg : Str → Option Value) (base : Heap) : Prop where
  check_town : Cl P w K mg base "check_town" 6 ["houses", "tables"] (SpD K pre_check_town post_check_town)
section
variable {P : Program} {w : World} {K : PySem.W.Frag} {mg : Str → Option Value} {base : Heap} {aW aK : Addr} {f : Addr} {fd : FuncData} {CS CT : Addr}
/-- Town.__init__ -/
abbrev s_Town___init__ : Stmt := inClass (top 38) 0
theorem sc_Town___init__ : FnScope ["self", "houses", "tables", "name", "table"] ["self", "houses", "tables"] (defScope s_Town___init__) := ⟨rfl, rfl, rfl, by decide +kernel, rfl, by decide +kernel, by decide +kernel⟩
theorem ok_Town___init__ (F : Fun K "__init__" "Town.__init__" s_Town___init__ f fd) (X : Txt K mg aW aK) (L : Lz P w K mg base) (c : TownC K CT) : FnOk P w K mg base CX0 7 f fd ["self", "houses", "tables"] (spTown K CT) := by
  refine F.ok sc_Town___init__ (fun vs H Q E h => by obtain ⟨S, T, k, x, dx, d, vt, rfl, h⟩ := h; rfl) fun cdv A outer s H vs Q E hr h => ?_
  have nd := sc_Town___init__.nd
  have hu := hr.units
  have hu0 := hr.units0
  have hu1 := hu_of hr
  have hu65 := u65 hr
  refine ⟨_, (pss_cons (ps_expr (pe_fn L.check_town (hr.mono (by decide)) (pa_cons (pv 1) (pa_cons (pv 2) pa_nil))))
      (pss_cons (ps_fld (pv 0) (pv 1) rfl)
      (pss_cons (ps_fld (pv 0) pe_dnewK rfl)
      (pss_cons (ps_fld (pv 0) pe_dnewK rfl)
      (pss_cons (ps_fld (pv 0) pe_dnewK rfl)
      (pss_one (ps_lock (ps_for PassesOwn.never rfl (pi_items (pv 2)) (pg_tup rfl (pgs_cons (pg_name (i := 3) nd rfl (by first | exact Or.inl rfl | exact Or.inr rfl)) (pgs_cons (pg_name (i := 4) nd rfl (by first | exact Or.inl rfl | exact Or.inr rfl)) pgs_nil))) (pss_cons (ps_dput hu1 (pe_fldK (K := K) rfl (pv 0) rfl) (pv 3) (pe_ix (r := rIx K) ix_seq (pv 4) pe_int (fun _ _ => rfl)) rfl)
      (pss_cons (ps_dput hu1 (pe_fldK (K := K) rfl (pv 0) rfl) (pv 3) (pe_ix (r := rIx K) ix_seq (pv 4) pe_int (fun _ _ => rfl)) rfl)
      (pss_one (ps_dput hu1 (pe_fldK (K := K) rfl (pv 0) rfl) (pv 3) (pe_srt X.b hu (pe_ix (r := rIx K) ix_seq (pv 4) pe_int (fun _ _ => rfl))) rfl)))))))))))), ?_⟩
  obtain ⟨S, T, k, x, dx, d, vt, rfl, nx, nd', xd, hx, hd, s0, rt, h, q⟩ := h
  have ts := tabD_seq (cs := T.cs) (n := T.n) (h0 := T.h0) (rest := T.rest) (rows := T.rows) h.pl.cuts h.rows.each
  -- the towns' text is checked
  have e0 : EnvR K S H (start ["self", "houses", "tables", "name", "table"] [.ref x, .int T.m, .ref d]) [some (.raw (.ref x)), some (.int T.m), some (.dic [(.inr T.name, T.tab)]), none, none] := .consS (.raw _) (.consS (.int _) (.consS (.dic nd' hd (.cons rt .nil)) (.consN (.consN .nil))))
  refine (ev_callD (P := fun _ => True) (ea_consD (ev_var (i := 1) rfl) (ea_consD (ev_var (i := 2) rfl) ea_nil)) ⟨T, k, rfl, h⟩ fun _ _ => trivial) _ H e0 s0 _ fun v1 H1 d1 f1 s1 _ _ => ?_
  have hx1 := f1 _ _ nx.1 hx
  have hd1 := f1 _ _ nd'.1 hd
  have sx1 : StOk (S.but x) H1 := ⟨s1.st, fun a ha => (List.mem_cons.mp ha).elim (fun z => z ▸ ⟨_, hx1⟩) (s1.ex a), s1.al, s1.sub⟩
  have rt1 : Rp K (S.but x) H1 vt T.tab := (rt.mono f1).off hx1 trivial ts
  -- many
  refine ⟨.int T.m, rfl, .ref x, rfl, x, CT, dx, [], rfl, hx1, c.cls, c.many, by decide, ?_⟩
  have kx1 : Kx x H1 (upd H1 x (.ins CT dx [("many", .int T.m)])) := .put
  have hx2 : (upd H1 x (.ins CT dx [("many", .int T.m)])) x = some (.ins CT dx [("many", .int T.m)]) := upd_same
  have sx2 : StOk (S.but x) (upd H1 x (.ins CT dx [("many", .int T.m)])) := sx1.put fun z => nx.1 (s1.sub x z)
  have rt2 : Rp K (S.but x) (upd H1 x (.ins CT dx [("many", .int T.m)])) vt T.tab := rt1.at_ex List.mem_cons_self
  show tSeq _ _ _ _ (upd H1 x (.ins CT dx [("many", .int T.m)]))
  generalize upd H1 x (.ins CT dx [("many", .int T.m)]) = H2 at kx1 hx2 sx2 rt2 ⊢
  -- told
  intro p1 hp1
  have nsp1 : p1 ∉ S.st := (sx2.ne hp1).1
  have nxp1 : S.no p1 := ⟨nsp1, fun z => (sx2.ne hp1).2 (by simp [Sc.but, z])⟩
  have np1 : p1 ≠ x := fun z => by rw [z, hx2] at hp1; cases hp1
  refine ⟨.ref x, rfl, x, CT, dx, [("many", .int T.m)], rfl, (by rw [upd_ne np1.symm]; exact hx2), c.cls, c.told, (show (1 : Nat) < 1000 by decide), ?_⟩
  have kx2 : Kx x H2 (upd (upd H2 p1 (.dK [])) x (.ins CT dx [("many", .int T.m), ("told_heads", .ref p1)])) := (Kx.new hp1).trans .put
  have hx3 : (upd (upd H2 p1 (.dK [])) x (.ins CT dx [("many", .int T.m), ("told_heads", .ref p1)])) x = some (.ins CT dx [("many", .int T.m), ("told_heads", .ref p1)]) := upd_same
  have hhp1 : (upd (upd H2 p1 (.dK [])) x (.ins CT dx [("many", .int T.m), ("told_heads", .ref p1)])) p1 = some (.dK []) := by rw [upd_ne np1, upd_same]
  have sx3 : StOk ((S.but x).but p1) (upd (upd H2 p1 (.dK [])) x (.ins CT dx [("many", .int T.m), ("told_heads", .ref p1)])) := (sx2.but hp1).put fun z => nx.1 (s1.sub x z)
  have rt3 : Rp K ((S.but x).but p1) (upd (upd H2 p1 (.dK [])) x (.ins CT dx [("many", .int T.m), ("told_heads", .ref p1)])) vt T.tab := ((rt2.but hp1).at_ex List.mem_cons_self).at_ex (by simp [Sc.but])
  clear sx2 rt2
  show tSeq _ _ _ _ (upd (upd H2 p1 (.dK [])) x (.ins CT dx [("many", .int T.m), ("told_heads", .ref p1)]))
  generalize hU : upd (upd H2 p1 (.dK [])) x (.ins CT dx [("many", .int T.m), ("told_heads", .ref p1)]) = H3 at kx2 hx3 hhp1  sx3 rt3 ⊢
  clear hU
  -- placings
  intro p2 hp2
  have nsp2 : p2 ∉ S.st := (sx3.ne hp2).1
  have nxp2 : S.no p2 := ⟨nsp2, fun z => (sx3.ne hp2).2 (by simp [Sc.but, z])⟩
  have np2 : p2 ≠ x := fun z => by rw [z, hx3] at hp2; cases hp2
  refine ⟨.ref x, rfl, x, CT, dx, [("many", .int T.m), ("told_heads", .ref p1)], rfl, (by rw [upd_ne np2.symm]; exact hx3), c.cls, c.placings, (show (2 : Nat) < 1000 by decide), ?_⟩
  have kx3 : Kx x H3 (upd (upd H3 p2 (.dK [])) x (.ins CT dx [("many", .int T.m), ("told_heads", .ref p1), ("placings", .ref p2)])) := (Kx.new hp2).trans .put
  have hx4 : (upd (upd H3 p2 (.dK [])) x (.ins CT dx [("many", .int T.m), ("told_heads", .ref p1), ("placings", .ref p2)])) x = some (.ins CT dx [("many", .int T.m), ("told_heads", .ref p1), ("placings", .ref p2)]) := upd_same
  have hhp2 : (upd (upd H3 p2 (.dK [])) x (.ins CT dx [("many", .int T.m), ("told_heads", .ref p1), ("placings", .ref p2)])) p2 = some (.dK []) := by rw [upd_ne np2, upd_same]
  have hh12 := hhp1
  have hhp1 := kx3 p1 _ np1 hhp1
  have sx4 : StOk (((S.but x).but p1).but p2) (upd (upd H3 p2 (.dK [])) x (.ins CT dx [("many", .int T.m), ("told_heads", .ref p1), ("placings", .ref p2)])) := (sx3.but hp2).put fun z => nx.1 (s1.sub x z)
  have rt4 : Rp K (((S.but x).but p1).but p2) (upd (upd H3 p2 (.dK [])) x (.ins CT dx [("many", .int T.m), ("told_heads", .ref p1), ("placings", .ref p2)])) vt T.tab := ((rt3.but hp2).at_ex List.mem_cons_self).at_ex (by simp [Sc.but])
  clear sx3 rt3
  show tSeq _ _ _ _ (upd (upd H3 p2 (.dK [])) x (.ins CT dx [("many", .int T.m), ("told_heads", .ref p1), ("placings", .ref p2)]))
  generalize hU : upd (upd H3 p2 (.dK [])) x (.ins CT dx [("many", .int T.m), ("told_heads", .ref p1), ("placings", .ref p2)]) = H4 at kx3 hx4 hhp2 hhp1 sx4 rt4 ⊢
  clear hU
  -- rows
  intro p3 hp3
  have nsp3 : p3 ∉ S.st := (sx4.ne hp3).1
  have nxp3 : S.no p3 := ⟨nsp3, fun z => (sx4.ne hp3).2 (by simp [Sc.but, z])⟩
  have np3 : p3 ≠ x := fun z => by rw [z, hx4] at hp3; cases hp3
  refine ⟨.ref x, rfl, x, CT, dx, [("many", .int T.m), ("told_heads", .ref p1), ("placings", .ref p2)], rfl, (by rw [upd_ne np3.symm]; exact hx4), c.cls, c.rows, (show (3 : Nat) < 1000 by decide), ?_⟩
  have kx4 : Kx x H4 (upd (upd H4 p3 (.dK [])) x (.ins CT dx [("many", .int T.m), ("told_heads", .ref p1), ("placings", .ref p2), ("rows", .ref p3)])) := (Kx.new hp3).trans .put
  have hx5 : (upd (upd H4 p3 (.dK [])) x (.ins CT dx [("many", .int T.m), ("told_heads", .ref p1), ("placings", .ref p2), ("rows", .ref p3)])) x = some (.ins CT dx [("many", .int T.m), ("told_heads", .ref p1), ("placings", .ref p2), ("rows", .ref p3)]) := upd_same
  have hhp3 : (upd (upd H4 p3 (.dK [])) x (.ins CT dx [("many", .int T.m), ("told_heads", .ref p1), ("placings", .ref p2), ("rows", .ref p3)])) p3 = some (.dK []) := by rw [upd_ne np3, upd_same]
  have hh13 := hhp1
  have hh23 := hhp2
  have hhp1 := kx4 p1 _ np1 hhp1
  have hhp2 := kx4 p2 _ np2 hhp2
  have sx5 : StOk ((((S.but x).but p1).but p2).but p3) (upd (upd H4 p3 (.dK [])) x (.ins CT dx [("many", .int T.m), ("told_heads", .ref p1), ("placings", .ref p2), ("rows", .ref p3)])) := (sx4.but hp3).put fun z => nx.1 (s1.sub x z)
  have rt5 : Rp K ((((S.but x).but p1).but p2).but p3) (upd (upd H4 p3 (.dK [])) x (.ins CT dx [("many", .int T.m), ("told_heads", .ref p1), ("placings", .ref p2), ("rows", .ref p3)])) vt T.tab := ((rt4.but hp3).at_ex List.mem_cons_self).at_ex (by simp [Sc.but])
  clear sx4 rt4
  show tLock _ _ _ (upd (upd H4 p3 (.dK [])) x (.ins CT dx [("many", .int T.m), ("told_heads", .ref p1), ("placings", .ref p2), ("rows", .ref p3)]))
  generalize hU : upd (upd H4 p3 (.dK [])) x (.ins CT dx [("many", .int T.m), ("told_heads", .ref p1), ("placings", .ref p2), ("rows", .ref p3)]) = H5 at kx4 hx5 hhp3 hhp1 hhp2 sx5 rt5 ⊢
  clear hU
  have n12 : p1 ≠ p2 := fun z => by
    have := hh12
    rw [z, hp2] at this
    cases this
  have n13 : p1 ≠ p3 := fun z => by
    have := hh13
    rw [z, hp3] at this
    cases this
  have n23 : p2 ≠ p3 := fun z => by
    have := hh23
    rw [z, hp3] at this
    cases this
  have kx : Kx x H1 H5 := kx1.trans (kx2.trans (kx3.trans kx4))
  have hd5 := kx d _ xd.symm hd1
  have d1' : d ≠ p1 := fun z => by rw [z, hhp1] at hd5; cases hd5
  have d2' : d ≠ p2 := fun z => by rw [z, hhp2] at hd5; cases hd5
  have d3' : d ≠ p3 := fun z => by rw [z, hhp3] at hd5; cases hd5
  refine ⟨d, _, hd5, trivial, fun od => ?_⟩
  have same : upd H5 d (.frz od (.dK [(.inr T.name, vt)])) d = some (.frz od (.dK [(.inr T.name, vt)])) := upd_same
  let Sx : Sc := ((((S.but x).but p1).but p2).but p3).but d
  have xm : x ∈ Sx.ex := by simp [Sx, Sc.but]
  have m1 : p1 ∈ Sx.ex := by simp [Sx, Sc.but]
  have m2 : p2 ∈ Sx.ex := by simp [Sx, Sc.but]
  have m3 : p3 ∈ Sx.ex := by simp [Sx, Sc.but]
  have md : d ∈ Sx.ex := by simp [Sx, Sc.but]
  have s6 : StOk Sx (upd H5 d (.frz od (.dK [(.inr T.name, vt)]))) := by
    have z : StOk Sx H5 := ⟨sx5.st, fun a ha => (List.mem_cons.mp ha).elim (fun z => z ▸ ⟨_, hd5⟩) (sx5.ex a), sx5.al, sx5.sub⟩
    exact z.put fun z => nd'.1 (s1.sub d z)
  have rt6 : Rp K Sx (upd H5 d (.frz od (.dK [(.inr T.name, vt)]))) vt T.tab := (rt5.off hd5 trivial ts).at_ex md
  have hx6 : upd H5 d (.frz od (.dK [(.inr T.name, vt)])) x = some (.ins CT dx [("many", .int T.m), ("told_heads", .ref p1), ("placings", .ref p2), ("rows", .ref p3)]) := by rw [upd_ne xd]; exact hx5
  have h16 : upd H5 d (.frz od (.dK [(.inr T.name, vt)])) p1 = some (.dK []) := by rw [upd_ne d1'.symm]; exact hhp1
  have h26 : upd H5 d (.frz od (.dK [(.inr T.name, vt)])) p2 = some (.dK []) := by rw [upd_ne d2'.symm]; exact hhp2
  have h36 : upd H5 d (.frz od (.dK [(.inr T.name, vt)])) p3 = some (.dK []) := by rw [upd_ne d3'.symm]; exact hhp3
  have k6 : ∀ a o, a ≠ d → H5 a = some o → upd H5 d (.frz od (.dK [(.inr T.name, vt)])) a = some o := fun a o n e => by rw [upd_ne n]; exact e
  show tFor _ _ _ _ _ (upd H5 d (.frz od (.dK [(.inr T.name, vt)])))
  generalize hU : upd H5 d (.frz od (.dK [(.inr T.name, vt)])) = H6 at same s6 rt6 hx6 h16 h26 h36 k6 ⊢
  clear hU
  refine ⟨.ref d, rfl, d, od, [(.inr T.name, vt)], rfl, same, ?_⟩
  let J1 : L2.St → Hp → Prop := fun σ' H' => ∃ v1 v2 v3, H' x = some (.ins CT dx [("many", .int T.m), ("told_heads", .ref p1), ("placings", .ref p2), ("rows", .ref p3)]) ∧ H' p1 = some (.dK [(.inr T.name, v1)]) ∧ H' p2 = some (.dK [(.inr T.name, v2)]) ∧ H' p3 = some (.dK [(.inr T.name, v3)]) ∧
    Rp K Sx H' v1 (.hd (headD T.cs)) ∧ Rp K Sx H' v2 (plD T.n T.h0 T.rest) ∧ Rp K Sx H' v3 (.lst (srt (rowsD T.rows))) ∧ H' d = some (.frz od (.dK [(.inr T.name, vt)])) ∧ StOk Sx H' ∧ ∀ a o, a ∉ S.st → a ≠ p1 → a ≠ p2 → a ≠ p3 → H6 a = some o → H' a = some o
  refine ⟨fun j m σ' H' => (j = 0 ∧ m = 1 ∧ σ' = start ["self", "houses", "tables", "name", "table"] [.ref x, .int T.m, .ref d] ∧ H' = H6) ∨ (j = 1 ∧ m = 0 ∧ J1 σ' H'), ⟨1, .inl ⟨rfl, rfl, rfl, rfl⟩⟩, ?_⟩
  rintro j m σ' H' (⟨rfl, rfl, rfl, rfl⟩ | ⟨rfl, rfl, v1, v2, v3, gx, g1, g2, g3, r1, r2, r3, gd, gs, gk⟩)
  · refine .inr ⟨⟨same, Nat.zero_lt_one⟩, J1, fun σ2 H2 h => ⟨0, Nat.zero_lt_one, .inr ⟨rfl, rfl, h⟩⟩, fun y H7 hy => ?_⟩
    obtain ⟨pq, k', w', e2, rfl, hq, rfl⟩ := hy
    obtain ⟨rfl, rfl⟩ : (.inr T.name : Key) = k' ∧ vt = w' := by
      have e3 : ((.inr T.name : Key), vt) = (k', w') := Option.some.inj e2
      exact ⟨congrArg Prod.fst e3, congrArg Prod.snd e3⟩
    have rp : Rp K Sx (upd H' pq (.tup [kV (.inr T.name), vt])) (.ref pq) (.tup [.str T.name, T.tab]) := .tup (.inl (s6.ne hq)) (SqT.of upd_same) (.cons (.str _) (.cons (rt6.mono (.new hq)) .nil))
    have e6 : EnvR K Sx (upd H' pq (.tup [kV (.inr T.name), vt])) (start ["self", "houses", "tables", "name", "table"] [.ref x, .int T.m, .ref d]) [some (.raw (.ref x)), some (.int T.m), none, none, none] := .consS (.raw _) (.consS (.int _) (.consN (.consN (.consN .nil))))
    refine g_two (.ref pq) _ _ rp e6 _ fun σ2 e2 _ => ?_
    have f7 : Fr Sx H' (upd H' pq (.tup [kV (.inr T.name), vt])) := .new hq
    have s7 := s6.new (o := .tup [kV (.inr T.name), vt]) hq
    generalize upd H' pq (.tup [kV (.inr T.name), vt]) = H7 at f7 s7 e2 ⊢
    have et : ∀ {S : Sc}, Ev K S (tVar 4) [some (.raw (.ref x)), some (.int T.m), none, some (.str T.name), some T.tab] (Eq (.tup [.hd (headD T.cs), plD T.n T.h0 T.rest, .lst (rowsD T.rows)])) := ev_var rfl
    have ex : σ2[0]? = some (some (.ref x)) := e2.raw rfl
    have en : σ2[3]? = some (some (.str T.name)) := e2.str rfl
    -- told_heads
    refine (ev_ixT rfl et ev_int) σ2 H7 e2 s7 _ fun v1 H8 d8 f8 s8 p8 r1 => ?_
    subst p8
    have f78 := f8
    have f8 := f7.trans f8
    refine ⟨.ref x, ex, x, CT, dx, _, .ref p1, rfl, f8 _ _ nx.1 hx6, c.cls, c.told, rfl, .str T.name, en, p1, _, rfl, DPut.k (k := .inr T.name) (f8 _ _ nsp1 h16) (show (0 : Nat) < sizeLine by decide), ?_⟩
    have gk8 : ∀ a o, a ∉ S.st → a ≠ p1 → H' a = some o → (upd H8 p1 (.dK [(.inr T.name, v1)])) a = some o := fun a o ha n e => by rw [upd_ne n]; exact f8 a o ha e
    have e9 : EnvR K Sx (upd H8 p1 (.dK [(.inr T.name, v1)])) σ2 [some (.raw (.ref x)), some (.int T.m), none, some (.str T.name), some T.tab] := (e2.mono f78).at_ex m1
    have r1 : Rp K Sx (upd H8 p1 (.dK [(.inr T.name, v1)])) v1 (.hd (headD T.cs)) := r1.at_ex m1
    have s9 : StOk Sx (upd H8 p1 (.dK [(.inr T.name, v1)])) := s8.put fun z => nsp1 (s8.sub p1 z)
    have h19 : (upd H8 p1 (.dK [(.inr T.name, v1)])) p1 = some (.dK [(.inr T.name, v1)]) := upd_same
    show tSeq _ _ _ _ (upd H8 p1 (.dK [(.inr T.name, v1)]))
    generalize upd H8 p1 (.dK [(.inr T.name, v1)]) = H9 at gk8 e9 r1 s9 h19 ⊢
    have hx9 := gk8 x _ nx.1 np1.symm hx6
    -- placings
    refine (ev_ixT rfl et ev_int) σ2 H9 e9 s9 _ fun v2 H10 d10 f10 s10 p10 r2 => ?_
    subst p10
    refine ⟨.ref x, ex, x, CT, dx, _, .ref p2, rfl, f10 _ _ nx.1 hx9, c.cls, c.placings, rfl, .str T.name, en, p2, _, rfl, DPut.k (k := .inr T.name) (f10 _ _ nsp2 (gk8 _ _ nsp2 n12.symm h26)) (show (0 : Nat) < sizeLine by decide), ?_⟩
    have gk10 : ∀ a o, a ∉ S.st → a ≠ p1 → a ≠ p2 → H' a = some o → (upd H10 p2 (.dK [(.inr T.name, v2)])) a = some o := fun a o ha n m e => by rw [upd_ne m]; exact f10 a o ha (gk8 a o ha n e)
    have e11 : EnvR K Sx (upd H10 p2 (.dK [(.inr T.name, v2)])) σ2 [some (.raw (.ref x)), some (.int T.m), none, some (.str T.name), some T.tab] := (e9.mono f10).at_ex m2
    have r1 : Rp K Sx (upd H10 p2 (.dK [(.inr T.name, v2)])) v1 (.hd (headD T.cs)) := (r1.mono f10).at_ex m2
    have r2 : Rp K Sx (upd H10 p2 (.dK [(.inr T.name, v2)])) v2 (plD T.n T.h0 T.rest) := r2.at_ex m2
    have s11 : StOk Sx (upd H10 p2 (.dK [(.inr T.name, v2)])) := s10.put fun z => nsp2 (s10.sub p2 z)
    have h111 : (upd H10 p2 (.dK [(.inr T.name, v2)])) p1 = some (.dK [(.inr T.name, v1)]) := by rw [upd_ne n12]; exact f10 _ _ nsp1 h19
    have h211 : (upd H10 p2 (.dK [(.inr T.name, v2)])) p2 = some (.dK [(.inr T.name, v2)]) := upd_same
    show tSeq _ _ _ _ (upd H10 p2 (.dK [(.inr T.name, v2)]))
    generalize upd H10 p2 (.dK [(.inr T.name, v2)]) = H11 at gk10 e11 r1 r2 s11 h111 h211 ⊢
    have hx11 := gk10 x _ nx.1 np1.symm np2.symm hx6
    -- rows
    refine (ev_srt (rows_sort h.pl.head h.rows.each) (ev_ixT rfl et ev_int)) σ2 H11 e11 s11 _ fun v3 H12 d12 f12 s12 p12 r3 => ?_
    subst p12
    refine ⟨.ref x, ex, x, CT, dx, _, .ref p3, rfl, f12 _ _ nx.1 hx11, c.cls, c.rows, rfl, .str T.name, en, p3, _, rfl, DPut.k (k := .inr T.name) (f12 _ _ nsp3 (gk10 _ _ nsp3 n13.symm n23.symm h36)) (show (0 : Nat) < sizeLine by decide), ?_⟩
    have gk12 : ∀ a o, a ∉ S.st → a ≠ p1 → a ≠ p2 → a ≠ p3 → H' a = some o → (upd H12 p3 (.dK [(.inr T.name, v3)])) a = some o := fun a o ha n m l e => by rw [upd_ne l]; exact f12 a o ha (gk10 a o ha n m e)
    exact ⟨v1, v2, v3, gk12 x _ nx.1 np1.symm np2.symm np3.symm hx6, by rw [show (putK [] (.inr T.name : Key) v3) = [(.inr T.name, v3)] from rfl, upd_ne n13]; exact f12 _ _ nsp1 h111, by rw [show (putK [] (.inr T.name : Key) v3) = [(.inr T.name, v3)] from rfl, upd_ne n23]; exact f12 _ _ nsp2 h211, upd_same, (r1.mono f12).at_ex m3, (r2.mono f12).at_ex m3, r3.at_ex m3, gk12 d _ nd'.1 d1' d2' d3' same, s12.put fun z => nsp3 (s12.sub p3 z), gk12⟩
  · refine .inl ⟨⟨gd, Nat.le_refl 1⟩, gd, q _ (fun a o ha hne he => ?_) ?_ ?_⟩
    · by_cases z : a = d
      · subst z
        rw [hd] at he
        rw [upd_same]
        exact he
      · rw [upd_ne z]
        have a5 := kx a o hne (f1 a o ha he)
        have a2 := kx1 a o hne (f1 a o ha he)
        have a3 := kx2 a o hne a2
        have a4 := kx3 a o hne a3
        exact gk a o ha (fun w => by rw [w, hp1] at a2; cases a2) (fun w => by rw [w, hp2] at a3; cases a3) (fun w => by rw [w, hp3] at a4; cases a4) (k6 a o z a5)
    · exact (gs.unbut.unbut.unbut.unbut.unbut).put fun z => nd'.1 (s1.sub d z)
    · have un : ∀ {v : V} {y : Dat}, Rp K Sx H' v y → Rp K S (upd H' d (.dK [(.inr T.name, vt)])) v y := fun r => (r.at_ex md).unbut.unbut.unbut.unbut.unbut
      rw [← srtR_d] at r3
      exact .ob nx (by rw [upd_ne xd]; exact gx) (.cons (.int _) (.cons (.dic nxp1 (by rw [upd_ne d1'.symm]; exact g1) (.cons (un r1) .nil)) (.cons (.dic nxp2 (by rw [upd_ne d2'.symm]; exact g2) (.cons (un r2) .nil)) (.cons (.dic nxp3 (by rw [upd_ne d3'.symm]; exact g3) (.cons (un r3) .nil)) .nil))))
end
end Sh
/-! a store made, its town -/
namespace Sh
open PySem PySem.Spec PyProof.Rows L2
section
variable {K : PySem.W.Frag} {S : Sc} {ρ : Rho} {ta : TA} {T : Tb} {k : Str} {CT CS : Addr}
theorem ev_town {E : XK} (h : EvA K S ta ρ (Eq [.int T.m, .dic [(.inr T.name, T.tab)]])) (hk : TbOk T k) : Ev K S (tMake CT (spTown K CT) [] E ta) ρ (Eq (T.sorted.town CT)) := fun σ H e s Q q => h σ H e s _ fun vs H1 ds f1 s1 p1 r1 => by
  subst p1
  cases r1 with
  | cons a t => cases t with
    | cons b t =>
      cases t
      cases a
      cases b with
      | @dic d kvs _ nd hd rk =>
        cases rk with
        | @cons _ vt _ _ _ rt rn =>
          cases rn
          intro x dx hx hdx hne
          have nx := s1.ne hx
          have s2 := (s1.new (o := .own x) hdx).new (p := x) (o := .ins CT dx []) (by rw [upd_ne hne.symm]; exact hx)
          have f2 : Fr S H1 (upd (upd H1 dx (.own x)) x (.ins CT dx [])) := (Fr.new hdx).trans (Fr.new (by rw [upd_ne hne.symm]; exact hx))
          refine ⟨S, T, k, x, dx, d, vt, rfl, nx, nd, (fun z => by rw [z, hd] at hx; cases hx), upd_same, f2 _ _ nd.1 hd, s2, rt.mono f2, hk, fun H' f' s' r' => ⟨rfl, q _ H' _ (f1.trans ?_) s' rfl r'⟩⟩
          exact fun a o ha he => f' a o ha (fun z => by rw [z, hx] at he; cases he) (f2 a o ha he)
end
section
variable {X : Cx}
/-- the keys of a dict that no name holds -/
def iKeysN (td : TE) : TI := fun σ H R => td σ H fun x H1 => ∃ d kvs, x = .ref d ∧ H1 d = some (.dK kvs) ∧ ∀ o, R (Itk d o kvs) (upd H1 d (.frz o (.dK kvs)))
theorem pi_keysN {tg e : Expr} {td : TE} (he : PE X e td) : PI X tg e (iKeysN td) := by
  refine ⟨fun pins s σ H R I h => ?_⟩
  refine thn (he.run pins s σ H _ I h) fun u s1 ⟨x, H1, I1, rx, d, kvs, ex, hd, q⟩ => ?_
  subst ex
  obtain rfl : u = Value.ref d := rx
  obtain ⟨od, I2⟩ := I1.lock hd trivial
  have hd2 : upd H1 d (.frz od (.dK kvs)) d = some (.frz od (.dK kvs)) := upd_same
  obtain ⟨hs, hgd, hx, es, ep, vs, hdt, hsz, kv, hm⟩ := I2.frzK hd2
  refine iter_keys hs hgd hx hdt (pi_one (tk := s1.toks) I2 _ (turn_keys _ hdt) ⟨_, Heap.get?_push_size _ rfl, rfl, ?_⟩ (q od))
  rw [hsz] <;> rfl
end
section
variable {P : Program} {w : World} {K : PySem.W.Frag} {mg : Str → Option Value} {base : Heap} {aW aK : Addr} {f : Addr} {fd : FuncData} {CS CT : Addr}
/-- Store.town -/
abbrev s_Store_town : Stmt := inClass (top 41) 16
theorem sc_Store_town : FnScope ["self"] ["self"] (defScope s_Store_town) := ⟨rfl, rfl, rfl, by decide +kernel, rfl, by decide +kernel, by decide +kernel⟩
def pre_Store_town (CS : Addr) : Sc → List Dat → Prop := fun _ ds => ∃ T k, ds = [T.store CS] ∧ TbOk T k
def post_Store_town (CS : Addr) (CT : Addr) : List Dat → Dat → Prop := fun ds r => ∀ T : Tb, ds = [T.store CS] → r = T.sorted.town CT
theorem ok_Store_town (F : Fun K "town" "Store.town" s_Store_town f fd) (X : Txt K mg aW aK) (c : StoreC K CS) (k_Town : C8.Mak P w K mg base 7 "Town" CT (spTown K CT) []) : FnOk P w K mg base CX0 9 f fd ["self"] (SpD K (pre_Store_town CS) (post_Store_town CS CT)) := by
  refine ok_of F sc_Store_town (fun S ds h => by obtain ⟨T, k, rfl, h⟩ := h; rfl) fun cdv A outer s H E hr => ?_
  have nd := sc_Store_town.nd
  have hu := hr.units
  have hu0 := hr.units0
  have hu1 := hu_of hr
  have hu65 := u65 hr
  refine ⟨_, (pss_one (ps_ret (C8.pe_mk k_Town hr (Nat.le_refl _) rfl (pa_cons (pe_fldK (K := K) rfl (pv 0) rfl) (pa_cons (pe_fldK (K := K) rfl (pv 0) rfl) pa_nil))))), ?_⟩
  rintro S ds ⟨T, k, rfl, h⟩
  refine s_retD (ev_town (T := T) (ea_consD (ev_count c (ev_var (d := T.store CS) rfl)) (ea_consD (ev_held c (ev_var (d := T.store CS) rfl)) ea_nil)) h) fun T' q => ?_
  injection q with q _
  rw [store_inj q]
end
end Sh
/-! a store made -/
namespace Sh
open PySem PySem.Spec PyProof.Rows L2
theorem go_asg {te : TE} {g : TG} {u : TS} {D : Ends} {σ : L2.St} {H : Hp} (h : te σ H fun y H1 => g y σ H1 fun σ' H' => u D σ' H') : tSeq (tAsg te g) u D σ H := h
/-- town.heads(): a new dict -/
def spHeads (K : PySem.W.Frag) (CT : Addr) : Sp := fun vs H Q _ => ∃ (S : Sc) (T : Tb) (a : Addr), vs = [.ref a] ∧ StOk S H ∧ Rp K S H (.ref a) (T.town CT) ∧
  ∀ p vh H', H p = none → Fr S H H' → StOk (S.but p) H' → H' p = some (.dK [(.inr T.name, vh)]) → Q (.ref p) H'
/-- Store(..): self is at x, the tables at d -/
def spStore (K : PySem.W.Frag) (CS : Addr) : Sp := fun vs H Q _ => ∃ (S : Sc) (T : Tb) (k : Str) (x dx d : Addr) (vt : V), vs = [.ref x, .int T.m, .ref d] ∧ S.no x ∧ S.no d ∧ x ≠ d ∧ H x = some (.ins CS dx []) ∧ H d = some (.dK [(.inr T.name, vt)]) ∧ StOk S H ∧ Rp K S H vt T.tab ∧ TbOk T k ∧ T.mv = none ∧
  ∀ H', Frp S x H H' → StOk S H' → Rp K S H' (.ref x) (T.sorted.store CS) → Q .non H'
section
variable {P : Program} {w : World} {K : PySem.W.Frag} {mg : Str → Option Value} {base : Heap} {aW aK : Addr} {f : Addr} {fd : FuncData} {CS CT : Addr}
theorem ok_Town_heads (F : Fun K "heads" "Town.heads" s_Town_heads f fd) (X : Txt K mg aW aK) (c : TownC K CT) : FnOk P w K mg base CX0 1 f fd ["self"] (spHeads K CT) := by
  refine F.ok sc_Town_heads (fun vs H Q E h => by obtain ⟨S, T, a, rfl, h⟩ := h; rfl) fun cdv A outer s H vs Q E hr h => ?_
  have nd := sc_Town_heads.nd
  have hu := hr.units
  have hu0 := hr.units0
  have hu1 := hu_of hr
  have hu65 := u65 hr
  refine ⟨_, (pss_one (ps_ret (pe_dictD X.b (pe_fldK (K := K) rfl (pv 0) rfl)))), ?_⟩
  obtain ⟨S, T, a, rfl, s0, r, q⟩ := h
  have e0 : EnvR K S H (start ["self"] [.ref a]) [some (T.town CT)] := .consS r .nil
  refine (ev_told c (ev_var (d := T.town CT) rfl)) _ H e0 s0 _ fun v H1 d f1 s1 p1 r1 => ?_
  subst p1
  cases r1 with
  | @dic d kvs _ n h r =>
    cases r with
    | @cons _ vh _ _ _ r1 rn =>
      cases rn
      exact ⟨d, _, rfl, .inl h, fun p hp => q p vh _ (f1.free (s1.ne hp).1 hp) (f1.trans (.new hp)) (s1.but hp) upd_same⟩
/-- Store.__init__ -/
abbrev s_Store___init__ : Stmt := inClass (top 41) 0
theorem sc_Store___init__ : FnScope ["self", "houses", "tables", "town", "name"] ["self", "houses", "tables"] (defScope s_Store___init__) := ⟨rfl, rfl, rfl, by decide +kernel, rfl, by decide +kernel, by decide +kernel⟩
theorem Tb.sorted_ok {T : Tb} {k : Str} (h : TbOk T k) : TbOk T.sorted k := ⟨h.pl, ⟨fun r hr => h.rows.each r ((srtR_perm T.rows).mem_iff.mp hr), by
  show (srtR T.rows).length ≤ 60
  rw [srtR_len]
  exact h.rows.few⟩, h.name, h.m, fun x hx => ⟨(h.mv x hx).num, (h.mv x hx).house, (h.mv x hx).mark⟩⟩
theorem ok_Store___init__ (F : Fun K "__init__" "Store.__init__" s_Store___init__ f fd) (X : Txt K mg aW aK) (c : StoreC K CS) (k_Town : C8.Mak P w K mg base 7 "Town" CT (spTown K CT) []) (m_Town_heads : Ml P w K mg base CT "heads" 1 ["self"] (spHeads K CT)) (m_Town_whole : Ml P w K mg base CT "whole" 4 ["self", "name"] (SpD K (pre_Town_whole CT) (post_Town_whole CT))) : FnOk P w K mg base CX0 9 f fd ["self", "houses", "tables"] (spStore K CS) := by
  refine F.ok sc_Store___init__ (fun vs H Q E h => by obtain ⟨S, T, k, x, dx, d, vt, rfl, h⟩ := h; rfl) fun cdv A outer s H vs Q E hr h => ?_
  have nd := sc_Store___init__.nd
  have hu := hr.units
  have hu0 := hr.units0
  have hu1 := hu_of hr
  have hu65 := u65 hr
  refine ⟨_, (pss_cons (ps_set (i := 3) nd rfl (by first | exact Or.inl rfl | exact Or.inr rfl) (C8.pe_mk k_Town hr (Nat.le_refl _) rfl (pa_cons (pv 1) (pa_cons (pv 2) pa_nil))))
      (pss_cons (ps_fld (pv 0) (pv 1) rfl)
      (pss_cons (ps_fld (pv 0) pe_dnewK rfl)
      (pss_cons (ps_for PassesOwn.never rfl (pi_keysN (pe_mt0 m_Town_heads (hr.mono (by decide)) (pv 3))) (pg_name (i := 4) nd rfl (by first | exact Or.inl rfl | exact Or.inr rfl)) (pss_one (ps_dput hu1 (pe_fldK (K := K) rfl (pv 0) rfl) (pv 4) (pe_tup (pa_cons (pe_ix (r := rIx K) ix_seq (pe_dget hu1 (pv 2) (pv 4) (fun _ _ => rfl)) pe_int (fun _ _ => rfl)) (pa_cons (pe_ix (r := rIx K) ix_seq (pe_dget hu1 (pv 2) (pv 4) (fun _ _ => rfl)) pe_int (fun _ _ => rfl)) (pa_cons (pe_mt m_Town_whole (hr.mono (by decide)) (pv 3) (pa_cons (pv 4) pa_nil)) pa_nil)))) rfl)))
      (pss_one (ps_fld (pv 0) pe_dnewK rfl)))))), ?_⟩
  obtain ⟨S, T, k, x, dx, d, vt, rfl, nx, nd', xd, hx, hd, s0, rt, h, hmv, q⟩ := h
  have ts := tabD_seq (cs := T.cs) (n := T.n) (h0 := T.h0) (rest := T.rest) (rows := T.rows) h.pl.cuts h.rows.each
  have hk := Tb.sorted_ok h
  have sx0 : StOk (S.but x) H := ⟨s0.st, fun a ha => (List.mem_cons.mp ha).elim (fun z => z ▸ ⟨_, hx⟩) (s0.ex a), s0.al, s0.sub⟩
  have e0 : EnvR K (S.but x) H (start ["self", "houses", "tables", "town", "name"] [.ref x, .int T.m, .ref d]) [some (.raw (.ref x)), some (.int T.m), some (.dic [(.inr T.name, T.tab)]), none, none] := .consS (.raw _) (.consS (.int _) (.consS (.dic (Sc.no_but nd' xd.symm) hd (.cons (rt.off hx trivial ts) .nil)) (.consN (.consN .nil))))
  -- the town
  refine go_asg ?_
  refine (ev_town (CT := CT) (T := T) (ea_consD (ev_var (i := 1) rfl) (ea_consD (ev_var (i := 2) rfl) ea_nil)) h) _ H e0 sx0 _ fun v1 H1 d1 f1 s1 p1 r1 => ?_
  subst p1
  have e1 := (e0.mono f1).set (i := 3) r1
  have f1 : Fr S H H1 := f1.to rfl
  have hx1 := f1 _ _ nx.1 hx
  show tSeq _ _ _ [some (.ref x), some (.int T.m), some (.ref d), some v1, none] H1
  have e1 : EnvR K (S.but x) H1 [some (.ref x), some (.int T.m), some (.ref d), some v1, none] [some (.raw (.ref x)), some (.int T.m), some (.dic [(.inr T.name, T.tab)]), some (T.sorted.town CT), none] := e1
  generalize hσ : ([some (.ref x), some (.int T.m), some (.ref d), some v1, none] : L2.St) = σ1 at e1 ⊢
  have gx : σ1[0]? = some (some (.ref x)) := by rw [← hσ]; rfl
  have gm : σ1[1]? = some (some (.int T.m)) := by rw [← hσ]; rfl
  have gl : σ1.length = 5 := by rw [← hσ]; rfl
  clear hσ
  -- count
  refine ⟨.int T.m, gm, .ref x, gx, x, CS, dx, [], rfl, hx1, c.cls, c.count, by decide, ?_⟩
  have k1 : Kx x H1 (upd H1 x (.ins CS dx [("count", .int T.m)])) := .put
  have hx2 : (upd H1 x (.ins CS dx [("count", .int T.m)])) x = some (.ins CS dx [("count", .int T.m)]) := upd_same
  have s2 : StOk (S.but x) (upd H1 x (.ins CS dx [("count", .int T.m)])) := s1.put fun z => nx.1 (s1.sub x z)
  have e2 : EnvR K (S.but x) (upd H1 x (.ins CS dx [("count", .int T.m)])) σ1 [some (.raw (.ref x)), some (.int T.m), some (.dic [(.inr T.name, T.tab)]), some (T.sorted.town CT), none] := e1.at_ex List.mem_cons_self
  show tSeq _ _ _ _ (upd H1 x (.ins CS dx [("count", .int T.m)]))
  generalize hU : upd H1 x (.ins CS dx [("count", .int T.m)]) = H2 at k1 hx2 s2 e2 ⊢
  clear hU
  -- held
  intro p1 hp1
  have np1 : p1 ≠ x := fun z => by rw [z, hx2] at hp1; cases hp1
  have nxp1 : S.no p1 := ⟨(s2.ne hp1).1, fun z => (s2.ne hp1).2 (by simp [Sc.but, z])⟩
  refine ⟨.ref x, gx, x, CS, dx, [("count", .int T.m)], rfl, (by rw [upd_ne np1.symm]; exact hx2), c.cls, c.held, (show (1 : Nat) < 1000 by decide), ?_⟩
  have k2 : Kx x H2 (upd (upd H2 p1 (.dK [])) x (.ins CS dx [("count", .int T.m), ("held", .ref p1)])) := (Kx.new hp1).trans .put
  have hx3 : (upd (upd H2 p1 (.dK [])) x (.ins CS dx [("count", .int T.m), ("held", .ref p1)])) x = some (.ins CS dx [("count", .int T.m), ("held", .ref p1)]) := upd_same
  have h13 : (upd (upd H2 p1 (.dK [])) x (.ins CS dx [("count", .int T.m), ("held", .ref p1)])) p1 = some (.dK []) := by rw [upd_ne np1, upd_same]
  have s3 : StOk ((S.but x).but p1) (upd (upd H2 p1 (.dK [])) x (.ins CS dx [("count", .int T.m), ("held", .ref p1)])) := (s2.but hp1).put fun z => nx.1 (s1.sub x z)
  have e3 : EnvR K ((S.but x).but p1) (upd (upd H2 p1 (.dK [])) x (.ins CS dx [("count", .int T.m), ("held", .ref p1)])) σ1 [some (.raw (.ref x)), some (.int T.m), some (.dic [(.inr T.name, T.tab)]), some (T.sorted.town CT), none] := ((e2.but hp1).at_ex List.mem_cons_self).at_ex (by simp [Sc.but])
  show tSeq _ _ _ _ (upd (upd H2 p1 (.dK [])) x (.ins CS dx [("count", .int T.m), ("held", .ref p1)]))
  generalize hU : upd (upd H2 p1 (.dK [])) x (.ins CS dx [("count", .int T.m), ("held", .ref p1)]) = H3 at k2 hx3 h13 s3 e3 ⊢
  clear hU
  -- the loop over the heads
  obtain ⟨vt1, gt, rtn⟩ := e3.get 3 (T.sorted.town CT) rfl
  cases rtn with
  | @ob at1 _ dx1 fs1 _ nat1 hat1 rf1 =>
    have rt3 : Rp K ((S.but x).but p1) H3 (.ref at1) (T.sorted.town CT) := .ob nat1 hat1 rf1
    have lk : ∀ {fs : List (Str × V)}, Rpf K ((S.but x).but p1) H3 fs T.sorted.tfields → fs.lookup ("heads" : Str) = none := by
      intro fs h
      cases h with
      | cons _ h => cases h with
        | cons _ h => cases h with
          | cons _ h => cases h with
            | cons _ h =>
              cases h
              rfl
    refine ⟨.ref at1, gt, at1, dx1, fs1, rfl, hat1, lk rf1, (S.but x).but p1, T.sorted, at1, rfl, s3, rt3, fun pd vh H4 hpd f4 s4 hd4 => ⟨pd, _, rfl, hd4, fun od => ?_⟩⟩
    have npd : pd ≠ x := fun z => by rw [z, hx3] at hpd; cases hpd
    have npd1 : pd ≠ p1 := fun z => by rw [z, h13] at hpd; cases hpd
    have nspd : pd ∉ S.st := (s3.ne hpd).1
    let Sx : Sc := ((S.but x).but p1).but pd
    have m1 : p1 ∈ Sx.ex := by simp [Sx, Sc.but]
    have md : pd ∈ Sx.ex := by simp [Sx, Sc.but]
    have xm : x ∈ Sx.ex := by simp [Sx, Sc.but]
    -- the dict is locked for good
    have f4 : Fr S H3 H4 := f4.to rfl
    have k4 : ∀ a o, a ∉ S.st → a ≠ pd → H3 a = some o → upd H4 pd (.frz od (.dK [(.inr T.sorted.name, vh)])) a = some o := fun a o ha n e => by rw [upd_ne n]; exact f4 a o ha e
    have s5 : StOk Sx (upd H4 pd (.frz od (.dK [(.inr T.sorted.name, vh)]))) := s4.put fun z => nspd (s4.sub pd z)
    have e5 : EnvR K Sx (upd H4 pd (.frz od (.dK [(.inr T.sorted.name, vh)]))) σ1 [some (.raw (.ref x)), some (.int T.m), some (.dic [(.inr T.name, T.tab)]), some (T.sorted.town CT), none] := ((e3.but hpd).mono (f4.to (T := Sx) rfl)).at_ex md
    have same : (upd H4 pd (.frz od (.dK [(.inr T.sorted.name, vh)]))) pd = some (.frz od (.dK [(.inr T.sorted.name, vh)])) := upd_same
    generalize hU : upd H4 pd (.frz od (.dK [(.inr T.sorted.name, vh)])) = H5 at k4 s5 e5 same ⊢
    clear hU
    let J1 : L2.St → Hp → Prop := fun σ' H' => σ'[0]? = some (some (.ref x)) ∧ ∃ v1, H' p1 = some (.dK [(.inr T.name, v1)]) ∧ Rp K Sx H' v1 T.sorted.tab ∧ StOk Sx H' ∧ H' pd = some (.frz od (.dK [(.inr T.sorted.name, vh)])) ∧ ∀ a o, a ∉ S.st → a ≠ p1 → H5 a = some o → H' a = some o
    refine ⟨fun j m σ' H' => (j = 0 ∧ m = 1 ∧ σ' = σ1 ∧ H' = H5) ∨ (j = 1 ∧ m = 0 ∧ J1 σ' H'), ⟨1, .inl ⟨rfl, rfl, rfl, rfl⟩⟩, ?_⟩
    rintro j m σ' H' (⟨rfl, rfl, rfl, rfl⟩ | ⟨rfl, rfl, gx', v1, g1, r1, gs, gd, gk⟩)
    · refine .inr ⟨⟨same, Nat.zero_lt_one⟩, J1, fun σ2 H2 h => ⟨0, Nat.zero_lt_one, .inr ⟨rfl, rfl, h⟩⟩, fun y H7 hy => ?_⟩
      obtain ⟨rfl, k', w', e2, rfl⟩ := hy
      obtain rfl : (.inr T.name : Key) = k' := congrArg Prod.fst (Option.some.inj e2)
      have e6 : EnvR K Sx H7 (σ'.set 4 (some (.str T.name))) [some (.raw (.ref x)), some (.int T.m), some (.dic [(.inr T.name, T.tab)]), some (T.sorted.town CT), some (.str T.name)] := e5.set (i := 4) (.str T.name)
      show sDPut _ _ _ _ (σ'.set 4 (some (.str T.name))) H7
      have eg : Ev K Sx (tDGet (tVar 2) (tVar 4)) [some (.raw (.ref x)), some (.int T.m), some (.dic [(.inr T.name, T.tab)]), some (T.sorted.town CT), some (.str T.name)] (Eq (.tup [.hd (headD T.cs), plD T.n T.h0 T.rest, .lst (rowsD T.rows)])) := ev_dget (k := .inr T.name) val_one (ev_var rfl) (ev_var rfl)
      refine (ev_tupD (ea_consD (ev_ixT rfl eg ev_int) (ea_consD (ev_ixT rfl eg ev_int) (ea_consD (ev_meth rfl (ev_var (d := T.sorted.town CT) rfl) (ea_consD (ev_var (d := .str T.name) rfl) ea_nil) ⟨T.sorted, k, rfl, hk⟩ fun d q => (q T.sorted rfl).symm) ea_nil))) (show 3 ≤ sizeLine by decide)) _ H7 e6 s5 _ fun v8 H8 d8 f8 s8 p8 r8 => ?_
      subst p8
      have ex : (σ'.set 4 (some (V.str T.name)))[0]? = some (some (.ref x)) := e6.raw rfl
      have en : (σ'.set 4 (some (V.str T.name)))[4]? = some (some (.str T.name)) := e6.str rfl
      have h18 := f8 _ _ nxp1.1 (k4 _ _ nxp1.1 npd1.symm h13)
      refine ⟨.ref x, ex, x, CS, dx, _, .ref p1, rfl, f8 _ _ nx.1 (k4 _ _ nx.1 npd.symm hx3), c.cls, c.held, rfl, .str T.name, en, p1, _, rfl, DPut.k (k := .inr T.name) h18 (show (0 : Nat) < sizeLine by decide), ?_⟩
      exact ⟨ex, v8, upd_same, r8.at_ex m1, s8.put fun z => nxp1.1 (s8.sub p1 z), by rw [upd_ne npd1]; exact f8 _ _ nspd same, fun a o ha n e => by rw [upd_ne n]; exact f8 a o ha e⟩
    · refine .inl ⟨⟨gd, Nat.le_refl 1⟩, ?_⟩
      have hxF := gk x _ nx.1 np1.symm (k4 x _ nx.1 npd.symm hx3)
      -- moves
      intro p2 hp2
      have np2 : p2 ≠ x := fun z => by rw [z, hxF] at hp2; cases hp2
      have np21 : p2 ≠ p1 := fun z => by rw [z, g1] at hp2; cases hp2
      have nxp2 : S.no p2 := ⟨(gs.ne hp2).1, fun z => (gs.ne hp2).2 (by simp [Sx, Sc.but, z])⟩
      refine ⟨.ref x, gx', x, CS, dx, [("count", .int T.m), ("held", .ref p1)], rfl, (by rw [upd_ne np2.symm]; exact hxF), c.cls, c.moves, (show (2 : Nat) < 1000 by decide), ?_⟩
      refine q _ (fun a o ha hne he => ?_) ?_ ?_
      · have a1 := k1 a o hne (f1 a o ha he)
        have a2 := k2 a o hne a1
        have n1 : a ≠ p1 := fun z => by rw [z, hp1] at a1; cases a1
        have n2 : a ≠ pd := fun z => by rw [z, hpd] at a2; cases a2
        have a3 := gk a o ha n1 (k4 a o ha n2 a2)
        rw [upd_ne hne, upd_ne (fun z => by rw [z, hp2] at a3; cases a3)]
        exact a3
      · exact ((gs.new hp2).put fun z => nx.1 (gs.sub x z)).unbut.unbut.unbut
      · have un : ∀ {v : V} {y : Dat}, Rp K Sx H' v y → Rp K S (upd (upd H' p2 (.dK [])) x (.ins CS dx [("count", .int T.m), ("held", .ref p1), ("moves", .ref p2)])) v y := fun r => ((r.mono (.new hp2)).at_ex xm).unbut.unbut.unbut
        have em : T.sorted.mv = none := hmv
        have ef : T.sorted.fields = ([("count", .int T.m), ("held", .dic [(.inr T.name, T.sorted.tab)]), ("moves", .dic [])] : List (Str × Dat)) := by
          unfold Tb.fields
          rw [em]
          rfl
        show Rp K S _ _ (.ob CS T.sorted.fields)
        rw [ef]
        exact .ob nx upd_same (.cons (.int _) (.cons (.dic nxp1 (by rw [upd_ne np1, upd_ne np21.symm]; exact g1) (.cons (un r1) .nil)) (.cons (.dic nxp2 (by rw [upd_ne np2, upd_same]) .nil) .nil)))
end
end Sh
/-! a store's writing methods -/
namespace Sh
open PySem PySem.Spec PyProof.Rows L2
theorem mark_seq {cs : Cols} {mk : Option Row} (h : ∀ r, mk = some r → RowK cs r) : (markD mk).seq = true := by
  cases mk with
  | none => rfl
  | some r => exact row_seq (h r rfl)
theorem move_seq {cs : Cols} {y : Int × Int × Option Row} (h : ∀ r, y.2.2 = some r → RowK cs r) : (moveD y).seq = true := by
  show (true && (true && ((markD y.2.2).seq && true))) = true
  rw [mark_seq h]
  rfl
section
variable {K : PySem.W.Frag} {S : Sc} {ρ : Rho} {t u : TS} {tt : TT} {te : TE} {D : Ends} {σ : L2.St} {H : Hp}
theorem go_skip {b : Bool} (h : EvT K S tt ρ (Eq b)) (hb : b = false) (e : EnvR K S H σ ρ) (s : StOk S H) (k : ∀ H', Fr S H H' → StOk S H' → u D σ H') : tSeq (tIfS tt t tNext) u D σ H := h σ H e s _ fun c H1 f1 s1 hc => by
  subst hc
  subst hb
  exact k H1 f1 s1
theorem go_drop (h : te σ H fun _ H1 => u D σ H1) : tSeq (tDrop te) u D σ H := h
theorem go_if {t' : TS} {R : Bool → Prop} (h : EvT K S tt ρ R) (e : EnvR K S H σ ρ) (s : StOk S H) (k1 : ∀ H', Fr S H H' → StOk S H' → R true → t { D with nx := u D } σ H') (k2 : ∀ H', Fr S H H' → StOk S H' → R false → t' { D with nx := u D } σ H') : tSeq (tIfS tt t t') u D σ H := h σ H e s _ fun c H1 f1 s1 hc => by
  cases c with
  | true => exact k1 H1 f1 s1 hc
  | false => exact k2 H1 f1 s1 hc
end
/-- a store stands at x, its dicts at dh and dm -/
structure StAt (K : PySem.W.Frag) (S : Sc) (CS : Addr) (H : Hp) (x dh dm : Addr) (T : Tb) : Prop where
  nx : S.no x
  nh : S.no dh
  nm : S.no dm
  ne : dh ≠ dm
  ex : ∃ dx vt mvs, H x = some (.ins CS dx [("count", .int T.m), ("held", .ref dh), ("moves", .ref dm)]) ∧ H dh = some (.dK [(.inr T.name, vt)]) ∧ H dm = some (.dK mvs) ∧ Rp K S H vt T.tab ∧ Rpk K S H mvs (mvD T.name T.mv)
def Frm (S : Sc) (dh dm : Addr) (H H' : Hp) : Prop := ∀ a o, a ∉ S.st → a ≠ dh → a ≠ dm → H a = some o → H' a = some o
theorem Frm.of {S : Sc} {dh dm : Addr} {H H' : Hp} (f : Fr S H H') : Frm S dh dm H H' := fun a o h _ _ e => f a o h e
theorem Frm.trans {S : Sc} {dh dm : Addr} {H H1 H2 : Hp} (f : Frm S dh dm H H1) (g : Frm S dh dm H1 H2) : Frm S dh dm H H2 := fun a o h n m e => g a o h n m (f a o h n m e)
section
variable {K : PySem.W.Frag} {S : Sc} {CS : Addr} {H H' : Hp} {x dh dm : Addr} {T : Tb}
theorem Rp.wr {d : Addr} {u o : HO} {v : V} {y : Dat} (hd : H d = some u) (od : Odd u) (q : y.seq = true) (r : Rp K S H v y) : Rp K S (upd H d o) v y := ((r.off hd od q).at_ex List.mem_cons_self).unbut
theorem Rpk.wr {d : Addr} {u o : HO} (hd : H d = some u) (od : Odd u) : ∀ {vs : List (Key × V)} {ds : List (Key × Dat)}, (∀ kd ∈ ds, kd.2.seq = true) → Rpk K S H vs ds → Rpk K S (upd H d o) vs ds
  | _, _, _, .nil => .nil
  | _, _, q, .cons a t => .cons (a.wr hd od (q _ List.mem_cons_self)) (Rpk.wr hd od (fun kd h => q kd (List.mem_cons_of_mem _ h)) t)
theorem StAt.mono (a : StAt K S CS H x dh dm T) (f : Fr S H H') : StAt K S CS H' x dh dm T := by
  obtain ⟨dx, vt, mvs, h1, h2, h3, r1, r2⟩ := a.ex
  exact ⟨a.nx, a.nh, a.nm, a.ne, dx, vt, mvs, f _ _ a.nx.1 h1, f _ _ a.nh.1 h2, f _ _ a.nm.1 h3, r1.mono f, r2.mono f⟩
theorem StAt.rp (a : StAt K S CS H x dh dm T) : Rp K S H (.ref x) (T.store CS) := by
  obtain ⟨dx, vt, mvs, h1, h2, h3, r1, r2⟩ := a.ex
  exact .ob a.nx h1 (.cons (.int _) (.cons (.dic a.nh h2 (.cons r1 .nil)) (.cons (.dic a.nm h3 r2) .nil)))
theorem StAt.held {v : V} {T' : Tb} (a : StAt K S CS H x dh dm T) (r : Rp K S H v T'.tab) (q : T'.tab.seq = true) (qm : ∀ y, T.mv = some y → (moveD y).seq = true) (e1 : T'.m = T.m) (e2 : T'.name = T.name) (e3 : T'.mv = T.mv) : StAt K S CS (upd H dh (.dK [(.inr T.name, v)])) x dh dm T' := by
  obtain ⟨dx, vt, mvs, h1, h2, h3, r1, r2⟩ := a.ex
  refine ⟨a.nx, a.nh, a.nm, a.ne, dx, v, mvs, ?_, by rw [e2]; exact upd_same, by rw [upd_ne a.ne.symm]; exact h3, r.wr h2 trivial q, ?_⟩
  · rw [upd_ne (fun z => by rw [z, h2] at h1; cases h1), e1]
    exact h1
  · rw [e2, e3]
    refine Rpk.wr h2 trivial (fun kd hk => ?_) r2
    cases hm : T.mv with
    | none =>
      rw [hm] at hk
      cases hk
    | some y =>
      rw [hm] at hk
      rw [List.mem_singleton.mp hk]
      exact qm y hm
theorem StAt.moved {mvs' : List (Key × V)} {mv' : Mv} (a : StAt K S CS H x dh dm T) (r : Rpk K S H mvs' (mvD T.name mv')) (q : T.tab.seq = true) (qm : ∀ y, mv' = some y → (moveD y).seq = true) : StAt K S CS (upd H dm (.dK mvs')) x dh dm { T with mv := mv' } := by
  obtain ⟨dx, vt, mvs, h1, h2, h3, r1, r2⟩ := a.ex
  refine ⟨a.nx, a.nh, a.nm, a.ne, dx, vt, mvs', ?_, by rw [upd_ne a.ne]; exact h2, upd_same, r1.wr h3 trivial q, ?_⟩
  · rw [upd_ne (fun z => by rw [z, h3] at h1; cases h1)]
    exact h1
  · refine Rpk.wr h3 trivial (fun kd hk => ?_) r
    cases mv' with
    | none => cases hk
    | some y =>
      rw [List.mem_singleton.mp hk]
      exact qm y rfl
theorem Rp.frm {v : V} {y : Dat} (a : StAt K S CS H x dh dm T) (f : Frm S dh dm H H') (q : y.seq = true) (r : Rp K S H v y) : Rp K S H' v y := by
  obtain ⟨dx, vt, mvs, h1, h2, h3, _, _⟩ := a.ex
  have kp : Kp ((S.but dh).but dm) H H' := fun b o n e => f b o n.1 (fun z => n.2 (by simp [Sc.but, z])) (fun z => n.2 (by simp [Sc.but, z])) e
  exact (((r.off h2 trivial q).off h3 trivial q).kp kp).unbut.unbut
def okR : Rho → Bool
  | [] => true
  | none :: r => okR r
  | some d :: r => d.seq && okR r
theorem okR_get : ∀ {ρ : Rho} {i : Nat} {d : Dat}, okR ρ = true → ρ[i]? = some (some d) → d.seq = true
  | [], _, _, _, e => by simp at e
  | none :: r, 0, _, _, e => by cases e
  | none :: r, i + 1, _, h, e => okR_get (ρ := r) (i := i) h (by simpa using e)
  | some d :: r, 0, _, h, e => by
    cases e
    exact (Bool.and_eq_true_iff.mp h).1
  | some d :: r, i + 1, _, h, e => okR_get (ρ := r) (i := i) (Bool.and_eq_true_iff.mp h).2 (by simpa using e)
theorem EnvR.frm {σ : L2.St} {ρ : Rho} (a : StAt K S CS H x dh dm T) (f : Frm S dh dm H H') (q : okR ρ = true) (e : EnvR K S H σ ρ) : EnvR K S H' σ ρ := ⟨e.len, fun i d g => by
  obtain ⟨v, h1, h2⟩ := e.get i d g
  exact ⟨v, h1, h2.frm a f (okR_get q g)⟩⟩
theorem TbOk.mvseq {k : Str} (h : TbOk T k) : ∀ y, T.mv = some y → (moveD y).seq = true := fun y e => move_seq (h.mv y e).mark
theorem TbOk.seq {k : Str} (h : TbOk T k) : T.tab.seq = true := tabD_seq h.pl.cuts h.rows.each
theorem putK_one {k : Key} {v w : V} : putK [(k, v)] k w = [(k, w)] := by simp [putK]
/-- self.held[name] = a table -/
theorem do_held {ρ : Rho} {σ : L2.St} {T' : Tb} {tv : TE} {D : Ends} (c : StoreC K CS) (a : StAt K S CS H x dh dm T) (s : StOk S H) (h0 : σ[0]? = some (some (.ref x))) (h1 : σ[1]? = some (some (.str T.name))) (e : EnvR K S H σ ρ) (hv : Ev K S tv ρ (Eq T'.tab)) (q : T'.tab.seq = true) (qm : ∀ y, T.mv = some y → (moveD y).seq = true) (e1 : T'.m = T.m) (e2 : T'.name = T.name) (e3 : T'.mv = T.mv)
    (k : ∀ H', Frm S dh dm H H' → StOk S H' → StAt K S CS H' x dh dm T' → D.nx σ H') : sDPut (tFld K (tVar 0) "held") (tVar 1) tv D σ H := by
  refine hv σ H e s _ fun v H1 d1 f1 s1 p1 r1 => ?_
  subst p1
  have a1 := a.mono f1
  obtain ⟨dx, vt, mvs, g1, g2, g3, _, _⟩ := a1.ex
  refine ⟨.ref x, h0, x, CS, dx, _, .ref dh, rfl, g1, c.cls, c.held, rfl, .str T.name, h1, dh, _, rfl, DPut.k (k := .inr T.name) g2 (show (1 : Nat) < sizeLine by decide), ?_⟩
  rw [putK_one]
  exact k _ (fun b o hb n m he => by rw [upd_ne n]; exact f1 b o hb he) (s1.put fun z => a.nh.1 (s1.sub dh z)) (a1.held r1 q qm e1 e2 e3)
end
theorem srt_rows_ok {cs : Cols} {rows : List Row} (h : RowsOk cs rows) : RowsOk cs (srtR rows) := ⟨fun r hr => h.each r ((srtR_perm rows).mem_iff.mp hr), by rw [srtR_len]; exact h.few⟩
section
variable {P : Program} {w : World} {K : PySem.W.Frag} {mg : Str → Option Value} {base : Heap} {aW aK : Addr} {f : Addr} {fd : FuncData} {CS CT : Addr}
/-- put -/
def spPut (K : PySem.W.Frag) (CS : Addr) : Sp := fun vs H Q _ => ∃ (S : Sc) (T : Tb) (k : Str) (x dh dm : Addr) (vr : V) (r : Row), vs = [.ref x, .str T.name, vr] ∧ StOk S H ∧ StAt K S CS H x dh dm T ∧ TbOk T k ∧ Rp K S H vr (.tup r) ∧ RowK T.cs r ∧ T.rows.length < 60 ∧
  ∀ H', Frm S dh dm H H' → StOk S H' → StAt K S CS H' x dh dm { T with rows := srtR (T.rows ++ [r]) } → Q .non H'
/-- Store.put -/
abbrev s_Store_put : Stmt := inClass (top 41) 4
theorem sc_Store_put : FnScope ["self", "name", "row", "head", "placing", "rows"] ["self", "name", "row"] (defScope s_Store_put) := ⟨rfl, rfl, rfl, by decide +kernel, rfl, by decide +kernel, by decide +kernel⟩
theorem ok_Store_put (F : Fun K "put" "Store.put" s_Store_put f fd) (X : Txt K mg aW aK) (L : Lo P w K mg base) (c : StoreC K CS) (m_Store_table_of : Ml P w K mg base CS "table_of" 3 ["self", "name"] (SpD K (pre_Store_table_of CS) (post_Store_table_of CS))) : FnOk P w K mg base CX0 4 f fd ["self", "name", "row"] (spPut K CS) := by
  refine F.ok sc_Store_put (fun vs H Q E h => by obtain ⟨S, T, k, x, dh, dm, vr, r, rfl, h⟩ := h; rfl) fun cdv A outer s H vs Q E hr h => ?_
  have nd := sc_Store_put.nd
  have hu := hr.units
  have hu0 := hr.units0
  have hu1 := hu_of hr
  have hu65 := u65 hr
  refine ⟨_, (pss_cons (ps_asg (pe_mt m_Store_table_of (hr.mono (by decide)) (pv 0) (pa_cons (pv 1) pa_nil)) (pg_tup rfl (pgs_cons (pg_name (i := 3) nd rfl (by first | exact Or.inl rfl | exact Or.inr rfl)) (pgs_cons (pg_name (i := 4) nd rfl (by first | exact Or.inl rfl | exact Or.inr rfl)) (pgs_cons (pg_name (i := 5) nd rfl (by first | exact Or.inl rfl | exact Or.inr rfl)) pgs_nil)))))
      (pss_cons (ps_if (pt_not (pt_val (pe_fn L.is_row (hr.mono (by decide)) (pa_cons (pv 3) (pa_cons (pv 2) pa_nil))))) pss_never pss_nil)
      (pss_one (ps_dput hu1 (pe_fldK (K := K) rfl (pv 0) rfl) (pv 1) (pe_tup (pa_cons (pv 3) (pa_cons (pv 4) (pa_cons (pe_srt X.b hu (pe_op (r := rCatL K) op_catL (pv 5) (pe_lst (pa_cons (pv 2) pa_nil)))) pa_nil)))) rfl)))), ?_⟩
  obtain ⟨S, T, k, x, dh, dm, vr, r, rfl, s0, a, h, rr, hr1, hfew, q⟩ := h
  have e0 : EnvR K S H (start ["self", "name", "row", "head", "placing", "rows"] [.ref x, .str T.name, vr]) [some (T.store CS), some (.str T.name), some (.tup r), none, none, none] := .consS a.rp (.consS (.str _) (.consS rr (.consN (.consN (.consN .nil)))))
  refine go_asg ?_
  refine (ev_meth (fs := T.fields) (C := CS) rfl (ev_var (d := T.store CS) (i := 0) rfl) (ea_consD (ev_var (i := 1) (d := .str T.name) rfl) ea_nil) ⟨T, k, rfl, h⟩ fun d q => (q T rfl).symm) _ H e0 s0 _ fun v1 H1 d1 f1 s1 p1 r1 => ?_
  subst p1
  refine g_three v1 _ H1 r1 (e0.mono f1) _ fun σ2 e2 ag => ?_
  have a1 := a.mono f1
  have h0 : σ2[0]? = some (some (.ref x)) := (ag.2 0 (by decide)).trans rfl
  have h1 : σ2[1]? = some (some (.str T.name)) := (ag.2 1 (by decide)).trans rfl
  refine go_skip (et_not (et_BD (b := true) (ev_callD (ea_consD (ev_un (ev_var (i := 3) rfl)) (ea_consD (ev_var (i := 2) (d := .tup r) rfl) ea_nil)) ⟨T.cs, r, rfl, h.pl.head, hr1⟩ fun d q => q.symm))) rfl e2 s1 fun H2 f2 s2 => ?_
  have hw : ∀ r' ∈ T.rows ++ [r], RowK T.cs r' := fun r' hr' => by
    rcases List.mem_append.mp hr' with z | z
    · exact h.rows.each r' z
    · rw [List.mem_singleton.mp z]
      exact hr1
  have ea : rowsD T.rows ++ [.tup r] = rowsD (T.rows ++ [r]) := by
    show rowsD T.rows ++ rowsD [r] = _
    rw [rowsD_app]
  refine do_held (T := T) (T' := { T with rows := srtR (T.rows ++ [r]) }) c (a1.mono f2) s2 h0 h1 (e2.mono f2) ((ev_tupD (ea_consD (ev_var (i := 3) rfl) (ea_consD (ev_var (i := 4) rfl) (ea_consD (ev_srt ?cs ((ev_catL ?hl (ev_var (i := 5) rfl) (ev_lstD (ea_consD (ev_var (i := 2) (d := .tup r) rfl) ea_nil) (show 1 ≤ sizeLine by decide))).is (congrArg Dat.lst ea))) ea_nil))) (show 3 ≤ sizeLine by decide)).is ?_) ?_ h.mvseq rfl rfl rfl fun H' f3 s3 a3 => q H' ((Frm.of (f1.trans f2)).trans f3) s3 a3
  case cs => exact rows_sort h.pl.head hw
  case hl =>
    have e : (rowsD T.rows).length = T.rows.length := List.length_map ..
    rw [e]
    exact Nat.le_trans (Nat.add_le_add (Nat.le_of_lt hfew) (Nat.le_refl 1)) (by decide)
  · show _ = tabD T.cs T.n T.h0 T.rest (srtR (T.rows ++ [r]))
    unfold tabD
    rw [srtR_d]
  · exact tabD_seq h.pl.cuts fun r' hr' => hw r' ((srtR_perm _).mem_iff.mp hr')
/-- with_cuts -/
def spCuts (K : PySem.W.Frag) (CS : Addr) : Sp := fun vs H Q _ => ∃ (S : Sc) (T : Tb) (k : Str) (x dh dm : Addr) (vc : V) (h0 : Int) (rest : Cuts), vs = [.ref x, .str T.name, vc] ∧ StOk S H ∧ StAt K S CS H x dh dm T ∧ TbOk T k ∧ Rp K S H vc (.tup (cutsD h0 rest)) ∧ CutsOk k T.m h0 rest ∧
  ∀ H', Frm S dh dm H H' → StOk S H' → StAt K S CS H' x dh dm { T with h0 := h0, rest := rest } → Q .non H'
/-- Store.with_cuts -/
abbrev s_Store_with_cuts : Stmt := inClass (top 41) 6
theorem sc_Store_with_cuts : FnScope ["self", "name", "cuts", "head", "placing", "rows"] ["self", "name", "cuts"] (defScope s_Store_with_cuts) := ⟨rfl, rfl, rfl, by decide +kernel, rfl, by decide +kernel, by decide +kernel⟩
theorem ok_Store_with_cuts (F : Fun K "with_cuts" "Store.with_cuts" s_Store_with_cuts f fd) (X : Txt K mg aW aK) (c : StoreC K CS) : FnOk P w K mg base CX0 1 f fd ["self", "name", "cuts"] (spCuts K CS) := by
  refine F.ok sc_Store_with_cuts (fun vs H Q E h => by obtain ⟨S, T, k, x, dh, dm, vc, h0', rest', rfl, h⟩ := h; rfl) fun cdv A outer s H vs Q E hr h => ?_
  have nd := sc_Store_with_cuts.nd
  have hu := hr.units
  have hu0 := hr.units0
  have hu1 := hu_of hr
  have hu65 := u65 hr
  refine ⟨_, (pss_cons (ps_asg (pe_dget hu1 (pe_fldK (K := K) rfl (pv 0) rfl) (pv 1) (fun _ _ => rfl)) (pg_tup rfl (pgs_cons (pg_name (i := 3) nd rfl (by first | exact Or.inl rfl | exact Or.inr rfl)) (pgs_cons (pg_name (i := 4) nd rfl (by first | exact Or.inl rfl | exact Or.inr rfl)) (pgs_cons (pg_name (i := 5) nd rfl (by first | exact Or.inl rfl | exact Or.inr rfl)) pgs_nil)))))
      (pss_one (ps_dput hu1 (pe_fldK (K := K) rfl (pv 0) rfl) (pv 1) (pe_tup (pa_cons (pv 3) (pa_cons (pe_tup (pa_cons pe_str (pa_cons (pe_ix (r := rIx K) ix_seq (pv 4) pe_int (fun _ _ => rfl)) (pa_cons (pe_tupS X.b (pv 2)) pa_nil)))) (pa_cons (pv 5) pa_nil)))) rfl))), ?_⟩
  obtain ⟨S, T, k, x, dh, dm, vc, h0', rest', rfl, s0, a, h, rc, hc, q⟩ := h
  have e0 : EnvR K S H (start ["self", "name", "cuts", "head", "placing", "rows"] [.ref x, .str T.name, vc]) [some (T.store CS), some (.str T.name), some (.tup (cutsD h0' rest')), none, none, none] := .consS a.rp (.consS (.str _) (.consS rc (.consN (.consN (.consN .nil)))))
  refine go_asg ?_
  refine (ev_dget (z := T.tab) (k := .inr T.name) val_one (ev_held c (ev_var (d := T.store CS) (i := 0) rfl)) (ev_var (i := 1) (d := .str T.name) rfl)) _ H e0 s0 _ fun v1 H1 d1 f1 s1 p1 r1 => ?_
  subst p1
  refine g_three v1 _ H1 r1 (e0.mono f1) _ fun σ2 e2 ag => ?_
  have a1 := a.mono f1
  have h0 : σ2[0]? = some (some (.ref x)) := (ag.2 0 (by decide)).trans rfl
  have h1 : σ2[1]? = some (some (.str T.name)) := (ag.2 1 (by decide)).trans rfl
  exact do_held (T := T) (T' := { T with h0 := h0', rest := rest' }) c a1 s1 h0 h1 e2 (ev_tupD (ea_consD (ev_var (i := 3) rfl) (ea_consD (ev_tupD (ea_consD ev_str (ea_consD (ev_ixT (xs := [.str "spans", .str T.n, .tup (cutsD T.h0 T.rest)]) rfl (ev_var (i := 4) rfl) ev_int) (ea_consD (ev_tupS (ev_var (i := 2) rfl)) ea_nil))) (show 3 ≤ sizeLine by decide)) (ea_consD (ev_var (i := 5) rfl) ea_nil))) (show 3 ≤ sizeLine by decide)) (tabD_seq hc h.rows.each) h.mvseq rfl rfl rfl fun H' f3 s3 a3 => q H' ((Frm.of f1).trans f3) s3 a3
end
end Sh
/-! a store's writing methods: drop, lend, carry -/
namespace Sh
open PySem PySem.Spec PyProof.Rows L2
theorem first_of {α : Type} {r : α} : ∀ {l : List α}, r ∈ l → ∃ j : Nat, l[j]? = some r ∧ ∀ m : Nat, m < j → l[m]? ≠ some r
  | [], h => by cases h
  | a :: l, h => by
    by_cases e : a = r
    · exact ⟨0, by rw [e]; rfl, fun m hm => absurd hm (Nat.not_lt_zero _)⟩
    · have h2 : r ∈ l := (List.mem_cons.mp h).elim (fun z => absurd z.symm e) id
      obtain ⟨j, h3, h4⟩ := first_of h2
      refine ⟨j + 1, by simpa using h3, fun m hm => ?_⟩
      cases m with
      | zero => exact fun z => e (Option.some.inj z)
      | succ m =>
        intro z
        exact h4 m (Nat.lt_of_succ_lt_succ hm) (by simpa using z)
theorem erase_rows (rows : List Row) (j : Nat) : (rowsD rows).eraseIdx j = rowsD (rows.eraseIdx j) := by
  unfold rowsD
  induction rows generalizing j with
  | nil => cases j <;> rfl
  | cons r rows ih =>
    cases j with
    | zero => rfl
    | succ j =>
      rw [List.map_cons, List.eraseIdx_cons_succ, ih j, List.eraseIdx_cons_succ, List.map_cons]
/-! the distinct rows, sorted -/
open Classical in
noncomputable def nub : List Row → List Row
  | [] => []
  | r :: rows => if r ∈ rows then nub rows else r :: nub rows
theorem nub_mem {x : Row} : ∀ {rows : List Row}, x ∈ nub rows ↔ x ∈ rows
  | [] => Iff.rfl
  | r :: rows => by
    unfold nub
    split
    · rename_i h
      rw [nub_mem, List.mem_cons]
      exact ⟨.inr, fun z => z.elim (fun e => e ▸ h) id⟩
    · rw [List.mem_cons, List.mem_cons, nub_mem]
theorem nub_nodup : ∀ rows : List Row, (nub rows).Nodup
  | [] => List.nodup_nil
  | r :: rows => by
    unfold nub
    split
    · exact nub_nodup rows
    · rename_i h
      exact List.nodup_cons.mpr ⟨fun z => h (nub_mem.mp z), nub_nodup rows⟩
noncomputable def uq (rows : List Row) : List Row := srtR (nub rows)
theorem uq_mem {x : Row} {rows : List Row} : x ∈ uq rows ↔ x ∈ rows := (srtR_perm _).mem_iff.trans nub_mem
theorem nub_len : ∀ rows : List Row, (nub rows).length ≤ rows.length
  | [] => Nat.le_refl 0
  | r :: rows => by
    unfold nub
    split
    · exact Nat.le_succ_of_le (nub_len rows)
    · exact Nat.succ_le_succ (nub_len rows)
def keyD : Dat → Key
  | .int n => .inl n
  | .str x => .inr x
  | _ => .inl 0
theorem keyD_of {k : Str} {d : Dat} (h : ValK k d) : kD (keyD d) = d := by
  rcases h with ⟨_, i, rfl⟩ | ⟨_, x, rfl, _⟩ <;> rfl
theorem keys_row : ∀ {cs : Cols} {r : Row}, RowK cs r → (r.map keyD).map kD = r
  | [], [], _ => rfl
  | _ :: _, _ :: _, h => by rw [List.map_cons, List.map_cons, keyD_of h.1, keys_row h.2]
  | [], _ :: _, h => h.elim
  | _ :: _, [], h => h.elim
theorem rows_set {cs : Cols} {rows : List Row} (h : RowsOk cs rows) : CanSet (rowsD rows) := .inr ⟨rows.map fun r => r.map keyD, by rw [List.length_map]; exact Nat.le_trans h.few (by decide), by
  unfold rowsD
  rw [List.map_map]
  refine List.map_congr_left fun r hr => ?_
  show Dat.tup r = Dat.tup ((r.map keyD).map kD)
  rw [keys_row (h.each r hr)]⟩
section
variable {K : PySem.W.Frag} {S : Sc} {ρ : Rho} {ta tb : TE} {CS : Addr} {H : Hp} {x dh dm : Addr} {T : Tb}
theorem ev_uq {cs : Cols} {rows : List Row} (hc : HeadOk cs) (h : RowsOk cs rows) (ha : Ev K S ta ρ (Eq (.lst (rowsD rows)))) : Ev K S (tSrtSet K ta) ρ (Eq (.lst (rowsD (uq rows)))) :=
  (ev_srtset (rows_set h) (rows_sort hc h.each) ha).imp fun d ⟨L, h1, h2, h3⟩ => by
    rw [h3]
    have pm : (rowsD (nub rows)).Perm L := (List.perm_ext_iff_of_nodup (List.pairwise_map.mpr (List.Pairwise.imp (fun hne z => hne (by injection z)) (nub_nodup rows))) h1).mpr fun d => by
      rw [h2]
      constructor
      · intro hd
        obtain ⟨r, hr, rfl⟩ := List.mem_map.mp hd
        exact List.mem_map.mpr ⟨r, nub_mem.mp hr, rfl⟩
      · intro hd
        obtain ⟨r, hr, rfl⟩ := List.mem_map.mp hd
        exact List.mem_map.mpr ⟨r, nub_mem.mpr hr, rfl⟩
    unfold uq
    rw [srtR_d, srt_one (rows_sort hc fun r hr => h.each r (nub_mem.mp hr)) pm]
theorem cut_take {α : Type} {xs : List α} {m : Int} (h : 0 ≤ m) : cutD xs none (some m) = xs.take m.toNat := by
  have e0 : HT.sIx xs.length 0 none = 0 := rfl
  have e1 : HT.sIx xs.length xs.length (some m) = min m.toNat xs.length := by
    show (if m < 0 then _ else min m.toNat xs.length) = _
    rw [if_neg (by omega)]
  unfold cutD
  rw [e0, e1, List.drop_zero, Nat.sub_zero]
  by_cases c : m.toNat ≤ xs.length
  · rw [Nat.min_eq_left c]
  · rw [Nat.min_eq_right (by omega), List.take_length, List.take_of_length_le (by omega)]
/-- self.moves[name] = a move -/
theorem do_move {σ : L2.St} {y : Int × Int × Option Row} {tv : TE} {D : Ends} (c : StoreC K CS) (a : StAt K S CS H x dh dm T) (s : StOk S H) (h0 : σ[0]? = some (some (.ref x))) (h1 : σ[1]? = some (some (.str T.name))) (e : EnvR K S H σ ρ) (hv : Ev K S tv ρ (Eq (moveD y))) (q : T.tab.seq = true) (qm : (moveD y).seq = true)
    (k : ∀ H', Frm S dh dm H H' → StOk S H' → StAt K S CS H' x dh dm { T with mv := some y } → D.nx σ H') : sDPut (tFld K (tVar 0) "moves") (tVar 1) tv D σ H := by
  refine hv σ H e s _ fun v H1 d1 f1 s1 p1 r1 => ?_
  subst p1
  have a1 := a.mono f1
  obtain ⟨dx, vt, mvs, g1, g2, g3, _, r2⟩ := a1.ex
  have em : (putK mvs (.inr T.name) v) = [(.inr T.name, v)] ∧ mvs.length < sizeLine := by
    cases hm : T.mv with
    | none =>
      rw [hm] at r2
      cases r2
      exact ⟨rfl, by decide⟩
    | some z =>
      rw [hm] at r2
      cases r2 with
      | cons _ rn =>
        cases rn
        exact ⟨putK_one, show 1 < sizeLine by decide⟩
  refine ⟨.ref x, h0, x, CS, dx, _, .ref dm, rfl, g1, c.cls, c.moves, rfl, .str T.name, h1, dm, _, rfl, DPut.k (k := .inr T.name) g3 em.2, ?_⟩
  rw [em.1]
  exact k _ (fun b o hb n m he => by rw [upd_ne m]; exact f1 b o hb he) (s1.put fun z => a.nm.1 (s1.sub dm z)) (a1.moved (mv' := some y) (.cons r1 .nil) q fun y' e => by cases e; exact qm)
end
section
variable {P : Program} {w : World} {K : PySem.W.Frag} {mg : Str → Option Value} {base : Heap} {aW aK : Addr} {f : Addr} {fd : FuncData} {CS CT : Addr}
def Tb.cutHouse (T : Tb) (n : Int) : Int := ((T.h0 :: T.rest.map (·.2))[n.toNat]?).getD 0
theorem cuts_len {h0 : Int} {rest : Cuts} : (cutsD h0 rest).length = rest.length + 1 := by
  unfold cutsD
  rw [List.length_cons, List.length_map]
theorem cut_at' {T : Tb} {n : Int} (h : 0 ≤ n ∧ n ≤ T.rest.length) : ∃ x, atI (cutsD T.h0 T.rest) n = some (.tup [x, .int (T.cutHouse n)]) := by
  obtain ⟨x, e⟩ := cut_at (h0 := T.h0) (rest := T.rest) (i := n.toNat) (by omega)
  refine ⟨x, ?_⟩
  have := atI_nat e
  rw [show ((n.toNat : Nat) : Int) = n by omega] at this
  exact this
/-- lend -/
def spLend (K : PySem.W.Frag) (CS : Addr) : Sp := fun vs H Q _ => ∃ (S : Sc) (T : Tb) (k : Str) (x dh dm : Addr) (n hs : Int), vs = [.ref x, .str T.name, .int n, .int hs] ∧ StOk S H ∧ StAt K S CS H x dh dm T ∧ TbOk T k ∧ (0 ≤ n ∧ n ≤ T.rest.length) ∧ (0 ≤ hs ∧ hs < T.m) ∧ T.cutHouse n ≠ hs ∧ T.mv = none ∧
  ∀ H', Frm S dh dm H H' → StOk S H' → StAt K S CS H' x dh dm { T with mv := some (n, hs, none) } → Q .non H'
/-- Store.lend -/
abbrev s_Store_lend : Stmt := inClass (top 41) 8
theorem sc_Store_lend : FnScope ["self", "name", "number", "house", "cuts"] ["self", "name", "number", "house"] (defScope s_Store_lend) := ⟨rfl, rfl, rfl, by decide +kernel, rfl, by decide +kernel, by decide +kernel⟩
theorem ok_Store_lend (F : Fun K "lend" "Store.lend" s_Store_lend f fd) (X : Txt K mg aW aK) (L : Lo P w K mg base) (c : StoreC K CS) (m_Store_spans_of : Ml P w K mg base CS "spans_of" 4 ["self", "name"] (SpD K (pre_Store_spans_of CS) (post_Store_spans_of CS))) : FnOk P w K mg base CX0 5 f fd ["self", "name", "number", "house"] (spLend K CS) := by
  refine F.ok sc_Store_lend (fun vs H Q E h => by obtain ⟨S, T, k, x, dh, dm, n, hs, rfl, h⟩ := h; rfl) fun cdv A outer s H vs Q E hr h => ?_
  have nd := sc_Store_lend.nd
  have hu := hr.units
  have hu0 := hr.units0
  have hu1 := hu_of hr
  have hu65 := u65 hr
  refine ⟨_, (pss_cons (ps_set (i := 4) nd rfl (by first | exact Or.inl rfl | exact Or.inr rfl) (pe_ix (r := rIx K) ix_seq (pe_mt m_Store_spans_of (hr.mono (by decide)) (pv 0) (pa_cons (pv 1) pa_nil)) pe_int (fun _ _ => rfl)))
      (pss_cons (ps_if (PW.pt (pw_or (pt_not (pt_val (pe_fn L.is_whole (hr.mono (by decide)) (pa_cons (pv 2) pa_nil)))) (pw_or1 (pt_not (pt_chain op_leS op_ltS pe_int (pv 2) (pe_len X.b (pv 4))))))) pss_never pss_nil)
      (pss_cons (ps_if (PW.pt (pw_or (pt_not (pt_val (pe_fn L.is_house (hr.mono (by decide)) (pa_cons (pv 3) (pa_cons (pe_fldK (K := K) rfl (pv 0) rfl) pa_nil))))) (pw_or1 (pt_cmpR (r := rEqD K) (op_eqD hu) (pv 3) (pe_ix (r := rIx K) ix_seq (pe_ix (r := rIx K) ix_seq (pv 4) (pv 2) (fun _ _ => rfl)) pe_int (fun _ _ => rfl)) (nomark _))))) pss_never pss_nil)
      (pss_cons (ps_if (pt_cmp (pc_din hu1 (pv 1) (pe_fldK (K := K) rfl (pv 0) rfl)) (by with_unfolding_all rfl)) pss_never pss_nil)
      (pss_one (ps_dput hu1 (pe_fldK (K := K) rfl (pv 0) rfl) (pv 1) (pe_tup (pa_cons (pv 2) (pa_cons (pv 3) (pa_cons pe_non pa_nil)))) rfl)))))), ?_⟩
  obtain ⟨S, T, k, x, dh, dm, n, hs, rfl, s0, a, h, hn, hh, hne, hm, q⟩ := h
  have e0 : EnvR K S H (start ["self", "name", "number", "house", "cuts"] [.ref x, .str T.name, .int n, .int hs]) [some (T.store CS), some (.str T.name), some (.int n), some (.int hs), none] := .consS a.rp (.consS (.str _) (.consS (.int _) (.consS (.int _) (.consN .nil))))
  refine go_asg ?_
  refine (ev_ixT (xs := T.spans) (x := .tup (cutsD T.h0 T.rest)) rfl (ev_meth (fs := T.fields) (C := CS) rfl (ev_var (d := T.store CS) (i := 0) rfl) (ea_consD (ev_var (i := 1) (d := .str T.name) rfl) ea_nil) ⟨T, k, rfl, h⟩ fun d q => (q T rfl).symm) ev_int) _ H e0 s0 _ fun v1 H1 d1 f1 s1 p1 r1 => ?_
  subst p1
  have e1 := (e0.mono f1).set (i := 4) r1
  have h0 : ((start ["self", "name", "number", "house", "cuts"] [.ref x, .str T.name, .int n, .int hs]).set 4 (some v1))[0]? = some (some (.ref x)) := rfl
  have h1 : ((start ["self", "name", "number", "house", "cuts"] [.ref x, .str T.name, .int n, .int hs]).set 4 (some v1))[1]? = some (some (.str T.name)) := rfl
  show tSeq _ _ _ ((start ["self", "name", "number", "house", "cuts"] [.ref x, .str T.name, .int n, .int hs]).set 4 (some v1)) H1
  generalize (start ["self", "name", "number", "house", "cuts"] [.ref x, .str T.name, .int n, .int hs]).set 4 (some v1) = σ1 at e1 h0 h1 ⊢
  have a1 := a.mono f1
  obtain ⟨y, hy⟩ := cut_at' hn
  have ec : ∀ {S : Sc}, Ev K S (tVar 4) [some (T.store CS), some (.str T.name), some (.int n), some (.int hs), some (.tup (cutsD T.h0 T.rest))] (Eq (.tup (cutsD T.h0 T.rest))) := ev_var rfl
  have e2 : ∀ {S : Sc}, Ev K S (tVar 2) [some (T.store CS), some (.str T.name), some (.int n), some (.int hs), some (.tup (cutsD T.h0 T.rest))] (Eq (.int n)) := ev_var rfl
  have e3 : ∀ {S : Sc}, Ev K S (tVar 3) [some (T.store CS), some (.str T.name), some (.int n), some (.int hs), some (.tup (cutsD T.h0 T.rest))] (Eq (.int hs)) := ev_var rfl
  have eS : ∀ {S : Sc}, Ev K S (tVar 0) [some (T.store CS), some (.str T.name), some (.int n), some (.int hs), some (.tup (cutsD T.h0 T.rest))] (Eq (T.store CS)) := ev_var rfl
  refine go_skip (et_or (et_not (et_BD (b := true) (ev_callD (ea_consD e2 ea_nil) ⟨.int n, rfl, rfl, rfl⟩ fun d ⟨_, q1, q2⟩ => by cases q1; exact q2.symm))) fun _ => et_not (et_testD (ev_chLT (x := .int 0) (y := .int n) rfl rfl ev_int e2 (ev_lenT ec)))) ?_ e1 s1 fun H2 f2 s2 => ?_
  · rw [sLe_int, sLt_int, cuts_len, decide_eq_true hn.1, decide_eq_true (by omega)]
    rfl
  refine go_skip (et_or (et_not (et_BD (b := true) (ev_callD (ea_consD e3 (ea_consD (ev_count c eS) ea_nil)) ⟨hs, T.m, rfl, hh⟩ fun d q => q.symm))) fun _ => et_testD (ev_eq (x := .int hs) (y := .int (T.cutHouse n)) .int .int e3 (ev_ixT (xs := [y, .int (T.cutHouse n)]) rfl (ev_ixT hy ec e2) ev_int))) ?_ (e1.mono f2) s2 fun H3 f3 s3 => ?_
  · rw [deq_int, decide_eq_false (Ne.symm hne)]
    rfl
  refine go_skip (et_BD (ev_din (k := .inr T.name) (b := false) (by rw [val_mv, hm]; rfl) (ev_var (d := .str T.name) rfl) (ev_moves c eS))) rfl ((e1.mono f2).mono f3) s3 fun H4 f4 s4 => ?_
  have f14 := (f2.trans f3).trans f4
  exact do_move (y := (n, hs, none)) c (a1.mono f14) s4 h0 h1 (e1.mono f14) (ev_tupD (ea_consD e2 (ea_consD e3 (ea_consD ev_non ea_nil))) (show 3 ≤ sizeLine by decide)) h.seq rfl fun H' f5 s5 a5 => q H' ((Frm.of (f1.trans f14)).trans f5) s5 a5
end
end Sh
/-! a store's writing methods: drop, carry -/
namespace Sh
open PySem PySem.Spec PyProof.Rows L2
noncomputable def Tb.got (T : Tb) (y : Int × Int × Option Row) (many : Int) : List Row := (uq (T.above y)).take many.toNat
noncomputable def Tb.carried (T : Tb) (y : Int × Int × Option Row) (many : Int) : Tb := match (T.got y many).getLast? with
  | none => T
  | some r => { T with mv := some (y.1, y.2.1, some r) }
section
variable {P : Program} {w : World} {K : PySem.W.Frag} {mg : Str → Option Value} {base : Heap} {aW aK : Addr} {f : Addr} {fd : FuncData} {CS CT : Addr}
theorem above_ok {T : Tb} {k : Str} (h : TbOk T k) (y : Int × Int × Option Row) : RowsOk T.cs (T.above y) := (h.rows.fil _).fil _
theorem got_ok {T : Tb} {k : Str} (h : TbOk T k) (y : Int × Int × Option Row) (many : Int) : RowsOk T.cs (T.got y many) := ⟨fun r hr => (above_ok h y).each r (uq_mem.mp (List.mem_of_mem_take hr)), by
  unfold Tb.got uq
  rw [List.length_take, srtR_len]
  exact Nat.le_trans (Nat.min_le_right _ _) (Nat.le_trans (nub_len _) (above_ok h y).few)⟩
theorem take_rows (rows : List Row) (n : Nat) : (rowsD rows).take n = rowsD (rows.take n) := (List.map_take ..).symm
theorem rows_eqn {cs : Cols} {rows : List Row} {n : Nat} (h : RowsOk cs rows) : EqN (n + 2) (.lst (rowsD rows)) := EqN.lst fun d hd => by
  obtain ⟨r, hr, rfl⟩ := List.mem_map.mp hd
  exact (h.each r hr).eqn
theorem last_at {rows : List Row} {r : Row} (h : rows.getLast? = some r) : atI (rowsD rows) (-1) = some (.tup r) := by
  have hne : rows ≠ [] := fun z => by rw [z] at h; cases h
  have e : rows = rows.dropLast ++ [r] := by
    rw [List.getLast?_eq_some_getLast hne] at h
    cases h
    exact (List.dropLast_concat_getLast hne).symm
  rw [e]
  show atI ((rows.dropLast ++ [r]).map Dat.tup) (-1) = _
  rw [List.map_append]
  exact atI_last _ _
/-- carry -/
def spCarry (K : PySem.W.Frag) (CS : Addr) : Sp := fun vs H Q _ => ∃ (S : Sc) (T : Tb) (k : Str) (x dh dm : Addr) (many : Int) (y : Int × Int × Option Row), vs = [.ref x, .str T.name, .int many] ∧ StOk S H ∧ StAt K S CS H x dh dm T ∧ TbOk T k ∧ T.mv = some y ∧ 0 ≤ many ∧
  ∀ v H', Frm S dh dm H H' → StOk S H' → StAt K S CS H' x dh dm (T.carried y many) → Q v H'
/-- Store.carry -/
abbrev s_Store_carry : Stmt := inClass (top 41) 12
theorem sc_Store_carry : FnScope ["self", "name", "many", "number", "house", "mark", "above", "some", "row"] ["self", "name", "many"] (defScope s_Store_carry) := ⟨rfl, rfl, rfl, by decide +kernel, rfl, by decide +kernel, by decide +kernel⟩
theorem ok_Store_carry (F : Fun K "carry" "Store.carry" s_Store_carry f fd) (X : Txt K mg aW aK) (c : StoreC K CS) (m_Store_move_of : Ml P w K mg base CS "move_of" 5 ["self", "name"] (SpD K (pre_Store_move_of CS) (post_Store_move_of CS))) (m_Store_rows_above : Ml P w K mg base CS "rows_above" 6 ["self", "name"] (SpD K (pre_Store_rows_above CS) (post_Store_rows_above CS))) : FnOk P w K mg base CX0 7 f fd ["self", "name", "many"] (spCarry K CS) := by
  refine F.ok sc_Store_carry (fun vs H Q E h => by obtain ⟨S, T, k, x, dh, dm, many, y, rfl, h⟩ := h; rfl) fun cdv A outer s H vs Q E hr h => ?_
  have nd := sc_Store_carry.nd
  have hu := hr.units
  have hu0 := hr.units0
  have hu1 := hu_of hr
  have hu65 := u65 hr
  refine ⟨_, (pss_cons (ps_asg (pe_mt m_Store_move_of (hr.mono (by decide)) (pv 0) (pa_cons (pv 1) pa_nil)) (pg_tup rfl (pgs_cons (pg_name (i := 3) nd rfl (by first | exact Or.inl rfl | exact Or.inr rfl)) (pgs_cons (pg_name (i := 4) nd rfl (by first | exact Or.inl rfl | exact Or.inr rfl)) (pgs_cons (pg_name (i := 5) nd rfl (by first | exact Or.inl rfl | exact Or.inr rfl)) pgs_nil)))))
      (pss_cons (ps_set (i := 6) nd rfl (by first | exact Or.inl rfl | exact Or.inr rfl) (pe_mt m_Store_rows_above (hr.mono (by decide)) (pv 0) (pa_cons (pv 1) pa_nil)))
      (pss_cons (ps_set (i := 7) nd rfl (by first | exact Or.inl rfl | exact Or.inr rfl) (pe_slice sl_list (pe_srtset X.b hu (pv 6)) po_none (po_some (pv 2))))
      (pss_cons (ps_if (pt_cmpR (r := rEqD K) (op_eqD hu) (pv 7) (pe_lst pa_nil) (nomark _)) (pss_one (ps_ret pe_int)) pss_nil)
      (pss_cons (ps_dput hu1 (pe_fldK (K := K) rfl (pv 0) rfl) (pv 1) (pe_tup (pa_cons (pv 3) (pa_cons (pv 4) (pa_cons (pe_ix (r := rIx K) ix_seq (pv 7) (pe_un un_neg pe_int) (fun _ _ => rfl)) pa_nil)))) rfl)
      (pss_one (ps_ret (pe_len X.b (pe_lc rfl nd (pi_list (pv 6)) (blkOk_by (own := [("row", 8)]) (N := ["self", "name", "many", "number", "house", "mark", "above", "some", "row"]) (sc := defScope s_Store_carry) (by decide +kernel)) (fun _ _ _ _ _ => (pg_name (i := 8) nd rfl (by first | exact Or.inl rfl | exact Or.inr rfl))) (fun _ _ _ _ _ => (pts_one (pt_cmpR (r := rTup tupLe K) (op_leR hu0) (pv 8) (pe_ix (r := rIx K) ix_seq (pv 7) (pe_un un_neg pe_int) (fun _ _ => rfl)) (nomark _)))) (fun _ _ _ _ _ => (pv 8))))))))))), ?_⟩
  obtain ⟨S, T, k, x, dh, dm, many, ⟨num, hs, mark⟩, rfl, s0, a, h, hm, h0m, q⟩ := h
  have e0 : EnvR K S H (start ["self", "name", "many", "number", "house", "mark", "above", "some", "row"] [.ref x, .str T.name, .int many]) [some (T.store CS), some (.str T.name), some (.int many), none, none, none, none, none, none] := .consS a.rp (.consS (.str _) (.consS (.int _) (.consN (.consN (.consN (.consN (.consN (.consN .nil))))))))
  have eS : ∀ {S : Sc} {b c d e f g h i : Option Dat}, Ev K S (tVar 0) [some (T.store CS), b, c, d, e, f, g, h, i] (Eq (T.store CS)) := ev_var rfl
  have eN : ∀ {S : Sc} {b c d e f g h i : Option Dat}, Ev K S (tVar 1) [b, some (.str T.name), c, d, e, f, g, h, i] (Eq (.str T.name)) := ev_var rfl
  have hab := above_ok h (num, hs, mark)
  have hgo := got_ok h (num, hs, mark) many
  refine go_asg ?_
  refine (ev_meth (fs := T.fields) (C := CS) rfl eS (ea_consD eN ea_nil) ⟨T, k, _, rfl, h, hm⟩ fun d q => (q T _ rfl hm).symm) _ H e0 s0 _ fun v1 H1 d1 f1 s1 p1 r1 => ?_
  subst p1
  refine g_three v1 _ H1 r1 (e0.mono f1) _ fun σ2 e2 ag => ?_
  have a1 := a.mono f1
  have g0 : σ2[0]? = some (some (.ref x)) := (ag.2 0 (by decide)).trans rfl
  have g1 : σ2[1]? = some (some (.str T.name)) := (ag.2 1 (by decide)).trans rfl
  refine go_asg ?_
  refine (ev_meth (fs := T.fields) (C := CS) rfl eS (ea_consD eN ea_nil) ⟨T, k, _, rfl, h, hm⟩ fun d q => (q T _ rfl hm).symm) σ2 H1 e2 s1 _ fun v2 H2 d2 f2 s2 p2 r2 => ?_
  subst p2
  have e3 := (e2.mono f2).set (i := 6) r2
  have g0 : (σ2.set 6 (some v2))[0]? = some (some (.ref x)) := (List.getElem?_set_ne (by decide)).trans g0
  have g1 : (σ2.set 6 (some v2))[1]? = some (some (.str T.name)) := (List.getElem?_set_ne (by decide)).trans g1
  show tSeq _ _ _ (σ2.set 6 (some v2)) H2
  generalize σ2.set 6 (some v2) = σ3 at e3 g0 g1 ⊢
  refine go_asg ?_
  refine ((ev_slL (xs := rowsD (uq (T.above (num, hs, mark)))) (ev_uq h.pl.head hab (ev_var (i := 6) rfl)) eo_none (eo_some (ev_var (i := 2) (d := .int many) rfl))).is ((congrArg Dat.lst ((cut_take h0m).trans (take_rows _ _))) : _ = .lst (rowsD (T.got (num, hs, mark) many)))) σ3 H2 e3 s2 _ fun v3 H3 d3 f3 s3 p3 r3 => ?_
  subst p3
  have e4 := (e3.mono f3).set (i := 7) r3
  have g0 : (σ3.set 7 (some v3))[0]? = some (some (.ref x)) := (List.getElem?_set_ne (by decide)).trans g0
  have g1 : (σ3.set 7 (some v3))[1]? = some (some (.str T.name)) := (List.getElem?_set_ne (by decide)).trans g1
  show tSeq _ _ _ (σ3.set 7 (some v3)) H3
  generalize σ3.set 7 (some v3) = σ4 at e4 g0 g1 ⊢
  have a3 := (a1.mono f2).mono f3
  have f13 := (f1.trans f2).trans f3
  have eG : ∀ {S : Sc} {b : Option Dat}, Ev K S (tVar 7) [some (T.store CS), some (.str T.name), some (.int many), some (.int num), some (.int hs), some (markD mark), some (.lst (rowsD (T.above (num, hs, mark)))), some (.lst (rowsD (T.got (num, hs, mark) many))), b] (Eq (.lst (rowsD (T.got (num, hs, mark) many)))) := ev_var rfl
  refine go_if (et_testD (ev_eq (rows_eqn (n := 1) hgo).eqd (EqN.lst (n := 1) fun d hd => by cases hd).eqd eG (ev_lstD ea_nil (Nat.zero_le _)))) e4 s3 (fun H4 f4 s4 hb => ?_) fun H4 f4 s4 hb => ?_
  · -- nothing to carry
    have eg : T.got (num, hs, mark) many = [] := by
      have := deq_iff.mp hb
      injection this with this
      exact List.map_eq_nil_iff.mp this
    have et : T.carried (num, hs, mark) many = T := by
      unfold Tb.carried
      rw [eg]
      rfl
    exact q _ _ (Frm.of (f13.trans f4)) s4 (by rw [et]; exact a3.mono f4)
  · have hne : T.got (num, hs, mark) many ≠ [] := fun z => by
      rw [z] at hb
      have : deq (.lst (rowsD [])) (.lst []) = true := deq_self
      rw [this] at hb
      cases hb
    have hl : (T.got (num, hs, mark) many).getLast? = some ((T.got (num, hs, mark) many).getLast hne) := List.getLast?_eq_some_getLast hne
    generalize (T.got (num, hs, mark) many).getLast hne = r at hl
    have hrm : RowK T.cs r := hgo.each r (List.mem_of_getLast? hl)
    have et : T.carried (num, hs, mark) many = { T with mv := some (num, hs, some r) } := by
      unfold Tb.carried
      rw [hl]
    have eL : ∀ {S : Sc} {b : Option Dat}, Ev K S (tOp (rIx K) (tVar 7) (tUn (rU fun i => .int (-i)) (tC (.int 1)))) [some (T.store CS), some (.str T.name), some (.int many), some (.int num), some (.int hs), some (markD mark), some (.lst (rowsD (T.above (num, hs, mark)))), some (.lst (rowsD (T.got (num, hs, mark) many))), b] (Eq (.tup r)) := ev_ixL (last_at hl) eG (ev_neg ev_int)
    have s4' := s4
    have e5 := e4.mono f4
    refine do_move (y := (num, hs, some r)) c (a3.mono f4) s4 g0 g1 e5 (ev_tupD (ea_consD (ev_var (i := 3) rfl) (ea_consD (ev_var (i := 4) rfl) (ea_consD eL ea_nil))) (show 3 ≤ sizeLine by decide)) h.seq (move_seq fun r' e => by cases e; exact hrm) fun H5 f5 s5 a5 => ?_
    -- what's given back is a number
    have w6 : EnvR K S H4 σ4 [none, some (.str T.name), some (.int many), some (.int num), some (.int hs), some (markD mark), some (.lst (rowsD (T.above (num, hs, mark)))), some (.lst (rowsD (T.got (num, hs, mark) many))), none] := e5.weak rfl fun i d e => by
      cases i with
      | zero => cases e
      | succ n => exact e
    have ok : okR [none, some (.str T.name), some (.int many), some (.int num), some (.int hs), some (markD mark), some (.lst (rowsD (T.above (num, hs, mark)))), some (.lst (rowsD (T.got (num, hs, mark) many))), none] = true := by
      show (true && (true && (true && (true && ((markD mark).seq && ((Dat.lst (rowsD _)).seq && ((Dat.lst (rowsD _)).seq && true))))))) = true
      rw [mark_seq (h.mv _ hm).mark, rowsD_seq hab.each, rowsD_seq hgo.each]
      rfl
    have e6 := EnvR.frm (a3.mono f4) f5 ok w6
    have eL' : ∀ {S : Sc} {a b : Option Dat}, Ev K S (tOp (rIx K) (tVar 7) (tUn (rU fun i => .int (-i)) (tC (.int 1)))) [a, some (.str T.name), some (.int many), some (.int num), some (.int hs), some (markD mark), some (.lst (rowsD (T.above (num, hs, mark)))), some (.lst (rowsD (T.got (num, hs, mark) many))), b] (Eq (.tup r)) := ev_ixL (last_at hl) (ev_var rfl) (ev_neg ev_int)
    refine (ev_lenL (ev_rows (is := [8]) (fun q => rowLe q r) (ie_list (xs := rowsD (T.above (num, hs, mark))) (ev_var (i := 6) rfl)) (by simp) hab.line fun S' hS r1 hr1 => ?_)) σ4 H5 e6 s5 _ fun v6 H6 d6 f6 s6 _ _ => q v6 H6 (((Frm.of (f13.trans f4)).trans f5).trans (Frm.of f6)) s6 (by rw [et]; exact a5.mono f6)
    have h1 := hab.each r1 hr1
    exact ⟨_, g_name, et_testD (ev_leR h1.scs hrm.scs (h1.same hrm) (ev_var rfl) eL'), ev_var rfl⟩
/-- drop -/
def spDrop (K : PySem.W.Frag) (CS : Addr) : Sp := fun vs H Q _ => ∃ (S : Sc) (T : Tb) (k : Str) (x dh dm : Addr) (vr : V) (r : Row), vs = [.ref x, .str T.name, vr] ∧ StOk S H ∧ StAt K S CS H x dh dm T ∧ TbOk T k ∧ Rp K S H vr (.tup r) ∧ RowK T.cs r ∧ r ∈ T.rows ∧
  ∀ (j : Nat) H', T.rows[j]? = some r → Frm S dh dm H H' → StOk S H' → StAt K S CS H' x dh dm { T with rows := T.rows.eraseIdx j } → Q .non H'
/-- Store.drop -/
abbrev s_Store_drop : Stmt := inClass (top 41) 5
theorem sc_Store_drop : FnScope ["self", "name", "row", "head", "placing", "rows", "left"] ["self", "name", "row"] (defScope s_Store_drop) := ⟨rfl, rfl, rfl, by decide +kernel, rfl, by decide +kernel, by decide +kernel⟩
theorem ok_Store_drop (F : Fun K "drop" "Store.drop" s_Store_drop f fd) (X : Txt K mg aW aK) (L : Lo P w K mg base) (c : StoreC K CS) (m_Store_table_of : Ml P w K mg base CS "table_of" 3 ["self", "name"] (SpD K (pre_Store_table_of CS) (post_Store_table_of CS))) : FnOk P w K mg base CX0 4 f fd ["self", "name", "row"] (spDrop K CS) := by
  refine F.ok sc_Store_drop (fun vs H Q E h => by obtain ⟨S, T, k, x, dh, dm, vr, r, rfl, h⟩ := h; rfl) fun cdv A outer s H vs Q E hr h => ?_
  have nd := sc_Store_drop.nd
  have hu := hr.units
  have hu0 := hr.units0
  have hu1 := hu_of hr
  have hu65 := u65 hr
  refine ⟨_, (pss_cons (ps_asg (pe_mt m_Store_table_of (hr.mono (by decide)) (pv 0) (pa_cons (pv 1) pa_nil)) (pg_tup rfl (pgs_cons (pg_name (i := 3) nd rfl (by first | exact Or.inl rfl | exact Or.inr rfl)) (pgs_cons (pg_name (i := 4) nd rfl (by first | exact Or.inl rfl | exact Or.inr rfl)) (pgs_cons (pg_name (i := 5) nd rfl (by first | exact Or.inl rfl | exact Or.inr rfl)) pgs_nil)))))
      (pss_cons (ps_if (PW.pt (pw_or (pt_not (pt_val (pe_fn L.is_row (hr.mono (by decide)) (pa_cons (pv 3) (pa_cons (pv 2) pa_nil))))) (pw_or1 (pt_cmpR (r := rNotInD K) (op_notInD hu65) (pv 2) (pv 5) (by with_unfolding_all rfl))))) pss_never pss_nil)
      (pss_cons (ps_set (i := 6) nd rfl (by first | exact Or.inl rfl | exact Or.inr rfl) (pe_list X.b (pv 5)))
      (pss_cons (ps_expr (pe_bm PySem.F.plainAttrs_list PySem.F.slot_list_remove PySem.F.type_list_remove (mt_removeD hu65) (pv 6) (pa_cons (pv 2) pa_nil)))
      (pss_one (ps_dput hu1 (pe_fldK (K := K) rfl (pv 0) rfl) (pv 1) (pe_tup (pa_cons (pv 3) (pa_cons (pv 4) (pa_cons (pv 6) pa_nil)))) rfl)))))), ?_⟩
  obtain ⟨S, T, k, x, dh, dm, vr, r, rfl, s0, a, h, rr, hr1, hmem, q⟩ := h
  have e0 : EnvR K S H (start ["self", "name", "row", "head", "placing", "rows", "left"] [.ref x, .str T.name, vr]) [some (T.store CS), some (.str T.name), some (.tup r), none, none, none, none] := .consS a.rp (.consS (.str _) (.consS rr (.consN (.consN (.consN (.consN .nil))))))
  refine go_asg ?_
  refine (ev_meth (fs := T.fields) (C := CS) rfl (ev_var (d := T.store CS) (i := 0) rfl) (ea_consD (ev_var (i := 1) (d := .str T.name) rfl) ea_nil) ⟨T, k, rfl, h⟩ fun d q => (q T rfl).symm) _ H e0 s0 _ fun v1 H1 d1 f1 s1 p1 r1 => ?_
  subst p1
  refine g_three v1 _ H1 r1 (e0.mono f1) _ fun σ2 e2 ag => ?_
  have g0 : σ2[0]? = some (some (.ref x)) := (ag.2 0 (by decide)).trans rfl
  have g1 : σ2[1]? = some (some (.str T.name)) := (ag.2 1 (by decide)).trans rfl
  have g2 : σ2[2]? = some (some vr) := (ag.2 2 (by decide)).trans rfl
  have rin : inD (.tup r) (rowsD T.rows) = true := inD_iff.mpr (List.mem_map.mpr ⟨r, hmem, rfl⟩)
  refine go_skip (et_or (et_not (et_BD (b := true) (ev_callD (ea_consD (ev_un (ev_var (i := 3) rfl)) (ea_consD (ev_var (i := 2) (d := .tup r) rfl) ea_nil)) ⟨T.cs, r, rfl, h.pl.head, hr1⟩ fun d q => q.symm))) fun _ => et_testD (ev_notinD hr1.eqn (fun d hd => by obtain ⟨r', hr', rfl⟩ := List.mem_map.mp hd; exact (h.rows.each r' hr').eqn) (ev_var (i := 2) (d := .tup r) rfl) (ev_var (i := 5) rfl))) (by rw [rin]; rfl) e2 s1 fun H2 f2 s2 => ?_
  refine go_asg ?_
  refine (en_list (xs := rowsD T.rows) (ev_var (i := 5) rfl)) σ2 H2 (e2.mono f2) s2 _ fun p ys ds H3 f3 hp hn s3 h3 r3 p3 => ?_
  subst p3
  have hl : 6 < σ2.length := by rw [e2.len]; exact (show 6 < 7 by decide)
  show tSeq _ _ _ (σ2.set 6 (some (.ref p))) H3
  have g0 : (σ2.set 6 (some (.ref p)))[0]? = some (some (.ref x)) := (List.getElem?_set_ne (by decide)).trans g0
  have g1 : (σ2.set 6 (some (.ref p)))[1]? = some (some (.str T.name)) := (List.getElem?_set_ne (by decide)).trans g1
  have g2 : (σ2.set 6 (some (.ref p)))[2]? = some (some vr) := (List.getElem?_set_ne (by decide)).trans g2
  have g6 : (σ2.set 6 (some (.ref p)))[6]? = some (some (.ref p)) := List.getElem?_set_self hl
  obtain ⟨j, hj, hjn⟩ := first_of hmem
  have np : S.no p := s2.ne hp
  have rr3 := ((rr.mono f1).mono f2).mono f3
  have fe : ∀ r', RowK T.cs r' → (Dat.tup r').fine = true := fun r' hr' => (hr'.eqn (n := 1)).fine
  have pyat : ∀ m, (pys (rowsD T.rows))[m]? = (T.rows[m]?).map fun r' => (Dat.tup r').py := fun m => by
    unfold rowsD
    rw [pys_map, List.map_map, List.getElem?_map]
    rfl
  refine go_drop ?_
  refine ⟨.ref p, g6, .inl ⟨rfl, _, SqL.of h3⟩, vr, g2, p, ys, vr, (Dat.tup r).py, pys (rowsD T.rows), j, (Dat.tup r).py, rfl, rfl, h3, r3.dp (fines_of fun d hd => by obtain ⟨r', hr', rfl⟩ := List.mem_map.mp hd; exact fe r' (h.rows.each r' hr')), rr3.dp (fe r hr1), lay_fines _ (fines_of fun d hd => by obtain ⟨r', hr', rfl⟩ := List.mem_map.mp hd; exact fe r' (h.rows.each r' hr')), ((hr1.eqn (n := 1)).eqd).shaped, by rw [pyat, hj]; rfl, (eqv_fine _ _ (fe r hr1) (fe r hr1)).mpr rfl, fun m z' hm hz => ?_, ?_⟩
  · rw [pyat] at hz
    cases e : T.rows[m]? with
    | none =>
      rw [e] at hz
      cases hz
    | some r' =>
      rw [e] at hz
      cases hz
      cases cq : PyData.eqv (Dat.tup r').py (Dat.tup r).py with
      | false => rfl
      | true =>
        have := (eqv_fine _ _ (fe r' (h.rows.each r' (List.mem_of_getElem? e))) (fe r hr1)).mp cq
        injection this with this
        exact absurd (by rw [e, this]) (hjn m hm)
  -- the rest is put back
  have dm' : p ∈ (S.but p).ex := List.mem_cons_self
  have er : Rps K S (upd H3 p (.lst (ys.eraseIdx j))) (ys.eraseIdx j) (rowsD (T.rows.eraseIdx j)) := by
    rw [← erase_rows]
    exact ((r3.at_ex dm').eraseIdx j).unbut
  have f4 : Fr S H2 (upd H3 p (.lst (ys.eraseIdx j))) := f3.put hp
  have s4 : StOk S (upd H3 p (.lst (ys.eraseIdx j))) := s3.unbut.put fun z => np.1 (s3.sub p z)
  have e4 : EnvR K S (upd H3 p (.lst (ys.eraseIdx j))) (σ2.set 6 (some (.ref p))) ((((([some (T.store CS), some (.str T.name), some (.tup r), none, none, none, none] : Rho).set 3 (some (.hd (headD T.cs)))).set 4 (some (plD T.n T.h0 T.rest))).set 5 (some (.lst (rowsD T.rows)))).set 6 (some (.lst (rowsD (T.rows.eraseIdx j))))) := ((e2.mono f2).mono f4).set (i := 6) (.lst (.inl np) (SqL.of upd_same) er)
  have a4 := ((a.mono f1).mono f2).mono f4
  have f14 := (f1.trans f2).trans f4
  show sDPut _ _ _ _ _ (upd H3 p (.lst (ys.eraseIdx j)))
  exact do_held (T := T) (T' := { T with rows := T.rows.eraseIdx j }) c a4 s4 g0 g1 e4 (ev_tupD (ea_consD (ev_var (i := 3) rfl) (ea_consD (ev_var (i := 4) rfl) (ea_consD (ev_var (i := 6) rfl) ea_nil))) (show 3 ≤ sizeLine by decide)) (tabD_seq h.pl.cuts fun r' hr' => h.rows.each r' (List.mem_of_mem_eraseIdx hr')) h.mvseq rfl rfl rfl fun H' f5 s5 a5 => q j H' hj ((Frm.of f14).trans f5) s5 a5
end
end Sh
/-! NotYet; settle -/
namespace Sh
open PySem PySem.Spec PyProof.Rows L2
/-- ShardError.__init__ -/
abbrev s_ShardError_init : Stmt := inClass (top 2) 0
theorem sc_ShardError_init : FnScope ["self", "act"] ["self", "act"] (C8.fnScope s_ShardError_init) := ⟨rfl, rfl, rfl, by decide +kernel, rfl, by decide +kernel, by decide +kernel⟩
def spErr (K : PySem.W.Frag) (C : Addr) : Sp := fun vs H Q _ => ∃ a : Addr, vs = [.ref a, .non] ∧ H a = some (exo a C none) ∧ ∀ dx, H dx = none → dx ≠ a → Q .non (upd (upd H dx (exd dx [("act", .non)])) a (exo a C (some dx)))
section
variable {P : Program} {w : World} {K : PySem.W.Frag} {mg : Str → Option Value} {base : Heap} {aW aK : Addr} {f : Addr} {fd : FuncData} {CS CT CN : Addr}
theorem ok_ShardError_init (F : C8.Fun K "__init__" "ShardError.__init__" s_ShardError_init f fd) (o : OexC K CN) (na : PySem.W.findIn K (.ref CN) "act" = some none) (hm : mg "ValueError" = none) (vV : PySem.W.findCls K (.type "ValueError") (.type "type") "__init__" = some (.val (.builtin "ValueError.__init__"))) : FnOk P w K mg base C8.CX0 1 f fd ["self", "act"] (spErr K CN) := by
  refine C8.fn0 F sc_ShardError_init (fun vs H Q E h => by obtain ⟨a, rfl, h⟩ := h; rfl) fun cdv A outer s H vs Q E hr h => ?_
  refine ⟨_, pss_cons (ps_expr (pe_veinit rfl hm vV (pa_cons (pv 0) (pa_cons pe_str pa_nil)))) (pss_one (ps_ost (pv 0) (pv 1))), ?_⟩
  obtain ⟨a, rfl, ha, q⟩ := h
  refine ⟨.ref a, rfl, a, CN, [.str "refused"], rfl, (by decide), o, ha, .non, rfl, .ref a, rfl, a, CN, rfl, o, na, .inl ⟨ha, fun dx hdx hne => q dx hdx hne⟩⟩
/-- what a NotYet is made by -/
structure NyC (P : Program) (w : World) (K : PySem.W.Frag) (mg : Str → Option Value) (base : Heap) (CN fI : Addr) (fd : FuncData) : Prop where
  o : OexC K CN
  iC : PySem.W.findIn K (.ref CN) "__init__" = some (some (.ref fI))
  tI : PySem.W.typeIn K (.ref fI) = some (.type "function")
  F : FnOk P w K mg base C8.CX0 1 fI fd ["self", "act"] (spErr K CN)
  b : Binds K fd ["self", "act"] []
  g : mg "NotYet" = some (.ref CN)
def setHouse (T : Tb) (n hs : Int) : Tb := if n = 0 then { T with h0 := hs } else { T with rest := T.rest.modify (n.toNat - 1) fun c => (c.1, hs) }
def Tb.settled (T : Tb) (y : Int × Int × Option Row) : Tb := { setHouse T y.1 y.2.1 with mv := none }
theorem setHouse_0 {T : Tb} {hs : Int} : setHouse T 0 hs = { T with h0 := hs } := if_pos rfl
theorem setHouse_s {T : Tb} {i : Nat} {hs : Int} : setHouse T ((i + 1 : Nat) : Int) hs = { T with rest := T.rest.modify i fun c => (c.1, hs) } := by
  unfold setHouse
  rw [if_neg (by omega)]
  rfl
theorem setHouse_cuts {T : Tb} {n hs : Int} {x : Dat} (h : 0 ≤ n ∧ n ≤ T.rest.length) (hx : (cutsD T.h0 T.rest)[n.toNat]? = some (.tup [x, .int (T.cutHouse n)])) :
    (cutsD T.h0 T.rest).take n.toNat ++ [.tup [x, .int hs]] ++ (cutsD T.h0 T.rest).drop (n.toNat + 1) = cutsD (setHouse T n hs).h0 (setHouse T n hs).rest := by
  obtain ⟨i, rfl⟩ : ∃ i : Nat, n = (i : Int) := ⟨n.toNat, by omega⟩
  rw [Int.toNat_natCast] at hx ⊢
  cases i with
  | zero =>
    have e : (.tup [.non, .int T.h0] : Dat) = .tup [x, .int (T.cutHouse 0)] := Option.some.inj hx
    injection e with e
    injection e with e _
    subst e
    rw [show ((0 : Nat) : Int) = 0 from rfl, setHouse_0]
    rfl
  | succ i =>
    rw [setHouse_s]
    have hi : i < T.rest.length := by omega
    have hx2 : (T.rest.map cutD1)[i]? = some (.tup [x, .int (T.cutHouse ((i + 1 : Nat) : Int))]) := hx
    rw [List.getElem?_map, List.getElem?_eq_getElem hi] at hx2
    have e : cutD1 T.rest[i] = _ := Option.some.inj hx2
    have e1 : T.rest[i].1 = x := by
      injection e with e
      injection e
    show (cutD1 (.non, T.h0) :: (T.rest.map cutD1).take i) ++ [.tup [x, .int hs]] ++ (T.rest.map cutD1).drop (i + 1) = cutD1 (.non, T.h0) :: (T.rest.modify i fun c => (c.1, hs)).map cutD1
    rw [List.modify_eq_take_cons_drop hi, List.map_append, List.map_cons, List.map_take, List.map_drop, e1]
    simp [cutD1]
theorem setHouse_ok {T : Tb} {k : Str} {n hs : Int} (h : CutsOk k T.m T.h0 T.rest) (hh : 0 ≤ hs ∧ hs < T.m) : CutsOk k T.m (setHouse T n hs).h0 (setHouse T n hs).rest := by
  unfold setHouse
  split
  · exact ⟨hh, h.most, h.each, h.up⟩
  · refine ⟨h.h0, by rw [List.length_modify]; exact h.most, fun c hc => ?_, ?_⟩
    · obtain ⟨j, hj, rfl⟩ := List.getElem_of_mem hc
      rw [List.length_modify] at hj
      rw [List.getElem_modify]
      split
      · exact ⟨(h.each _ (List.getElem_mem hj)).1, hh⟩
      · exact h.each _ (List.getElem_mem hj)
    · have e : ∀ (l : Cuts) (i : Nat), (l.modify i fun c => (c.1, hs)).map (·.1) = l.map (·.1) := by
        intro l
        induction l with
        | nil => intro i; cases i <;> rfl
        | cons c l ih =>
          intro i
          cases i with
          | zero => rfl
          | succ i =>
            rw [List.modify_succ_cons, List.map_cons, List.map_cons, ih i]
      have q : (T.rest.map (·.1)).Pairwise (fun a b => sLt a b = true) := List.pairwise_map.mpr h.up
      rw [← e T.rest (n.toNat - 1)] at q
      exact List.pairwise_map.mp q
theorem cut_drop {α : Type} {xs : List α} {m : Int} (h : 0 ≤ m) : cutD xs (some m) none = xs.drop m.toNat := by
  have e0 : HT.sIx xs.length xs.length none = xs.length := rfl
  have e1 : HT.sIx xs.length 0 (some m) = min m.toNat xs.length := by
    show (if m < 0 then _ else min m.toNat xs.length) = _
    rw [if_neg (by omega)]
  unfold cutD
  rw [e0, e1]
  by_cases c : m.toNat ≤ xs.length
  · rw [Nat.min_eq_left c, List.take_of_length_le (by rw [List.length_drop]; exact Nat.le_refl _)]
  · rw [Nat.min_eq_right (by omega), List.drop_length, List.drop_of_length_le (by omega), List.take_nil]
theorem StOk.keep {S : Sc} {H H' : Hp} (s : StOk S H) (k : ∀ b o, H b = some o → H' b = some o) : StOk S H' := ⟨fun a ha => let ⟨n, e, b⟩ := s.st a ha; ⟨n, k _ _ e, b⟩, fun a ha => let ⟨o, e⟩ := s.ex a ha; ⟨o, k _ _ e⟩, fun a ha => let ⟨o, e⟩ := s.al a ha; ⟨o, k _ _ e⟩, s.sub⟩
theorem go_next {D : Ends} {σ : L2.St} {H : Hp} (h : D.nx σ H) : tNext D σ H := h
/-- settle -/
def spSettle (K : PySem.W.Frag) (CS CN : Addr) : Sp := fun vs H Q E => ∃ (S : Sc) (T : Tb) (k : Str) (x dh dm : Addr) (y : Int × Int × Option Row), vs = [.ref x, .str T.name] ∧ StOk S H ∧ StAt K S CS H x dh dm T ∧ TbOk T k ∧ T.mv = some y ∧
  (T.above y ≠ [] → ∀ d H', Fr S H H' → StOk S H' → E (.ref CN) d H') ∧ (T.above y = [] → ∀ H', Frm S dh dm H H' → StOk S H' → StAt K S CS H' x dh dm (T.settled y) → Q .non H')
/-- Store.settle -/
abbrev s_Store_settle : Stmt := inClass (top 41) 13
theorem sc_Store_settle : FnScope ["self", "name", "number", "house", "mark", "cuts"] ["self", "name"] (defScope s_Store_settle) := ⟨rfl, rfl, rfl, by decide +kernel, rfl, by decide +kernel, by decide +kernel⟩
theorem ok_Store_settle (F : Fun K "settle" "Store.settle" s_Store_settle f fd) (X : Txt K mg aW aK) {fI : Addr} {fdI : FuncData} (N : NyC P w K mg base CN fI fdI) (c : StoreC K CS) (m_Store_move_of : Ml P w K mg base CS "move_of" 5 ["self", "name"] (SpD K (pre_Store_move_of CS) (post_Store_move_of CS))) (m_Store_rows_above : Ml P w K mg base CS "rows_above" 6 ["self", "name"] (SpD K (pre_Store_rows_above CS) (post_Store_rows_above CS))) (m_Store_spans_of : Ml P w K mg base CS "spans_of" 4 ["self", "name"] (SpD K (pre_Store_spans_of CS) (post_Store_spans_of CS))) (m_Store_with_cuts : Ml P w K mg base CS "with_cuts" 1 ["self", "name", "cuts"] (spCuts K CS)) : FnOk P w K mg base (L2.CX P w) 7 f fd ["self", "name"] (spSettle K CS CN) := by
  refine F.okX sc_Store_settle (fun vs H Q E h => by obtain ⟨S, T, k, x, dh, dm, y, rfl, h⟩ := h; rfl) fun cdv A outer s H vs Q E hr h => ?_
  have nd := sc_Store_settle.nd
  have hu := hr.units
  have hu0 := hr.units0
  have hu1 := hu_of hr
  have hu65 := u65 hr
  refine ⟨_, (pss_cons (ps_asg (pe_mt m_Store_move_of (hr.mono (by decide)) (pv 0) (pa_cons (pv 1) pa_nil)) (pg_tup rfl (pgs_cons (pg_name (i := 2) nd rfl (by first | exact Or.inl rfl | exact Or.inr rfl)) (pgs_cons (pg_name (i := 3) nd rfl (by first | exact Or.inl rfl | exact Or.inr rfl)) (pgs_cons (pg_name (i := 4) nd rfl (by first | exact Or.inl rfl | exact Or.inr rfl)) pgs_nil)))))
      (pss_cons (ps_if (pt_cmpR (r := rNeD K) (op_neD hu) (pe_mt m_Store_rows_above (hr.mono (by decide)) (pv 0) (pa_cons (pv 1) pa_nil)) (pe_lst pa_nil) (nomark _)) (pss_one (ps_raise rfl (takes_of rfl rfl rfl rfl) (pmk_oex N.o N.iC N.tI N.F (hr.mono (by decide)) N.b .nil C8.pass0 rfl N.g (pa_cons pe_non pa_nil)))) pss_nil)
      (pss_cons (ps_set (i := 5) nd rfl (by first | exact Or.inl rfl | exact Or.inr rfl) (pe_ix (r := rIx K) ix_seq (pe_mt m_Store_spans_of (hr.mono (by decide)) (pv 0) (pa_cons (pv 1) pa_nil)) pe_int (fun _ _ => rfl)))
      (pss_cons (ps_expr (pe_mt m_Store_with_cuts (hr.mono (by decide)) (pv 0) (pa_cons (pv 1) (pa_cons (pe_op (r := rCatA K) op_catA (pe_op (r := rCatA K) op_catA (pe_slice sl_tupA (pv 5) po_none (po_some (pv 2))) (pe_tup (pa_cons (pe_tup (pa_cons (pe_ix (r := rIx K) ix_seq (pe_ix (r := rIx K) ix_seq (pv 5) (pv 2) (fun _ _ => rfl)) pe_int (fun _ _ => rfl)) (pa_cons (pv 3) pa_nil))) pa_nil))) (pe_slice sl_tupA (pv 5) (po_some (pe_op op_addI (pv 2) pe_int)) po_none)) pa_nil))))
      (pss_one (ps_expr (pe_dpop1 (pe_fldK (K := K) rfl (pv 0) rfl) (pv 1) ⟨rfl, rfl, rfl, rfl⟩))))))), ?_⟩
  obtain ⟨S, T, k, x, dh, dm, ⟨num, hs, mark⟩, rfl, s0, a, h, hm, qE, q⟩ := h
  have e0 : EnvR K S H (start ["self", "name", "number", "house", "mark", "cuts"] [.ref x, .str T.name]) [some (T.store CS), some (.str T.name), none, none, none, none] := .consS a.rp (.consS (.str _) (.consN (.consN (.consN (.consN .nil)))))
  have eS : ∀ {S : Sc} {b c d e f : Option Dat}, Ev K S (tVar 0) [some (T.store CS), b, c, d, e, f] (Eq (T.store CS)) := ev_var rfl
  have eN : ∀ {S : Sc} {b c d e f : Option Dat}, Ev K S (tVar 1) [b, some (.str T.name), c, d, e, f] (Eq (.str T.name)) := ev_var rfl
  have hab := above_ok h (num, hs, mark)
  have mo := h.mv _ hm
  refine go_asg ?_
  refine (ev_meth (fs := T.fields) (C := CS) rfl eS (ea_consD eN ea_nil) ⟨T, k, _, rfl, h, hm⟩ fun d q => (q T _ rfl hm).symm) _ H e0 s0 _ fun v1 H1 d1 f1 s1 p1 r1 => ?_
  subst p1
  refine g_three v1 _ H1 r1 (e0.mono f1) _ fun σ2 e2 ag => ?_
  have a1 := a.mono f1
  have g0 : σ2[0]? = some (some (.ref x)) := (ag.2 0 (by decide)).trans rfl
  have g1 : σ2[1]? = some (some (.str T.name)) := (ag.2 1 (by decide)).trans rfl
  refine go_if (et_testD (ev_ne (rows_eqn (n := 1) hab).eqd (EqN.lst (n := 1) fun d hd => by cases hd).eqd (ev_meth (fs := T.fields) (C := CS) rfl eS (ea_consD eN ea_nil) ⟨T, k, _, rfl, h, hm⟩ fun d q => (q T _ rfl hm).symm) (ev_lstD ea_nil (Nat.zero_le _)))) e2 s1 (fun H2 f2 s2 hb => ?_) fun H2 f2 s2 hb => ?_
  · -- not yet
    have hne : T.above (num, hs, mark) ≠ [] := fun z => by
      rw [z] at hb
      have : deq (.lst (rowsD [])) (.lst []) = true := deq_self
      rw [this] at hb
      cases hb
    refine ⟨by decide, fun ae hae => ⟨ae, rfl, upd_same, fun dx hdx hne2 => ⟨rfl, dx, [("act", .non)], upd_same, ?_, ?_, ?_⟩⟩⟩
    · rw [upd_ne hne2, upd_same]
    · rw [upd_ne hne2] at hdx
      exact hdx
    · rw [upd_ne hne2] at hdx
      have kp : ∀ b o, H2 b = some o → (upd (del (upd (upd (upd H2 ae (exo ae CN none)) dx (exd dx [("act", .non)])) ae (exo ae CN (some dx))) ae) dx (.xd [("act", .non)])) b = some o := fun b o e => by
        have n1 : b ≠ ae := fun z => by rw [z, hae] at e; cases e
        have n2 : b ≠ dx := fun z => by rw [z, hdx] at e; cases e
        rw [upd_ne n2, del_ne n1, upd_ne n1, upd_ne n2, upd_ne n1]
        exact e
      exact qE hne _ _ ((f1.trans f2).trans fun b o _ e => kp b o e) (s2.keep kp)
  · have hab0 : T.above (num, hs, mark) = [] := by
      have z : deq (.lst (rowsD (T.above (num, hs, mark)))) (.lst []) = true := by
        cases c : deq (.lst (rowsD (T.above (num, hs, mark)))) (.lst []) with
        | true => rfl
        | false =>
          rw [c] at hb
          cases hb
      have := deq_iff.mp z
      injection this with this
      exact List.map_eq_nil_iff.mp this
    refine go_next ?_
    dsimp only
    refine go_asg ?_
    refine (ev_ixT (xs := T.spans) (x := .tup (cutsD T.h0 T.rest)) rfl (ev_meth (fs := T.fields) (C := CS) rfl eS (ea_consD eN ea_nil) ⟨T, k, rfl, h⟩ fun d q => (q T rfl).symm) ev_int) σ2 H2 (e2.mono f2) s2 _ fun v3 H3 d3 f3 s3 p3 r3 => ?_
    subst p3
    have e4 := ((e2.mono f2).mono f3).set (i := 5) r3
    have g0 : (σ2.set 5 (some v3))[0]? = some (some (.ref x)) := (List.getElem?_set_ne (by decide)).trans g0
    have g1 : (σ2.set 5 (some v3))[1]? = some (some (.str T.name)) := (List.getElem?_set_ne (by decide)).trans g1
    show tSeq _ _ _ (σ2.set 5 (some v3)) H3
    generalize σ2.set 5 (some v3) = σ4 at e4 g0 g1 ⊢
    have a3 := (a1.mono f2).mono f3
    obtain ⟨dx, vt, mvs, w1, w2, w3, _, _⟩ := a3.ex
    have ec : ∀ {S : Sc}, Ev K S (tVar 5) [some (T.store CS), some (.str T.name), some (.int num), some (.int hs), some (markD mark), some (.tup (cutsD T.h0 T.rest))] (Eq (.tup (cutsD T.h0 T.rest))) := ev_var rfl
    have en : ∀ {S : Sc}, Ev K S (tVar 2) [some (T.store CS), some (.str T.name), some (.int num), some (.int hs), some (markD mark), some (.tup (cutsD T.h0 T.rest))] (Eq (.int num)) := ev_var rfl
    obtain ⟨z, hz⟩ := cut_at (h0 := T.h0) (rest := T.rest) (i := num.toNat) (by have := mo.num; omega)
    have hz' : atI (cutsD T.h0 T.rest) num = some (.tup [z, .int (T.cutHouse num)]) := by
      have := atI_nat hz
      rw [show ((num.toNat : Nat) : Int) = num by have := mo.num; omega] at this
      exact this
    have hl : (cutsD T.h0 T.rest).length ≤ 8 := by
      rw [cuts_len]
      have := h.pl.cuts.most
      omega
    have l1 : (cutD (cutsD T.h0 T.rest) none (some num)).length ≤ 8 := by
      unfold cutD
      rw [List.length_take, List.length_drop]
      omega
    have l2 : (cutD (cutsD T.h0 T.rest) (some (num + 1)) none).length ≤ 8 := by
      unfold cutD
      rw [List.length_take, List.length_drop]
      omega
    have ev := ev_catT (K := K) (S := S) (ρ := [some (T.store CS), some (.str T.name), some (.int num), some (.int hs), some (markD mark), some (.tup (cutsD T.h0 T.rest))]) (by rw [List.length_append]; exact Nat.le_trans (Nat.add_le_add (Nat.add_le_add l1 (Nat.le_refl 1)) l2) (by decide)) (ev_catT (Nat.le_trans (Nat.add_le_add l1 (Nat.le_refl 1)) (by decide)) (ev_slT ec eo_none (eo_some en)) (ev_tupD (ds := [.tup [z, .int hs]]) (ea_consD (ev_tupD (ea_consD (ev_ixT (xs := [z, .int (T.cutHouse num)]) (i := 0) (x := z) rfl (ev_ixT hz' ec en) ev_int) (ea_consD (ev_var (i := 3) (d := .int hs) rfl) ea_nil)) (show 2 ≤ sizeLine by decide)) ea_nil) (show 1 ≤ sizeLine by decide))) (ev_slT ec (eo_some (ev_add (j := 1) en ev_int)) eo_none)
    refine go_drop ?_
    refine ⟨.ref x, g0, x, dx, _, rfl, w1, rfl, .str T.name, g1, ev σ4 H3 e4 s3 _ fun v5 H5 d5 f5 s5 p5 r5 => ?_⟩
    subst p5
    rw [cut_take mo.num.1, cut_drop (by have := mo.num; omega), show (num + 1).toNat = num.toNat + 1 by have := mo.num; omega, setHouse_cuts mo.num hz] at r5
    refine ⟨S, T, k, x, dh, dm, v5, (setHouse T num hs).h0, (setHouse T num hs).rest, rfl, s5, a3.mono f5, h, r5, setHouse_ok h.pl.cuts mo.house, fun H6 f6 s6 a6 => ?_⟩
    obtain ⟨dx6, vt6, mvs6, u1, u2, u3, _, u4⟩ := a6.ex
    have u4 : Rpk K S H6 mvs6 (mvD T.name T.mv) := u4
    rw [hm] at u4
    cases u4 with
    | @cons _ vm _ _ _ um un =>
      cases un
      refine ⟨.ref x, g0, x, CS, dx6, _, .ref dm, rfl, u1, c.cls, c.moves, rfl, dm, rfl, .inl ⟨_, .inl u3⟩, .str T.name, g1, [(.inr T.name, vm)], .inr T.name, vm, u3, rfl, by simp [valV], ?_⟩
      have ed : dropK [((.inr T.name : Key), vm)] (.inr T.name) = [] := by simp [dropK]
      rw [ed]
      refine q hab0 _ (((Frm.of ((f1.trans f2).trans (f3.trans f5))).trans f6).trans fun b o hb n m e => by rw [upd_ne m]; exact e) (s6.put fun z => a.nm.1 (s6.sub dm z)) ?_
      have := a6.moved (mvs' := []) (mv' := none) .nil (tabD_seq (setHouse_ok (n := num) h.pl.cuts mo.house) h.rows.each) fun y e => nomatch e
      have et : T.settled (num, hs, mark) = { T with h0 := (setHouse T num hs).h0, rest := (setHouse T num hs).rest, mv := none } := by
        unfold Tb.settled setHouse
        split <;> rfl
      rw [et]
      exact this
end
end Sh
/-! the law's look at the store -/
namespace Sh
open PySem PySem.Spec PyProof.Rows L2
structure Lr (P : Program) (w : World) (K : PySem.W.Frag) (mg : Str → Option Value) (base : Heap) : Prop where
  law_stood : Cl P w K mg base "_law_stood" 2 ["_law_table", "_law_houses", "_law_house"] (SpD K pre_law_stood post_law_stood)
  law_stands : Cl P w K mg base "_law_stands" 3 ["_law_table", "_law_houses", "_law_house"] (SpD K pre_law_stands post_law_stands)
theorem LawOk.sorted {T : Tb} {k : Str} {tr : List Row} (h : LawOk T k tr) : T.sorted = T := by
  have e : srtR T.rows = T.rows := by rw [h.same, srtR_srtR h.pl.head h.trow.each]
  unfold Tb.sorted
  rw [e]
theorem mv_eqn {T : Tb} {k : Str} (h : TbOk T k) {n : Nat} : EqN (n + 2) (movD T.mv) := by
  cases hm : T.mv with
  | none => exact .non
  | some y =>
    refine EqN.tup fun d hd => ?_
    rcases List.mem_cons.mp hd with rfl | hd
    · exact .int
    rcases List.mem_cons.mp hd with rfl | hd
    · exact .int
    rw [List.mem_singleton.mp hd]
    cases e : y.2.2 with
    | none => exact .non
    | some r => exact ((h.mv y hm).mark r e).eqn
section
variable {P : Program} {w : World} {K : PySem.W.Frag} {mg : Str → Option Value} {base : Heap} {aW aK : Addr} {f : Addr} {fd : FuncData} {CS CT : Addr}
/-- _law_right -/
abbrev s_law_right : Stmt := top 60
theorem sc_law_right : FnScope ["_law_store", "_law_name", "_law_table", "_law_houses", "_law_town", "_law_house"] ["_law_store", "_law_name", "_law_table", "_law_houses"] (defScope s_law_right) := ⟨rfl, rfl, rfl, by decide +kernel, rfl, by decide +kernel, by decide +kernel⟩
def pre_law_right (CS : Addr) : Sc → List Dat → Prop := fun _ ds => ∃ T k tr, ds = [T.store CS, .str T.name, T.law tr, .int T.m] ∧ LawOk T k tr
def post_law_right : List Dat → Dat → Prop := fun _ r => r = .bl true
theorem ok_law_right (F : Fun K "_law_right" "_law_right" s_law_right f fd) (X : Txt K mg aW aK) (L : Lr P w K mg base) (c : StoreC K CS) (m_Store_moving : Ml P w K mg base CS "moving" 4 ["self", "name"] (SpD K (pre_Store_moving CS) (post_Store_moving CS))) (m_Store_town : Ml P w K mg base CS "town" 9 ["self"] (SpD K (pre_Store_town CS) (post_Store_town CS CT))) (m_Town_whole : Ml P w K mg base CT "whole" 4 ["self", "name"] (SpD K (pre_Town_whole CT) (post_Town_whole CT))) (m_Town_placing : Ml P w K mg base CT "placing" 4 ["self", "name"] (SpD K (pre_Town_placing CT) (post_Town_placing CT))) (m_Store_stands : Ml P w K mg base CS "stands" 6 ["self", "name", "house"] (SpD K (pre_Store_stands CS) (post_Store_stands CS))) (m_Town_part : Ml P w K mg base CT "part" 4 ["self", "name", "house"] (SpD K (pre_Town_part CT) (post_Town_part CT))) : FnOk P w K mg base CX0 10 f fd ["_law_store", "_law_name", "_law_table", "_law_houses"] (SpD K (pre_law_right CS) post_law_right) := by
  refine ok_of F sc_law_right (fun S ds h => by obtain ⟨T, k, tr, rfl, h⟩ := h; rfl) fun cdv A outer s H E hr => ?_
  have nd := sc_law_right.nd
  have hu := hr.units
  have hu0 := hr.units0
  have hu1 := hu_of hr
  have hu65 := u65 hr
  refine ⟨_, (pss_cons (ps_if (pt_cmpR (r := rNeD K) (op_neD hu) (pe_mt m_Store_moving (hr.mono (by decide)) (pv 0) (pa_cons (pv 1) pa_nil)) (pe_ix (r := rIx K) ix_seq (pv 2) pe_int (fun _ _ => rfl)) (nomark _)) (pss_one (ps_ret pe_bl)) pss_nil)
      (pss_cons (ps_set (i := 4) nd rfl (by first | exact Or.inl rfl | exact Or.inr rfl) (pe_mt0 m_Store_town (hr.mono (by decide)) (pv 0)))
      (pss_cons (ps_if (PW.pt (pw_or (pt_cmpR (r := rNeD K) (op_neD hu) (pe_mt m_Town_whole (hr.mono (by decide)) (pv 4) (pa_cons (pv 1) pa_nil)) (pe_srt X.b hu (pe_ix (r := rIx K) ix_seq (pv 2) pe_int (fun _ _ => rfl))) (nomark _)) (pw_or1 (pt_cmpR (r := rNeD K) (op_neD hu) (pe_mt m_Town_placing (hr.mono (by decide)) (pv 4) (pa_cons (pv 1) pa_nil)) (pe_ix (r := rIx K) ix_seq (pv 2) pe_int (fun _ _ => rfl)) (nomark _))))) (pss_one (ps_ret pe_bl)) pss_nil)
      (pss_cons (ps_for PassesOwn.never rfl (pi_range1 rfl X.b.range (pa_cons (pv 3) pa_nil)) (pg_name (i := 5) nd rfl (by first | exact Or.inl rfl | exact Or.inr rfl)) (pss_cons (ps_if (pt_cmpR (r := rNeD K) (op_neD hu) (pe_mt m_Store_stands (hr.mono (by decide)) (pv 0) (pa_cons (pv 1) (pa_cons (pv 5) pa_nil))) (pe_fn L.law_stands (hr.mono (by decide)) (pa_cons (pv 2) (pa_cons (pv 3) (pa_cons (pv 5) pa_nil)))) (nomark _)) (pss_one (ps_ret pe_bl)) pss_nil)
      (pss_one (ps_if (pt_cmpR (r := rNeD K) (op_neD hu) (pe_mt m_Town_part (hr.mono (by decide)) (pv 4) (pa_cons (pv 1) (pa_cons (pv 5) pa_nil))) (pe_fn L.law_stood (hr.mono (by decide)) (pa_cons (pv 2) (pa_cons (pv 3) (pa_cons (pv 5) pa_nil)))) (nomark _)) (pss_one (ps_ret pe_bl)) pss_nil))))
      (pss_one (ps_ret pe_bl)))))), ?_⟩
  rintro S ds ⟨T, k, tr, rfl, h⟩
  have eS : ∀ {S : Sc} {b c d e f : Option Dat}, Ev K S (tVar 0) [some (T.store CS), b, c, d, e, f] (Eq (T.store CS)) := ev_var rfl
  have eN : ∀ {S : Sc} {b c d e f : Option Dat}, Ev K S (tVar 1) [b, some (.str T.name), c, d, e, f] (Eq (.str T.name)) := ev_var rfl
  have eT : ∀ {S : Sc} {b c d e f : Option Dat}, Ev K S (tVar 2) [b, c, some (T.law tr), d, e, f] (Eq (T.law tr)) := ev_var rfl
  have eL : ∀ {S : Sc} {b c d e f : Option Dat}, Ev K S (tVar 2) [b, c, some (T.law tr), d, e, f] (Eq (.lst [.hd (headD T.cs), plD T.n T.h0 T.rest, .lst (rowsD tr), movD T.mv])) := ev_var rfl
  have eM : ∀ {S : Sc} {b c d e f : Option Dat}, Ev K S (tVar 3) [b, c, d, some (.int T.m), e, f] (Eq (.int T.m)) := ev_var rfl
  have hs : T.sorted = T := h.sorted
  have h2 := h.m
  refine s_skip (et_testD (ev_ne (mv_eqn h.toTbOk (n := 1)).eqd (mv_eqn h.toTbOk (n := 1)).eqd (ev_meth (fs := T.fields) (C := CS) rfl eS (ea_consD eN ea_nil) ⟨T, k, rfl, h.toTbOk⟩ fun d q => (q T rfl).symm) (ev_ixL rfl eL ev_int))) (by rw [deq_self]; rfl) ?_
  refine s_seq (s_setD (x := T.town CT) (ev_meth (fs := T.fields) (C := CS) rfl eS ea_nil ⟨T, k, rfl, h.toTbOk⟩ fun d q => by rw [q T rfl, hs]) ?_)
  have eW : ∀ {S : Sc} {b c d e f : Option Dat}, Ev K S (tVar 4) [b, c, d, e, some (T.town CT), f] (Eq (T.town CT)) := ev_var rfl
  have e1 : srt (rowsD tr) = rowsD T.rows := by rw [← srtR_d, h.same]
  refine s_skip (et_or (et_testD (ev_ne (rows_eqn (n := 1) h.rows).eqd (rows_eqn (n := 1) h.rows).eqd (ev_meth (fs := T.tfields) (C := CT) rfl eW (ea_consD eN ea_nil) ⟨T, k, rfl, h.toTbOk⟩ fun d q => (q T rfl).symm) ((ev_srt (rows_sort h.pl.head h.trow.each) (ev_ixL (xs := [.hd (headD T.cs), plD T.n T.h0 T.rest, .lst (rowsD tr), movD T.mv]) (i := 2) (x := .lst (rowsD tr)) rfl eL ev_int)).is (congrArg Dat.lst e1)))) fun _ => et_testD (ev_ne (h.pl.eqn (j := 1)).eqd (h.pl.eqn (j := 1)).eqd (ev_meth (fs := T.tfields) (C := CT) rfl eW (ea_consD eN ea_nil) ⟨T, k, rfl, h.toTbOk⟩ fun d q => (q T rfl).symm) (ev_ixL rfl eL ev_int))) (by rw [deq_self, deq_self]; rfl) ?_
  refine s_seq (s_for (is := [5]) (P := Eq (rngD T.m.toNat)) (ie_rangeD (ea_consD eM ea_nil) ⟨by omega, by omega⟩) (fun _ _ ρ => ∃ b, ρ = [some (T.store CS), some (.str T.name), some (T.law tr), some (.int T.m), some (T.town CT), b]) (fun _ _ => ⟨_, rfl⟩) ?_ ?_)
  · rintro zs i z ρ1 rfl hz ⟨b, rfl⟩
    have hi : i < T.m.toNat := by
      have := (List.getElem?_eq_some_iff.mp hz).1
      simpa [rngD] using this
    obtain rfl : z = .int (i : Int) := by
      simp [rngD, hi] at hz
      exact hz.symm
    have e5 : ∀ {S : Sc} {a b c d e : Option Dat}, Ev K S (tVar 5) [a, b, c, d, e, some (.int (i : Int))] (Eq (.int (i : Int))) := ev_var rfl
    have hst : RowsOk T.cs (T.stood i) := h.rows.fil _
    have hall : ∀ r ∈ T.stood (i : Int) ++ T.taken (i : Int), RowK T.cs r := fun r hr => by
      rcases List.mem_append.mp hr with hr | hr
      · exact hst.each r hr
      · unfold Tb.taken at hr
        split at hr
        · split at hr
          · exact h.rows.each r (List.mem_filter.mp (List.mem_filter.mp hr).1).1
          · cases hr
        · cases hr
    have hS : EqN 60 (.lst (srt (rowsD (T.stood i ++ T.taken i)))) := by
      rw [← srtR_d]
      refine EqN.lst (n := 59) fun d hd => ?_
      obtain ⟨r, hr, rfl⟩ := List.mem_map.mp hd
      exact (hall r ((srtR_perm _).mem_iff.mp hr)).eqn
    refine ⟨_, g_name, ?_⟩
    refine s_skip (et_testD (ev_ne hS.eqd hS.eqd (ev_meth (fs := T.fields) (C := CS) rfl eS (ea_consD eN (ea_consD e5 ea_nil)) ⟨T, k, i, rfl, h.toTbOk, by omega, by omega⟩ fun d q => (q T i rfl).symm) (ev_callD (ea_consD eT (ea_consD eM (ea_consD e5 ea_nil))) ⟨T, k, tr, T.m, i, rfl, h⟩ fun d q => (q T tr T.m i rfl h.same).symm))) (by rw [deq_self]; rfl) ?_
    exact s_no (et_testD (ev_ne (rows_eqn (n := 1) hst).eqd (rows_eqn (n := 1) hst).eqd (ev_meth (fs := T.tfields) (C := CT) rfl eW (ea_consD eN (ea_consD e5 ea_nil)) ⟨T, k, i, rfl, h.toTbOk, by omega, by omega⟩ fun d q => (q T i rfl).symm) (ev_callD (ea_consD eT (ea_consD eM (ea_consD e5 ea_nil))) ⟨T, k, tr, T.m, i, rfl, h⟩ fun d q => (q T tr T.m i rfl h.same).symm))) (by rw [deq_self]; rfl) (s_next ⟨_, rfl⟩)
  · rintro zs ρ1 rfl ⟨b, rfl⟩
    exact s_retD ev_bl rfl
end
end Sh
/-! the law's draws -/
namespace Sh
open PySem PySem.Spec PyProof.Rows L2
theorem StOk.turn {S : Sc} {H : Hp} {s : Addr} {n : Int} (k : StOk S H) (h : 0 ≤ n ∧ n < stB) : StOk S (upd H s (.lst [.int n])) := ⟨fun a ha => by
  by_cases c : a = s
  · subst c
    exact ⟨n, upd_same, h⟩
  · obtain ⟨m, e, b⟩ := k.st a ha
    exact ⟨m, by rw [upd_ne c]; exact e, b⟩, fun a ha => by
  by_cases c : a = s
  · subst c
    exact ⟨_, upd_same⟩
  · obtain ⟨m, e⟩ := k.ex a ha
    exact ⟨m, by rw [upd_ne c]; exact e⟩, fun a ha => by
  by_cases c : a = s
  · subst c
    exact ⟨_, upd_same⟩
  · obtain ⟨m, e⟩ := k.al a ha
    exact ⟨m, by rw [upd_ne c]; exact e⟩, k.sub⟩
section
variable {P : Program} {w : World} {K : PySem.W.Frag} {mg : Str → Option Value} {base : Heap} {aW aK : Addr} {f : Addr} {fd : FuncData} {CS CT : Addr}
/-- _law_next -/
abbrev s_law_next : Stmt := top 44
theorem sc_law_next : FnScope ["_law_state", "_law_many"] ["_law_state", "_law_many"] (defScope s_law_next) := ⟨rfl, rfl, rfl, by decide +kernel, rfl, by decide +kernel, by decide +kernel⟩
/-- a draw, whatever holds the state -/
def spNext : Sp := fun vs H Q _ => ∃ (S : Sc) (a : Addr) (n m : Int), vs = [.ref a, .int m] ∧ StOk S H ∧ a ∈ S.st ∧ H a = some (.lst [.int n]) ∧ 0 ≤ n ∧ n < 2 ^ 63 ∧ 0 < m ∧
  ∀ (n' j : Int) (H1 : Hp), 0 ≤ n' → n' < stB → 0 ≤ j → j < m → Fr S H H1 → (∀ b o, b ≠ a → H b = some o → H1 b = some o) → H1 a = some (.lst [.int n']) → Q (.int j) H1
theorem ok_law_next (F : Fun K "_law_next" "_law_next" s_law_next f fd) (X : Txt K mg aW aK) : FnOk P w K mg base CX0 1 f fd ["_law_state", "_law_many"] (spNext) := by
  refine F.ok sc_law_next (fun vs H Q E h => by obtain ⟨S, a, n, m, rfl, h⟩ := h; rfl) fun cdv A outer s H vs Q E hr h => ?_
  have nd := sc_law_next.nd
  have hu := hr.units
  have hu0 := hr.units0
  have hu1 := hu_of hr
  have hu65 := u65 hr
  refine ⟨_, (pss_cons (ps_asg (pe_op op_modI (pe_op op_addI (pe_op op_mulI (pe_ix (r := rIx K) ix_seq (pv 0) pe_int (fun _ _ => rfl)) pe_int) pe_int) pe_int) (pg_sub (pv 0) pe_int set_list))
      (pss_one (ps_ret (pe_op op_modI (pe_op op_divI (pe_ix (r := rIx K) ix_seq (pv 0) pe_int (fun _ _ => rfl)) pe_int) (pv 1))))), ?_⟩
  obtain ⟨S, st, n, m, rfl, s0, hs, hn, h0, h1, hm, q⟩ := h
  have kk : ∀ {H : Hp} {n : Int}, H st = some (.lst [.int n]) → EnvR K {} H (start ["_law_state", "_law_many"] [.ref st, .int m]) [some (.lst [.int n]), some (.int m)] := fun e => .consS (.lst (.inl ⟨by simp, by simp⟩) (SqL.of e) (.cons (.int _) .nil)) (.consS (.int _) .nil)
  refine go_asg ?_
  refine (ev_mod (by decide) (ev_add (ev_mul (.inl ⟨by omega, by omega⟩) (ev_ixL (xs := [.int n]) (i := 0) (x := .int n) rfl (ev_var (i := 0) rfl) ev_int) ev_int) ev_int) ev_int) _ H (kk hn) .nil _ fun v1 H1 d1 f1 s1 p1 r1 => ?_
  subst p1
  cases r1
  have f1' : Fr S H H1 := f1.mono (fun a ha => by simp at ha)
  have hn1 : H1 st = some (.lst [.int n]) := f1 _ _ (by simp) hn
  refine ⟨.ref st, rfl, st, [.int n], 0, 0, rfl, rfl, hn1, rfl, ?_⟩
  have hb : 0 ≤ (n * 1181783497276652981 + 12345678910987) % 2305843009213693951 ∧ (n * 1181783497276652981 + 12345678910987) % 2305843009213693951 < stB := ⟨Int.emod_nonneg _ (by decide), by unfold stB; exact Int.emod_lt_of_pos (n * 1181783497276652981 + 12345678910987) (by decide)⟩
  generalize hN : (n * 1181783497276652981 + 12345678910987) % 2305843009213693951 = n' at hb
  show tRet _ _ _ (upd H1 st (.lst [.int n']))
  have f2 : Fr S H (upd H1 st (.lst [.int n'])) := f1'.mut hs
  refine (ev_mod hm (ev_div ⟨by decide, by decide⟩ (ev_ixL (xs := [.int n']) (i := 0) (x := .int n') rfl (ev_var (i := 0) rfl) ev_int) ev_int) (ev_var (i := 1) (d := .int m) rfl)) _ _ (kk upd_same) .nil _ fun v2 H2 d2 f3 s3 p3 r3 => ?_
  subst p3
  cases r3
  refine q n' _ H2 hb.1 hb.2 (Int.emod_nonneg _ (by omega)) (Int.emod_lt_of_pos _ hm) (f2.trans (f3.mono (fun a ha => by simp at ha))) (fun b o hne e => f3 b o (by simp) (by rw [upd_ne hne]; exact f1 b o (by simp) e)) (f3 st _ (by simp) upd_same)
/-- a draw by data -/
def pre_law_next : Sc → List Dat → Prop := fun S ds => ∃ s m, ds = [.raw (.ref s), .int m] ∧ s ∈ S.rn ∧ 0 < m
def post_law_next : List Dat → Dat → Prop := fun ds r => ∀ v m, ds = [v, .int m] → ∃ j, r = .int j ∧ 0 ≤ j ∧ j < m
abbrev NxR (P : Program) (w : World) (K : PySem.W.Frag) (mg : Str → Option Value) (base : Heap) : Prop := Cl P w K mg base "_law_next" 1 ["_law_state", "_law_many"] spNext
abbrev NxD (P : Program) (w : World) (K : PySem.W.Frag) (mg : Str → Option Value) (base : Heap) : Prop := Cl P w K mg base "_law_next" 1 ["_law_state", "_law_many"] (SpD K pre_law_next post_law_next)
theorem StOk.next {S : Sc} {H H1 : Hp} {s : Addr} {n : Int} (k : StOk S H) (h : 0 ≤ n ∧ n < stB) (f : ∀ b o, b ≠ s → H b = some o → H1 b = some o) (e : H1 s = some (.lst [.int n])) : StOk S H1 := ⟨fun a ha => by
  by_cases c : a = s
  · subst c
    exact ⟨n, e, h⟩
  · obtain ⟨m, e, b⟩ := k.st a ha
    exact ⟨m, f _ _ c e, b⟩, fun a ha => by
  by_cases c : a = s
  · subst c
    exact ⟨_, e⟩
  · obtain ⟨m, e⟩ := k.ex a ha
    exact ⟨m, f _ _ c e⟩, fun a ha => by
  by_cases c : a = s
  · subst c
    exact ⟨_, e⟩
  · obtain ⟨m, e⟩ := k.al a ha
    exact ⟨m, f _ _ c e⟩, k.sub⟩
theorem next_data {vs : List V} {H : Hp} {Q : VK} {E : XK} (h : SpD K pre_law_next post_law_next vs H Q E) : spNext vs H Q E := by
  obtain ⟨S, ds, r, s0, ⟨st, m, rfl, hs, hm⟩, q⟩ := h
  cases r with
  | cons a t => cases t with
    | cons b t =>
      cases t
      cases a
      cases b
      obtain ⟨n, hn, h0, h1⟩ := s0.st st hs
      refine ⟨S, st, n, m, rfl, s0, s0.sub st hs, hn, h0, by unfold stB at h1; omega, hm, fun n' j H1 a1 a2 a3 a4 f g e => ?_⟩
      refine q _ H1 (.int j) f (s0.next ⟨a1, a2⟩ g e) (fun v m' e => ?_) (.int _)
      injection e with _ e
      injection e with e _
      injection e with e
      subst e
      exact ⟨_, rfl, a3, a4⟩
theorem NxR.data (h : NxR P w K mg base) : NxD P w K mg base := by
  obtain ⟨f, fd, F, a, b, c⟩ := h.ex
  exact ⟨f, fd, F.imp fun vs H Q E q => next_data q, a, b, c⟩
/-- a draw, by data -/
theorem ev_nextP {S : Sc} {ρ : Rho} {tr : TA} {E : XK} {s : Addr} {M : Int → Prop} (hs : s ∈ S.rn) (h : EvA K S tr ρ (fun ds => ∃ m, ds = [.raw (.ref s), .int m] ∧ M m ∧ 0 < m)) : Ev K S (tCall (SpD K pre_law_next post_law_next) [] E tr) ρ (fun d => ∃ j m, d = .int j ∧ M m ∧ 0 ≤ j ∧ j < m) :=
  ev_call h (fun ds ⟨m, e, _, hm⟩ => ⟨s, m, e, hs, hm⟩) fun ds d ⟨m, e, hM, _⟩ p => by
    obtain ⟨j, e1, e2, e3⟩ := p _ m e
    exact ⟨j, m, e1, hM, e2, e3⟩
theorem ev_next {S : Sc} {ρ : Rho} {ta tb : TE} {E : XK} {s : Addr} {m : Int} (hs : s ∈ S.rn) (hm : 0 < m) (ha : Ev K S ta ρ (Eq (.raw (.ref s)))) (hb : Ev K S tb ρ (Eq (.int m))) : Ev K S (tCall (SpD K pre_law_next post_law_next) [] E (tCons ta (tCons tb tNil))) ρ (fun d => ∃ j, d = .int j ∧ 0 ≤ j ∧ j < m) :=
  ev_callD (ea_consD ha (ea_consD hb ea_nil)) ⟨s, m, rfl, hs, hm⟩ fun d p => p _ m rfl
end
end Sh
/-! values and rows by draws -/
namespace Sh
open PySem PySem.Spec PyProof.Rows L2
/-- tuple(list) -/
theorem ev_tupP {K : PySem.W.Frag} {S : Sc} {ρ : Rho} {ta : TE} {L : List Dat → Prop} (ha : Ev K S ta ρ (fun d => ∃ xs, d = .lst xs ∧ L xs)) : Ev K S (tCB (rTupF K) (tCons ta tNil)) ρ (fun d => ∃ xs, d = .tup xs ∧ L xs) := fun σ H e s Q q =>
  ha σ H e s _ fun v H1 d f1 s1 p1 r1 => by
    obtain ⟨xs, rfl, h⟩ := p1
    cases r1 with
    | lst n hs r => exact ⟨_, _, rfl, hs, fun p o hp ho => q _ _ _ (f1.trans (.new hp)) (s1.new hp) ⟨xs, rfl, h⟩ (.tup (.inl (s1.ne hp)) (.inl (.inr ⟨_, upd_same⟩)) (r.mono (.new hp)))⟩
theorem ev_headP {K : PySem.W.Frag} {S : Sc} {ρ : Rho} {ta : TE} {L : List Dat → Prop} (ha : Ev K S ta ρ (fun d => ∃ xs, d = .lst xs ∧ L xs)) : Ev K S (tCB (rTupF K) (tCons ta tNil)) ρ (fun d => ∃ xs, d = .hd xs ∧ L xs) := fun σ H e s Q q =>
  ha σ H e s _ fun v H1 d f1 s1 p1 r1 => by
    obtain ⟨xs, rfl, h⟩ := p1
    cases r1 with
    | lst n hs r => exact ⟨_, _, rfl, hs, fun p o hp ho => q _ _ _ (f1.trans (.new hp)) (s1.new hp) ⟨xs, rfl, h⟩ (.hd (s1.ne hp) ho upd_same (r.mono (.new hp)))⟩
def IntP (M : Int → Prop) : Dat → Prop := fun d => ∃ i, d = .int i ∧ M i
theorem atI_in {α : Type} {xs : List α} {j : Int} (h0 : 0 ≤ j) (h1 : j < xs.length) : ∃ x, atI xs j = some x ∧ x ∈ xs := by
  obtain ⟨i, rfl⟩ : ∃ i : Nat, j = (i : Int) := ⟨j.toNat, by omega⟩
  exact ⟨_, atI_nat (List.getElem?_eq_getElem (show i < xs.length by omega)), List.getElem_mem _⟩
section
variable {K : PySem.W.Frag} {S : Sc} {ρ : Rho} {ta tb : TE} {M N R : Int → Prop}
theorem RV.imp {r : R2} {x y : Dat} {P P' : Dat → Prop} (h : RV K S r x y P) (i : ∀ d, P d → P' d) : RV K S r x y P' := fun v u H a b s Q q => h v u H a b s Q fun z H' d f s' p r => q z H' d f s' (i d p) r
theorem rv_valP {r : R2} {x y : Dat} {P : Dat → Prop} (h : ∀ v u H, Rp K S H v x → Rp K S H u y → StOk S H → ∀ Q : VK, (∀ w d, P d → Rp K S H w d → Q w H) → r v u H Q) : RV K S r x y P := fun v u H a b s Q q => h v u H a b s Q fun w d p r => q w H d .refl s p r
theorem ev_addP (ha : Ev K S ta ρ (IntP M)) (hb : Ev K S tb ρ (IntP N)) (h : ∀ i j, M i → N j → R (i + j)) : Ev K S (tOp rAddI ta tb) ρ (IntP R) :=
  ev_op ha (fun _ _ => hb) fun x y ⟨i, e, p⟩ ⟨j, e', p'⟩ => by
    subst e
    subst e'
    exact (rv_I0 fun _ => .int _).imp fun d c => ⟨_, c.symm, h i j p p'⟩
theorem ev_subP (ha : Ev K S ta ρ (IntP M)) (hb : Ev K S tb ρ (IntP N)) (h : ∀ i j, M i → N j → R (i - j)) : Ev K S (tOp rSubI ta tb) ρ (IntP R) :=
  ev_op ha (fun _ _ => hb) fun x y ⟨i, e, p⟩ ⟨j, e', p'⟩ => by
    subst e
    subst e'
    exact (rv_I0 fun _ => .int _).imp fun d c => ⟨_, c.symm, h i j p p'⟩
theorem ev_mulP (ha : Ev K S ta ρ (IntP M)) (hb : Ev K S tb ρ (IntP N)) (hc : ∀ i j, M i → N j → CMul i j) (h : ∀ i j, M i → N j → R (i * j)) : Ev K S (tOp rMulI ta tb) ρ (IntP R) :=
  ev_op ha (fun _ _ => hb) fun x y ⟨i, e, p⟩ ⟨j, e', p'⟩ => by
    subst e
    subst e'
    exact (rv_I (hc i j p p') fun _ => .int _).imp fun d c => ⟨_, c.symm, h i j p p'⟩
theorem ev_modP (ha : Ev K S ta ρ (IntP M)) (hb : Ev K S tb ρ (IntP N)) (hc : ∀ j, N j → 0 < j) (h : ∀ i j, M i → N j → R (i % j)) : Ev K S (tOp rModI ta tb) ρ (IntP R) :=
  ev_op ha (fun _ _ => hb) fun x y ⟨i, e, p⟩ ⟨j, e', p'⟩ => by
    subst e
    subst e'
    exact (rv_I (C := fun _ j => 0 < j) (g := fun i j => .int (i % j)) (z := .int (i % j)) (hc j p') fun _ => .int _).imp fun d c => ⟨_, c.symm, h i j p p'⟩
theorem EvA.imp {tr : TA} {P P' : List Dat → Prop} (h : EvA K S tr ρ P) (i : ∀ d, P d → P' d) : EvA K S tr ρ P' := fun σ H e s Q q => h σ H e s Q fun v H' d f s' p r => q v H' d f s' (i d p) r
theorem ea_two {P1 P2 : Dat → Prop} (ha : Ev K S ta ρ P1) (hb : Ev K S tb ρ P2) : EvA K S (tCons ta (tCons tb tNil)) ρ (fun ds => ∃ x y, ds = [x, y] ∧ P1 x ∧ P2 y) :=
  ea_cons (P2 := fun _ ys => ∃ y, ys = [y] ∧ P2 y) ha (fun _ _ => ea_cons (P2 := fun _ ys => ys = []) hb (fun _ _ => ea_nil.imp fun _ e => e.symm) fun x ys h e => ⟨x, by rw [e], h⟩) fun x ys h ⟨y, e, hy⟩ => ⟨x, y, by rw [e], h, hy⟩
theorem ev_two {P1 P2 : Dat → Prop} (ha : Ev K S ta ρ P1) (hb : Ev K S tb ρ P2) : Ev K S (tLst (tCons ta (tCons tb tNil))) ρ (fun d => ∃ xs, d = .lst xs ∧ ∃ x y, xs = [x, y] ∧ P1 x ∧ P2 y) :=
  ev_lst (ea_two ha hb) fun ds ⟨x, y, e, _⟩ => by rw [e]; exact show 2 ≤ sizeLine by decide
theorem ev_intP {i : Int} (h : M i) : Ev K S (tC (.int i)) ρ (IntP M) := ev_int.imp fun _ e => ⟨i, e.symm, h⟩
theorem ev_eqI (ha : Ev K S ta ρ (IntP M)) (hb : Ev K S tb ρ (IntP N)) : Ev K S (tOp (rEqD K) ta tb) ρ (fun d => ∃ b, d = .bl b) :=
  ev_op ha (fun _ _ => hb) fun x y ⟨i, e, p⟩ ⟨j, e', p'⟩ => by
    subst e
    subst e'
    exact (rv_eqD (EqN.int (n := 0)).eqd (EqN.int (n := 0)).eqd).imp fun d c => ⟨_, c.symm⟩
theorem ev_ltI (ha : Ev K S ta ρ (IntP M)) (hb : Ev K S tb ρ (IntP N)) : Ev K S (tOp (rSc vLt) ta tb) ρ (fun d => ∃ b, d = .bl b) :=
  ev_op ha (fun _ _ => hb) fun x y ⟨i, e, p⟩ ⟨j, e', p'⟩ => by
    subst e
    subst e'
    exact (rv_sc (x := .int i) (y := .int j) rfl).imp fun d c => ⟨_, c.symm⟩
/-- an item of a list -/
theorem ev_ixP {L : List Dat → Prop} {P : Dat → Prop} (ha : Ev K S ta ρ (fun d => ∃ xs, d = .lst xs ∧ L xs)) (hb : Ev K S tb ρ (IntP N)) (h : ∀ xs j, L xs → N j → ∃ x, atI xs j = some x ∧ P x) : Ev K S (tOp (rIx K) ta tb) ρ P :=
  ev_op ha (fun _ _ => hb) fun x y ⟨xs, e, p⟩ ⟨j, e', p'⟩ => by
    subst e
    subst e'
    obtain ⟨z, h1, h2⟩ := h xs j p p'
    refine rv_valP fun v u H a b s Q q => ?_
    cases a with
    | lst n hs r =>
      cases b
      obtain ⟨w, k1, k2⟩ := rps_at r h1
      exact .inl ⟨_, _, _, w, rfl, rfl, hs, k1, q w z h2 k2⟩
theorem ev_ixTP {P : Dat → Prop} {xs : List Dat} (ha : Ev K S ta ρ (Eq (.tup xs))) (hb : Ev K S tb ρ (IntP N)) (h : ∀ j, N j → ∃ x, atI xs j = some x ∧ P x) : Ev K S (tOp (rIx K) ta tb) ρ P :=
  ev_op ha (fun _ _ => hb) fun x y e ⟨j, e', p'⟩ => by
    subst e
    subst e'
    obtain ⟨z, h1, h2⟩ := h j p'
    refine rv_valP fun v u H a b s Q q => ?_
    cases a with
    | tup n hs r =>
      cases b
      obtain ⟨w, k1, k2⟩ := rps_at r h1
      exact .inr (.inl ⟨_, _, _, w, rfl, rfl, hs, k1, q w z h2 k2⟩)
/-- a letter -/
theorem ev_ixSP {P : Dat → Prop} {w : Str} (hl : w.length ≤ sizeLine) (ha : Ev K S ta ρ (Eq (.str w))) (hb : Ev K S tb ρ (IntP N)) (h : ∀ j, N j → ∃ c, atI w.cps.toList j = some c ∧ P (.str ⟨#[c]⟩)) : Ev K S (tOp (rIx K) ta tb) ρ P :=
  ev_op ha (fun _ _ => hb) fun x y e ⟨j, e', p'⟩ => by
    subst e
    subst e'
    obtain ⟨c, h1, h2⟩ := h j p'
    refine rv_valP fun v u H a b s Q q => ?_
    cases a
    cases b
    exact .inr (.inr ⟨_, _, _, rfl, rfl, hl, h1, q _ _ h2 (.str _)⟩)
theorem ev_addSP {A B C : Str → Prop} (ha : Ev K S ta ρ (fun d => ∃ x, d = .str x ∧ A x)) (hb : Ev K S tb ρ (fun d => ∃ x, d = .str x ∧ B x)) (hl : ∀ x y, A x → B y → x.length + y.length ≤ sizeLine) (h : ∀ x y, A x → B y → C (x ++ y)) : Ev K S (tOp rAddS ta tb) ρ (fun d => ∃ x, d = .str x ∧ C x) :=
  ev_op ha (fun _ _ => hb) fun x y ⟨i, e, p⟩ ⟨j, e', p'⟩ => by
    subst e
    subst e'
    refine rv_valP fun v u H a b s Q q => ?_
    cases a
    cases b
    exact ⟨_, _, rfl, rfl, hl _ _ p p', q _ _ ⟨_, rfl, h _ _ p p'⟩ (.str _)⟩
theorem ev_int1P (ha : Ev K S ta ρ (fun d => ∃ b, d = .bl b)) : Ev K S (tCB (fun xs H Q => (∃ i, xs = [.int i] ∧ Q (.int i) H) ∨ ∃ k, xs = [.bl k] ∧ Q (.int (if k then 1 else 0)) H) (tCons ta tNil)) ρ (IntP fun i => i = 0 ∨ i = 1) := fun σ H e s Q q =>
  ha σ H e s _ fun v H1 d f1 s1 ⟨b, p1⟩ r1 => by
    subst p1
    cases r1
    exact .inr ⟨b, rfl, q _ H1 _ f1 s1 ⟨_, rfl, by cases b <;> simp⟩ (.int _)⟩
theorem ev_nextI {E : XK} {s : Addr} {m : Int} (hs : s ∈ S.rn) (hm : 0 < m) (ha : Ev K S ta ρ (Eq (.raw (.ref s)))) (hb : Ev K S tb ρ (Eq (.int m))) : Ev K S (tCall (SpD K pre_law_next post_law_next) [] E (tCons ta (tCons tb tNil))) ρ (IntP fun j => 0 ≤ j ∧ j < m) := ev_next hs hm ha hb
end
section
variable {P : Program} {w : World} {K : PySem.W.Frag} {mg : Str → Option Value} {base : Heap} {aW aK : Addr} {f : Addr} {fd : FuncData} {CS CT : Addr}
structure Ln (P : Program) (w : World) (K : PySem.W.Frag) (mg : Str → Option Value) (base : Heap) : Prop where
  law_next : NxD P w K mg base
/-- _law_great -/
abbrev s_law_great : Stmt := top 47
theorem sc_law_great : FnScope ["_law_state", "_law_number", "_law_k"] ["_law_state"] (defScope s_law_great) := ⟨rfl, rfl, rfl, by decide +kernel, rfl, by decide +kernel, by decide +kernel⟩
def pre_law_great : Sc → List Dat → Prop := fun S ds => ∃ s, ds = [.raw (.ref s)] ∧ s ∈ S.rn
def post_law_great : List Dat → Dat → Prop := fun _ r => ∃ i, r = .int i
theorem ok_law_great (F : Fun K "_law_great" "_law_great" s_law_great f fd) (X : Txt K mg aW aK) (L : Ln P w K mg base) : FnOk P w K mg base CX0 2 f fd ["_law_state"] (SpD K pre_law_great post_law_great) := by
  refine ok_of F sc_law_great (fun S ds h => by obtain ⟨st, rfl, hs⟩ := h; rfl) fun cdv A outer s H E hr => ?_
  have nd := sc_law_great.nd
  have hu := hr.units
  have hu0 := hr.units0
  have hu1 := hu_of hr
  have hu65 := u65 hr
  refine ⟨_, (pss_cons (ps_set (i := 1) nd rfl (by first | exact Or.inl rfl | exact Or.inr rfl) pe_int)
      (pss_cons (ps_for PassesOwn.never rfl (pi_range1 rfl X.b.range (pa_cons pe_int pa_nil)) (pg_name (i := 2) nd rfl (by first | exact Or.inl rfl | exact Or.inr rfl)) (pss_one (ps_set (i := 1) nd rfl (by first | exact Or.inl rfl | exact Or.inr rfl) (pe_op op_addI (pe_op op_mulI (pv 1) (pe_op op_powI pe_int pe_int)) (pe_fn L.law_next (hr.mono (by decide)) (pa_cons (pv 0) (pa_cons (pe_op op_powI pe_int pe_int) pa_nil)))))))
      (pss_one (ps_ret (pe_ix (r := rIx K) ix_seq (pe_lst (pa_cons (pv 1) (pa_cons (pe_op op_subI pe_int (pv 1)) pa_nil))) (pe_fn L.law_next (hr.mono (by decide)) (pa_cons (pv 0) (pa_cons pe_int pa_nil))) (fun _ _ => rfl)))))), ?_⟩
  rintro S ds ⟨st, rfl, hs⟩
  have e0 : ∀ {S : Sc} {b c : Option Dat}, Ev K S (tVar 0) [some (.raw (.ref st)), b, c] (Eq (.raw (.ref st))) := ev_var rfl
  have hp : ∀ {S : Sc} {ρ : Rho}, Ev K S (tOp rPowI (tC (.int 10)) (tC (.int 15))) ρ (Eq (.int 1000000000000000)) := (ev_pow ⟨by decide, by decide, by decide⟩ ev_int ev_int).is rfl
  refine s_seq (s_setD ev_int ?_)
  refine s_seq (s_for (is := [2]) (P := Eq (rngD 4)) (ie_rangeD (ea_consD ev_int ea_nil) (by decide)) (fun _ _ ρ => ∃ n b, ρ = [some (.raw (.ref st)), some (.int n), b]) (fun _ _ => ⟨0, none, rfl⟩) ?_ ?_)
  · rintro zs i z ρ1 rfl hz ⟨n, b, rfl⟩
    refine ⟨_, g_name, s_set (ev_addP (M := fun _ => True) (N := fun _ => True) (R := fun _ => True) ((ev_mul (.inr ⟨by decide, by decide⟩) (ev_var (i := 1) rfl) hp).imp fun _ e => ⟨_, e.symm, trivial⟩) ((ev_nextI hs (by decide) e0 hp).imp fun _ ⟨j, e, _⟩ => ⟨j, e, trivial⟩) fun _ _ _ _ => trivial) ?_⟩
    rintro _ ⟨n', rfl, _⟩
    exact ⟨n', _, rfl⟩
  · rintro zs ρ1 rfl ⟨n, b, rfl⟩
    refine s_ret (ev_ixP (L := fun xs => xs = [.int n, .int (0 - n)]) (P := fun d => ∃ i, d = .int i) ((ev_lstD (ea_consD (ev_var (i := 1) rfl) (ea_consD (ev_sub ev_int (ev_var (i := 1) rfl)) ea_nil)) (show 2 ≤ sizeLine by decide)).imp fun _ e => ⟨_, e.symm, rfl⟩) (ev_nextI hs (by decide) e0 ev_int) fun xs j e hj => ?_) fun d h => h
    subst e
    obtain ⟨x, h1, h2⟩ := atI_in (xs := [Dat.int n, .int (0 - n)]) hj.1 (by simpa using hj.2)
    refine ⟨x, h1, ?_⟩
    simp at h2
    rcases h2 with rfl | rfl
    · exact ⟨_, rfl⟩
    · exact ⟨_, rfl⟩
/-- _law_value -/
theorem str_cps {a b : Str} : (a ++ b).cps.toList = a.cps.toList ++ b.cps.toList := by
  show (a.cps ++ b.cps).toList = _
  exact Array.toList_append
theorem str_len {a b : Str} : (a ++ b).length = a.length + b.length := by
  show (a.cps ++ b.cps).size = _
  exact Array.size_append
def abc : Str := "abcdefghijklmnopqrstuvwxyz"
theorem abc_low : ∀ c ∈ abc.cps.toList, 97 ≤ c ∧ c ≤ 122 := by decide +kernel
theorem abc_len : abc.cps.toList.length = 26 := by decide +kernel
theorem abc_line : abc.length ≤ sizeLine := by decide +kernel
structure LgV (P : Program) (w : World) (K : PySem.W.Frag) (mg : Str → Option Value) (base : Heap) : Prop where
  law_next : NxD P w K mg base
  law_great : Cl P w K mg base "_law_great" 2 ["_law_state"] (SpD K pre_law_great post_law_great)
/-- small letters -/
def Low (n : Nat) (x : Str) : Prop := (∀ c ∈ x.cps.toList, 97 ≤ c ∧ c ≤ 122) ∧ x.length = n
theorem Low.add {n m : Nat} {x y : Str} (h : Low n x) (g : Low m y) : Low (n + m) (x ++ y) := ⟨fun c hc => by
  rw [str_cps] at hc
  rcases List.mem_append.mp hc with hc | hc
  · exact h.1 c hc
  · exact g.1 c hc, by rw [str_len, h.2, g.2]⟩
theorem Low.word {n : Nat} {x : Str} (h : Low n x) (hn : n ≤ 8) : Word x := ⟨h.1, by rw [h.2]; exact hn⟩
theorem low_abc {j : Int} (h0 : 0 ≤ j) (h1 : j < 26) : ∃ c, atI abc.cps.toList j = some c ∧ Low 1 ⟨#[c]⟩ := by
  obtain ⟨c, h, hc⟩ := atI_in (xs := abc.cps.toList) h0 (by rw [abc_len]; exact h1)
  refine ⟨c, h, fun d hd => ?_, rfl⟩
  have : d = c := by simpa using hd
  rw [this]
  exact abc_low c hc
/-- _law_value -/
abbrev s_law_value : Stmt := top 48
theorem sc_law_value : FnScope ["_law_state", "_law_kind", "_law_way", "_law_word", "_law_k"] ["_law_state", "_law_kind"] (defScope s_law_value) := ⟨rfl, rfl, rfl, by decide +kernel, rfl, by decide +kernel, by decide +kernel⟩
def pre_law_value : Sc → List Dat → Prop := fun S ds => ∃ s k, ds = [.raw (.ref s), .str k] ∧ s ∈ S.rn ∧ (k = "number" ∨ k = "word")
def post_law_value : List Dat → Dat → Prop := fun ds r => ∀ v k, ds = [v, .str k] → ValK k r
theorem ok_law_value (F : Fun K "_law_value" "_law_value" s_law_value f fd) (X : Txt K mg aW aK) (L : LgV P w K mg base) : FnOk P w K mg base CX0 3 f fd ["_law_state", "_law_kind"] (SpD K pre_law_value post_law_value) := by
  refine ok_of F sc_law_value (fun S ds h => by obtain ⟨st, k, rfl, hs, hk⟩ := h; rfl) fun cdv A outer s H E hr => ?_
  have nd := sc_law_value.nd
  have hu := hr.units
  have hu0 := hr.units0
  have hu1 := hu_of hr
  have hu65 := u65 hr
  refine ⟨_, (pss_cons (ps_set (i := 2) nd rfl (by first | exact Or.inl rfl | exact Or.inr rfl) (pe_fn L.law_next (hr.mono (by decide)) (pa_cons (pv 0) (pa_cons pe_int pa_nil))))
      (pss_cons (ps_if (pt_cmpR (r := rEqD K) (op_eqD hu) (pv 1) pe_str (nomark _)) (pss_one (ps_ret (pe_ix (r := rIx K) ix_seq (pe_lst (pa_cons (pe_op op_subI (pe_fn L.law_next (hr.mono (by decide)) (pa_cons (pv 0) (pa_cons pe_int pa_nil))) pe_int) (pa_cons (pe_fn L.law_great (hr.mono (by decide)) (pa_cons (pv 0) pa_nil)) pa_nil))) (pe_int1 X.b (pe_cmpR (r := rEqD K) (op_eqD hu) (pv 2) pe_int (nomark _))) (fun _ _ => rfl)))) pss_nil)
      (pss_cons (ps_if (pt_cmpR op_ltS (pv 2) pe_int (nomark _)) (pss_one (ps_ret (pe_ix (r := rIx K) ix_seq (pe_lst (pa_cons pe_str (pa_cons pe_str (pa_cons pe_str (pa_cons pe_str pa_nil))))) (pe_op op_modI (pv 2) pe_int) (fun _ _ => rfl)))) pss_nil)
      (pss_cons (ps_set (i := 3) nd rfl (by first | exact Or.inl rfl | exact Or.inr rfl) pe_str)
      (pss_cons (ps_for PassesOwn.never rfl (pi_range1 rfl X.b.range (pa_cons (pe_fn L.law_next (hr.mono (by decide)) (pa_cons (pv 0) (pa_cons pe_int pa_nil))) pa_nil)) (pg_name (i := 4) nd rfl (by first | exact Or.inl rfl | exact Or.inr rfl)) (pss_one (ps_set (i := 3) nd rfl (by first | exact Or.inl rfl | exact Or.inr rfl) (pe_op op_addS (pv 3) (pe_ix (r := rIx K) ix_seq pe_str (pe_fn L.law_next (hr.mono (by decide)) (pa_cons (pv 0) (pa_cons pe_int pa_nil))) (fun _ _ => rfl))))))
      (pss_one (ps_ret (pv 3)))))))), ?_⟩
  rintro S ds ⟨st, k, rfl, hs, hk⟩
  have e0 : ∀ {S : Sc} {a b c d : Option Dat}, Ev K S (tVar 0) [some (.raw (.ref st)), a, b, c, d] (Eq (.raw (.ref st))) := ev_var rfl
  have e1 : ∀ {S : Sc} {b c d : Option Dat}, Ev K S (tVar 1) [some (.raw (.ref st)), some (.str k), b, c, d] (Eq (.str k)) := ev_var rfl
  have fin : ∀ d, ValK k d → post_law_value [.raw (.ref st), .str k] d := fun d h v k' e => by
    injection e with _ e
    injection e with e _
    injection e with e
    exact e ▸ h
  refine s_seq (s_set (ev_nextI hs (by decide) e0 ev_int) ?_)
  rintro _ ⟨way, rfl, hw⟩
  have e2 : ∀ {S : Sc} {c d : Option Dat}, Ev K S (tVar 2) [some (.raw (.ref st)), some (.str k), some (.int way), c, d] (Eq (.int way)) := ev_var rfl
  rcases hk with rfl | rfl
  · refine s_seq (s_yes (et_testD (ev_eq (kind_eqn (n := 0) (.inl rfl)).eqd (kind_eqn (n := 0) (.inl rfl)).eqd e1 ev_str)) deq_self (s_ret (ev_ixP (N := fun j => j = 0 ∨ j = 1) (P := fun d => ∃ i, d = .int i) (ev_two (ev_subP (M := fun _ => True) (N := fun _ => True) (R := fun _ => True) ((ev_nextI hs (by decide) e0 ev_int).imp fun _ ⟨j, e, _⟩ => ⟨j, e, trivial⟩) (ev_intP trivial) fun _ _ _ _ => trivial) (ev_callD (ea_consD e0 ea_nil) ⟨st, rfl, hs⟩ fun d h => h)) (ev_int1P ((ev_eqI (M := fun _ => True) (N := fun _ => True) (e2.imp fun _ e => ⟨_, e.symm, trivial⟩) (ev_intP trivial)))) ?_) ?_))
    · rintro xs j ⟨x, y, rfl, ⟨i, rfl, _⟩, ⟨i', rfl⟩⟩ hj
      obtain ⟨z, h1, h2⟩ := atI_in (xs := [Dat.int i, .int i']) (j := j) (by omega) (by simp; omega)
      refine ⟨z, h1, ?_⟩
      simp at h2
      rcases h2 with rfl | rfl
      · exact ⟨_, rfl⟩
      · exact ⟨_, rfl⟩
    · rintro d ⟨i, rfl⟩
      exact fin _ (.inl ⟨rfl, i, rfl⟩)
  · refine s_skip (et_testD (ev_eq (kind_eqn (n := 0) (.inr rfl)).eqd (kind_eqn (n := 0) (.inl rfl)).eqd e1 ev_str)) (by rw [Bool.eq_false_iff, Ne, deq_iff]; intro z; injection z with z; revert z; decide +kernel) ?_
    refine s_seq (s_if (et_testD (ev_ltS (x := .int way) (y := .int 8) rfl e2 ev_int)) (fun _ => ?_) fun _ => s_next ?_)
    · have hz := Int.emod_nonneg way (show (4 : Int) ≠ 0 by decide)
      have hz' := Int.emod_lt_of_pos way (show (0 : Int) < 4 by decide)
      obtain ⟨z, h1, h2⟩ := atI_in (xs := [Dat.str "", .str "a", .str "b", .str "ab"]) (j := way % 4) hz (by simpa using hz')
      refine s_retD (ev_ixL h1 (ev_lstD (ea_consD ev_str (ea_consD ev_str (ea_consD ev_str (ea_consD ev_str ea_nil)))) (by decide)) (ev_mod (by decide) e2 ev_int)) (fin _ (.inr ⟨rfl, ?_⟩))
      simp only [List.mem_cons, List.not_mem_nil, or_false] at h2
      rcases h2 with rfl | rfl | rfl | rfl
      · exact ⟨_, rfl, by decide +kernel, by decide +kernel⟩
      · exact ⟨_, rfl, by decide +kernel, by decide +kernel⟩
      · exact ⟨_, rfl, by decide +kernel, by decide +kernel⟩
      · exact ⟨_, rfl, by decide +kernel, by decide +kernel⟩
    · refine s_seq (s_setD ev_str ?_)
      refine s_seq (s_for (is := [4]) (P := fun xs => ∃ j : Int, (0 ≤ j ∧ j < 9) ∧ xs = rngD j.toNat) (ie_range (P := fun j => 0 ≤ j ∧ j < 9) ((ea_cons (P2 := fun _ ys => ys = []) (ev_nextI hs (by decide) e0 ev_int) (fun _ _ => ea_nil.imp fun _ e => e.symm) fun x ys ⟨i, e, h⟩ e2 => ⟨i, by rw [e, e2], h⟩)) fun j h => ⟨by omega, by omega⟩) (fun _ i ρ => ∃ x b, ρ = [some (.raw (.ref st)), some (.str "word"), some (.int way), some (.str x), b] ∧ Low i x) (fun _ _ => ⟨"", none, rfl, by decide +kernel, by decide +kernel⟩) ?_ ?_)
      · rintro zs i z ρ1 ⟨j, hj, rfl⟩ hz ⟨x, b, rfl, hx⟩
        have hi : i < j.toNat := by
          have := (List.getElem?_eq_some_iff.mp hz).1
          simpa [rngD] using this
        refine ⟨_, g_name, s_set (ev_addSP (A := Low i) (B := Low 1) (C := Low (i + 1)) ((ev_var (i := 3) rfl).imp fun _ e => ⟨x, e.symm, hx⟩) (ev_ixSP (w := abc) abc_line ev_str (ev_nextI hs (by decide) e0 ev_int) fun j h => ?_) (fun a b ha hb => ?_) fun a b ha hb => ha.add hb) ?_⟩
        · obtain ⟨c, h1, h2⟩ := low_abc h.1 h.2
          exact ⟨c, h1, _, rfl, h2⟩
        · rw [ha.2, hb.2]
          exact Nat.le_trans (show i + 1 ≤ 10 by omega) (by decide)
        · rintro _ ⟨y, rfl, hy⟩
          exact ⟨y, _, rfl, hy⟩
      · rintro zs ρ1 ⟨j, hj, rfl⟩ ⟨x, b, rfl, hx⟩
        refine s_retD (ev_var (i := 3) rfl) (fin _ (.inr ⟨rfl, x, rfl, hx.word ?_⟩))
        simp [rngD]
        omega
/-- _law_row -/
structure Lu (P : Program) (w : World) (K : PySem.W.Frag) (mg : Str → Option Value) (base : Heap) : Prop where
  law_value : Cl P w K mg base "_law_value" 3 ["_law_state", "_law_kind"] (SpD K pre_law_value post_law_value)
theorem rowK_of : ∀ {cs : Cols} {ds : List Dat}, ds.length = (headD cs).length → (∀ (i : Nat) (x y : Dat), (headD cs)[i]? = some x → ds[i]? = some y → ∃ c, x = colD c ∧ ValK c.2 y) → RowK cs ds
  | [], [], _, _ => trivial
  | [], _ :: _, e, _ => by cases e
  | _ :: _, [], e, _ => by cases e
  | c :: cs, d :: ds, e, h => by
    refine ⟨?_, rowK_of (Nat.succ.inj e) fun i x y h1 h2 => h (i + 1) x y h1 h2⟩
    obtain ⟨c', e', v⟩ := h 0 (colD c) d rfl rfl
    unfold colD at e'
    injection e' with e'
    injection e' with _ e'
    injection e' with e' _
    injection e' with e'
    rw [e']
    exact v
/-- _law_row -/
abbrev s_law_row : Stmt := top 50
theorem sc_law_row : FnScope ["_law_state", "_law_head_here", "_law_name", "_law_kind"] ["_law_state", "_law_head_here"] (defScope s_law_row) := ⟨rfl, rfl, rfl, by decide +kernel, rfl, by decide +kernel, by decide +kernel⟩
def pre_law_row : Sc → List Dat → Prop := fun S ds => ∃ s cs, ds = [.raw (.ref s), .hd (headD cs)] ∧ s ∈ S.rn ∧ HeadOk cs
def post_law_row : List Dat → Dat → Prop := fun ds r => ∀ v cs, ds = [v, .hd (headD cs)] → ∃ xs, r = .tup xs ∧ RowK cs xs
theorem ok_law_row (F : Fun K "_law_row" "_law_row" s_law_row f fd) (X : Txt K mg aW aK) (L : Lu P w K mg base) : FnOk P w K mg base CX0 4 f fd ["_law_state", "_law_head_here"] (SpD K pre_law_row post_law_row) := by
  refine ok_of F sc_law_row (fun S ds h => by obtain ⟨st, cs, rfl, hs, hc⟩ := h; rfl) fun cdv A outer s H E hr => ?_
  have nd := sc_law_row.nd
  have hu := hr.units
  have hu0 := hr.units0
  have hu1 := hu_of hr
  have hu65 := u65 hr
  refine ⟨_, (pss_one (ps_ret (pe_tupF X.b (pe_lc rfl nd (pi_tup (pv 1)) (blkOk_by (own := [("_law_name", 2), ("_law_kind", 3)]) (N := ["_law_state", "_law_head_here", "_law_name", "_law_kind"]) (sc := defScope s_law_row) (by decide +kernel)) (fun _ _ _ _ _ => (pg_tupK (K := K) (n := 2) rfl rfl (pgs_cons (pg_name (i := 2) nd rfl (by first | exact Or.inl rfl | exact Or.inr rfl)) (pgs_cons (pg_name (i := 3) nd rfl (by first | exact Or.inl rfl | exact Or.inr rfl)) pgs_nil)))) (fun _ _ _ _ _ => pts_nil) (fun _ _ _ _ _ => (pe_fn L.law_value (hr.mono (by decide)) (pa_cons (pv 0) (pa_cons (pv 3) pa_nil)))))))), ?_⟩
  rintro S ds ⟨st, cs, rfl, hs, hc⟩
  have h8 := hc.most
  refine s_ret (P := fun d => ∃ xs, d = .tup xs ∧ RowK cs xs) ?_ ?_
  · refine ev_tupP (L := RowK cs) ((ev_lcMap (is := [2, 3]) (P := Eq (headD cs)) (fun x y => ∃ c, x = colD c ∧ ValK c.2 y) (ie_tup (ev_un (ev_var (i := 1) rfl))) (by simp) (fun xs e => by subst e; unfold headD; rw [List.length_map]; exact Nat.lt_of_le_of_lt h8 (by decide)) ?_).imp ?_)
    · rintro S' hS xs i x rfl hx
      obtain ⟨c, hcm, rfl⟩ := List.mem_map.mp (List.mem_of_getElem? hx)
      refine ⟨_, g_two, ev_callD (ea_consD (ev_var (i := 0) rfl) (ea_consD (ev_var (i := 3) rfl) ea_nil)) ⟨st, c.2, rfl, by rw [hS.rn]; exact hs, hc.kinds c hcm⟩ fun d p => ⟨c, rfl, p _ _ rfl⟩⟩
    · rintro d ⟨xs, ys, rfl, rfl, hl, h⟩
      exact ⟨ys, rfl, rowK_of hl h⟩
  · rintro d ⟨xs, rfl, h⟩ v cs' e
    injection e with _ e
    injection e with e _
    injection e with e
    rw [headD_inj e] at h
    exact ⟨xs, rfl, h⟩
end
end Sh
/-! seed, words, names -/
namespace Sh
open PySem PySem.Spec PyProof.Rows L2
section
variable {K : PySem.W.Frag} {S : Sc} {ρ : Rho} {ta : TA}
theorem ie_enumL {xs : List Dat} (h : EvA K S ta ρ (Eq [.lst xs])) : IEv K S (iEnum K ta) ρ (Eq (enumD 0 xs)) := fun σ H e s R k => h σ H e s _ fun vs H1 ds f1 s1 p1 r1 => by
  subst p1
  cases r1 with
  | cons r t =>
    cases t
    cases r with
    | @lst a ws _ n hs r =>
      refine ⟨a, _, rfl, hs, k _ _ _ f1 s1 rfl fun S' H' i sb f' s' => ⟨fun x hx => ?_, fun hx => ?_⟩⟩
      · rw [enumD_get] at hx
        cases hy : xs[i]? with
        | none =>
          rw [hy] at hx
          cases hx
        | some y =>
          rw [hy] at hx
          cases hx
          obtain ⟨v, h1, h2⟩ := (r.sub sb).get hy
          refine ⟨⟨ws, v, f'.sqL n hs, h1⟩, fun w H2 hw => ?_⟩
          obtain ⟨T, z, rfl, hT, rfl, h3⟩ := hw
          have h4 := h3 ws (f'.sqL n hs)
          rw [h1] at h4
          cases h4
          refine ⟨.new hT, s'.new hT, .tup (.inl (s'.ne hT)) (SqT.of upd_same) (.cons ?_ (.cons ((h2.mono (f'.to sb.st)).mono (.new hT)) .nil))⟩
          rw [Nat.zero_add]
          exact .int _
      · refine ⟨ws, f'.sqL n hs, ?_⟩
        rw [r.length, hx, enumD_len]
        exact Nat.le_refl _
end
section
variable {P : Program} {w : World} {K : PySem.W.Frag} {mg : Str → Option Value} {base : Heap} {aW aK : Addr} {f : Addr} {fd : FuncData} {CS CT : Addr}
/-- _law_seed -/
abbrev s_law_seed : Stmt := top 43
theorem sc_law_seed : FnScope ["_law_script", "_law_seed_here", "_law_k", "_law_cell"] ["_law_script"] (defScope s_law_seed) := ⟨rfl, rfl, rfl, by decide +kernel, rfl, by decide +kernel, by decide +kernel⟩
def pre_law_seed : Sc → List Dat → Prop := fun _ ds => ∃ is : List Int, ds = [.lst (is.map Dat.int)]
def post_law_seed : List Dat → Dat → Prop := fun _ r => ∃ n, r = .int n ∧ 0 ≤ n ∧ n < stB
theorem ok_law_seed (F : Fun K "_law_seed" "_law_seed" s_law_seed f fd) (X : Txt K mg aW aK) : FnOk P w K mg base CX0 1 f fd ["_law_script"] (SpD K pre_law_seed post_law_seed) := by
  refine ok_of F sc_law_seed (fun S ds h => by obtain ⟨is, rfl⟩ := h; rfl) fun cdv A outer s H E hr => ?_
  have nd := sc_law_seed.nd
  have hu := hr.units
  have hu0 := hr.units0
  have hu1 := hu_of hr
  have hu65 := u65 hr
  refine ⟨_, (pss_cons (ps_set (i := 1) nd rfl (by first | exact Or.inl rfl | exact Or.inr rfl) pe_int)
      (pss_cons (ps_for PassesOwn.never rfl (pi_enum rfl X.b.enumerate (pa_cons (pv 0) pa_nil)) (pg_tup rfl (pgs_cons (pg_name (i := 2) nd rfl (by first | exact Or.inl rfl | exact Or.inr rfl)) (pgs_cons (pg_name (i := 3) nd rfl (by first | exact Or.inl rfl | exact Or.inr rfl)) pgs_nil))) (pss_one (ps_set (i := 1) nd rfl (by first | exact Or.inl rfl | exact Or.inr rfl) (pe_op op_modI (pe_op op_addI (pe_op op_addI (pe_op op_addI (pe_op op_mulI (pv 1) pe_int) (pe_op op_modI (pv 3) (pe_op op_powI pe_int pe_int))) (pe_op op_mulI pe_int (pv 2))) pe_int) pe_int))))
      (pss_one (ps_ret (pv 1))))), ?_⟩
  rintro S ds ⟨is, rfl⟩
  refine s_seq (s_setD ev_int ?_)
  refine s_seq (s_for (is := [2, 3]) (P := Eq (enumD 0 (is.map Dat.int))) (ie_enumL (ea_consD (ev_var (i := 0) rfl) ea_nil)) (fun _ _ ρ => ∃ n b c, ρ = [some (.lst (is.map Dat.int)), some (.int n), b, c] ∧ 0 ≤ n ∧ n < stB) (fun _ _ => ⟨7, none, none, rfl, by decide, by decide⟩) ?_ ?_)
  · rintro zs i z ρ1 rfl hz ⟨n, b, c, rfl, h0, h1⟩
    rw [enumD_get] at hz
    obtain ⟨x, hx, rfl⟩ : ∃ x, is[i]? = some x ∧ z = .tup [.int ((0 + i : Nat) : Int), .int x] := by
      rw [List.getElem?_map] at hz
      cases hy : is[i]? with
      | none =>
        rw [hy] at hz
        cases hz
      | some y =>
        rw [hy] at hz
        cases hz
        exact ⟨y, rfl, rfl⟩
    refine ⟨_, g_two, s_setD (ev_mod (by decide) (ev_add (ev_add (ev_add (ev_mul (.inr ⟨by decide, by decide⟩) (ev_var (i := 1) rfl) ev_int) (ev_mod (by decide) (ev_var (i := 3) rfl) ((ev_pow ⟨by decide, by decide, by decide⟩ ev_int ev_int).is rfl))) (ev_mul (.inl ⟨by decide, by decide⟩) ev_int (ev_var (i := 2) rfl))) ev_int) ev_int) ⟨_, _, _, rfl, Int.emod_nonneg _ (by decide), Int.emod_lt_of_pos _ (by decide)⟩⟩
  · rintro zs ρ1 rfl ⟨n, b, c, rfl, h0, h1⟩
    exact s_retD (ev_var (i := 1) rfl) ⟨n, rfl, h0, h1⟩
/-- _law_words -/
abbrev s_law_words : Stmt := top 45
theorem sc_law_words : FnScope ["_law_words_here"] [] (defScope s_law_words) := ⟨rfl, rfl, rfl, by decide +kernel, rfl, by decide +kernel, by decide +kernel⟩
def pre_law_words : Sc → List Dat → Prop := fun _ ds => ds = []
def post_law_words : List Dat → Dat → Prop := fun _ r => r = .lst (words.map Dat.str)
theorem ok_law_words (F : Fun K "_law_words" "_law_words" s_law_words f fd) (X : Txt K mg aW aK) : FnOk P w K mg base CX0 1 f fd [] (SpD K pre_law_words post_law_words) := by
  refine ok_of F sc_law_words (fun S ds h => by obtain rfl := h; rfl) fun cdv A outer s H E hr => ?_
  have nd := sc_law_words.nd
  have hu := hr.units
  have hu0 := hr.units0
  have hu1 := hu_of hr
  have hu65 := u65 hr
  refine ⟨_, (pss_cons (ps_set (i := 0) nd rfl (by first | exact Or.inl rfl | exact Or.inr rfl) (pe_lst (pa_cons pe_str (pa_cons pe_str (pa_cons pe_str (pa_cons pe_str (pa_cons pe_str (pa_cons pe_str (pa_cons pe_str (pa_cons pe_str (pa_cons pe_str pa_nil)))))))))))
      (pss_one (ps_ret (pe_op (r := rCatL K) op_catL (pv 0) (pe_lst (pa_cons pe_str (pa_cons pe_str (pa_cons pe_str (pa_cons pe_str (pa_cons pe_str (pa_cons pe_str (pa_cons pe_str (pa_cons pe_str pa_nil))))))))))))), ?_⟩
  rintro S ds rfl
  refine s_seq (s_setD (ev_lstD (ea_consD ev_str (ea_consD ev_str (ea_consD ev_str (ea_consD ev_str (ea_consD ev_str (ea_consD ev_str (ea_consD ev_str (ea_consD ev_str (ea_consD ev_str ea_nil))))))))) (by decide)) ?_)
  exact s_retD (ev_catL (by decide) (ev_var (i := 0) rfl) (ev_lstD (ea_consD ev_str (ea_consD ev_str (ea_consD ev_str (ea_consD ev_str (ea_consD ev_str (ea_consD ev_str (ea_consD ev_str (ea_consD ev_str ea_nil)))))))) (by decide))) rfl
end
end Sh
/-! names -/
namespace Sh
open PySem PySem.Spec PyProof.Rows L2
section
variable {K : PySem.W.Frag} {S : Sc} {ρ : Rho} {ta tb te : TE} {tt : TT} {t u : TS} {i : Nat} {p : Addr} {ds : List Dat} {nx : Rho → List Dat → Prop} {rt : Dat → Prop}
theorem so_ifNew {R : Bool → Prop} {P : List Dat → Prop} (h : EvT K S tt (ρ.set i (some (.lst ds))) R) (hn : R true → EvN K S te (ρ.set i (some (.lst ds))) P) (k : ∀ p' es, (P es ∨ (es = ds ∧ R false)) → SOv K S i p' u ρ es (fun _ _ => False) rt) :
    SOv K S i p (tSeq (tIfS tt (tAsg te (gName i)) tNext) u) ρ ds (fun _ _ => False) rt := fun σ H o D n r => h σ H o.full.1 o.full.2 _ fun c H1 f1 s1 p1 => by
  have o1 := o.kept f1 s1
  cases c with
  | true => exact so_new (p := p) (nx := fun _ _ => False) (hn p1) (fun q es pe => k q es (.inl pe)) σ H1 o1 D (fun _ _ _ _ _ _ z => z.elim) fun v H2 d f2 s2 q2 r2 => r v H2 d ((Frp.of f1).trans f2) s2 q2 r2
  | false => exact k p ds (.inr ⟨rfl, p1⟩) σ H1 o1 D (fun _ _ _ _ _ _ z => z.elim) fun v H2 d f2 s2 q2 r2 => r v H2 d ((Frp.of f1).trans f2) s2 q2 r2
end
/-- the name at k -/
def chr1 (c : Nat) : Str := ⟨#[c]⟩
noncomputable def nameAt (b : Str) (a o k : Nat) : Str := cutS b none (some (a : Int)) ++ chr1 ((abc.cps.toList[o + k]?).getD 0) ++ cutS b (some (a : Int)) none
theorem len_cps {b : Str} : b.cps.toList.length = b.length := Array.length_toList
theorem cut_lo {b : Str} {a : Nat} (h : a ≤ b.length) : (cutS b none (some (a : Int))).cps.toList = b.cps.toList.take a := by
  unfold cutS
  rw [HT.sIx_none, HT.sIx_nat, Nat.min_eq_left h]
  simp
theorem cut_hi {b : Str} {a : Nat} (h : a ≤ b.length) : (cutS b (some (a : Int)) none).cps.toList = b.cps.toList.drop a := by
  unfold cutS
  rw [HT.sIx_none, HT.sIx_nat, Nat.min_eq_left h]
  simp only [List.toList_toArray]
  rw [List.take_of_length_le]
  rw [List.length_drop, len_cps]
  omega
theorem nameAt_cps {b : Str} {a o k : Nat} (h : a ≤ b.length) : (nameAt b a o k).cps.toList = b.cps.toList.take a ++ [(abc.cps.toList[o + k]?).getD 0] ++ b.cps.toList.drop a := by
  unfold nameAt
  rw [str_cps, str_cps, cut_lo h, cut_hi h]
  rfl
theorem abc_nd : abc.cps.toList.Nodup := by decide +kernel
theorem words_two : ∀ w ∈ words, 2 ≤ w.length := by decide +kernel
theorem low_take {b : Str} {n a : Nat} (h : Low n b) (ha : a ≤ b.length) : Low a (cutS b none (some (a : Int))) := ⟨fun c hc => by
  rw [cut_lo ha] at hc
  exact h.1 c (List.mem_of_mem_take hc), by rw [← len_cps, cut_lo ha, List.length_take, len_cps]; omega⟩
theorem low_drop {b : Str} {n a : Nat} (h : Low n b) (ha : a ≤ b.length) : Low (n - a) (cutS b (some (a : Int)) none) := ⟨fun c hc => by
  rw [cut_hi ha] at hc
  exact h.1 c (List.mem_of_mem_drop hc), by rw [← len_cps, cut_hi ha, List.length_drop, len_cps, h.2]⟩
theorem low_one {i : Nat} (h : i < 26) : Low 1 (chr1 ((abc.cps.toList[i]?).getD 0)) := by
  have hl : i < abc.cps.toList.length := by rw [abc_len]; exact h
  rw [List.getElem?_eq_getElem hl]
  refine ⟨fun d hd => ?_, rfl⟩
  have : d = abc.cps.toList[i] := by simpa [chr1] using hd
  rw [this]
  exact abc_low _ (List.getElem_mem _)
theorem nameAt_low {b : Str} {n a o k : Nat} (h : Low n b) (ha : a ≤ b.length) (hk : o + k < 26) : Low (n + 1) (nameAt b a o k) := by
  have hn := h.2
  have := ((low_take h ha).add (low_one hk)).add (low_drop h ha)
  rw [show a + 1 + (n - a) = n + 1 by omega] at this
  exact this
theorem nameAt_inj {b : Str} {a o i j : Nat} (ha : a ≤ b.length) (hi : o + i < 26) (hj : o + j < 26) (e : nameAt b a o i = nameAt b a o j) : i = j := by
  have e := congrArg (fun x : Str => x.cps.toList) e
  simp only [nameAt_cps ha] at e
  have e := List.append_cancel_left (List.append_cancel_right e)
  injection e with e
  have h1 : o + i < abc.cps.toList.length := by rw [abc_len]; exact hi
  have h2 : o + j < abc.cps.toList.length := by rw [abc_len]; exact hj
  rw [List.getElem?_eq_getElem h1, List.getElem?_eq_getElem h2] at e
  have := (List.getElem_inj abc_nd).mp e
  omega
structure NamesOk (xs : List Str) : Prop where
  len : xs.length = 17
  nd : xs.Nodup
  each : ∀ x ∈ xs, NameOk x
theorem NamesOk.reverse {xs : List Str} (h : NamesOk xs) : NamesOk xs.reverse := ⟨by rw [List.length_reverse, h.len], List.pairwise_reverse.mpr (h.nd.imp fun h => Ne.symm h), fun x hx => h.each x (List.mem_reverse.mp hx)⟩
noncomputable def namesAt (b : Str) (a o n : Nat) : List Str := (List.range n).map (nameAt b a o)
theorem namesAt_ok {b : Str} {n a o : Nat} (h : Low n b) (hn : n ≤ 7) (ha : a ≤ b.length) (ho : o < 10) (hw : ∀ w ∈ words, w ∉ namesAt b a o 17) : NamesOk (namesAt b a o 17) := by
  refine ⟨by simp [namesAt], ?_, fun x hx => ?_⟩
  · refine List.pairwise_map.mpr (List.nodup_range.imp_of_mem fun {i j} hi hj hne e => hne ?_)
    have hi := List.mem_range.mp hi
    have hj := List.mem_range.mp hj
    exact nameAt_inj ha (by omega) (by omega) e
  · obtain ⟨i, hi, rfl⟩ := List.mem_map.mp hx
    have hi := List.mem_range.mp hi
    have l := nameAt_low (k := i) h ha (show o + i < 26 by omega)
    exact ⟨l.word (by omega), by rw [l.2]; omega, fun z => hw _ z hx⟩
theorem sgn_names {o : Nat} (ho : o < 10) : ∃ xs, sgnD (cutS abc (some (o : Int)) (some ((o : Int) + 17))) = xs.map Dat.str ∧ NamesOk xs := by
  have hl : abc.length = 26 := by rw [← len_cps, abc_len]
  have e : (cutS abc (some (o : Int)) (some ((o : Int) + 17))).cps.toList = (abc.cps.toList.drop o).take 17 := by
    unfold cutS
    rw [show (o : Int) + 17 = ((o + 17 : Nat) : Int) by omega, HT.sIx_nat, HT.sIx_nat, hl, Nat.min_eq_left (by omega), Nat.min_eq_left (by omega)]
    simp only [List.toList_toArray]
    rw [show o + 17 - o = 17 by omega]
  have sub : ((abc.cps.toList.drop o).take 17).Sublist abc.cps.toList := (List.take_sublist _ _).trans (List.drop_sublist _ _)
  refine ⟨((abc.cps.toList.drop o).take 17).map chr1, ?_, ?_, ?_, fun x hx => ?_⟩
  · unfold sgnD
    rw [e, List.map_map]
    rfl
  · rw [List.length_map, List.length_take, List.length_drop, abc_len]
    omega
  · refine List.pairwise_map.mpr ((List.Nodup.sublist sub abc_nd).imp fun hne z => hne ?_)
    have : #[_] = #[_] := congrArg Str.cps z
    simpa using this
  · obtain ⟨c, hc, rfl⟩ := List.mem_map.mp hx
    refine ⟨⟨fun d hd => ?_, by show 1 ≤ 8; decide⟩, by show 1 ≤ 1; decide, fun z => ?_⟩
    · have : d = c := by simpa [chr1] using hd
      rw [this]
      exact abc_low c (sub.subset hc)
    · have := words_two _ z
      exact absurd this (by show ¬ 2 ≤ 1; decide)
structure Lg (P : Program) (w : World) (K : PySem.W.Frag) (mg : Str → Option Value) (base : Heap) : Prop where
  law_next : NxD P w K mg base
  law_words : Cl P w K mg base "_law_words" 1 [] (SpD K pre_law_words post_law_words)
section
variable {P : Program} {w : World} {K : PySem.W.Frag} {mg : Str → Option Value} {base : Heap} {aW aK : Addr} {f : Addr} {fd : FuncData} {CS CT : Addr}
/-- _law_names -/
abbrev s_law_names : Stmt := top 46
theorem sc_law_names : FnScope ["_law_state", "_law_many", "_law_small", "_law_odd", "_law_base", "_law_k", "_law_at", "_law_names_here", "_law_word"] ["_law_state", "_law_many"] (defScope s_law_names) := ⟨rfl, rfl, rfl, by decide +kernel, rfl, by decide +kernel, by decide +kernel⟩
def pre_law_names : Sc → List Dat → Prop := fun S ds => ∃ s, ds = [.raw (.ref s), .int 17] ∧ s ∈ S.rn
def post_law_names : List Dat → Dat → Prop := fun _ r => ∃ xs, r = .lst (xs.map Dat.str) ∧ NamesOk xs
theorem ok_law_names (F : Fun K "_law_names" "_law_names" s_law_names f fd) (X : Txt K mg aW aK) (L : Lg P w K mg base) : FnOk P w K mg base CX0 2 f fd ["_law_state", "_law_many"] (SpD K pre_law_names post_law_names) := by
  refine ok_of F sc_law_names (fun S ds h => by obtain ⟨st, rfl, hs⟩ := h; rfl) fun cdv A outer s H E hr => ?_
  have nd := sc_law_names.nd
  have hu := hr.units
  have hu0 := hr.units0
  have hu1 := hu_of hr
  have hu65 := u65 hr
  refine ⟨_, (pss_cons (ps_set (i := 2) nd rfl (by first | exact Or.inl rfl | exact Or.inr rfl) pe_str)
      (pss_cons (ps_set (i := 3) nd rfl (by first | exact Or.inl rfl | exact Or.inr rfl) (pe_fn L.law_next (hr.mono (by decide)) (pa_cons (pv 0) (pa_cons (pe_op op_subI pe_int (pv 1)) pa_nil))))
      (pss_cons (ps_set (i := 4) nd rfl (by first | exact Or.inl rfl | exact Or.inr rfl) pe_str)
      (pss_cons (ps_for PassesOwn.never rfl (pi_range1 rfl X.b.range (pa_cons (pe_fn L.law_next (hr.mono (by decide)) (pa_cons (pv 0) (pa_cons pe_int pa_nil))) pa_nil)) (pg_name (i := 5) nd rfl (by first | exact Or.inl rfl | exact Or.inr rfl)) (pss_one (ps_set (i := 4) nd rfl (by first | exact Or.inl rfl | exact Or.inr rfl) (pe_op op_addS (pv 4) (pe_ix (r := rIx K) ix_seq (pv 2) (pe_fn L.law_next (hr.mono (by decide)) (pa_cons (pv 0) (pa_cons pe_int pa_nil))) (fun _ _ => rfl))))))
      (pss_cons (ps_set (i := 6) nd rfl (by first | exact Or.inl rfl | exact Or.inr rfl) (pe_fn L.law_next (hr.mono (by decide)) (pa_cons (pv 0) (pa_cons (pe_op op_addI (pe_len X.b (pv 4)) pe_int) pa_nil))))
      (pss_cons (ps_set (i := 7) nd rfl (by first | exact Or.inl rfl | exact Or.inr rfl) (pe_lst pa_nil))
      (pss_cons (ps_for PassesOwn.never rfl (pi_range1 rfl X.b.range (pa_cons (pv 1) pa_nil)) (pg_name (i := 5) nd rfl (by first | exact Or.inl rfl | exact Or.inr rfl)) (pss_one (ps_expr (pe_bm PySem.F.plainAttrs_list PySem.F.slot_list_append PySem.F.type_list_append mt_append (pv 7) (pa_cons (pe_op op_addS (pe_op op_addS (pe_slice sl_str (pv 4) po_none (po_some (pv 6))) (pe_ix (r := rIx K) ix_seq (pv 2) (pe_op op_addI (pv 3) (pv 5)) (fun _ _ => rfl))) (pe_slice sl_str (pv 4) (po_some (pv 6)) po_none)) pa_nil)))))
      (pss_cons (ps_if (pt_val (pe_any X.b (pe_lc rfl nd (pi_list (pe_fn0 L.law_words (hr.mono (by decide)))) (blkOk_by (own := [("_law_word", 8)]) (N := ["_law_state", "_law_many", "_law_small", "_law_odd", "_law_base", "_law_k", "_law_at", "_law_names_here", "_law_word"]) (sc := defScope s_law_names) (by decide +kernel)) (fun _ _ _ _ _ => (pg_name (i := 8) nd rfl (by first | exact Or.inl rfl | exact Or.inr rfl))) (fun _ _ _ _ _ => pts_nil) (fun _ _ _ _ _ => (pe_cmpR (r := rIn K false) op_in_seq (pv 8) (pv 7) (by with_unfolding_all rfl)))))) (pss_one (ps_set (i := 7) nd rfl (by first | exact Or.inl rfl | exact Or.inr rfl) (pe_listS X.b (pe_slice sl_str (pv 2) (po_some (pv 3)) (po_some (pe_op op_addI (pv 3) (pv 1))))))) pss_nil)
      (pss_cons (ps_if (pt_cmpR (r := rEqD K) (op_eqD hu) (pe_fn L.law_next (hr.mono (by decide)) (pa_cons (pv 0) (pa_cons pe_int pa_nil))) pe_int (nomark _)) (pss_one (ps_expr (pe_bm0 PySem.F.plainAttrs_list PySem.F.slot_list_reverse PySem.F.type_list_reverse mt_reverse (pv 7)))) pss_nil)
      (pss_one (ps_ret (pv 7)))))))))))), ?_⟩
  rintro S ds ⟨st, rfl, hs⟩
  have e0 : ∀ {S : Sc} {a b c d e f g h : Option Dat}, Ev K S (tVar 0) [some (.raw (.ref st)), a, b, c, d, e, f, g, h] (Eq (.raw (.ref st))) := ev_var rfl
  have e1 : ∀ {S : Sc} {a b c d e f g h : Option Dat}, Ev K S (tVar 1) [a, some (.int 17), b, c, d, e, f, g, h] (Eq (.int 17)) := ev_var rfl
  refine s_seq (s_setD (x := .str abc) ev_str ?_)
  have e2 : ∀ {S : Sc} {a b c d e f g h : Option Dat}, Ev K S (tVar 2) [a, b, some (.str abc), c, d, e, f, g, h] (Eq (.str abc)) := ev_var rfl
  refine s_seq (s_set (P := IntP fun j => 0 ≤ j ∧ j < 10) (ev_callD (ea_consD e0 (ea_consD (ev_sub ev_int e1) ea_nil)) ⟨st, _, rfl, hs, by decide⟩ fun d p => p _ _ rfl) ?_)
  rintro _ ⟨oI, rfl, ho⟩
  obtain ⟨o, rfl⟩ : ∃ o : Nat, oI = (o : Int) := ⟨oI.toNat, by omega⟩
  have ho : o < 10 := by omega
  have e3 : ∀ {S : Sc} {a b c d e f g h : Option Dat}, Ev K S (tVar 3) [a, b, c, some (.int (o : Int)), d, e, f, g, h] (Eq (.int (o : Int))) := ev_var rfl
  refine s_seq (s_setD ev_str ?_)
  refine s_seq (s_for (is := [5]) (P := fun xs => ∃ j : Int, (0 ≤ j ∧ j < 8) ∧ xs = rngD j.toNat) (ie_range (P := fun j => 0 ≤ j ∧ j < 8) ((ea_cons (P2 := fun _ ys => ys = []) (ev_nextI hs (by decide) e0 ev_int) (fun _ _ => ea_nil.imp fun _ e => e.symm) fun x ys ⟨i, e, h⟩ e2 => ⟨i, by rw [e, e2], h⟩)) fun j h => ⟨by have := h.1; omega, by have := h.2; omega⟩) (fun _ i ρ => ∃ x b, ρ = [some (.raw (.ref st)), some (.int 17), some (.str abc), some (.int (o : Int)), some (.str x), b, none, none, none] ∧ Low i x) (fun _ _ => ⟨"", none, rfl, by decide +kernel, by decide +kernel⟩) ?_ ?_)
  · rintro zs i z ρ1 ⟨j, hj, rfl⟩ hz ⟨x, b, rfl, hx⟩
    have hi : i < j.toNat := by
      have := (List.getElem?_eq_some_iff.mp hz).1
      simpa [rngD] using this
    refine ⟨_, g_name, s_set (ev_addSP (A := Low i) (B := Low 1) (C := Low (i + 1)) ((ev_var (i := 4) rfl).imp fun _ e => ⟨x, e.symm, hx⟩) (ev_ixSP (w := abc) abc_line e2 (ev_nextI hs (by decide) e0 ev_int) fun j h => ?_) (fun a b ha hb => ?_) fun a b ha hb => ha.add hb) ?_⟩
    · obtain ⟨c, h1, h2⟩ := low_abc h.1 h.2
      exact ⟨c, h1, _, rfl, h2⟩
    · rw [ha.2, hb.2]
      exact Nat.le_trans (show i + 1 ≤ 10 by omega) (by decide)
    · rintro _ ⟨y, rfl, hy⟩
      exact ⟨y, _, rfl, hy⟩
  · rintro zs ρ1 ⟨j, hj, rfl⟩ ⟨b, k5, rfl, hb⟩
    obtain ⟨n, hn, hb⟩ : ∃ n, n ≤ 7 ∧ Low n b := ⟨_, by simp [rngD]; omega, hb⟩
    have hbl : b.length ≤ sizeLine := by rw [hb.2]; exact Nat.le_trans hn (by decide)
    have e4 : ∀ {S : Sc} {a c d e f g h i : Option Dat}, Ev K S (tVar 4) [a, c, d, e, some (.str b), f, g, h, i] (Eq (.str b)) := ev_var rfl
    refine s_seq (s_set (P := IntP fun j => 0 ≤ j ∧ j < (b.length : Int) + 1) (ev_callD (ea_consD e0 (ea_consD (ev_add (ev_lenS hbl e4) ev_int) ea_nil)) ⟨st, _, rfl, hs, by omega⟩ fun d p => p _ _ rfl) ?_)
    rintro _ ⟨aI, rfl, ha⟩
    obtain ⟨a, rfl⟩ : ∃ a : Nat, aI = (a : Int) := ⟨aI.toNat, by omega⟩
    have ha : a ≤ b.length := by omega
    have e6 : ∀ {S : Sc} {x c d e f g h i : Option Dat}, Ev K S (tVar 6) [x, c, d, e, f, g, some (.int (a : Int)), h, i] (Eq (.int (a : Int))) := ev_var rfl
    refine so_begin (by show 7 < 9; decide) en_nil fun p es hes => ?_
    subst hes
    refine so_seq (so_for (is := [5]) (by decide) (fun S' hS hp => ix_range (P := fun j => j = 17) ((ea_consD e1 ea_nil).imp fun _ e => ⟨17, e.symm, rfl⟩) fun j h => by subst h; decide) (fun _ i ρ es => ∃ k, ρ = [some (.raw (.ref st)), some (.int 17), some (.str abc), some (.int (o : Int)), some (.str b), k, some (.int (a : Int)), none, none] ∧ es = (namesAt b a o i).map Dat.str) (fun _ _ => ⟨_, rfl, rfl⟩) ?_ (nx := fun ρ es => ∃ k, ρ = [some (.raw (.ref st)), some (.int 17), some (.str abc), some (.int (o : Int)), some (.str b), k, some (.int (a : Int)), none, none] ∧ es = (namesAt b a o 17).map Dat.str) ?_) ?_
    · rintro zs i z ρ1 es ⟨j, rfl, rfl⟩ hz ⟨k, rfl, rfl⟩
      have hi : i < 17 := by
        have := (List.getElem?_eq_some_iff.mp hz).1
        simpa [rngD] using this
      obtain rfl : z = .int (i : Int) := by
        simp [rngD, hi] at hz
        exact hz.symm
      have hc : o + i < abc.cps.toList.length := by rw [abc_len]; omega
      refine ⟨[some (.raw (.ref st)), some (.int 17), some (.str abc), some (.int (o : Int)), some (.str b), some (.int (i : Int)), some (.int (a : Int)), none, none], fun S' => g_name, rfl, ?_⟩
      refine so_app (P := Eq (.str (nameAt b a o i))) (by simp [namesAt]; exact Nat.lt_of_lt_of_le hi (by decide)) (fun S' hS p' => ?_) fun d hd => ?_
      · have l1 := low_take hb ha
        have l2 := low_one (i := o + i) (by omega)
        have l3 := low_drop hb ha
        refine ev_addS ?_ (ev_addS ?_ (ev_slS hbl e4 eo_none (eo_some e6)) ((ev_ixS (c := abc.cps.toList[o + i]) abc_line ?_ e2 (ev_add e3 (ev_var (i := 5) rfl))).is ?_)) (ev_slS hbl e4 (eo_some e6) eo_none)
        · rw [(l1.add l2).2, l3.2]
          exact Nat.le_trans (show a + 1 + (n - a) ≤ 30 by have := hb.2; omega) (by decide)
        · rw [l1.2, l2.2]
          exact Nat.le_trans (show a + 1 ≤ 30 by have := hb.2; omega) (by decide)
        · have := atI_nat (List.getElem?_eq_getElem hc)
          rw [← this]
          congr 1
        · rw [List.getElem?_eq_getElem hc]
          rfl
      · subst hd
        refine ⟨_, rfl, ?_⟩
        unfold namesAt
        rw [List.range_succ, List.map_append, List.map_append]
        rfl
    · rintro zs ρ1 es ⟨j, rfl, rfl⟩ ⟨k, rfl, rfl⟩
      refine ⟨k, rfl, ?_⟩
      simp [rngD]
    · rintro ρ' es ⟨k, rfl, rfl⟩
      refine so_ifNew (P := Eq (sgnD (cutS abc (some (o : Int)) (some ((o : Int) + 17))))) (R := fun c => c = (words.map Dat.str).any fun x => inD x ((namesAt b a o 17).map Dat.str)) ?_ (fun _ => ?_) fun p' es hes => ?_
      · refine (et_BD (ev_anyMap (is := [8]) (fun x => inD x ((namesAt b a o 17).map Dat.str)) (ie_list (ev_callD ea_nil rfl fun d h => h.symm)) (by simp) (by decide) fun S' hS x hx => ?_)).imp fun _ e => e.symm
        obtain ⟨y, hy, rfl⟩ := List.mem_map.mp hx
        exact ⟨_, g_name, ev_inL (b := false) rfl (strs_sc _) (ev_var (i := 8) rfl) (ev_var (i := 7) rfl)⟩
      · exact en_listS (by
          have : (cutS abc (some (o : Int)) (some ((o : Int) + 17))).cps.toList.length ≤ abc.cps.toList.length := by
            unfold cutS
            simp only [List.toList_toArray]
            rw [List.length_take, List.length_drop]
            omega
          rw [len_cps, abc_len] at this
          exact Nat.le_trans this (by decide)) (ev_slS abc_line e2 (eo_some e3) (eo_some (ev_add e3 e1)))
      · obtain ⟨xs, rfl, hok⟩ : ∃ xs, es = xs.map Dat.str ∧ NamesOk xs := by
          rcases hes with hes | ⟨rfl, hno⟩
          · subst hes
            exact sgn_names ho
          · refine ⟨_, rfl, namesAt_ok hb hn ha ho fun w hw hm => ?_⟩
            have hno := List.any_eq_false.mp hno.symm (.str w) (List.mem_map.mpr ⟨w, hw, rfl⟩)
            exact hno (inD_iff.mpr (List.mem_map.mpr ⟨w, hm, rfl⟩))
        refine so_seq (so_if (R := fun _ => True) (nx := fun ρ' es => ρ' = [some (.raw (.ref st)), some (.int 17), some (.str abc), some (.int (o : Int)), some (.str b), k, some (.int (a : Int)), none, none] ∧ ∃ xs, es = xs.map Dat.str ∧ NamesOk xs) (et_test ((ev_eqI (ev_nextI hs (by decide) e0 ev_int) (ev_intP (M := fun _ => True) trivial)).imp fun _ ⟨b, e⟩ => ⟨b, e, trivial⟩)) (fun _ => so_rev ⟨rfl, xs.reverse, by rw [List.map_reverse], hok.reverse⟩) fun _ => so_next ⟨rfl, xs, rfl, hok⟩) ?_
        rintro ρ' es ⟨rfl, xs, rfl, hok⟩
        exact so_close (s_retD (ev_var (i := 7) rfl) ⟨xs, rfl, hok⟩)
end
end Sh
/-! a head by draws -/
namespace Sh
open PySem PySem.Spec PyProof.Rows L2
section
variable {P : Program} {w : World} {K : PySem.W.Frag} {mg : Str → Option Value} {base : Heap} {aW aK : Addr} {f : Addr} {fd : FuncData} {CS CT : Addr}
def headIx (s k : Nat) : Nat := 3 + (s + k) % 8
structure Drawn (xs : List Str) (s j : Nat) (cs : Cols) : Prop where
  names : cs.map (·.1) = (List.range j).map fun k => (xs[headIx s k]?).getD ""
  kinds : ∀ c ∈ cs, c.2 = "number" ∨ c.2 = "word"
theorem Drawn.len {xs : List Str} {s j : Nat} {cs : Cols} (h : Drawn xs s j cs) : cs.length = j := by
  have := congrArg List.length h.names
  simpa using this
theorem headIx_lt {s k : Nat} : headIx s k < 17 := by unfold headIx; omega
theorem headIx_inj {s i j : Nat} (hi : i < 8) (hj : j < 8) (h : headIx s i = headIx s j) : i = j := by unfold headIx at h; omega
theorem Drawn.ok {xs : List Str} {s j : Nat} {cs : Cols} (hx : NamesOk xs) (h : Drawn xs s j cs) (h1 : 1 ≤ j) (h2 : j ≤ 7) : HeadOk cs := by
  have at_ : ∀ i, (xs[headIx s i]?).getD "" = xs[headIx s i]'(by rw [hx.len]; exact headIx_lt) := fun i => by
    rw [List.getElem?_eq_getElem (by rw [hx.len]; exact headIx_lt)]
    rfl
  refine ⟨by rw [h.len]; exact h1, by rw [h.len]; omega, ?_, fun c hc => ?_, h.kinds⟩
  · rw [h.names]
    refine List.pairwise_map.mpr (List.nodup_range.imp_of_mem fun {a b} ha hb hne e => hne ?_)
    have ha := List.mem_range.mp ha
    have hb := List.mem_range.mp hb
    rw [at_, at_] at e
    exact headIx_inj (by omega) (by omega) ((List.getElem_inj hx.nd).mp e)
  · have : c.1 ∈ cs.map (·.1) := List.mem_map.mpr ⟨c, hc, rfl⟩
    rw [h.names] at this
    obtain ⟨i, _, e⟩ := List.mem_map.mp this
    rw [← e, at_]
    exact hx.each _ (List.getElem_mem _)
/-- _law_head -/
abbrev s_law_head : Stmt := top 49
theorem sc_law_head : FnScope ["_law_state", "_law_names_here", "_law_start", "_law_head_here", "_law_k", "_law_kind"] ["_law_state", "_law_names_here"] (defScope s_law_head) := ⟨rfl, rfl, rfl, by decide +kernel, rfl, by decide +kernel, by decide +kernel⟩
def pre_law_head : Sc → List Dat → Prop := fun S ds => ∃ s xs, ds = [.raw (.ref s), .lst (xs.map Dat.str)] ∧ s ∈ S.rn ∧ NamesOk xs
def post_law_head : List Dat → Dat → Prop := fun _ r => ∃ cs, r = .hd (headD cs) ∧ HeadOk cs
theorem ok_law_head (F : Fun K "_law_head" "_law_head" s_law_head f fd) (X : Txt K mg aW aK) (L : Ln P w K mg base) : FnOk P w K mg base CX0 2 f fd ["_law_state", "_law_names_here"] (SpD K pre_law_head post_law_head) := by
  refine ok_of F sc_law_head (fun S ds h => by obtain ⟨st, xs, rfl, hs, hx⟩ := h; rfl) fun cdv A outer s H E hr => ?_
  have nd := sc_law_head.nd
  have hu := hr.units
  have hu0 := hr.units0
  have hu1 := hu_of hr
  have hu65 := u65 hr
  refine ⟨_, (pss_cons (ps_set (i := 2) nd rfl (by first | exact Or.inl rfl | exact Or.inr rfl) (pe_fn L.law_next (hr.mono (by decide)) (pa_cons (pv 0) (pa_cons pe_int pa_nil))))
      (pss_cons (ps_set (i := 3) nd rfl (by first | exact Or.inl rfl | exact Or.inr rfl) (pe_lst pa_nil))
      (pss_cons (ps_for PassesOwn.never rfl (pi_range1 rfl X.b.range (pa_cons (pe_op op_addI pe_int (pe_op op_mulI (pe_fn L.law_next (hr.mono (by decide)) (pa_cons (pv 0) (pa_cons pe_int pa_nil))) (pe_op op_addI pe_int (pe_int1 X.b (pe_cmpR (r := rEqD K) (op_eqD hu) (pe_fn L.law_next (hr.mono (by decide)) (pa_cons (pv 0) (pa_cons pe_int pa_nil))) pe_int (nomark _)))))) pa_nil)) (pg_name (i := 4) nd rfl (by first | exact Or.inl rfl | exact Or.inr rfl)) (pss_cons (ps_set (i := 5) nd rfl (by first | exact Or.inl rfl | exact Or.inr rfl) (pe_ix (r := rIx K) ix_seq (pe_lst (pa_cons pe_str (pa_cons pe_str (pa_cons pe_str pa_nil)))) (pe_fn L.law_next (hr.mono (by decide)) (pa_cons (pv 0) (pa_cons pe_int pa_nil))) (fun _ _ => rfl)))
      (pss_one (ps_expr (pe_bm PySem.F.plainAttrs_list PySem.F.slot_list_append PySem.F.type_list_append mt_append (pv 3) (pa_cons (pe_tup (pa_cons (pe_ix (r := rIx K) ix_seq (pv 1) (pe_op op_addI pe_int (pe_op op_modI (pe_op op_addI (pv 2) (pv 4)) pe_int)) (fun _ _ => rfl)) (pa_cons (pv 5) pa_nil))) pa_nil))))))
      (pss_one (ps_ret (pe_tupF X.b (pv 3))))))), ?_⟩
  rintro S ds ⟨st, xs, rfl, hs, hx⟩
  have e0 : ∀ {S : Sc} {a b c d e : Option Dat}, Ev K S (tVar 0) [some (.raw (.ref st)), a, b, c, d, e] (Eq (.raw (.ref st))) := ev_var rfl
  have e1 : ∀ {S : Sc} {a b c d e : Option Dat}, Ev K S (tVar 1) [a, some (.lst (xs.map Dat.str)), b, c, d, e] (Eq (.lst (xs.map Dat.str))) := ev_var rfl
  refine s_seq (s_set (ev_nextI hs (by decide) e0 ev_int) ?_)
  rintro _ ⟨sI, rfl, h0⟩
  obtain ⟨s, rfl⟩ : ∃ s : Nat, sI = (s : Int) := ⟨sI.toNat, by omega⟩
  refine so_begin (by show 3 < 6; decide) en_nil fun p es hes => ?_
  subst hes
  refine so_seq (so_for (is := [4]) (by decide) (fun S' hS hp => ix_range (P := fun j => 1 ≤ j ∧ j ≤ 7) ?_ fun j h => ⟨by have := h.1; omega, by have := h.2; omega⟩) (fun _ i ρ es => ∃ k kd cs, ρ = [some (.raw (.ref st)), some (.lst (xs.map Dat.str)), some (.int (s : Int)), none, k, kd] ∧ es = headD cs ∧ Drawn xs s i cs) (fun _ _ => ⟨_, _, [], rfl, rfl, rfl, fun c hc => by cases hc⟩) ?_ (nx := fun ρ es => ∃ k kd cs, ρ = [some (.raw (.ref st)), some (.lst (xs.map Dat.str)), some (.int (s : Int)), none, k, kd] ∧ es = headD cs ∧ HeadOk cs) ?_) ?_
  · have hs' : st ∈ S'.rn := by rw [hS.rn]; exact hs
    refine ea_cons (P2 := fun _ ys => ys = []) (ev_addP (R := fun j => 1 ≤ j ∧ j ≤ 7) (ev_intP (M := fun i => i = 1) rfl) (ev_mulP (R := fun j => 0 ≤ j ∧ j ≤ 6) (ev_nextI hs' (by decide) e0 ev_int) (ev_addP (R := fun j => j = 1 ∨ j = 2) (ev_intP (M := fun i => i = 1) rfl) (ev_int1P (ev_eqI (ev_nextI hs' (by decide) e0 ev_int) (ev_intP (M := fun _ => True) trivial))) fun i j h1 h2 => by omega) (fun i j h1 h2 => .inr ⟨by omega, by omega⟩) fun i j h1 h2 => by
      rcases h2 with rfl | rfl
      · omega
      · omega) fun i j h1 h2 => by omega) (fun _ _ => ea_nil.imp fun _ e => e.symm) fun x ys ⟨i, e, h⟩ e2 => ⟨i, by rw [e, e2], h⟩
  · rintro zs i z ρ1 es ⟨j, hj, rfl⟩ hz ⟨k, kd, cs, rfl, rfl, hd⟩
    have hi : i < j.toNat := by
      have := (List.getElem?_eq_some_iff.mp hz).1
      simpa [rngD] using this
    obtain rfl : z = .int (i : Int) := by
      simp [rngD, hi] at hz
      exact hz.symm
    refine ⟨[some (.raw (.ref st)), some (.lst (xs.map Dat.str)), some (.int (s : Int)), none, some (.int (i : Int)), kd], fun S' => g_name, rfl, ?_⟩
    refine so_seq (so_set (nx := fun ρ es => ∃ kk : Str, (kk = "number" ∨ kk = "word") ∧ ρ = [some (.raw (.ref st)), some (.lst (xs.map Dat.str)), some (.int (s : Int)), none, some (.int (i : Int)), some (.str kk)] ∧ es = headD cs) (j := 5) (P := fun d => d = .str "number" ∨ d = .str "word") (by decide) (fun S' hS p' => ?_) fun d hd2 => ?_) ?_
    · have hs' : st ∈ S'.rn := by rw [hS.rn]; exact hs
      refine ev_ixP (L := fun xs => xs = [.str "number", .str "number", .str "word"]) ((ev_lstD (ea_consD ev_str (ea_consD ev_str (ea_consD ev_str ea_nil))) (by decide)).imp fun _ e => ⟨_, e.symm, rfl⟩) (ev_nextI hs' (by decide) e0 ev_int) fun ys j e hj => ?_
      subst e
      obtain ⟨x, h1, h2⟩ := atI_in (xs := [Dat.str "number", .str "number", .str "word"]) hj.1 (by simpa using hj.2)
      refine ⟨x, h1, ?_⟩
      simp only [List.mem_cons, List.not_mem_nil, or_false] at h2
      rcases h2 with h | h | h
      · exact .inl h
      · exact .inl h
      · exact .inr h
    · rcases hd2 with rfl | rfl
      · exact ⟨_, .inl rfl, rfl, rfl⟩
      · exact ⟨_, .inr rfl, rfl, rfl⟩
    · rintro ρ' es ⟨kk, hkk, rfl, rfl⟩
      have hlt : headIx s i < xs.length := by rw [hx.len]; exact headIx_lt
      refine so_app (P := Eq (colD (xs[headIx s i], kk))) (by unfold headD; rw [List.length_map, hd.len]; exact Nat.lt_of_lt_of_le (show i < 7 by omega) (by decide)) (fun S' hS p' => ?_) fun d hd2 => ?_
      · refine ev_tupD (ea_consD (ev_ixL (i := 3 + ((s : Int) + (i : Int)) % 8) ?_ e1 (ev_add ev_int (ev_mod (by decide) (ev_add (ev_var (i := 2) rfl) (ev_var (i := 4) rfl)) ev_int))) (ea_consD (ev_var (i := 5) rfl) ea_nil)) (show 2 ≤ sizeLine by decide)
        have := atI_nat (xs := xs.map Dat.str) (j := headIx s i) (v := .str xs[headIx s i]) (by rw [List.getElem?_map, List.getElem?_eq_getElem hlt]; rfl)
        rw [← this]
        congr 1
      · subst hd2
        refine ⟨_, _, cs ++ [(xs[headIx s i], kk)], rfl, by unfold headD; rw [List.map_append]; rfl, ?_, fun c hc => ?_⟩
        · rw [List.map_append, hd.names, List.range_succ, List.map_append]
          show _ ++ [xs[headIx s i]] = _ ++ [(xs[headIx s i]?).getD ""]
          rw [List.getElem?_eq_getElem hlt]
          rfl
        · rcases List.mem_append.mp hc with hc | hc
          · exact hd.kinds c hc
          · rw [List.mem_singleton.mp hc]
            exact hkk
  · rintro zs ρ1 es ⟨j, hj, rfl⟩ ⟨k, kd, cs, rfl, rfl, hd⟩
    have hl : (rngD j.toNat).length = j.toNat := by simp [rngD]
    rw [hl] at hd
    exact ⟨k, kd, cs, rfl, rfl, hd.ok hx (by omega) (by omega)⟩
  · rintro ρ' es ⟨k, kd, cs, rfl, rfl, hd⟩
    exact so_close (s_retD (ev_tupF (ev_var (i := 3) rfl)) ⟨cs, rfl, hd⟩)
end
end Sh
/-! draws from a state of any size; a move by draws -/
namespace Sh
open PySem PySem.Spec PyProof.Rows L2
/-- the scope with one place that turns -/
def Sc.of (a : Addr) : Sc := { st := [a] }
section
variable {K : PySem.W.Frag} {H H1 : Hp} {a : Addr}
theorem of_no {b : Addr} (h : (Sc.of a).no b) : b ≠ a := fun e => h.1 (by rw [e]; exact List.mem_singleton.mpr rfl)
theorem no_of {b : Addr} (h : b ≠ a) : (Sc.of a).no b := ⟨fun z => h (List.mem_singleton.mp z), by simp [Sc.of]⟩
theorem no_nil {b : Addr} : ({} : Sc).no b := ⟨by simp, by simp⟩
theorem Rp.calm {S : Sc} {v : V} {d : Dat} (h : Rp K S H v d) : Rp K {} H v d := h.to fun a o e n => no_nil
theorem EnvR.calm {S : Sc} {σ : L2.St} {ρ : Rho} (h : EnvR K S H σ ρ) : EnvR K {} H σ ρ := ⟨h.len, fun i d x => by
  obtain ⟨v, a, b⟩ := h.get i d x
  exact ⟨v, a, b.calm⟩⟩
theorem Fr.all (f : Fr {} H H1) {a : Addr} {o : HO} (e : H a = some o) : H1 a = some o := f a o (by simp) e
theorem Fr.any {S : Sc} (f : Fr {} H H1) : Fr S H H1 := fun a o _ e => f.all e
theorem StOk.of {o : HO} (h : H a = some o) : StOk (Sc.of a) H := ⟨fun s hs => by simp [Sc.of] at hs, fun s hs => by simp [Sc.of] at hs, fun s hs => by
  rw [List.mem_singleton.mp hs]
  exact ⟨o, h⟩, fun s hs => by simp [Sc.of] at hs⟩
theorem op_go {r : R2} {ta tb : TE} {σ : L2.St} {Q : VK} (h : ta σ H fun x H1 => tb σ H1 fun y H2 => r x y H2 Q) : tOp r ta tb σ H Q := h
theorem ret_go {te : TE} {D : Ends} {σ : L2.St} (h : te σ H D.rt) : tRet te D σ H := h
theorem tup_go {t : TA} {σ : L2.St} {Q : VK} (h : t σ H fun xs H1 => xs.length ≤ sizeLine ∧ ∀ p, H1 p = none → Q (.ref p) (upd H1 p (.tup xs))) : tTup t σ H Q := h
theorem next_go {ta tb : TE} {E : XK} {σ : L2.St} {ρ : Rho} {n m : Int} {Q : VK} (e : EnvR K (Sc.of a) H σ ρ) (ha : Ev K {} ta ρ (Eq (.raw (.ref a)))) (hb : Ev K {} tb ρ (Eq (.int m))) (hm : 0 < m) (hn : H a = some (.lst [.int n])) (h0 : 0 ≤ n) (h1 : n < 2 ^ 63)
    (k : ∀ n' j H1, 0 ≤ n' → n' < stB → 0 ≤ j → j < m → Fr (Sc.of a) H H1 → H1 a = some (.lst [.int n']) → Q (.int j) H1) : tCall spNext [] E (tCons ta (tCons tb tNil)) σ H Q :=
  (ea_consD ha (ea_consD hb ea_nil)) σ H e.calm .nil _ fun vs H1 ds f1 s1 p1 r1 => by
    subst p1
    cases r1 with
    | cons x t => cases t with
      | cons y t =>
        cases t
        cases x
        cases y
        have hn1 := f1.all hn
        exact ⟨Sc.of a, a, n, m, rfl, .of hn1, List.mem_singleton.mpr rfl, hn1, h0, h1, hm, fun n' j H2 a1 a2 a3 a4 f g e2 => k n' j H2 a1 a2 a3 a4 (f1.any.trans f) e2⟩
end
section
variable {P : Program} {w : World} {K : PySem.W.Frag} {mg : Str → Option Value} {base : Heap} {aW aK : Addr} {f : Addr} {fd : FuncData} {CS CT : Addr}
structure Lnr (P : Program) (w : World) (K : PySem.W.Frag) (mg : Str → Option Value) (base : Heap) : Prop where
  law_next : NxR P w K mg base
theorem emod_ne {c d m : Int} (h0 : 0 ≤ c ∧ c < m) (h1 : 0 ≤ d ∧ d < m - 1) : c ≠ (c + 1 + d) % m := fun e => by
  rcases Int.lt_or_le (c + 1 + d) m with h | h
  · rw [Int.emod_eq_of_lt (by omega) h] at e
    omega
  · have e2 : (c + 1 + d) % m = (c + 1 + d - m) % m := by rw [Int.sub_emod_right]
    rw [e2, Int.emod_eq_of_lt (by omega) (by omega)] at e
    omega
def spLent (K : PySem.W.Frag) : Sp := fun vs H Q _ => ∃ (T : Tb) (k : Str) (tr : List Row) (a : Addr) (n : Int) (vt : V), vs = [.ref a, vt, .int T.m] ∧ H a = some (.lst [.int n]) ∧ 0 ≤ n ∧ n < 2 ^ 63 ∧ LawOk T k tr ∧ Rp K (Sc.of a) H vt (T.law tr) ∧
  ∀ (n' num hs : Int) (p : Addr) (H' H2 : Hp), 0 ≤ n' → n' < stB → (0 ≤ num ∧ num ≤ T.rest.length) → (0 ≤ hs ∧ hs < T.m) → T.cutHouse num ≠ hs → Fr (Sc.of a) H H' → H' a = some (.lst [.int n']) → H' p = none → H2 = upd H' p (.tup [.int num, .int hs, .non]) → Q (.ref p) H2
theorem cutHouse_in {T : Tb} {k : Str} (h : CutsOk k T.m T.h0 T.rest) {n : Int} (hn : 0 ≤ n ∧ n ≤ T.rest.length) : 0 ≤ T.cutHouse n ∧ T.cutHouse n < T.m := by
  unfold Tb.cutHouse
  have hl : n.toNat < (T.h0 :: T.rest.map (·.2)).length := by
    rw [List.length_cons, List.length_map]
    omega
  rw [List.getElem?_eq_getElem hl]
  have := List.getElem_mem hl
  show 0 ≤ (T.h0 :: T.rest.map (·.2))[n.toNat] ∧ (T.h0 :: T.rest.map (·.2))[n.toNat] < T.m
  generalize (T.h0 :: T.rest.map (·.2))[n.toNat] = c at this
  rcases List.mem_cons.mp this with rfl | hc
  · exact h.h0
  · obtain ⟨x, hx, rfl⟩ := List.mem_map.mp hc
    exact (h.each x hx).2
/-- _law_lent -/
abbrev s_law_lent : Stmt := top 58
theorem sc_law_lent : FnScope ["_law_state", "_law_table", "_law_houses", "_law_number", "_law_house"] ["_law_state", "_law_table", "_law_houses"] (defScope s_law_lent) := ⟨rfl, rfl, rfl, by decide +kernel, rfl, by decide +kernel, by decide +kernel⟩
theorem ok_law_lent (F : Fun K "_law_lent" "_law_lent" s_law_lent f fd) (X : Txt K mg aW aK) (L : Lnr P w K mg base) : FnOk P w K mg base CX0 2 f fd ["_law_state", "_law_table", "_law_houses"] (spLent K) := by
  refine F.ok sc_law_lent (fun vs H Q E h => by obtain ⟨T, k, tr, a, n, vt, rfl, h⟩ := h; rfl) fun cdv A outer s H vs Q E hr h => ?_
  have nd := sc_law_lent.nd
  have hu := hr.units
  have hu0 := hr.units0
  have hu1 := hu_of hr
  have hu65 := u65 hr
  refine ⟨_, (pss_cons (ps_set (i := 3) nd rfl (by first | exact Or.inl rfl | exact Or.inr rfl) (pe_fn L.law_next (hr.mono (by decide)) (pa_cons (pv 0) (pa_cons (pe_len X.b (pe_ix (r := rIx K) ix_seq (pe_ix (r := rIx K) ix_seq (pv 1) pe_int (fun _ _ => rfl)) pe_int (fun _ _ => rfl))) pa_nil))))
      (pss_cons (ps_set (i := 4) nd rfl (by first | exact Or.inl rfl | exact Or.inr rfl) (pe_op op_modI (pe_op op_addI (pe_op op_addI (pe_ix (r := rIx K) ix_seq (pe_ix (r := rIx K) ix_seq (pe_ix (r := rIx K) ix_seq (pe_ix (r := rIx K) ix_seq (pv 1) pe_int (fun _ _ => rfl)) pe_int (fun _ _ => rfl)) (pv 3) (fun _ _ => rfl)) pe_int (fun _ _ => rfl)) pe_int) (pe_fn L.law_next (hr.mono (by decide)) (pa_cons (pv 0) (pa_cons (pe_op op_subI (pv 2) pe_int) pa_nil)))) (pv 2)))
      (pss_one (ps_ret (pe_tup (pa_cons (pv 3) (pa_cons (pv 4) (pa_cons pe_non pa_nil)))))))), ?_⟩
  obtain ⟨T, k, tr, a, n, vt, rfl, hn, h0, h1, h, rt, q⟩ := h
  have hm := h.m
  have hr7 := h.pl.cuts.most
  have e : EnvR K (Sc.of a) H (start ["_law_state", "_law_table", "_law_houses", "_law_number", "_law_house"] [.ref a, vt, .int T.m]) [some (.raw (.ref a)), some (T.law tr), some (.int T.m), none, none] := .consS (.raw _) (.consS rt (.consS (.int _) (.consN (.consN .nil))))
  have eL : ∀ {b c d e : Option Dat}, Ev K {} (tVar 1) [b, some (T.law tr), c, d, e] (Eq (.lst [.hd (headD T.cs), plD T.n T.h0 T.rest, .lst (rowsD tr), movD T.mv])) := ev_var rfl
  have ec : ∀ {b c d e : Option Dat}, Ev K {} (tOp (rIx K) (tOp (rIx K) (tVar 1) (tC (.int 1))) (tC (.int 2))) [b, some (T.law tr), c, d, e] (Eq (.tup (cutsD T.h0 T.rest))) := ev_ixT (xs := [.str "spans", .str T.n, .tup (cutsD T.h0 T.rest)]) rfl (ev_ixL rfl eL ev_int) ev_int
  refine go_asg (next_go e (ev_var (i := 0) rfl) (ev_lenT ec) (by rw [cuts_len]; omega) hn h0 h1 fun n1 num H1 a1 a2 a3 a4 f1 hn1 => ?_)
  rw [cuts_len] at a4
  have hnum : 0 ≤ num ∧ num ≤ T.rest.length := ⟨a3, by omega⟩
  have e1 : EnvR K (Sc.of a) H1 ((start ["_law_state", "_law_table", "_law_houses", "_law_number", "_law_house"] [.ref a, vt, .int T.m]).set 3 (some (.int num))) [some (.raw (.ref a)), some (T.law tr), some (.int T.m), some (.int num), none] := (e.mono f1).set (.int num)
  obtain ⟨x, hx⟩ := cut_at' hnum
  refine go_asg (op_go (op_go (op_go ((ev_ixT (xs := [x, .int (T.cutHouse num)]) (i := 1) (x := .int (T.cutHouse num)) rfl (ev_ixT hx ec (ev_var (i := 3) rfl)) ev_int) _ H1 e1.calm .nil _ fun v2 H2 d2 f2 s2 p2 r2 => ?_))))
  subst p2
  cases r2
  refine ⟨_, _, rfl, rfl, ?_⟩
  have e2 := e1.mono (S := Sc.of a) f2.any
  refine next_go e2 (ev_var (i := 0) rfl) (ev_sub (ev_var (i := 2) rfl) ev_int) (by omega) (f2.all hn1) a1 (by unfold stB at a2; omega) fun n2 dd H3 b1 b2 b3 b4 f3 hn3 => ⟨_, _, rfl, rfl, ?_⟩
  have hc := cutHouse_in h.pl.cuts hnum
  have e3 := e2.mono f3
  refine (ev_var (i := 2) (d := .int T.m) rfl) _ H3 e3.calm .nil _ fun v4 H4 d4 f4 s4 p4 r4 => ?_
  subst p4
  cases r4
  refine ⟨_, _, rfl, rfl, by omega, ?_⟩
  have e4 := (e3.mono (S := Sc.of a) f4.any).set (i := 4) (.int ((T.cutHouse num + 1 + dd) % T.m))
  refine ret_go (tup_go ((ea_consD (ev_var (i := 3) (d := .int num) rfl) (ea_consD (ev_var (i := 4) (d := .int ((T.cutHouse num + 1 + dd) % T.m)) rfl) (ea_consD (x := .non) (ev_c fun _ => .non) ea_nil))) _ H4 e4.calm .nil _ fun vs H5 ds f5 s5 p5 r5 => ?_))
  subst p5
  cases r5 with
  | cons x1 t => cases t with
    | cons x2 t => cases t with
      | cons x3 t =>
        cases t
        cases x1
        cases x2
        cases x3
        refine ⟨(show 3 ≤ sizeLine by decide), fun p hp => q n2 num _ p H5 _ b1 b2 hnum ⟨Int.emod_nonneg _ (by omega), Int.emod_lt_of_pos _ (by omega)⟩ (emod_ne hc ⟨b3, by omega⟩) ((((f1.trans f2.any).trans f3).trans f4.any).trans f5.any) (f5.all (f4.all hn3)) hp rfl⟩
end
end Sh
/-! the table, its cuts and its rows by draws; the store of it -/
namespace Sh
open PySem PySem.Spec PyProof.Rows L2
theorem dle_int {a b : Int} : dle (.int a) (.int b) = decide (a ≤ b) := congrFun (congrFun (PySem.W.dataLe_int (fun b : Int => b)) a) b
theorem dle_str {a b : Str} : dle (.str a) (.str b) = decide (a.cps.toList ≤ b.cps.toList) := congrFun (congrFun (PySem.W.dataLe_str (fun b : Str => b)) a) b
theorem str_ext {a b : Str} (h : a.cps.toList = b.cps.toList) : a = b := by
  cases a with
  | mk a => cases b with
    | mk b => exact congrArg Str.mk (Array.toList_inj.mp h)
theorem dle_lt {k : Str} {a b : Dat} (ha : ValK k a) (hb : ValK k b) (h : dle a b = true) (n : a ≠ b) : sLt a b = true := by
  rcases ha with ⟨e, i, rfl⟩ | ⟨e, x, rfl, _⟩
  · rcases hb with ⟨_, j, rfl⟩ | ⟨e', _⟩
    · rw [dle_int, decide_eq_true_eq] at h
      rw [sLt_int, decide_eq_true_eq]
      have : i ≠ j := fun z => n (by rw [z])
      omega
    · rw [e] at e'
      exact absurd e' (by decide)
  · rcases hb with ⟨e', _⟩ | ⟨_, y, rfl, _⟩
    · rw [e] at e'
      exact absurd e' (by decide)
    · rw [dle_str, decide_eq_true_eq] at h
      rw [sLt_str, decide_eq_true_eq]
      refine Classical.byContradiction fun z => n ?_
      have : y.cps.toList ≤ x.cps.toList := z
      exact congrArg Dat.str (str_ext (List.le_antisymm h this))
theorem nodup_len {α : Type} : ∀ {L ds : List α}, L.Nodup → (∀ x ∈ L, x ∈ ds) → L.length ≤ ds.length
  | [], _, _, _ => Nat.zero_le _
  | x :: L, ds, n, h => by
    obtain ⟨a, b, rfl⟩ := List.append_of_mem (h x List.mem_cons_self)
    have nn := List.nodup_cons.mp n
    have := nodup_len (ds := a ++ b) nn.2 fun y hy => by
      rcases List.mem_append.mp (h y (List.mem_cons_of_mem _ hy)) with z | z
      · exact List.mem_append.mpr (.inl z)
      · rcases List.mem_cons.mp z with z | z
        · exact absurd (z ▸ hy) nn.1
        · exact List.mem_append.mpr (.inr z)
    rw [List.length_append] at this
    rw [List.length_cons, List.length_append, List.length_cons]
    omega
theorem vals_set {k : Str} {ds : List Dat} (h : ∀ d ∈ ds, ValK k d) (hl : ds.length ≤ 60) : CanSet ds := .inl ⟨ds.map keyD, by rw [List.length_map]; omega, by
  rw [List.map_map]
  conv => lhs; rw [← List.map_id ds]
  exact List.map_congr_left fun d hd => (keyD_of (h d hd)).symm⟩
theorem vals_sort {k : Str} {ds : List Dat} (h : ∀ d ∈ ds, ValK k d) : CanSort ds where
  al := fun d hd d' hd' => by
    obtain ⟨r, hr, rfl⟩ := List.mem_map.mp hd
    obtain ⟨r', hr', rfl⟩ := List.mem_map.mp hd'
    exact valk_alike (h r hr) (h r' hr')
  ok := .inr fun d hd => by
    obtain ⟨r, hr, rfl⟩ := List.mem_map.mp hd
    rcases h r hr with ⟨_, i, rfl⟩ | ⟨_, x, rfl, _⟩
    · exact ⟨fun z => by simp [Dat.py] at z, fun xs z => by simp [Dat.py] at z⟩
    · exact ⟨fun z => by simp [Dat.py] at z, fun xs z => by simp [Dat.py] at z⟩
  fine := fun d hd => (h d hd).eqn
/-- sorted(set(values)) rises -/
theorem vals_up {k : Str} {L : List Dat} (h : ∀ d ∈ L, ValK k d) (nd : L.Nodup) : (srt L).Pairwise fun a b => sLt a b = true := by
  have nd' : (srt L).Nodup := (srt_perm L).nodup_iff.mpr nd
  have hs := srt_sorted L
  have hv : ∀ d ∈ srt L, ValK k d := fun d hd => h d ((srt_perm L).mem_iff.mp hd)
  exact (hs.and nd').imp_of_mem fun {a b} ha hb hab => dle_lt (hv a ha) (hv b hb) hab.1 hab.2
section
variable {K : PySem.W.Frag} {S : Sc} {ρ : Rho} {ta tb te : TE} {t u : TS} {H : Hp} {σ : L2.St} {D : Ends} {i : Nat} {p : Addr} {ds : List Dat} {g : TG} {O : Out}
/-- a reading that starts with a reading -/
theorem ev_lift {C : TE → TE} {F : L2.St → VK → V → Hp → Prop} {P P' : Dat → Prop} (hC : ∀ ta σ H Q, C ta σ H Q = ta σ H (F σ Q)) (ha : Ev K S ta ρ P) (h : ∀ d, P d → ∀ tb, Ev K S tb ρ (Eq d) → Ev K S (C tb) ρ P') : Ev K S (C ta) ρ P' := fun σ H e s Q q => by
  rw [hC]
  refine ha σ H e s _ fun v H1 d f1 s1 p1 r1 => ?_
  have k := h d p1 (fun _ H Q => H = H1 → Q v H) (fun σ' H' e' s' Q' q' eq => by
    subst eq
    exact q' v H' d .refl s' rfl r1) σ H1 (e.mono f1) s1 Q fun v2 H2 d2 f2 s2 p2 r2 => q v2 H2 d2 (f1.trans f2) s2 p2 r2
  rw [hC] at k
  exact k rfl
theorem ev_srtsetP {kd : Str} {m : Nat} (hm : m ≤ 60) (ha : Ev K S ta ρ (fun d => ∃ ds, d = .lst ds ∧ ds.length ≤ m ∧ ∀ x ∈ ds, ValK kd x)) : Ev K S (tSrtSet K ta) ρ (fun d => ∃ L, d = .lst L ∧ L.length ≤ m ∧ (∀ x ∈ L, ValK kd x) ∧ L.Pairwise fun a b => sLt a b = true) :=
  ev_lift (C := tSrtSet K) (fun _ _ _ _ => rfl) ha fun d ⟨ds, e, hl, hv⟩ tb hb => by
    subst e
    refine (ev_srtset (vals_set hv (Nat.le_trans hl hm)) (vals_sort hv) hb).imp fun d ⟨L, n, hL, e⟩ => ⟨srt L, e, ?_, fun x hx => hv x ((hL x).mp ((srt_perm L).mem_iff.mp hx)), vals_up (fun x hx => hv x ((hL x).mp hx)) n⟩
    rw [(srt_perm L).length_eq]
    exact Nat.le_trans (nodup_len n fun x hx => (hL x).mp hx) hl
theorem en_lst {tr : TA} {R : List Dat → Prop} (h : EvA K S tr ρ R) (hl : ∀ ds, R ds → ds.length ≤ sizeLine) : EvN K S (tLst tr) ρ R := fun σ H e s Q q =>
  h σ H e s _ fun vs H1 ds f1 s1 p1 r1 => ⟨by rw [r1.length]; exact hl ds p1, fun p hp => q p vs ds _ (f1.trans (.new hp)) (f1.free (s1.ne hp).1 hp) (s1.ne hp).1 (s1.but hp) upd_same ((r1.but hp).mono (Fr.new hp)) p1⟩
/-! steps -/
theorem go_sev {N : Rho → Prop} (h : SEv K S t ρ { nx := N, rt := fun _ => False }) (e : EnvR K S H σ ρ) (s : StOk S H) (k : ∀ σ' H' ρ', Fr S H H' → StOk S H' → EnvR K S H' σ' ρ' → N ρ' → u D σ' H') : tSeq t u D σ H :=
  h σ H e s { D with nx := u D } (fun σ' H' ρ' f s' e' n => k σ' H' ρ' f s' e' n) (fun _ _ _ _ _ z _ => z.elim) (fun _ _ _ _ _ _ z => z.elim) fun _ _ _ _ _ _ z => z.elim
theorem go_begin {P : List Dat → Prop} (hi : i < ρ.length) (h : EvN K S te ρ P) (e : EnvR K S H σ ρ) (s : StOk S H) (k : ∀ p ds σ' H', P ds → Fr S H H' → H p = none → Own K S i p H' σ' ρ ds → u D σ' H') : tSeq (tAsg te (gName i)) u D σ H :=
  h σ H e s _ fun p ys ds H1 f1 hp hn s1 h1 h2 p1 => k p ds (σ.set i (some (.ref p))) H1 p1 f1 hp
    ⟨s.ne hp, ⟨by rw [List.length_set, List.length_set, e.len], fun j d q => by
      by_cases c : i = j
      · subst c
        rw [List.getElem?_set_self hi] at q
        cases q
        refine ⟨.ref p, ?_, .raw _⟩
        rw [List.getElem?_set_self (by rw [e.len]; exact hi)]
      · rw [List.getElem?_set_ne c] at q
        obtain ⟨v, a, b⟩ := e.get j d q
        refine ⟨v, by rw [List.getElem?_set_ne c]; exact a, ?_⟩
        exact (b.but hp).mono (f1.to (T := S.but p) rfl)⟩, s1, hi, ys, h1, h2⟩
theorem go_own {N : Rho → List Dat → Prop} (h : SOv K S i p t ρ ds N (fun _ => False)) (o : Own K S i p H σ ρ ds) (k : ∀ σ' H' ρ' ds', Frp S p H H' → Own K S i p H' σ' ρ' ds' → N ρ' ds' → u D σ' H') : tSeq t u D σ H :=
  h σ H o { D with nx := u D } (fun σ' H' ρ' ds' f o' n => k σ' H' ρ' ds' f o' n) fun _ _ _ _ _ z _ => z.elim
theorem s_asgP {P : Dat → Prop} (h : Ev K S te ρ P) (k : ∀ x, P x → ∃ is ρ', GEv K S g is ρ x ρ' ∧ O.nx ρ') : SEv K S (tAsg te g) ρ O := fun σ H e s D n r b c =>
  h σ H e s _ fun v H1 d f1 s1 p1 r1 => by
    obtain ⟨is, ρ', hg, hk⟩ := k d p1
    exact hg v σ H1 r1 (e.mono f1) _ fun σ' e' a' => n σ' H1 ρ' f1 s1 e' hk
end
end Sh
/-! the store begun -/
namespace Sh
open PySem PySem.Spec PyProof.Rows L2
section
variable {K : PySem.W.Frag} {S : Sc} {ρ : Rho} {ta tk tv : TE} {tr : TA} {T : Tb} {k : Str} {CT CS : Addr} {H : Hp}
theorem ev_store {E : XK} (h : EvA K S tr ρ (Eq [.int T.m, .dic [(.inr T.name, T.tab)]])) (hk : TbOk T k) (hmv : T.mv = none) : Ev K S (tMake CS (spStore K CS) [] E tr) ρ (Eq (T.sorted.store CS)) := fun σ H e s Q q => h σ H e s _ fun vs H1 ds f1 s1 p1 r1 => by
  subst p1
  cases r1 with
  | cons a t => cases t with
    | cons b t =>
      cases t
      cases a
      cases b with
      | @dic d kvs _ nd hd rk =>
        cases rk with
        | @cons _ vt _ _ _ rt rn =>
          cases rn
          intro x dx hx hdx hne
          have nx := s1.ne hx
          have s2 := (s1.new (o := .own x) hdx).new (p := x) (o := .ins CS dx []) (by rw [upd_ne hne.symm]; exact hx)
          have f2 : Fr S H1 (upd (upd H1 dx (.own x)) x (.ins CS dx [])) := (Fr.new hdx).trans (Fr.new (by rw [upd_ne hne.symm]; exact hx))
          refine ⟨S, T, k, x, dx, d, vt, rfl, nx, nd, (fun z => by rw [z, hd] at hx; cases hx), upd_same, f2 _ _ nd.1 hd, s2, rt.mono f2, hk, hmv, fun H' f' s' r' => ⟨rfl, q _ H' _ (f1.trans ?_) s' rfl r'⟩⟩
          exact fun a o ha he => f' a o ha (fun z => by rw [z, hx] at he; cases he) (f2 a o ha he)
/-- {k: v} -/
theorem ev_disp1 {n : Str} {y : Dat} (hk : Ev K S tk ρ (Eq (.str n))) (hv : ∀ S' : Sc, S'.Like S → Ev K S' tv ρ (Eq y)) (hk' : ∀ S' : Sc, S'.Like S → Ev K S' tk ρ (Eq (.str n))) : Ev K S (tDisp [(tk, tv)]) ρ (Eq (.dic [(.inr n, y)])) := fun σ H e s Q q p hp => by
  have n0 := s.ne hp
  have f0 : Fr (S.but p) H (upd H p (.dK [])) := Fr.new hp
  have e0 : EnvR K (S.but p) (upd H p (.dK [])) σ ρ := (e.but hp).mono f0
  refine hk' (S.but p) .but σ _ e0 (s.but hp) _ fun v1 H1 d1 f1 s1 p1 r1 => ?_
  subst p1
  cases r1
  refine hv (S.but p) .but σ H1 (e0.mono f1) s1 _ fun v2 H2 d2 f2 s2 p2 r2 => ?_
  subst p2
  have hp2 : H2 p = some (.dK []) := f2 _ _ n0.1 (f1 _ _ n0.1 upd_same)
  refine ⟨hp2, [(.inr n, v2)], rfl, by show 1 ≤ 15; decide, ?_⟩
  have f3 : Fr S H H2 := (f0.trans (f1.trans f2)).to rfl
  have s3 : StOk S (upd H2 p (.dK (mergeK [] [(.inr n, v2)]))) := s2.unbut.put fun z => n0.1 (s.sub p z)
  exact q _ _ _ (f3.put hp) s3 rfl (.dic n0 upd_same (.cons ((r2.at_ex List.mem_cons_self).unbut) .nil))
end
/-- a store by its data, its dicts apart -/
theorem StAt.of_rp {K : PySem.W.Frag} {S : Sc} {CS x : Addr} {H : Hp} {T : Tb} (r : Rp K S H (.ref x) (T.store CS)) (h : T.mv = none) : ∃ dh dm, StAt K S CS H x dh dm T := by
  cases r with
  | ob n hx rf =>
    cases rf with
    | cons r1 rf => cases rf with
      | cons r2 rf => cases rf with
        | cons r3 rf =>
          cases rf
          cases r1
          have em : mvD T.name T.mv = [] := by rw [h]; rfl
          cases r2 with
          | @dic dh kvs _ nh hh rk =>
            cases rk with
            | cons rt rn =>
              cases rn
              cases r3 with
              | @dic dm kvm _ nm hm rm =>
                refine ⟨dh, dm, n, nh, nm, fun z => ?_, _, _, _, hx, hh, hm, rt, rm⟩
                subst z
                rw [hh] at hm
                cases hm
                rw [em] at rm
                cases rm
/-- the law's table at tb, its rows' list at rl -/
structure TbAt (K : PySem.W.Frag) (S : Sc) (H : Hp) (tb rl : Addr) (T : Tb) (tr : List Row) : Prop where
  nt : S.no tb
  nr : S.no rl
  ne : tb ≠ rl
  ex : ∃ vh vp vm vs, H tb = some (.lst [vh, vp, .ref rl, vm]) ∧ H rl = some (.lst vs) ∧ Rp K S H vh (.hd (headD T.cs)) ∧ Rp K S H vp (plD T.n T.h0 T.rest) ∧ Rp K S H vm (movD T.mv) ∧ Rps K S H vs (rowsD tr)
theorem TbAt.rp {K : PySem.W.Frag} {S : Sc} {H : Hp} {tb rl : Addr} {T : Tb} {tr : List Row} (t : TbAt K S H tb rl T tr) : Rp K S H (.ref tb) (T.law tr) := by
  obtain ⟨vh, vp, vm, vs, h1, h2, r1, r2, r3, r4⟩ := t.ex
  exact .lst (.inl t.nt) (SqL.of h1) (.cons r1 (.cons r2 (.cons (.lst (.inl t.nr) (SqL.of h2) r4) (.cons r3 .nil))))
theorem TbAt.mono {K : PySem.W.Frag} {S : Sc} {H H' : Hp} {tb rl : Addr} {T : Tb} {tr : List Row} (t : TbAt K S H tb rl T tr) (f : Fr S H H') : TbAt K S H' tb rl T tr := by
  obtain ⟨vh, vp, vm, vs, h1, h2, r1, r2, r3, r4⟩ := t.ex
  exact ⟨t.nt, t.nr, t.ne, vh, vp, vm, vs, f _ _ t.nt.1 h1, f _ _ t.nr.1 h2, r1.mono f, r2.mono f, r3.mono f, r4.mono f⟩
/-- one place that turns, by whole draws -/
def Sc.rnd (a : Addr) : Sc := { st := [a], rn := [a] }
/-- two places left alone -/
def Sc.two (S : Sc) (tb rl : Addr) : Sc := (S.but rl).but tb
theorem rows_of {cs : Cols} : ∀ {ds : List Dat}, (∀ d ∈ ds, ∃ r, d = .tup r ∧ RowK cs r) → ∃ rs : List Row, ds = rowsD rs ∧ ∀ r ∈ rs, RowK cs r
  | [], _ => ⟨[], rfl, fun r hr => by cases hr⟩
  | d :: ds, h => by
    obtain ⟨r, rfl, hr⟩ := h d List.mem_cons_self
    obtain ⟨rs, rfl, hrs⟩ := rows_of fun d hd => h d (List.mem_cons_of_mem _ hd)
    exact ⟨r :: rs, rfl, fun x hx => (List.mem_cons.mp hx).elim (fun e => e ▸ hr) (hrs x)⟩
section
variable {P : Program} {w : World} {K : PySem.W.Frag} {mg : Str → Option Value} {base : Heap} {aW aK : Addr} {f : Addr} {fd : FuncData} {CS CT : Addr}
structure Lb (P : Program) (w : World) (K : PySem.W.Frag) (mg : Str → Option Value) (base : Heap) : Prop where
  law_next : NxD P w K mg base
  law_value : Cl P w K mg base "_law_value" 3 ["_law_state", "_law_kind"] (SpD K pre_law_value post_law_value)
  law_row : Cl P w K mg base "_law_row" 4 ["_law_state", "_law_head_here"] (SpD K pre_law_row post_law_row)
  law_head : Cl P w K mg base "_law_head" 2 ["_law_state", "_law_names_here"] (SpD K pre_law_head post_law_head)
def spBegun (K : PySem.W.Frag) (CS : Addr) : Sp := fun vs H Q _ => ∃ (a : Addr) (vn : V) (xs : List Str), vs = [.ref a, vn, .int 10] ∧ StOk (Sc.rnd a) H ∧ Rp K (Sc.rnd a) H vn (.lst (xs.map Dat.str)) ∧ NamesOk xs ∧
  ∀ (T : Tb) (k : Str) (tr : List Row) (p x dh dm tb rl : Addr) (H' : Hp), LawOk T k tr → xs[0]? = some T.name → T.mv = none → tr.length ≤ 10 → Fr (Sc.rnd a) H H' → StOk (Sc.rnd a) H' → H' p = some (.tup [.ref x, .ref tb, .int T.m]) → (Sc.rnd a).no p → H tb = none → H rl = none →
    StAt K ((Sc.rnd a).two tb rl) CS H' x dh dm T → TbAt K (Sc.rnd a) H' tb rl T tr → Q (.ref p) H'
abbrev rB (a : Addr) (xs : List Str) (m hd co kd cu lo kk pl rw : Option Dat) : Rho := [some (.raw (.ref a)), some (.lst (xs.map Dat.str)), some (.int 10), m, hd, co, kd, cu, lo, kk, pl, rw, none]
/-- _law_spans_begun -/
abbrev s_law_spans_begun : Stmt := top 57
theorem sc_law_spans_begun : FnScope ["_law_state", "_law_names_here", "_law_most", "_law_houses", "_law_head_here", "_law_column", "_law_kind", "_law_cuts", "_law_low", "_law_k", "_law_placing", "_law_rows", "_law_store"] ["_law_state", "_law_names_here", "_law_most"] (defScope s_law_spans_begun) := ⟨rfl, rfl, rfl, by decide +kernel, rfl, by decide +kernel, by decide +kernel⟩
theorem ok_law_spans_begun (F : Fun K "_law_spans_begun" "_law_spans_begun" s_law_spans_begun f fd) (X : Txt K mg aW aK) (L : Lb P w K mg base) (k_Store : C8.Mak P w K mg base 9 "Store" CS (spStore K CS) []) : FnOk P w K mg base CX0 11 f fd ["_law_state", "_law_names_here", "_law_most"] (spBegun K CS) := by
  refine F.ok sc_law_spans_begun (fun vs H Q E h => by obtain ⟨a, vn, xs, rfl, h⟩ := h; rfl) fun cdv A outer s H vs Q E hr h => ?_
  have nd := sc_law_spans_begun.nd
  have hu := hr.units
  have hu0 := hr.units0
  have hu1 := hu_of hr
  have hu65 := u65 hr
  refine ⟨_, (pss_cons (ps_set (i := 3) nd rfl (by first | exact Or.inl rfl | exact Or.inr rfl) (pe_op op_addI pe_int (pe_fn L.law_next (hr.mono (by decide)) (pa_cons (pv 0) (pa_cons pe_int pa_nil)))))
      (pss_cons (ps_set (i := 4) nd rfl (by first | exact Or.inl rfl | exact Or.inr rfl) (pe_fn L.law_head (hr.mono (by decide)) (pa_cons (pv 0) (pa_cons (pv 1) pa_nil))))
      (pss_cons (ps_asg (pe_ix (r := rIx K) ix_seq (pv 4) (pe_fn L.law_next (hr.mono (by decide)) (pa_cons (pv 0) (pa_cons (pe_len X.b (pv 4)) pa_nil))) (fun _ _ => rfl)) (pg_tup rfl (pgs_cons (pg_name (i := 5) nd rfl (by first | exact Or.inl rfl | exact Or.inr rfl)) (pgs_cons (pg_name (i := 6) nd rfl (by first | exact Or.inl rfl | exact Or.inr rfl)) pgs_nil))))
      (pss_cons (ps_set (i := 7) nd rfl (by first | exact Or.inl rfl | exact Or.inr rfl) (pe_lst (pa_cons (pe_tup (pa_cons pe_non (pa_cons (pe_fn L.law_next (hr.mono (by decide)) (pa_cons (pv 0) (pa_cons (pv 3) pa_nil))) pa_nil))) pa_nil)))
      (pss_cons (ps_for PassesOwn.never rfl (pi_list (pe_srtset X.b hu (pe_lc rfl nd (pi_range1 rfl X.b.range (pa_cons (pe_fn L.law_next (hr.mono (by decide)) (pa_cons (pv 0) (pa_cons pe_int pa_nil))) pa_nil)) (blkOk_by (own := [("_law_k", 9)]) (N := ["_law_state", "_law_names_here", "_law_most", "_law_houses", "_law_head_here", "_law_column", "_law_kind", "_law_cuts", "_law_low", "_law_k", "_law_placing", "_law_rows", "_law_store"]) (sc := defScope s_law_spans_begun) (by decide +kernel)) (fun _ _ _ _ _ => (pg_name (i := 9) nd rfl (by first | exact Or.inl rfl | exact Or.inr rfl))) (fun _ _ _ _ _ => pts_nil) (fun _ _ _ _ _ => (pe_fn L.law_value (hr.mono (by decide)) (pa_cons (pv 0) (pa_cons (pv 6) pa_nil))))))) (pg_name (i := 8) nd rfl (by first | exact Or.inl rfl | exact Or.inr rfl)) (pss_one (ps_expr (pe_bm PySem.F.plainAttrs_list PySem.F.slot_list_append PySem.F.type_list_append mt_append (pv 7) (pa_cons (pe_tup (pa_cons (pv 8) (pa_cons (pe_fn L.law_next (hr.mono (by decide)) (pa_cons (pv 0) (pa_cons (pv 3) pa_nil))) pa_nil))) pa_nil)))))
      (pss_cons (ps_set (i := 10) nd rfl (by first | exact Or.inl rfl | exact Or.inr rfl) (pe_tup (pa_cons pe_str (pa_cons (pv 5) (pa_cons (pe_tupF X.b (pv 7)) pa_nil)))))
      (pss_cons (ps_setLc (i := 11) rfl nd rfl rfl (sw_true rfl rfl rfl (by decide +kernel)) (pi_range1 rfl X.b.range (pa_cons (pe_fn L.law_next (hr.mono (by decide)) (pa_cons (pv 0) (pa_cons (pe_op op_addI (pv 2) pe_int) pa_nil))) pa_nil)) (blkOk_by (own := [("_law_k", 9)]) (N := ["_law_state", "_law_names_here", "_law_most", "_law_houses", "_law_head_here", "_law_column", "_law_kind", "_law_cuts", "_law_low", "_law_k", "_law_placing", "_law_rows", "_law_store"]) (sc := defScope s_law_spans_begun) (by decide +kernel)) (fun _ _ _ _ _ => (pg_name (i := 9) nd rfl (by first | exact Or.inl rfl | exact Or.inr rfl))) (fun _ _ _ _ _ => pts_nil) (fun _ _ _ _ _ => (pe_fn L.law_row (hr.mono (by decide)) (pa_cons (pv 0) (pa_cons (pv 4) pa_nil)))))
      (pss_cons (ps_set (i := 12) nd rfl (by first | exact Or.inl rfl | exact Or.inr rfl) (C8.pe_mk k_Store hr (Nat.le_refl _) rfl (pa_cons (pv 3) (pa_cons (pe_disp (pps_cons (pe_ix (r := rIx K) ix_seq (pv 1) pe_int (fun _ _ => rfl)) (pe_tup (pa_cons (pv 4) (pa_cons (pv 10) (pa_cons (pv 11) pa_nil)))) pps_nil) (by rfl) (by rfl) (fun z => by cases z) (by decide)) pa_nil))))
      (pss_one (ps_ret (pe_tup (pa_cons (pv 12) (pa_cons (pe_lst (pa_cons (pv 4) (pa_cons (pv 10) (pa_cons (pe_list X.b (pv 11)) (pa_cons pe_non pa_nil))))) (pa_cons (pv 3) pa_nil)))))))))))))), ?_⟩
  obtain ⟨a, vn, xs, rfl, s0, rt, hx, q⟩ := h
  have hs : a ∈ (Sc.rnd a).rn := List.mem_singleton.mpr rfl
  have e0 : EnvR K (Sc.rnd a) H (start ["_law_state", "_law_names_here", "_law_most", "_law_houses", "_law_head_here", "_law_column", "_law_kind", "_law_cuts", "_law_low", "_law_k", "_law_placing", "_law_rows", "_law_store"] [.ref a, vn, .int 10]) (rB a xs none none none none none none none none none) := .consS (.raw _) (.consS rt (.consS (.int 10) (.consN (.consN (.consN (.consN (.consN (.consN (.consN (.consN (.consN (.consN .nil))))))))))))
  have v0 : ∀ {S : Sc} {b c d e f g h i j : Option Dat}, Ev K S (tVar 0) (rB a xs b c d e f g h i j) (Eq (.raw (.ref a))) := ev_var rfl
  have v1 : ∀ {S : Sc} {b c d e f g h i j : Option Dat}, Ev K S (tVar 1) (rB a xs b c d e f g h i j) (Eq (.lst (xs.map Dat.str))) := ev_var rfl
  have v2 : ∀ {S : Sc} {b c d e f g h i j : Option Dat}, Ev K S (tVar 2) (rB a xs b c d e f g h i j) (Eq (.int 10)) := ev_var rfl
  refine go_sev (N := fun ρ => ∃ m : Int, (2 ≤ m ∧ m ≤ 4) ∧ ρ = rB a xs (some (.int m)) none none none none none none none none) (s_set (ev_addP (R := fun m => 2 ≤ m ∧ m ≤ 4) (ev_intP (M := fun i => i = 2) rfl) (ev_nextI hs (by decide) v0 ev_int) fun i j h1 h2 => by omega) ?_) e0 s0 fun σ1 H1 ρ1 f1 s1 e1 n1 => ?_
  · rintro _ ⟨m, rfl, hm⟩
    exact ⟨m, hm, rfl⟩
  obtain ⟨m, hm, rfl⟩ := n1
  have v3 : ∀ {S : Sc} {c d e f g h i j : Option Dat}, Ev K S (tVar 3) (rB a xs (some (.int m)) c d e f g h i j) (Eq (.int m)) := ev_var rfl
  refine go_sev (N := fun ρ => ∃ cs, HeadOk cs ∧ ρ = rB a xs (some (.int m)) (some (.hd (headD cs))) none none none none none none none) (s_set (ev_callD (ea_consD v0 (ea_consD v1 ea_nil)) ⟨a, xs, rfl, hs, hx⟩ fun d p => p) ?_) e1 s1 fun σ2 H2 ρ2 f2 s2 e2 n2 => ?_
  · rintro _ ⟨cs, rfl, hc⟩
    exact ⟨cs, hc, rfl⟩
  obtain ⟨cs, hc, rfl⟩ := n2
  have hc1 := hc.one
  have hc8 := hc.most
  have v4 : ∀ {S : Sc} {d e f g h i j : Option Dat}, Ev K S (tVar 4) (rB a xs (some (.int m)) (some (.hd (headD cs))) d e f g h i j) (Eq (.hd (headD cs))) := ev_var rfl
  have lh : ((headD cs).length : Int) = (cs.length : Int) := by unfold headD; rw [List.length_map]
  refine go_sev (N := fun ρ => ∃ c ∈ cs, ρ = rB a xs (some (.int m)) (some (.hd (headD cs))) (some (.str c.1)) (some (.str c.2)) none none none none none) (s_asgP (P := fun d => ∃ c ∈ cs, d = colD c) (ev_ixTP (N := fun j => 0 ≤ j ∧ j < (cs.length : Int)) (ev_un v4) (ev_nextI hs (by omega) v0 ((ev_lenT (ev_un v4)).is (by rw [lh]))) fun j hj => ?_) ?_) e2 s2 fun σ3 H3 ρ3 f3 s3 e3 n3 => ?_
  · obtain ⟨x, h1, h2⟩ := atI_in (xs := headD cs) hj.1 (by rw [lh]; exact hj.2)
    obtain ⟨c, hcm, e⟩ := List.mem_map.mp h2
    exact ⟨x, h1, c, hcm, e.symm⟩
  · rintro _ ⟨c, hcm, rfl⟩
    exact ⟨_, _, g_two, c, hcm, rfl⟩
  obtain ⟨c, hcm, rfl⟩ := n3
  have hk := hc.kinds c hcm
  have v5 : ∀ {S : Sc} {f g h i j : Option Dat}, Ev K S (tVar 5) (rB a xs (some (.int m)) (some (.hd (headD cs))) (some (.str c.1)) (some (.str c.2)) f g h i j) (Eq (.str c.1)) := ev_var rfl
  have v6 : ∀ {S : Sc} {f g h i j : Option Dat}, Ev K S (tVar 6) (rB a xs (some (.int m)) (some (.hd (headD cs))) (some (.str c.1)) (some (.str c.2)) f g h i j) (Eq (.str c.2)) := ev_var rfl
  refine go_begin (P := fun ds => ∃ h0, (0 ≤ h0 ∧ h0 < m) ∧ ds = cutsD h0 []) (by show 7 < 13; decide) (en_lst (ea_cons (P2 := fun _ ys => ys = []) (P1 := fun d => ∃ h0, (0 ≤ h0 ∧ h0 < m) ∧ d = cutD1 (.non, h0)) ((ev_tup (ea_two (ev_c (d := .non) fun _ => .non) (ev_nextI hs (by omega) v0 v3)) fun ds ⟨x, y, e, _⟩ => by rw [e]; exact show 2 ≤ sizeLine by decide).imp ?_) (fun _ _ => ea_nil.imp fun _ e => e.symm) fun x ys ⟨h0, h, e⟩ e2 => ⟨h0, h, by rw [e, e2]; rfl⟩) ?_) e3 s3 fun p ds σ4 H4 p4 f4 hp4 o4 => ?_
  · rintro _ ⟨_, rfl, x, y, rfl, rfl, h0, rfl, hh⟩
    exact ⟨h0, hh, rfl⟩
  · rintro _ ⟨h0, h, rfl⟩
    exact show 1 ≤ sizeLine by decide
  obtain ⟨h0, hh0, rfl⟩ := p4
  have okc := fun {rest : Cuts} (h : rest.length ≤ 7) (h2 : ∀ x ∈ rest, ValK c.2 x.1 ∧ 0 ≤ x.2 ∧ x.2 < m) (h3 : (rest.map (·.1)).Pairwise fun a b => sLt a b = true) => (⟨hh0, h, h2, List.pairwise_map.mp h3⟩ : CutsOk c.2 m h0 rest)
  have hlc : ∀ (S' : Sc), S'.Like (Sc.rnd a) → ∀ cu lo : Option Dat, Ev K S' (tLc (iRng1 (tCons (tCall (SpD K pre_law_next post_law_next) [] E0 (tCons (tVar 0) (tCons (tC (.int 4)) tNil))) tNil)) (gName 9) tYes (tCall (SpD K pre_law_value post_law_value) [] E0 (tCons (tVar 0) (tCons (tVar 6) tNil))) [9]) (rB a xs (some (.int m)) (some (.hd (headD cs))) (some (.str c.1)) (some (.str c.2)) cu lo none none none) (fun d => ∃ ds, d = .lst ds ∧ ds.length ≤ 3 ∧ ∀ x ∈ ds, ValK c.2 x) := fun S' hS cu lo => by
    refine (ev_lcMap (is := [9]) (P := fun xs => ∃ j : Int, (0 ≤ j ∧ j < 4) ∧ xs = rngD j.toNat) (fun _ y => ValK c.2 y) (ie_range (P := fun j => 0 ≤ j ∧ j < 4) (ea_cons (P2 := fun _ ys => ys = []) (ev_nextI (by rw [hS.rn]; exact hs) (by decide) v0 ev_int) (fun _ _ => ea_nil.imp fun _ e => e.symm) fun x ys ⟨i, e, h⟩ e2 => ⟨i, by rw [e, e2], h⟩) fun j h => ⟨by have := h.1; omega, by have := h.2; omega⟩) (by simp) (fun xs hxs => ?_) fun S2 hS2 ys i y hy hyi => ⟨_, g_name, ev_callD (ea_consD (ev_var (i := 0) (d := .raw (.ref a)) rfl) (ea_consD (ev_var (i := 6) (d := .str c.2) rfl) ea_nil)) ⟨a, c.2, rfl, by rw [hS2.rn, hS.rn]; exact hs, hk⟩ fun d p => p _ _ rfl⟩).imp ?_
    · obtain ⟨j, hj, e⟩ := hxs
      subst e
      simp only [rngD, List.length_map, List.length_range]
      exact Nat.lt_of_le_of_lt (show j.toNat ≤ 4 by omega) (by decide)
    · rintro _ ⟨zs, ys, ⟨j, hj, rfl⟩, rfl, hl, h⟩
      simp only [rngD, List.length_map, List.length_range] at hl
      refine ⟨ys, rfl, by omega, fun y hy => ?_⟩
      obtain ⟨i, hi, rfl⟩ := List.getElem_of_mem hy
      refine h i (.int i) _ ?_ (List.getElem?_eq_getElem hi)
      rw [rngD, List.getElem?_map, List.getElem?_range (by omega)]
      rfl
  refine go_own (N := fun ρ ds => ∃ rest lo, ρ = rB a xs (some (.int m)) (some (.hd (headD cs))) (some (.str c.1)) (some (.str c.2)) none lo none none none ∧ ds = cutsD h0 rest ∧ CutsOk c.2 m h0 rest) (so_for (S := Sc.rnd a) (i := 7) (p := p) (ρ := rB a xs (some (.int m)) (some (.hd (headD cs))) (some (.str c.1)) (some (.str c.2)) none none none none none) (is := [8]) (by decide) (fun S' hS hp => ix_list (P := fun ds => ds.length ≤ 3 ∧ (∀ x ∈ ds, ValK c.2 x) ∧ ds.Pairwise fun a b => sLt a b = true) hp (ev_srtsetP (kd := c.2) (m := 3) (by decide) (by exact hlc S' hS _ _))) (fun ys j ρ es => ∃ rest lo, ρ = rB a xs (some (.int m)) (some (.hd (headD cs))) (some (.str c.1)) (some (.str c.2)) none lo none none none ∧ es = cutsD h0 rest ∧ rest.map (·.1) = ys.take j ∧ ∀ x ∈ rest, 0 ≤ x.2 ∧ x.2 < m) (fun ys _ => ⟨[], _, rfl, rfl, by simp, fun x hx => by cases hx⟩) ?_ ?_) o4 fun σ5 H5 ρ5 ds5 f5 o5 n5 => ?_
  · rintro ys j y ρ1 es ⟨hy3, hyv, hyu⟩ hj ⟨rest, lo, rfl, rfl, hr1, hr2⟩
    have hjl := (List.getElem?_eq_some_iff.mp hj).1
    have hrl : rest.length = j := by
      have := congrArg List.length hr1
      rw [List.length_map, List.length_take] at this
      omega
    refine ⟨rB a xs (some (.int m)) (some (.hd (headD cs))) (some (.str c.1)) (some (.str c.2)) none (some y) none none none, fun S' => g_name, rfl, ?_⟩
    refine so_app (P := fun d => ∃ hs, (0 ≤ hs ∧ hs < m) ∧ d = cutD1 (y, hs)) (by rw [cuts_len, hrl]; exact Nat.lt_of_le_of_lt (show j + 1 ≤ 4 by omega) (by decide)) (fun S' hS p' => ?_) ?_
    · refine (ev_tup (ea_two (P1 := Eq y) (ev_var (i := 8) rfl) (ev_nextI (by rw [hS.rn]; exact hs) (by omega) v0 v3)) fun ds ⟨x, y, e, _⟩ => by rw [e]; exact show 2 ≤ sizeLine by decide).imp ?_
      rintro _ ⟨_, rfl, x, z, rfl, rfl, hs2, rfl, hh⟩
      exact ⟨hs2, hh, rfl⟩
    · rintro _ ⟨hs2, hh, rfl⟩
      refine ⟨rest ++ [(y, hs2)], _, rfl, ?_, ?_, fun x hx => ?_⟩
      · unfold cutsD
        rw [List.map_append]
        rfl
      · rw [List.map_append, hr1, List.take_succ, hj]
        rfl
      · rcases List.mem_append.mp hx with hx | hx
        · exact hr2 x hx
        · rw [List.mem_singleton.mp hx]
          exact hh
  · rintro ys ρ1 es ⟨hy3, hyv, hyu⟩ ⟨rest, lo, rfl, rfl, hr1, hr2⟩
    rw [List.take_length] at hr1
    have hrl : rest.length = ys.length := by
      have := congrArg List.length hr1
      rwa [List.length_map] at this
    refine ⟨rest, lo, rfl, rfl, okc (by omega) (fun x hx => ⟨?_, hr2 x hx⟩) (by rw [hr1]; exact hyu)⟩
    exact hyv _ (hr1 ▸ List.mem_map.mpr ⟨x, hx, rfl⟩)
  obtain ⟨rest, lo, rfl, rfl, hcuts⟩ := n5
  obtain ⟨e5, s5⟩ := o5.full
  have v7 : ∀ {S : Sc} {g h i j : Option Dat}, Ev K S (tVar 7) (rB a xs (some (.int m)) (some (.hd (headD cs))) (some (.str c.1)) (some (.str c.2)) (some (.lst (cutsD h0 rest))) g h i j) (Eq (.lst (cutsD h0 rest))) := ev_var rfl
  -- the placing
  refine go_sev (N := fun ρ => ρ = rB a xs (some (.int m)) (some (.hd (headD cs))) (some (.str c.1)) (some (.str c.2)) (some (.lst (cutsD h0 rest))) lo none (some (plD c.1 h0 rest)) none) (s_setD (ev_tupD (ea_consD (x := .str "spans") ev_str (ea_consD v5 (ea_consD (ev_un (ev_tupF v7)) ea_nil))) (show 3 ≤ sizeLine by decide)) rfl) e5 s5 fun σ6 H6 ρ6 f6 s6 e6 n6 => ?_
  subst n6
  -- the rows
  have hlr : ∀ (S' : Sc), S'.Like (Sc.rnd a) → ∀ cu lo kk pl : Option Dat, Ev K S' (tLc (iRng1 (tCons (tCall (SpD K pre_law_next post_law_next) [] E0 (tCons (tVar 0) (tCons (tOp rAddI (tVar 2) (tC (.int 1))) tNil))) tNil)) (gName 9) tYes (tCall (SpD K pre_law_row post_law_row) [] E0 (tCons (tVar 0) (tCons (tVar 4) tNil))) [9]) (rB a xs (some (.int m)) (some (.hd (headD cs))) (some (.str c.1)) (some (.str c.2)) cu lo kk pl none) (fun d => ∃ rs : List Row, d = .lst (rowsD rs) ∧ rs.length ≤ 10 ∧ ∀ r ∈ rs, RowK cs r) := fun S' hS cu lo kk pl => by
    refine (ev_lcMap (is := [9]) (P := fun xs => ∃ j : Int, (0 ≤ j ∧ j < 11) ∧ xs = rngD j.toNat) (fun _ y => ∃ r, y = .tup r ∧ RowK cs r) (ie_range (P := fun j => 0 ≤ j ∧ j < 11) (ea_cons (P2 := fun _ ys => ys = []) (ev_nextI (m := 11) (by rw [hS.rn]; exact hs) (by decide) v0 ((ev_add v2 ev_int).is rfl)) (fun _ _ => ea_nil.imp fun _ e => e.symm) fun x ys ⟨i, e, h⟩ e2 => ⟨i, by rw [e, e2], h⟩) fun j h => ⟨by have := h.1; omega, by have := h.2; omega⟩) (by simp) (fun xs hxs => ?_) fun S2 hS2 ys i y hy hyi => ⟨_, g_name, ev_callD (ea_consD (ev_var (i := 0) (d := .raw (.ref a)) rfl) (ea_consD (ev_var (i := 4) (d := .hd (headD cs)) rfl) ea_nil)) ⟨a, cs, rfl, by rw [hS2.rn, hS.rn]; exact hs, hc⟩ fun d p => p _ _ rfl⟩).imp ?_
    · obtain ⟨j, hj, e⟩ := hxs
      subst e
      simp only [rngD, List.length_map, List.length_range]
      exact Nat.lt_of_le_of_lt (show j.toNat ≤ 11 by omega) (by decide)
    · rintro _ ⟨zs, ys, ⟨j, hj, rfl⟩, rfl, hl, h⟩
      simp only [rngD, List.length_map, List.length_range] at hl
      obtain ⟨rs, rfl, hrs⟩ := rows_of (ds := ys) fun y hy => by
        obtain ⟨i, hi, rfl⟩ := List.getElem_of_mem hy
        refine h i (.int i) _ ?_ (List.getElem?_eq_getElem hi)
        rw [rngD, List.getElem?_map, List.getElem?_range (by omega)]
        rfl
      refine ⟨rs, rfl, ?_, hrs⟩
      unfold rowsD at hl
      rw [List.length_map] at hl
      omega
  refine go_sev (N := fun ρ => ∃ rs : List Row, ρ = rB a xs (some (.int m)) (some (.hd (headD cs))) (some (.str c.1)) (some (.str c.2)) (some (.lst (cutsD h0 rest))) lo none (some (plD c.1 h0 rest)) (some (.lst (rowsD rs))) ∧ rs.length ≤ 10 ∧ ∀ r ∈ rs, RowK cs r) (s_set (hlr _ ⟨rfl, rfl⟩ _ _ _ _) ?_) e6 s6 fun σ7 H7 ρ7 f7 s7 e7 n7 => ?_
  · rintro _ ⟨rs, rfl, h1, h2⟩
    exact ⟨rs, rfl, h1, h2⟩
  obtain ⟨rs, rfl, hrs10, hrs⟩ := n7
  -- the store
  have hx0 : 0 < xs.length := by rw [hx.len]; decide
  let T : Tb := ⟨cs, m, c.1, h0, rest, xs[0], rs, none⟩
  have hT : TbOk T c.2 := ⟨⟨hc, hcm, hcuts⟩, ⟨hrs, by show rs.length ≤ 60; omega⟩, hx.each _ (List.getElem_mem _), ⟨hm.1, by show m ≤ 6; omega⟩, fun x h => by cases h⟩
  have hL : LawOk T.sorted c.2 rs := ⟨Tb.sorted_ok hT, rfl⟩
  refine go_sev (N := fun ρ => ρ = (rB a xs (some (.int m)) (some (.hd (headD cs))) (some (.str c.1)) (some (.str c.2)) (some (.lst (cutsD h0 rest))) lo none (some (plD c.1 h0 rest)) (some (.lst (rowsD rs)))).set 12 (some (T.sorted.store CS))) (s_setD (ev_store (T := T) (ea_consD v3 (ea_consD (ev_disp1 (n := xs[0]) (y := T.tab) ?_ ?_ ?_) ea_nil)) hT rfl) rfl) e7 s7 fun σ8 H8 ρ8 f8 s8 e8 n8 => ?_
  · exact ev_ixL (i := ((0 : Nat) : Int)) (atI_nat (by rw [List.getElem?_map, List.getElem?_eq_getElem hx0]; rfl)) v1 ev_int
  · exact fun S' hS => ev_tupD (ea_consD (ev_var (i := 4) rfl) (ea_consD (ev_var (i := 10) rfl) (ea_consD (ev_var (i := 11) rfl) ea_nil))) (show 3 ≤ sizeLine by decide)
  · exact fun S' hS => ev_ixL (i := ((0 : Nat) : Int)) (atI_nat (by rw [List.getElem?_map, List.getElem?_eq_getElem hx0]; rfl)) v1 ev_int
  subst n8
  -- what it gives
  obtain ⟨w12, g12, r12⟩ := e8.get 12 (T.sorted.store CS) rfl
  obtain ⟨w4, g4, r4⟩ := e8.get 4 (.hd (headD cs)) rfl
  obtain ⟨w10, g10, r10⟩ := e8.get 10 (plD c.1 h0 rest) rfl
  obtain ⟨w11, g11, r11⟩ := e8.get 11 (.lst (rowsD rs)) rfl
  obtain ⟨w3, g3, r3⟩ := e8.get 3 (.int m) rfl
  cases r3
  have r12' : ∃ x, w12 = .ref x ∧ Rp K (Sc.rnd a) H8 (.ref x) (T.sorted.store CS) := by
    cases r12 with
    | ob n h r => exact ⟨_, rfl, .ob n h r⟩
  obtain ⟨x, rfl, rx⟩ := r12'
  cases r11 with
  | @lst r0 vrs _ n11 hs11 rr =>
    have f08 : Fr (Sc.rnd a) H H8 := ((((f1.trans f2).trans f3).trans (f4.trans' f5 hp4)).trans f6).trans (f7.trans f8)
    refine ret_go (tup_go ⟨.ref x, g12, w4, g4, w10, g10, .ref r0, g11, r0, vrs, rfl, .inl hs11, fun rl hrl => ⟨show 4 ≤ sizeLine by decide, fun tb htb => ⟨.int m, g3, show 3 ≤ sizeLine by decide, fun p9 hp9 => ?_⟩⟩⟩)
    have n8 := s8.ne hrl
    have g1 : Fr (Sc.rnd a) H8 (upd H8 rl (.lst vrs)) := .new hrl
    have g2 : Fr (Sc.rnd a) (upd H8 rl (.lst vrs)) (upd (upd H8 rl (.lst vrs)) tb (.lst [w4, w10, .ref rl, .non])) := .new htb
    have g3' : Fr (Sc.rnd a) (upd (upd H8 rl (.lst vrs)) tb (.lst [w4, w10, .ref rl, .non])) (upd (upd (upd H8 rl (.lst vrs)) tb (.lst [w4, w10, .ref rl, .non])) p9 (.tup [.ref x, .ref tb, .int m])) := .new hp9
    have t1 := s8.new (o := .lst vrs) hrl
    have t2 := t1.new (o := .lst [w4, w10, .ref rl, .non]) htb
    have t3 := t2.new (o := .tup [.ref x, .ref tb, .int m]) hp9
    have ntb := t1.ne htb
    have np := t2.ne hp9
    have hrt : tb ≠ rl := fun z => by
      rw [z, upd_same] at htb
      cases htb
    have htb8 : H8 tb = none := by
      rw [upd_ne hrt] at htb
      exact htb
    have rs2 : Rp K ((Sc.rnd a).two tb rl) (upd (upd (upd H8 rl (.lst vrs)) tb (.lst [w4, w10, .ref rl, .non])) p9 (.tup [.ref x, .ref tb, .int m])) (.ref x) (T.sorted.store CS) := Rp.mono (S := (Sc.rnd a).two tb rl) (Fr.to (T := (Sc.rnd a).two tb rl) ((g1.trans g2).trans g3') rfl) ((rx.but hrl).but htb8)
    obtain ⟨dh, dm, sa⟩ := StAt.of_rp rs2 rfl
    have f9 := (g1.trans g2).trans g3'
    refine q T.sorted c.2 rs p9 x dh dm tb rl _ hL (List.getElem?_eq_getElem hx0) rfl hrs10 (f08.trans f9) t3 upd_same np (f08.free ntb.1 htb8) (f08.free n8.1 hrl) sa ⟨ntb, n8, hrt, w4, w10, .non, vrs, ?_, ?_, r4.mono f9, r10.mono f9, .non, rr.mono f9⟩
    · exact g3' _ _ ntb.1 upd_same
    · exact g3' _ _ n8.1 (g2 _ _ n8.1 upd_same)
end
end Sh
/-! the law's settling -/
namespace Sh
open PySem PySem.Spec PyProof.Rows L2
/-- o.m(e, ..) in a try -/
def tMethA (C : Addr) (m : Str) (sp : Sp) (E : L2.St → XK) (ta : TE) (t : TA) : TE := fun σ H Q => ta σ H fun x H1 => ∃ a dx fs, x = .ref a ∧ H1 a = some (.ins C dx fs) ∧ fs.lookup m = none ∧ t σ H1 fun vs H2 => sp (x :: vs) H2 Q (E σ)
theorem pe_methA {X : Cx} {CX : CXT} {k : Nat} {f C : Addr} {fd : FuncData} {ps : List Str} {sp : Sp} {E : L2.St → XK} {m : Str} {pos apos : Pos} {e o : Expr} {es : List Expr} {ta : TE} {t : TA} {pl : Sem Bool} (he : PE X o ta) (c : Cls X.K C) (hm : Meth X.K C m f) (F : FnOk X.prog X.w X.K X.mg X.base CX k f fd ps sp) (hr : Room k X.A) (hb : Binds X.K fd ps []) (hx : ∀ σ, PassesAt CX X σ (E σ)) (ha : PA X (e :: es) t)
    (hst : starEach (e :: es) X.env = (false, eval e X.env) :: starEach es X.env := by rfl) (hpl : (backTo pos (starEach es X.env)).any (·.1) = false := by rfl)
    (ht : eval (.Call (.Attribute o m apos) (e :: es) [] pos) X.env = (do
      let ov ← eval o X.env
      standAt apos.atName
      let (f, first) ← holding [ov] (getMethod ov m pl)
      callWith pos f first (backTo pos (starEach (e :: es) X.env)) (backToKw pos (keywordEach [] X.env))) := by rfl) :
    PE X (.Call (.Attribute o m apos) (e :: es) [] pos) (tMethA C m sp E ta t) := by
  refine ⟨fun pins s σ H Q I h => ?_⟩
  refine PySem.W.methodCall_KW (pl := pl) (thn (he.run pins s σ H _ I h) fun u s1 ⟨x, H1, I1, rx, a, dx, fs, ex, ea, l, q⟩ => ?_) ht
  subst ex
  obtain rfl : u = Value.ref a := rx
  refine getmeth_ok I1 ea c hm l ?_
  refine PySem.W.callWith_K (first := [.ref a]) (h₀ := X.base) I.ok.mod.kin hm.kp (thn (ha.run pos pins s1 σ H1 _ I1 q) fun us s2 ⟨vs, H2, I2, r, q2⟩ => ⟨I2.kIn, ?_⟩) hst hpl
  exact run_fnS (us := .ref a :: us) (vs := .ref a :: vs) F hr hb (hx σ) I2 (.cons rfl r) q2
section
variable {P : Program} {w : World} {K : PySem.W.Frag} {mg : Str → Option Value} {base : Heap} {aW aK : Addr} {f : Addr} {fd : FuncData} {CS CT CN : Addr}
/-- settle by a store's class; the error's class told from others -/
structure StlC (P : Program) (w : World) (K : PySem.W.Frag) (mg : Str → Option Value) (base : Heap) (CS CN fS : Addr) (fdS : FuncData) : Prop where
  F : FnOk P w K mg base (L2.CX P w) 7 fS fdS ["self", "name"] (spSettle K CS CN)
  m : Meth K CS "settle" fS
  b : Binds K fdS ["self", "name"] []
  c : Cls K CS
  g : mg "NotYet" = some (.ref CN)
  x : PySem.W.exmOne K (.ref CN) (.ref CN) = some true
def spSettled (K : PySem.W.Frag) (CS : Addr) : Sp := fun vs H Q _ => ∃ (S : Sc) (T : Tb) (k : Str) (x dh dm : Addr) (y : Int × Int × Option Row), vs = [.ref x, .str T.name] ∧ StOk S H ∧ StAt K S CS H x dh dm T ∧ TbOk T k ∧ T.mv = some y ∧
  (T.above y ≠ [] → ∀ H', Fr S H H' → StOk S H' → Q (.str "not yet") H') ∧ (T.above y = [] → ∀ H', Frm S dh dm H H' → StOk S H' → StAt K S CS H' x dh dm (T.settled y) → Q (.str "done") H')
/-- _law_settled -/
abbrev s_law_settled : Stmt := top 61
theorem sc_law_settled : FnScope ["_law_store", "_law_name", "_law_word"] ["_law_store", "_law_name"] (defScope s_law_settled) := ⟨rfl, rfl, rfl, by decide +kernel, rfl, by decide +kernel, by decide +kernel⟩
theorem ok_law_settled (F : Fun K "_law_settled" "_law_settled" s_law_settled f fd) {fS : Addr} {fdS : FuncData} (L : StlC P w K mg base CS CN fS fdS) : FnOk P w K mg base CX0 8 f fd ["_law_store", "_law_name"] (spSettled K CS) := by
  refine F.ok sc_law_settled (fun vs H Q E h => by obtain ⟨S, T, k, x, dh, dm, y, rfl, h⟩ := h; rfl) fun cdv A outer s H vs Q E hr h => ?_
  have nd := sc_law_settled.nd
  refine ⟨_, (pss_cons (ps_set (i := 2) nd rfl (by first | exact Or.inl rfl | exact Or.inr rfl) pe_str)
      (pss_cons (ps_try_only (tb := fun W => tIfS (tTest (tOp _ (tMethA CS "settle" (spSettle K CS CN) (WE W) (tVar 0) (tCons (tVar 1) tNil)) (tC .non))) (tAsg (tC (.str "made")) (gName 2)) tNext) (ts := fun _ _ _ => tAsg (tC (.str "not yet")) (gName 2)) (Wout := fun _ _ _ _ => False) rfl rfl ⟨rfl, by decide, Or.inl L.g⟩ takes0
        (fun W pn xe tk _ => pss_one (ps_if (pt_cmpR op_isnot0 (pe_methA (pv 0) L.c L.m L.F (hr.mono (by decide)) L.b (fun σ => passAt tk σ) (by exact (pa_cons (pv 1) pa_nil))) pe_non (nomark _)) (pss_one (ps_set (i := 2) nd rfl (by first | exact Or.inl rfl | exact Or.inr rfl) pe_str)) pss_nil))
        (fun _ _ _ _ _ _ _ => pss_one (ps_set (i := 2) nd rfl (by first | exact Or.inl rfl | exact Or.inr rfl) pe_str)))
      (pss_one (ps_ret (pv 2))))), ?_⟩
  obtain ⟨S, T, k, x, dh, dm, y, rfl, s0, sa, h, hy, q1, q2⟩ := h
  obtain ⟨dx, vt, mvs, h1, h2, h3, r1, r2⟩ := sa.ex
  refine ⟨.ref x, rfl, x, dx, _, rfl, h1, rfl, .str T.name, rfl, S, T, k, x, dh, dm, y, rfl, s0, sa, h, hy, fun hn d H' f s => ?_, fun hn H' f s a => ?_⟩
  · refine ⟨true, L.x, fun _ a ha => ?_, fun z => by cases z⟩
    exact ⟨_, rfl, q1 hn H' f s⟩
  · refine ⟨rfl, false, rfl, ?_⟩
    dsimp only
    rw [if_neg Bool.false_ne_true]
    exact ⟨_, rfl, q2 hn H' f s a⟩
end
end Sh
/-! what a write into a list leaves -/
namespace Sh
open PySem PySem.Spec PyProof.Rows L2
mutual
/-- tuples and scalars alone -/
def Dat.tups : Dat → Bool
  | .tup xs => tupss xs
  | .hd xs => tupss xs
  | .lst _ => false
  | .dic _ => false
  | .ob _ _ => false
  | _ => true
def tupss : List Dat → Bool
  | [] => true
  | x :: xs => x.tups && tupss xs
end
theorem tupss_of : ∀ {xs : List Dat}, (∀ x ∈ xs, x.tups = true) → tupss xs = true
  | [], _ => rfl
  | x :: xs, h => by
    show (x.tups && tupss xs) = true
    rw [h x List.mem_cons_self, tupss_of fun y hy => h y (List.mem_cons_of_mem _ hy)]
    rfl
section
variable {K : PySem.W.Frag} {S : Sc} {H : Hp} {d : Addr} {us : List V}
mutual
theorem Rp.offL (hd : H d = some (.lst us)) : ∀ {x : Dat} {v : V}, x.tups = true → Rp K S H v x → Rp K (S.but d) H v x
  | .non, _, _, h => by cases h; exact .non
  | .bl _, _, _, h => by cases h; exact .bl _
  | .int _, _, _, h => by cases h; exact .int _
  | .str _, _, _, h => by cases h; exact .str _
  | .raw _, _, _, h => by cases h; exact .raw _
  | .tup xs, _, q, h => by
    have q : tupss xs = true := q
    cases h with
    | @tup a vs _ n hs r =>
      refine .tup ?_ hs (Rps.offL hd q r)
      rcases hs with (z | ⟨o, z⟩) | z
      · exact n.imp_left fun n => Sc.no_but n fun e => by rw [e, hd] at z; cases z
      · exact n.imp_left fun n => Sc.no_but n fun e => by rw [e, hd] at z; cases z
      · exact .inr (.inr z)
  | .hd xs, _, q, h => by
    have q : tupss xs = true := q
    cases h with
    | hd n g z r => exact .hd (Sc.no_but n fun e => by rw [e, hd] at z; cases z) g z (Rps.offL hd q r)
  | .lst _, _, q, _ => by cases q
  | .dic _, _, q, _ => by cases q
  | .ob _ _, _, q, _ => by cases q
theorem Rps.offL (hd : H d = some (.lst us)) : ∀ {xs : List Dat} {vs : List V}, tupss xs = true → Rps K S H vs xs → Rps K (S.but d) H vs xs
  | [], _, _, h => by cases h; exact .nil
  | x :: xs, _, q, h => by
    have q : (x.tups && tupss xs) = true := q
    rw [Bool.and_eq_true] at q
    cases h with
    | cons a t => exact .cons (Rp.offL hd q.1 a) (Rps.offL hd q.2 t)
end
end
theorem ValK.tups {k : Str} {d : Dat} (h : ValK k d) : d.tups = true := by
  rcases h with ⟨_, i, rfl⟩ | ⟨_, x, rfl, _⟩ <;> rfl
theorem RowK.tups : ∀ {cs : Cols} {r : Row}, RowK cs r → tupss r = true
  | [], [], _ => rfl
  | _ :: _, d :: ds, h => by
    show (d.tups && tupss ds) = true
    rw [h.1.tups, RowK.tups h.2]
    rfl
  | [], _ :: _, h => h.elim
  | _ :: _, [], h => h.elim
theorem headD_tups : ∀ (cs : Cols), tupss (headD cs) = true
  | [] => rfl
  | c :: cs => by
    show (true && tupss (headD cs)) = true
    rw [headD_tups cs]
    rfl
theorem rowsD_tups {cs : Cols} {rows : List Row} (h : ∀ r ∈ rows, RowK cs r) : tupss (rowsD rows) = true := tupss_of fun d hd => by
  obtain ⟨r, hr, rfl⟩ := List.mem_map.mp hd
  exact (h r hr).tups
theorem plD_tups {k : Str} {m : Int} {n : Str} {h0 : Int} {rest : Cuts} (h : CutsOk k m h0 rest) : (plD n h0 rest).tups = true := by
  show (true && (true && (tupss (cutsD h0 rest) && true))) = true
  have : tupss (cutsD h0 rest) = true := tupss_of fun d hd => by
    rcases List.mem_cons.mp hd with rfl | hd
    · rfl
    · obtain ⟨c, hc, rfl⟩ := List.mem_map.mp hd
      show (c.1.tups && (true && true)) = true
      rw [(h.each c hc).1.tups]
      rfl
  rw [this]
  rfl
theorem mark_tups {cs : Cols} {o : Option Row} (h : ∀ r, o = some r → RowK cs r) : (markD o).tups = true := by
  cases o with
  | none => rfl
  | some r => exact (h r rfl).tups
theorem mov_tups {T : Tb} {k : Str} (h : TbOk T k) : (movD T.mv).tups = true := by
  cases hm : T.mv with
  | none => rfl
  | some y =>
    show (true && (true && ((markD y.2.2).tups && true))) = true
    rw [mark_tups (h.mv y hm).mark]
    rfl
/-- a list that two others aren't -/
def Frw (S : Sc) (dh dm tb rl : Addr) (H H' : Hp) : Prop := ∀ a o, a ∉ S.st → a ≠ dh → a ≠ dm → a ≠ tb → a ≠ rl → H a = some o → H' a = some o
theorem Frw.trans {S : Sc} {dh dm tb rl : Addr} {H H1 H2 : Hp} (f : Frw S dh dm tb rl H H1) (g : Frw S dh dm tb rl H1 H2) : Frw S dh dm tb rl H H2 := fun a o n1 n2 n3 n4 n5 e => g a o n1 n2 n3 n4 n5 (f a o n1 n2 n3 n4 n5 e)
theorem Frw.of {S : Sc} {dh dm tb rl : Addr} {H H1 : Hp} (f : Fr S H H1) : Frw S dh dm tb rl H H1 := fun a o n1 _ _ _ _ e => f a o n1 e
theorem Frw.ofM {S : Sc} {dh dm tb rl : Addr} {H H1 : Hp} (f : Frm S dh dm H H1) : Frw S dh dm tb rl H H1 := fun a o n1 n2 n3 _ _ e => f a o n1 n2 n3 e
theorem Frw.to {S S' : Sc} {dh dm tb rl : Addr} {H H1 : Hp} (f : Frw S dh dm tb rl H H1) (h : S'.st = S.st) : Frw S' dh dm tb rl H H1 := fun a o n1 n2 n3 n4 n5 e => f a o (by rw [← h]; exact n1) n2 n3 n4 n5 e
theorem Rp.two {K : PySem.W.Frag} {S : Sc} {H : Hp} {tb rl : Addr} {us ws : List V} {v : V} {d : Dat} (h1 : H tb = some (.lst us)) (h2 : H rl = some (.lst ws)) (q : d.tups = true) (r : Rp K S H v d) : Rp K (S.two tb rl) H v d := (r.offL h2 q).offL h1 q
theorem Rps.two {K : PySem.W.Frag} {S : Sc} {H : Hp} {tb rl : Addr} {us ws : List V} {v : List V} {d : List Dat} (h1 : H tb = some (.lst us)) (h2 : H rl = some (.lst ws)) (q : tupss d = true) (r : Rps K S H v d) : Rps K (S.two tb rl) H v d := (r.offL h2 q).offL h1 q
/-- what none of the five holds is kept -/
theorem Rp.frw {K : PySem.W.Frag} {S : Sc} {H H' : Hp} {CS x dh dm tb rl : Addr} {T : Tb} {v : V} {y : Dat} (a : StAt K (S.two tb rl) CS H x dh dm T) (f : Frw S dh dm tb rl H H') (q : y.seq = true) (r : Rp K (S.two tb rl) H v y) : Rp K (S.two tb rl) H' v y := by
  obtain ⟨dx, vt, mvs, h1, h2, h3, _, _⟩ := a.ex
  have kp : Kp (((S.two tb rl).but dh).but dm) H H' := fun b o n e => f b o n.1 (fun z => n.2 (by simp [Sc.but, z])) (fun z => n.2 (by simp [Sc.but, z])) (fun z => n.2 (by simp [Sc.but, Sc.two, z])) (fun z => n.2 (by simp [Sc.but, Sc.two, z])) e
  exact (((r.off h2 trivial q).off h3 trivial q).kp kp).unbut.unbut
end Sh
/-! the law's try -/
namespace Sh
open PySem PySem.Spec PyProof.Rows L2
section
variable {P : Program} {w : World} {K : PySem.W.Frag} {mg : Str → Option Value} {base : Heap} {aW aK : Addr} {f : Addr} {fd : FuncData} {CS CT CN : Addr}
theorem two_of {K : PySem.W.Frag} {S : Sc} {H : Hp} {tb rl : Addr} {T : Tb} {tr : List Row} (t : TbAt K S H tb rl T tr) (s : StOk S H) : StOk (S.two tb rl) H := by
  obtain ⟨vh, vp, vm, vs, h1, h2, _⟩ := t.ex
  exact ⟨s.st, fun a ha => by
    rcases List.mem_cons.mp ha with rfl | ha
    · exact ⟨_, h1⟩
    rcases List.mem_cons.mp ha with rfl | ha
    · exact ⟨_, h2⟩
    exact s.ex a ha, s.al, s.sub⟩
theorem StAt.atx {S : Sc} {H : Hp} {x dh dm p : Addr} {T : Tb} {o : HO} (hp : p ∈ S.ex) (a : StAt K S CS H x dh dm T) : StAt K S CS (upd H p o) x dh dm T := by
  obtain ⟨dx, vt, mvs, h1, h2, h3, r1, r2⟩ := a.ex
  have n1 : x ≠ p := fun z => a.nx.2 (z ▸ hp)
  have n2 : dh ≠ p := fun z => a.nh.2 (z ▸ hp)
  have n3 : dm ≠ p := fun z => a.nm.2 (z ▸ hp)
  have go : ∀ {vs : List (Key × V)} {ds : List (Key × Dat)}, Rpk K S H vs ds → Rpk K S (upd H p o) vs ds := fun {vs ds} r => by
    induction ds generalizing vs with
    | nil =>
      cases r
      exact .nil
    | cons d ds ih =>
      cases r with
      | cons a1 a2 => exact .cons (a1.at_ex hp) (ih a2)
  exact ⟨a.nx, a.nh, a.nm, a.ne, dx, vt, mvs, by rw [upd_ne n1]; exact h1, by rw [upd_ne n2]; exact h2, by rw [upd_ne n3]; exact h3, r1.at_ex hp, go r2⟩
/-- the table stays, the store changes -/
theorem TbAt.frm {S : Sc} {H H' : Hp} {x dh dm tb rl : Addr} {T T0 : Tb} {k : Str} {tr : List Row} (t : TbAt K S H tb rl T tr) (a : StAt K (S.two tb rl) CS H x dh dm T0) (h : TbOk T k) (hr : ∀ r ∈ tr, RowK T.cs r) (f : Frm (S.two tb rl) dh dm H H') : TbAt K S H' tb rl T tr := by
  obtain ⟨vh, vp, vm, vs, h1, h2, r1, r2, r3, r4⟩ := t.ex
  have ht := a.nh.2
  have hm := a.nm.2
  have n1 : tb ≠ dh := fun z => ht (by simp [Sc.two, Sc.but, z])
  have n2 : tb ≠ dm := fun z => hm (by simp [Sc.two, Sc.but, z])
  have n3 : rl ≠ dh := fun z => ht (by simp [Sc.two, Sc.but, z])
  have n4 : rl ≠ dm := fun z => hm (by simp [Sc.two, Sc.but, z])
  have go : ∀ {v : V} {y : Dat}, y.tups = true → y.seq = true → Rp K S H v y → Rp K S H' v y := fun q q2 r => ((r.two h1 h2 q).frm a f q2).unbut.unbut
  refine ⟨t.nt, t.nr, t.ne, vh, vp, vm, vs, f _ _ t.nt.1 n1 n2 h1, f _ _ t.nr.1 n3 n4 h2, go (headD_tups _) (headD_seq _) r1, go (plD_tups h.pl.cuts) (plD_seq h.pl.cuts) r2, go (mov_tups h) ?_ r3, ?_⟩
  · cases e : T.mv with
    | none => rfl
    | some y => exact h.mvseq y e
  · have r4 := r4.two h1 h2 (rowsD_tups hr)
    have go2 : ∀ {vs : List V} {ds : List Dat}, (∀ d ∈ ds, d.seq = true) → Rps K (S.two tb rl) H vs ds → Rps K (S.two tb rl) H' vs ds := fun {vs ds} q r => by
      induction ds generalizing vs with
      | nil =>
        cases r
        exact .nil
      | cons d ds ih =>
        cases r with
        | cons a1 a2 => exact .cons (a1.frm a f (q d List.mem_cons_self)) (ih (fun e he => q e (List.mem_cons_of_mem _ he)) a2)
    exact (go2 (fun d hd => by
      obtain ⟨r, hr', rfl⟩ := List.mem_map.mp hd
      exact row_seq (hr r hr')) r4).unbut.unbut
/-- a list that no one else holds is written -/
theorem Rp.wrL {S : Sc} {H : Hp} {p : Addr} {us : List V} {o : HO} {v : V} {y : Dat} (hd : H p = some (.lst us)) (q : y.tups = true) (r : Rp K S H v y) : Rp K S (upd H p o) v y := ((r.offL hd q).at_ex List.mem_cons_self).unbut
theorem Rps.wrL {S : Sc} {H : Hp} {p : Addr} {us : List V} {o : HO} {v : List V} {y : List Dat} (hd : H p = some (.lst us)) (q : tupss y = true) (r : Rps K S H v y) : Rps K S (upd H p o) v y := ((r.offL hd q).at_ex List.mem_cons_self).unbut
theorem StOk.wr {S : Sc} {H : Hp} {p : Addr} {o : HO} (s : StOk S H) (h : S.no p) : StOk S (upd H p o) := s.put fun z => h.1 (s.sub p z)
theorem Frw.wr {S : Sc} {dh dm tb rl p : Addr} {H H' : Hp} {o : HO} (f : Frw S dh dm tb rl H H') (h : p = tb ∨ p = rl) : Frw S dh dm tb rl H (upd H' p o) := fun a u n1 n2 n3 n4 n5 e => by
  rw [upd_ne (fun z => by rcases h with rfl | rfl; exact n4 z; exact n5 z)]
  exact f a u n1 n2 n3 n4 n5 e
/-- the table's placing and move are written -/
theorem TbAt.sets {S : Sc} {H : Hp} {tb rl : Addr} {T : Tb} {tr : List Row} (t : TbAt K S H tb rl T tr) (hr : ∀ r ∈ tr, RowK T.cs r) : ∃ vh vp vm, H tb = some (.lst [vh, vp, .ref rl, vm]) ∧ Rp K S H vp (plD T.n T.h0 T.rest) ∧ Rp K S H vm (movD T.mv) ∧
    ∀ (vp' vm' : V) (T' : Tb), T'.cs = T.cs → (plD T'.n T'.h0 T'.rest).tups = true → (movD T'.mv).tups = true → Rp K S H vp' (plD T'.n T'.h0 T'.rest) → Rp K S H vm' (movD T'.mv) → TbAt K S (upd H tb (.lst [vh, vp', .ref rl, vm'])) tb rl T' tr := by
  obtain ⟨vh, vp, vm, vs, h1, h2, r1, r2, r3, r4⟩ := t.ex
  refine ⟨vh, vp, vm, h1, r2, r3, fun vp' vm' T' ec q1 q2 rp rm => ⟨t.nt, t.nr, t.ne, vh, vp', vm', vs, upd_same, by rw [upd_ne t.ne.symm]; exact h2, ?_, rp.wrL h1 q1, rm.wrL h1 q2, r4.wrL h1 (rowsD_tups hr)⟩⟩
  rw [ec]
  exact Rp.wrL h1 (headD_tups _) r1
/-- the rows are written -/
theorem TbAt.setr {S : Sc} {H : Hp} {tb rl : Addr} {T : Tb} {k : Str} {tr : List Row} (t : TbAt K S H tb rl T tr) (h : LawOk T k tr) : ∃ vs, H rl = some (.lst vs) ∧ Rps K S H vs (rowsD tr) ∧
    ∀ (vs' : List V) (tr' : List Row), (∀ r ∈ tr', RowK T.cs r) → Rps K S H vs' (rowsD tr') → TbAt K S (upd H rl (.lst vs')) tb rl T tr' := by
  obtain ⟨vh, vp, vm, vs, h1, h2, r1, r2, r3, r4⟩ := t.ex
  exact ⟨vs, h2, r4, fun vs' tr' hr rr => ⟨t.nt, t.nr, t.ne, vh, vp, vm, vs', by rw [upd_ne t.ne]; exact h1, upd_same, Rp.wrL h2 (headD_tups _) r1, r2.wrL h2 (plD_tups h.pl.cuts), r3.wrL h2 (mov_tups h.toTbOk), rr.wrL h2 (rowsD_tups hr)⟩⟩
theorem in_two {S : Sc} {tb rl : Addr} : tb ∈ (S.two tb rl).ex ∧ rl ∈ (S.two tb rl).ex := ⟨List.mem_cons_self, List.mem_cons_of_mem _ List.mem_cons_self⟩
/-- the law's try, its end -/
theorem try_tail {S : Sc} {D : Ends} {σ : L2.St} {H : Hp} {tb rl x dh dm : Addr} {T T2 : Tb} {tr : List Row} {num hs a : Int} {b : Cuts} {mk : Dat} {te1 te2 te3 : TE} (e : EnvR K S H σ [none, some (.str T.name), some (T.law tr), some (.str "done"), some (.int num), some (.int hs), some mk, none]) (s : StOk S H) (g2 : σ[2]? = some (some (.ref tb)))
    (h1 : Ev K S te1 [none, some (.str T.name), some (T.law tr), some (.str "done"), some (.int num), some (.int hs), some mk, none] (Eq (.tup (cutsD T.h0 T.rest))))
    (h2 : Ev K S te2 [none, some (.str T.name), some (T.law tr), some (.str "done"), some (.int num), some (.int hs), some mk, some (.tup (cutsD T.h0 T.rest))] (Eq (.tup (cutsD a b))))
    (h3 : Ev K S te3 [none, some (.str T.name), some (T.law tr), some (.str "done"), some (.int num), some (.int hs), some mk, some (.tup (cutsD a b))] (Eq (plD T.n a b)))
    (sa : StAt K (S.two tb rl) CS H x dh dm T2) (ta : TbAt K S H tb rl T tr) (hr : ∀ r ∈ tr, RowK T.cs r) (hc : (plD T.n a b).tups = true) (hmv : (movD T.mv).tups = true)
    (q : ∀ σ' H', Frw S dh dm tb rl H H' → StOk S H' → StAt K (S.two tb rl) CS H' x dh dm T2 → TbAt K S H' tb rl { T with h0 := a, rest := b, mv := none } tr → D.nx σ' H') :
    tSeq (tAsg te1 (gName 7)) (tSeq (tAsg te2 (gName 7)) (tSeq (tAsg te3 (gSub (tVar 2) (tC (.int 1)) rSetL)) (tAsg (tC .non) (gSub (tVar 2) (tC (.int 3)) rSetL)))) D σ H := by
  refine go_asg (h1 σ H e s _ fun v1 H1 d1 f1 s1 p1 r1 => ?_)
  subst p1
  have e1 := (e.mono f1).set (i := 7) r1
  have g2 : (σ.set 7 (some v1))[2]? = some (some (.ref tb)) := (List.getElem?_set_ne (by decide)).trans g2
  show tSeq _ _ _ (σ.set 7 (some v1)) H1
  generalize σ.set 7 (some v1) = σ1 at e1 g2 ⊢
  refine go_asg (h2 σ1 H1 e1 s1 _ fun v2 H2 d2 f2 s2 p2 r2 => ?_)
  subst p2
  have e2 := (e1.mono f2).set (i := 7) r2
  have g2 : (σ1.set 7 (some v2))[2]? = some (some (.ref tb)) := (List.getElem?_set_ne (by decide)).trans g2
  show tSeq _ _ _ (σ1.set 7 (some v2)) H2
  generalize σ1.set 7 (some v2) = σ2 at e2 g2 ⊢
  refine go_asg (h3 σ2 H2 e2 s2 _ fun v3 H3 d3 f3 s3 p3 r3 => ?_)
  subst p3
  have f03 := (f1.trans f2).trans f3
  have ta3 := ta.mono f03
  have sa3 := sa.mono (f03.to (T := S.two tb rl) rfl)
  obtain ⟨vh, vp, vm, k1, k2, k3, k4⟩ := ta3.sets hr
  have ta4 := k4 v3 vm { T with h0 := a, rest := b } rfl hc hmv r3 k3
  have s4 := s3.wr (o := .lst [vh, v3, .ref rl, vm]) ta.nt
  have sa4 := sa3.atx (o := .lst [vh, v3, .ref rl, vm]) in_two.1
  refine ⟨.ref tb, g2, tb, _, 1, 1, rfl, rfl, k1, rfl, ?_⟩
  show tAsg _ _ _ σ2 (upd H3 tb (.lst [vh, v3, .ref rl, vm]))
  obtain ⟨wh, wp, wm, l1, l2, l3, l4⟩ := ta4.sets hr
  rw [upd_same] at l1
  cases l1
  refine ⟨.ref tb, g2, tb, _, 3, 3, rfl, rfl, upd_same, rfl, ?_⟩
  exact q σ2 _ (((Frw.of f03).wr (.inl rfl)).wr (.inl rfl)) (s4.wr ta.nt) (sa4.atx in_two.1) (l4 _ .non { T with h0 := a, rest := b, mv := none } rfl hc rfl l2 .non)
end
end Sh
/-! the law's try, its body -/
namespace Sh
open PySem PySem.Spec PyProof.Rows L2
structure Lt (P : Program) (w : World) (K : PySem.W.Frag) (mg : Str → Option Value) (base : Heap) (CS : Addr) : Prop where
  law_above : Cl P w K mg base "_law_above" 3 ["_law_table"] (SpD K pre_law_above post_law_above)
  law_settled : Cl P w K mg base "_law_settled" 8 ["_law_store", "_law_name"] (spSettled K CS)
section
variable {P : Program} {w : World} {K : PySem.W.Frag} {mg : Str → Option Value} {base : Heap} {aW aK : Addr} {f : Addr} {fd : FuncData} {CS CT CN : Addr}
def spTry (K : PySem.W.Frag) (CS : Addr) : Sp := fun vs H Q _ => ∃ (S : Sc) (T : Tb) (k : Str) (tr : List Row) (x dh dm tb rl : Addr) (y : Int × Int × Option Row), vs = [.ref x, .str T.name, .ref tb] ∧ StOk S H ∧ LawOk T k tr ∧ StAt K (S.two tb rl) CS H x dh dm T ∧ TbAt K S H tb rl T tr ∧ T.mv = some y ∧
  (T.above y ≠ [] → ∀ H', Fr S H H' → StOk S H' → Q (.bl true) H') ∧
  (T.above y = [] → ∀ H', Frw S dh dm tb rl H H' → StOk S H' → StAt K (S.two tb rl) CS H' x dh dm (T.settled y) → TbAt K S H' tb rl (T.settled y) tr → Q (.bl true) H')
/-- _law_try -/
abbrev s_law_try : Stmt := top 62
theorem sc_law_try : FnScope ["_law_store", "_law_name", "_law_table", "_law_due", "_law_number", "_law_house", "_law_mark", "_law_cuts"] ["_law_store", "_law_name", "_law_table"] (defScope s_law_try) := ⟨rfl, rfl, rfl, by decide +kernel, rfl, by decide +kernel, by decide +kernel⟩
theorem ok_law_try (F : Fun K "_law_try" "_law_try" s_law_try f fd) (X : Txt K mg aW aK) (L : Lt P w K mg base CS) : FnOk P w K mg base CX0 9 f fd ["_law_store", "_law_name", "_law_table"] (spTry K CS) := by
  refine F.ok sc_law_try (fun vs H Q E h => by obtain ⟨S, T, k, tr, x, dh, dm, tb, rl, y, rfl, h⟩ := h; rfl) fun cdv A outer s H vs Q E hr h => ?_
  have nd := sc_law_try.nd
  have hu := hr.units
  have hu0 := hr.units0
  have hu1 := hu_of hr
  have hu65 := u65 hr
  refine ⟨_, (pss_cons (ps_set (i := 3) nd rfl (by first | exact Or.inl rfl | exact Or.inr rfl) (pe_ix (r := rIx K) ix_seq (pe_lst (pa_cons pe_str (pa_cons pe_str pa_nil))) (pe_int1 X.b (pe_cmpR (r := rNeD K) (op_neD hu) (pe_fn L.law_above (hr.mono (by decide)) (pa_cons (pv 2) pa_nil)) (pe_lst pa_nil) (nomark _))) (fun _ _ => rfl)))
      (pss_cons (ps_if (pt_cmpR (r := rNeD K) (op_neD hu) (pe_fn L.law_settled (hr.mono (by decide)) (pa_cons (pv 0) (pa_cons (pv 1) pa_nil))) (pv 3) (nomark _)) (pss_one (ps_ret pe_bl)) pss_nil)
      (pss_cons (ps_if (pt_cmpR (r := rEqD K) (op_eqD hu) (pv 3) pe_str (nomark _)) (pss_cons (ps_asg (pe_ix (r := rIx K) ix_seq (pv 2) pe_int (fun _ _ => rfl)) (pg_tup rfl (pgs_cons (pg_name (i := 4) nd rfl (by first | exact Or.inl rfl | exact Or.inr rfl)) (pgs_cons (pg_name (i := 5) nd rfl (by first | exact Or.inl rfl | exact Or.inr rfl)) (pgs_cons (pg_name (i := 6) nd rfl (by first | exact Or.inl rfl | exact Or.inr rfl)) pgs_nil)))))
      (pss_cons (ps_set (i := 7) nd rfl (by first | exact Or.inl rfl | exact Or.inr rfl) (pe_ix (r := rIx K) ix_seq (pe_ix (r := rIx K) ix_seq (pv 2) pe_int (fun _ _ => rfl)) pe_int (fun _ _ => rfl)))
      (pss_cons (ps_set (i := 7) nd rfl (by first | exact Or.inl rfl | exact Or.inr rfl) (pe_op (r := rCatA K) op_catA (pe_op (r := rCatA K) op_catA (pe_slice sl_tupA (pv 7) po_none (po_some (pv 4))) (pe_tup (pa_cons (pe_tup (pa_cons (pe_ix (r := rIx K) ix_seq (pe_ix (r := rIx K) ix_seq (pv 7) (pv 4) (fun _ _ => rfl)) pe_int (fun _ _ => rfl)) (pa_cons (pv 5) pa_nil))) pa_nil))) (pe_slice sl_tupA (pv 7) (po_some (pe_op op_addI (pv 4) pe_int)) po_none)))
      (pss_cons (ps_asg (pe_tup (pa_cons pe_str (pa_cons (pe_ix (r := rIx K) ix_seq (pe_ix (r := rIx K) ix_seq (pv 2) pe_int (fun _ _ => rfl)) pe_int (fun _ _ => rfl)) (pa_cons (pv 7) pa_nil)))) (pg_sub (pv 2) pe_int set_list))
      (pss_one (ps_asg pe_non (pg_sub (pv 2) pe_int set_list))))))) pss_nil)
      (pss_one (ps_ret pe_bl))))), ?_⟩
  obtain ⟨S, T, k, tr, x, dh, dm, tb, rl, ⟨num, hs, mark⟩, rfl, s0, h, sa, ta, hm, q1, q2⟩ := h
  have mo := h.mv _ hm
  have hab := above_ok h.toTbOk (num, hs, mark)
  have e0 : EnvR K S H (start ["_law_store", "_law_name", "_law_table", "_law_due", "_law_number", "_law_house", "_law_mark", "_law_cuts"] [.ref x, .str T.name, .ref tb]) [none, some (.str T.name), some (T.law tr), none, none, none, none, none] := .consN (.consS (.str _) (.consS ta.rp (.consN (.consN (.consN (.consN (.consN .nil)))))))
  have eL : ∀ {S : Sc} {a b c d e f g : Option Dat}, Ev K S (tVar 2) [a, b, some (T.law tr), c, d, e, f, g] (Eq (.lst [.hd (headD T.cs), plD T.n T.h0 T.rest, .lst (rowsD tr), movD T.mv])) := ev_var rfl
  have two := EqN.str (x := "not yet") (n := 0) (by decide +kernel)
  have one := EqN.str (x := "done") (n := 0) (by decide +kernel)
  have hdue : Ev K S (tOp (rIx K) (tLst (tCons (tC (.str "done")) (tCons (tC (.str "not yet")) tNil))) (tCB (fun xs H Q => (∃ i, xs = [.int i] ∧ Q (.int i) H) ∨ ∃ k, xs = [.bl k] ∧ Q (.int (if k then 1 else 0)) H) (tCons (tOp (rNeD K) (tCall (SpD K pre_law_above post_law_above) [] E0 (tCons (tVar 2) tNil)) (tLst tNil)) tNil))) [none, some (.str T.name), some (T.law tr), none, none, none, none, none] (Eq (.str (if T.above (num, hs, mark) = [] then "done" else "not yet"))) := by
    have hb := ev_int1 (ev_ne (S := S) (ρ := [none, some (.str T.name), some (T.law tr), none, none, none, none, none]) (rows_eqn (n := 1) hab).eqd (EqN.lst (n := 1) fun d hd => by cases hd).eqd (ev_callD (E := E0) (pre := pre_law_above) (post := post_law_above) (ea_consD (ev_var (i := 2) (d := T.law tr) rfl) ea_nil) ⟨T, k, tr, _, rfl, h, hm⟩ fun d q => (q T tr _ rfl h.same hm).symm) (ev_lstD (K := K) (S := S) ea_nil (Nat.zero_le _)))
    by_cases c : T.above (num, hs, mark) = []
    · rw [if_pos c]
      rw [c] at hb
      have z : deq (.lst (rowsD [])) (.lst []) = true := deq_self
      rw [z] at hb
      exact ev_ixL (xs := [.str "done", .str "not yet"]) (i := 0) rfl (ev_lstD (ea_consD ev_str (ea_consD ev_str ea_nil)) (by decide)) hb
    · rw [if_neg c]
      have z : deq (.lst (rowsD (T.above (num, hs, mark)))) (.lst []) = false := by
        rw [Bool.eq_false_iff, Ne, deq_iff]
        intro z
        injection z with z
        exact c (List.map_eq_nil_iff.mp z)
      rw [z] at hb
      exact ev_ixL (xs := [.str "done", .str "not yet"]) (i := 1) rfl (ev_lstD (ea_consD ev_str (ea_consD ev_str ea_nil)) (by decide)) hb
  refine go_asg (hdue _ H e0 s0 _ fun v1 H1 d1 f1 s1 p1 r1 => ?_)
  subst p1
  cases r1
  have f1' : Fr (S.two tb rl) H H1 := f1.to rfl
  have sa1 := sa.mono f1'
  have ta1 := ta.mono f1
  obtain ⟨dx, vt, mvs, u1, u2, u3, _, _⟩ := sa1.ex
  refine ⟨.ref x, rfl, .str T.name, rfl, S.two tb rl, T, k, x, dh, dm, _, rfl, two_of ta1 s1, sa1, h.toTbOk, hm, fun hn H2 f2 s2 => ?_, fun hn H2 f2 s2 sa2 => ?_⟩
  · have f2' : Fr S H1 H2 := f2.to rfl
    have sS : StOk S H2 := s2.unbut.unbut
    refine ⟨.str (if T.above (num, hs, mark) = [] then "done" else "not yet"), rfl, ?_⟩
    rw [if_neg hn]
    refine (rv_neD (K := K) (S := S) two.eqd two.eqd) _ _ H2 (.str _) (.str _) sS _ fun z H3 d3 f3 s3 p3 r3 => ?_
    subst p3
    cases r3
    rw [deq_self]
    refine ⟨_, rfl, ?_⟩
    dsimp only
    rw [if_neg (show ¬ ((!true) = true) by decide)]
    have e3 : EnvR K S H3 ((start ["_law_store", "_law_name", "_law_table", "_law_due", "_law_number", "_law_house", "_law_mark", "_law_cuts"] [.ref x, .str T.name, .ref tb]).set 3 (some (.str "not yet"))) [none, some (.str T.name), some (T.law tr), some (.str "not yet"), none, none, none, none] := .consN (.consS (.str _) (.consS ((ta1.mono f2').mono f3).rp (.consS (.str _) (.consN (.consN (.consN (.consN .nil)))))))
    refine go_next ?_
    dsimp only
    refine go_skip (b := false) ((et_testD (ev_eq two.eqd one.eqd (ev_var (i := 3) (d := .str "not yet") rfl) ev_str)).is ?_) rfl e3 s3 fun H4 f4 s4 => ?_
    · rw [Bool.eq_false_iff, Ne, deq_iff]
      intro z
      injection z with z
      revert z
      decide +kernel
    · exact q1 hn H4 (((f1.trans f2').trans f3).trans f4) s4
  · have sS : StOk S H2 := s2.unbut.unbut
    have ta2 := ta1.frm sa1 h.toTbOk h.trow.each f2
    refine ⟨.str (if T.above (num, hs, mark) = [] then "done" else "not yet"), rfl, ?_⟩
    rw [if_pos hn]
    refine (rv_neD (K := K) (S := S) one.eqd one.eqd) _ _ H2 (.str _) (.str _) sS _ fun z H3 d3 f3 s3 p3 r3 => ?_
    subst p3
    cases r3
    rw [deq_self]
    refine ⟨_, rfl, ?_⟩
    dsimp only
    rw [if_neg (show ¬ ((!true) = true) by decide)]
    have ta3 := ta2.mono f3
    have sa3 := sa2.mono (f3.to (T := S.two tb rl) rfl)
    have e3 : EnvR K S H3 ((start ["_law_store", "_law_name", "_law_table", "_law_due", "_law_number", "_law_house", "_law_mark", "_law_cuts"] [.ref x, .str T.name, .ref tb]).set 3 (some (.str "done"))) [none, some (.str T.name), some (T.law tr), some (.str "done"), none, none, none, none] := .consN (.consS (.str _) (.consS ta3.rp (.consS (.str _) (.consN (.consN (.consN (.consN .nil)))))))
    refine go_next ?_
    dsimp only
    refine go_if ((et_testD (ev_eq one.eqd one.eqd (ev_var (i := 3) (d := .str "done") rfl) ev_str)).is deq_self) e3 s3 (fun H4 f4 s4 _ => ?_) fun H4 f4 s4 z => by cases z
    refine go_asg ((ev_ixL (xs := [.hd (headD T.cs), plD T.n T.h0 T.rest, .lst (rowsD tr), movD T.mv]) (i := 3) (x := moveD (num, hs, mark)) (by rw [hm]; rfl) eL ev_int) _ H4 (e3.mono f4) s4 _ fun v5 H5 d5 f5 s5 p5 r5 => ?_)
    subst p5
    refine g_three v5 _ H5 r5 ((e3.mono f4).mono f5) _ fun σ2 e5 ag => ?_
    have g2 : σ2[2]? = some (some (.ref tb)) := (ag.2 2 (by decide)).trans rfl
    have et : T.settled (num, hs, mark) = { T with h0 := (setHouse T num hs).h0, rest := (setHouse T num hs).rest, mv := none } := by
      unfold Tb.settled setHouse
      split <;> rfl
    have hP : ∀ {S : Sc} {a b c d e f g : Option Dat}, Ev K S (tOp (rIx K) (tVar 2) (tC (.int 1))) [a, b, some (T.law tr), c, d, e, f, g] (Eq (.tup [.str "spans", .str T.n, .tup (cutsD T.h0 T.rest)])) := ev_ixL rfl eL ev_int
    obtain ⟨z, hz⟩ := cut_at (h0 := T.h0) (rest := T.rest) (i := num.toNat) (by have := mo.num; omega)
    have hz' : atI (cutsD T.h0 T.rest) num = some (.tup [z, .int (T.cutHouse num)]) := by
      have := atI_nat hz
      rw [show ((num.toNat : Nat) : Int) = num by have := mo.num; omega] at this
      exact this
    have hl : (cutsD T.h0 T.rest).length ≤ 8 := by
      rw [cuts_len]
      have := h.pl.cuts.most
      omega
    have l1 : (cutD (cutsD T.h0 T.rest) none (some num)).length ≤ 8 := by
      unfold cutD
      rw [List.length_take, List.length_drop]
      omega
    have l2 : (cutD (cutsD T.h0 T.rest) (some (num + 1)) none).length ≤ 8 := by
      unfold cutD
      rw [List.length_take, List.length_drop]
      omega
    have ec : ∀ {S : Sc}, Ev K S (tVar 7) [none, some (.str T.name), some (T.law tr), some (.str "done"), some (.int num), some (.int hs), some (markD mark), some (.tup (cutsD T.h0 T.rest))] (Eq (.tup (cutsD T.h0 T.rest))) := ev_var rfl
    have en : ∀ {S : Sc}, Ev K S (tVar 4) [none, some (.str T.name), some (T.law tr), some (.str "done"), some (.int num), some (.int hs), some (markD mark), some (.tup (cutsD T.h0 T.rest))] (Eq (.int num)) := ev_var rfl
    have ev := ev_catT (K := K) (S := S) (ρ := [none, some (.str T.name), some (T.law tr), some (.str "done"), some (.int num), some (.int hs), some (markD mark), some (.tup (cutsD T.h0 T.rest))]) (by rw [List.length_append]; exact Nat.le_trans (Nat.add_le_add (Nat.add_le_add l1 (Nat.le_refl 1)) l2) (by decide)) (ev_catT (Nat.le_trans (Nat.add_le_add l1 (Nat.le_refl 1)) (by decide)) (ev_slT ec eo_none (eo_some en)) (ev_tupD (ds := [.tup [z, .int hs]]) (ea_consD (ev_tupD (ea_consD (ev_ixT (xs := [z, .int (T.cutHouse num)]) (i := 0) (x := z) rfl (ev_ixT hz' ec en) ev_int) (ea_consD (ev_var (i := 5) (d := .int hs) rfl) ea_nil)) (show 2 ≤ sizeLine by decide)) ea_nil) (show 1 ≤ sizeLine by decide))) (ev_slT ec (eo_some (ev_add (j := 1) en ev_int)) eo_none)
    rw [cut_take mo.num.1, cut_drop (by have := mo.num; omega), show (num + 1).toNat = num.toNat + 1 by have := mo.num; omega, setHouse_cuts mo.num hz] at ev
    refine try_tail (x := x) (dh := dh) (dm := dm) (a := (setHouse T num hs).h0) (b := (setHouse T num hs).rest) (T2 := T.settled (num, hs, mark)) e5 s5 g2 (ev_ixT (xs := [.str "spans", .str T.n, .tup (cutsD T.h0 T.rest)]) rfl hP ev_int) ev
      (ev_tupD (ds := [.str "spans", .str T.n, .tup (cutsD (setHouse T num hs).h0 (setHouse T num hs).rest)]) (ea_consD ev_str (ea_consD (ev_ixT (xs := [.str "spans", .str T.n, .tup (cutsD T.h0 T.rest)]) rfl hP ev_int) (ea_consD (ev_var (i := 7) rfl) ea_nil))) (show 3 ≤ sizeLine by decide))
      ((sa3.mono (f4.to (T := S.two tb rl) rfl)).mono (f5.to (T := S.two tb rl) rfl)) ((ta3.mono f4).mono f5) h.trow.each (plD_tups (setHouse_ok h.pl.cuts mo.house)) (mov_tups h.toTbOk) fun σ' H' f s a t => ?_
    refine q2 hn H' (((((Frw.of f1).trans (Frw.ofM f2)).trans (Frw.of ((f3.trans f4).trans f5))).trans f)) s a ?_
    rw [et]
    exact t
end
end Sh
/-! what a change of the table keeps -/
namespace Sh
open PySem PySem.Spec PyProof.Rows L2
theorem LawOk.put {T : Tb} {k : Str} {tr : List Row} {r : Row} (h : LawOk T k tr) (hr : RowK T.cs r) (hl : tr.length < 60) : LawOk { T with rows := srtR (T.rows ++ [r]) } k (tr ++ [r]) := by
  have hp : T.rows.Perm tr := by
    rw [h.same]
    exact srtR_perm tr
  have hw : ∀ r' ∈ T.rows ++ [r], RowK T.cs r' := fun r' hr' => by
    rcases List.mem_append.mp hr' with z | z
    · exact h.rows.each r' z
    · rw [List.mem_singleton.mp z]
      exact hr
  refine ⟨⟨h.pl, ⟨fun r' hr' => hw r' ((srtR_perm _).mem_iff.mp hr'), ?_⟩, h.name, h.m, fun x e => ⟨(h.mv x e).num, (h.mv x e).house, (h.mv x e).mark⟩⟩, ?_⟩
  · show (srtR (T.rows ++ [r])).length ≤ 60
    rw [srtR_len, List.length_append, hp.length_eq]
    exact hl
  · exact srtR_one h.pl.head hw (hp.append_right [r])
theorem erase_perm {α : Type} : ∀ {l : List α} {j : Nat} {r : α}, l[j]? = some r → (r :: l.eraseIdx j).Perm l
  | [], _, _, h => by simp at h
  | a :: l, 0, r, h => by
    cases h
    exact List.Perm.refl _
  | a :: l, j + 1, r, h => by
    have ih := erase_perm (l := l) (j := j) (r := r) (by simpa using h)
    rw [List.eraseIdx_cons_succ]
    exact (List.Perm.swap a r _).trans (List.Perm.cons a ih)
theorem LawOk.drop {T : Tb} {k : Str} {tr : List Row} {r : Row} {i j : Nat} (h : LawOk T k tr) (hi : T.rows[i]? = some r) (hj : tr[j]? = some r) : LawOk { T with rows := T.rows.eraseIdx i } k (tr.eraseIdx j) := by
  have hp : T.rows.Perm tr := by
    rw [h.same]
    exact srtR_perm tr
  have sub : ∀ r' ∈ T.rows.eraseIdx i, RowK T.cs r' := fun r' hr' => h.rows.each r' (List.mem_of_mem_eraseIdx hr')
  have pm : (T.rows.eraseIdx i).Perm (tr.eraseIdx j) := (List.perm_cons r).mp ((erase_perm hi).trans (hp.trans (erase_perm hj).symm))
  refine ⟨⟨h.pl, ⟨sub, ?_⟩, h.name, h.m, fun x e => ⟨(h.mv x e).num, (h.mv x e).house, (h.mv x e).mark⟩⟩, ?_⟩
  · exact Nat.le_trans (List.Sublist.length_le (List.eraseIdx_sublist _ _)) h.rows.few
  · show T.rows.eraseIdx i = srtR (tr.eraseIdx j)
    have up : (T.rows.eraseIdx i).Pairwise fun x y => leR x y = true := by
      have z := srtR_sorted tr
      rw [← h.same] at z
      exact z.sublist (List.eraseIdx_sublist _ _)
    exact rows_one h.pl.head sub (pm.trans (srtR_perm _).symm) up (srtR_sorted _)
theorem LawOk.moved {T : Tb} {k : Str} {tr : List Row} {y : Int × Int × Option Row} (h : LawOk T k tr) (hn : 0 ≤ y.1 ∧ y.1 ≤ T.rest.length) (hh : 0 ≤ y.2.1 ∧ y.2.1 < T.m) (hm : ∀ r, y.2.2 = some r → RowK T.cs r) : LawOk { T with mv := some y } k tr :=
  ⟨⟨h.pl, h.rows, h.name, h.m, fun x e => by
    cases e
    exact ⟨hn, hh, hm⟩⟩, h.same⟩
theorem LawOk.carried {T : Tb} {k : Str} {tr : List Row} {y : Int × Int × Option Row} {many : Int} (h : LawOk T k tr) (hm : T.mv = some y) : LawOk (T.carried y many) k tr := by
  have mo := h.mv y hm
  unfold Tb.carried
  split
  · exact h
  · rename_i r hr
    refine h.moved mo.num mo.house fun r' e => ?_
    cases e
    exact (got_ok h.toTbOk y many).each r (List.mem_of_getLast? hr)
theorem LawOk.settled {T : Tb} {k : Str} {tr : List Row} {y : Int × Int × Option Row} (h : LawOk T k tr) (hm : T.mv = some y) : LawOk (T.settled y) k tr := by
  have mo := h.mv y hm
  have et : T.settled y = { T with h0 := (setHouse T y.1 y.2.1).h0, rest := (setHouse T y.1 y.2.1).rest, mv := none } := by
    unfold Tb.settled setHouse
    split <;> rfl
  rw [et]
  exact ⟨⟨⟨h.pl.head, h.pl.mem, setHouse_ok h.pl.cuts mo.house⟩, h.rows, h.name, h.m, fun x e => by cases e⟩, h.same⟩
theorem settled_same {T : Tb} {y : Int × Int × Option Row} : (T.settled y).name = T.name ∧ (T.settled y).m = T.m := by
  unfold Tb.settled setHouse
  split <;> exact ⟨rfl, rfl⟩
theorem carried_same {T : Tb} {y : Int × Int × Option Row} {many : Int} : (T.carried y many).name = T.name ∧ (T.carried y many).m = T.m := by
  unfold Tb.carried
  split <;> exact ⟨rfl, rfl⟩
end Sh
/-! the law's change of the table -/
namespace Sh
open PySem PySem.Spec PyProof.Rows L2
structure Lch (P : Program) (w : World) (K : PySem.W.Frag) (mg : Str → Option Value) (base : Heap) : Prop where
  law_next : NxD P w K mg base
  law_row : Cl P w K mg base "_law_row" 4 ["_law_state", "_law_head_here"] (SpD K pre_law_row post_law_row)
section
variable {P : Program} {w : World} {K : PySem.W.Frag} {mg : Str → Option Value} {base : Heap} {aW aK : Addr} {f : Addr} {fd : FuncData} {CS CT CN : Addr}
theorem et_andP {S : Sc} {ρ : Rho} {t u : TT} {a : Bool} {R : Bool → Prop} (h1 : EvT K S t ρ (Eq a)) (h2 : a = true → EvT K S u ρ R) : EvT K S (tAnd t u) ρ (fun c => c = true → a = true) := fun σ H e s Q q => h1 σ H e s _ fun c H1 f1 s1 hc => by
  subst hc
  cases a with
  | true =>
    show u σ H1 Q
    exact h2 rfl σ H1 (e.mono f1) s1 Q fun c H2 f2 s2 hc => q c H2 (f1.trans f2) s2 fun _ => rfl
  | false =>
    show Q false H1
    exact q false H1 f1 s1 fun z => z
theorem TbAt.rows_at {S : Sc} {H : Hp} {tb rl : Addr} {T T' : Tb} {tr : List Row} (t : TbAt K S H tb rl T tr) (e1 : T'.cs = T.cs) (e2 : T'.n = T.n) (e3 : T'.h0 = T.h0) (e4 : T'.rest = T.rest) (e5 : T'.mv = T.mv) : TbAt K S H tb rl T' tr := by
  obtain ⟨vh, vp, vm, vs, h1, h2, r1, r2, r3, r4⟩ := t.ex
  exact ⟨t.nt, t.nr, t.ne, vh, vp, vm, vs, h1, h2, by rw [e1]; exact r1, by rw [e2, e3, e4]; exact r2, by rw [e5]; exact r3, r4⟩
def spChanged (K : PySem.W.Frag) (CS : Addr) : Sp := fun vs H Q _ => ∃ (S : Sc) (T : Tb) (k : Str) (tr : List Row) (a x dh dm tb rl : Addr), vs = [.ref a, .ref x, .str T.name, .ref tb] ∧ StOk S H ∧ a ∈ S.rn ∧ LawOk T k tr ∧ StAt K (S.two tb rl) CS H x dh dm T ∧ TbAt K S H tb rl T tr ∧ tr.length < 60 ∧
  ∀ (T' : Tb) (tr' : List Row) (H' : Hp), LawOk T' k tr' → T'.name = T.name → T'.m = T.m → T'.mv = T.mv → tr'.length ≤ tr.length + 1 → Frw S dh dm tb rl H H' → StOk S H' → StAt K (S.two tb rl) CS H' x dh dm T' → TbAt K S H' tb rl T' tr' → Q .non H'
theorem bm_list {σ : L2.St} {H : Hp} {Q : VK} {i : Nat} {tb rl : Addr} {T : Tb} {tr : List Row} {S : Sc} {r : V → List V → Hp → VK → Prop} {t : TA} (ta : TbAt K S H tb rl T tr) (g : σ[i]? = some (some (.ref tb))) (h : t σ H fun xs H2 => r (.ref rl) xs H2 Q) : tBM K "list" r (tOp (rIx K) (tVar i) (tC (.int 2))) t σ H Q := by
  obtain ⟨vh, vp, vm, vs, h1, h2, _⟩ := ta.ex
  exact ⟨.ref tb, g, .inl ⟨tb, _, 2, .ref rl, rfl, rfl, .of h1, rfl, .inl ⟨rfl, _, .of h2⟩, h⟩⟩
/-- _law_changed -/
abbrev s_law_changed : Stmt := top 63
theorem sc_law_changed : FnScope ["_law_state", "_law_store", "_law_name", "_law_table", "_law_row_here"] ["_law_state", "_law_store", "_law_name", "_law_table"] (defScope s_law_changed) := ⟨rfl, rfl, rfl, by decide +kernel, rfl, by decide +kernel, by decide +kernel⟩
theorem ok_law_changed (F : Fun K "_law_changed" "_law_changed" s_law_changed f fd) (X : Txt K mg aW aK) (L : Lch P w K mg base) (m_Store_put : Ml P w K mg base CS "put" 4 ["self", "name", "row"] (spPut K CS)) (m_Store_drop : Ml P w K mg base CS "drop" 4 ["self", "name", "row"] (spDrop K CS)) : FnOk P w K mg base CX0 5 f fd ["_law_state", "_law_store", "_law_name", "_law_table"] (spChanged K CS) := by
  refine F.ok sc_law_changed (fun vs H Q E h => by obtain ⟨S, T, k, tr, a, x, dh, dm, tb, rl, rfl, h⟩ := h; rfl) fun cdv A outer s H vs Q E hr h => ?_
  have nd := sc_law_changed.nd
  have hu := hr.units
  have hu0 := hr.units0
  have hu1 := hu_of hr
  have hu65 := u65 hr
  refine ⟨_, (pss_cons (ps_set (i := 4) nd rfl (by first | exact Or.inl rfl | exact Or.inr rfl) (pe_fn L.law_row (hr.mono (by decide)) (pa_cons (pv 0) (pa_cons (pe_ix (r := rIx K) ix_seq (pv 3) pe_int (fun _ _ => rfl)) pa_nil))))
      (pss_one (ps_if (PW.pt (pw_and (pt_cmpR (r := rNeD K) (op_neD hu) (pe_ix (r := rIx K) ix_seq (pv 3) pe_int (fun _ _ => rfl)) (pe_lst pa_nil) (nomark _)) (pw_and1 (pt_cmpR (r := rEqD K) (op_eqD hu) (pe_fn L.law_next (hr.mono (by decide)) (pa_cons (pv 0) (pa_cons pe_int pa_nil))) pe_int (nomark _))))) (pss_cons (ps_set (i := 4) nd rfl (by first | exact Or.inl rfl | exact Or.inr rfl) (pe_bm PySem.F.plainAttrs_list PySem.F.slot_list_pop PySem.F.type_list_pop mt_popAt (pe_ix (r := rIx K) ix_seq (pv 3) pe_int (fun _ _ => rfl)) (pa_cons (pe_fn L.law_next (hr.mono (by decide)) (pa_cons (pv 0) (pa_cons (pe_len X.b (pe_ix (r := rIx K) ix_seq (pv 3) pe_int (fun _ _ => rfl))) pa_nil))) pa_nil)))
      (pss_one (ps_expr (pe_mt m_Store_drop (hr.mono (by decide)) (pv 1) (pa_cons (pv 2) (pa_cons (pv 4) pa_nil)))))) (pss_cons (ps_expr (pe_bm PySem.F.plainAttrs_list PySem.F.slot_list_append PySem.F.type_list_append mt_append (pe_ix (r := rIx K) ix_seq (pv 3) pe_int (fun _ _ => rfl)) (pa_cons (pv 4) pa_nil)))
      (pss_one (ps_expr (pe_mt m_Store_put (hr.mono (by decide)) (pv 1) (pa_cons (pv 2) (pa_cons (pv 4) pa_nil))))))))), ?_⟩
  obtain ⟨S, T, k, tr, a, x, dh, dm, tb, rl, rfl, s0, hs, h, sa, ta, hl, q⟩ := h
  have e0 : EnvR K S H (start ["_law_state", "_law_store", "_law_name", "_law_table", "_law_row_here"] [.ref a, .ref x, .str T.name, .ref tb]) [some (.raw (.ref a)), none, some (.str T.name), some (T.law tr), none] := .consS (.raw _) (.consN (.consS (.str _) (.consS ta.rp (.consN .nil))))
  have v0 : ∀ {S : Sc} {b c d e : Option Dat}, Ev K S (tVar 0) [some (.raw (.ref a)), b, c, d, e] (Eq (.raw (.ref a))) := ev_var rfl
  have eL : ∀ {S : Sc} {a b c e : Option Dat}, Ev K S (tVar 3) [a, b, c, some (T.law tr), e] (Eq (.lst [.hd (headD T.cs), plD T.n T.h0 T.rest, .lst (rowsD tr), movD T.mv])) := ev_var rfl
  have eR : ∀ {S : Sc} {a b c e : Option Dat}, Ev K S (tOp (rIx K) (tVar 3) (tC (.int 2))) [a, b, c, some (T.law tr), e] (Eq (.lst (rowsD tr))) := ev_ixL rfl eL ev_int
  have hrow : Ev K S (tCall (SpD K pre_law_row post_law_row) [] E0 (tCons (tVar 0) (tCons (tOp (rIx K) (tVar 3) (tC (.int 0))) tNil))) [some (.raw (.ref a)), none, some (.str T.name), some (T.law tr), none] (fun d => ∃ r, d = .tup r ∧ RowK T.cs r) := ev_callD (ea_consD v0 (ea_consD (x := .hd (headD T.cs)) (ev_ixL rfl eL ev_int) ea_nil)) ⟨a, T.cs, rfl, hs, h.pl.head⟩ fun d p => p _ _ rfl
  refine go_asg (hrow _ H e0 s0 _ fun v1 H1 d1 f1 s1 p1 r1 => ?_)
  obtain ⟨r0, rfl, hr0⟩ := p1
  have e1 : EnvR K S H1 ((start ["_law_state", "_law_store", "_law_name", "_law_table", "_law_row_here"] [.ref a, .ref x, .str T.name, .ref tb]).set 4 (some v1)) [some (.raw (.ref a)), none, some (.str T.name), some (T.law tr), some (.tup r0)] := (e0.mono f1).set (i := 4) r1
  have ta1 := ta.mono f1
  have sa1 := sa.mono (f1.to (T := S.two tb rl) rfl)
  have g1 : ((start ["_law_state", "_law_store", "_law_name", "_law_table", "_law_row_here"] [.ref a, .ref x, .str T.name, .ref tb]).set 4 (some v1))[1]? = some (some (.ref x)) := rfl
  have g2 : ((start ["_law_state", "_law_store", "_law_name", "_law_table", "_law_row_here"] [.ref a, .ref x, .str T.name, .ref tb]).set 4 (some v1))[2]? = some (some (.str T.name)) := rfl
  have g3 : ((start ["_law_state", "_law_store", "_law_name", "_law_table", "_law_row_here"] [.ref a, .ref x, .str T.name, .ref tb]).set 4 (some v1))[3]? = some (some (.ref tb)) := rfl
  have g4 : ((start ["_law_state", "_law_store", "_law_name", "_law_table", "_law_row_here"] [.ref a, .ref x, .str T.name, .ref tb]).set 4 (some v1))[4]? = some (some v1) := rfl
  show tIfS _ _ _ _ ((start ["_law_state", "_law_store", "_law_name", "_law_table", "_law_row_here"] [.ref a, .ref x, .str T.name, .ref tb]).set 4 (some v1)) H1
  generalize (start ["_law_state", "_law_store", "_law_name", "_law_table", "_law_row_here"] [.ref a, .ref x, .str T.name, .ref tb]).set 4 (some v1) = σ1 at e1 g1 g2 g3 g4 ⊢
  have htr := h.trow
  have rl0 : (rowsD tr).length = tr.length := List.length_map ..
  have hcond : EvT K S (tAnd (tTest (tOp (rNeD K) (tOp (rIx K) (tVar 3) (tC (.int 2))) (tLst tNil))) (tTest (tOp (rEqD K) (tCall (SpD K pre_law_next post_law_next) [] E0 (tCons (tVar 0) (tCons (tC (.int 2)) tNil))) (tC (.int 0))))) [some (.raw (.ref a)), none, some (.str T.name), some (T.law tr), some (.tup r0)] (fun c => c = true → (!deq (.lst (rowsD tr)) (.lst [])) = true) :=
    et_andP (R := fun _ => True) (et_testD (ev_ne (rows_eqn (n := 1) htr).eqd (EqN.lst (n := 1) fun d hd => by cases hd).eqd eR (ev_lstD ea_nil (Nat.zero_le _)))) fun _ => et_test ((ev_eqI (ev_nextI hs (by decide) v0 ev_int) (ev_intP (M := fun _ => True) trivial)).imp fun _ ⟨b, e⟩ => ⟨b, e, trivial⟩)
  refine hcond σ1 H1 e1 s1 _ fun c H2 f2 s2 hc => ?_
  have e2 := e1.mono f2
  have ta2 := ta1.mono f2
  have sa2 := sa1.mono (f2.to (T := S.two tb rl) rfl)
  have f12 := f1.trans f2
  cases c with
  | true =>
    have hne : tr ≠ [] := fun z => by
      have hc := hc rfl
      rw [z] at hc
      have w : deq (.lst (rowsD [])) (.lst []) = true := deq_self
      rw [w] at hc
      cases hc
    have hpos : 0 < tr.length := List.length_pos_iff.mpr hne
    refine iteT ?_
    have hj : EvA K S (tCons (tCall (SpD K pre_law_next post_law_next) [] E0 (tCons (tVar 0) (tCons (tCB (rLen K) (tCons (tOp (rIx K) (tVar 3) (tC (.int 2))) tNil)) tNil))) tNil) [some (.raw (.ref a)), none, some (.str T.name), some (T.law tr), some (.tup r0)] (fun ds => ∃ j : Int, ds = [.int j] ∧ 0 ≤ j ∧ j < tr.length) :=
      ea_cons (P2 := fun _ ys => ys = []) (ev_nextI (m := (tr.length : Int)) hs (by omega) v0 ((ev_lenL eR).is (by rw [rl0]))) (fun _ _ => ea_nil.imp fun _ e => e.symm) fun y ys ⟨i, e, h⟩ e2 => ⟨i, by rw [e, e2], h⟩
    refine go_asg (bm_list ta2 g3 (hj σ1 H2 e2 s2 _ fun us H3 ds f3 s3 p3 r3 => ?_))
    obtain ⟨j, rfl, hj0, hj1⟩ := p3
    cases r3 with
    | cons q1 q2 =>
      cases q1
      cases q2
      have ta3 := ta2.mono f3
      have sa3 := sa2.mono (f3.to (T := S.two tb rl) rfl)
      have f13 := f12.trans f3
      obtain ⟨vs, k1, k2, k3⟩ := ta3.setr h
      have hjt : j.toNat < tr.length := by omega
      obtain ⟨r, hr⟩ : ∃ r, tr[j.toNat]? = some r := ⟨_, List.getElem?_eq_getElem hjt⟩
      have hrm : r ∈ tr := List.mem_of_getElem? hr
      obtain ⟨y, hy, ry⟩ := k2.get (i := j.toNat) (d := .tup r) (by unfold rowsD; rw [List.getElem?_map, hr]; rfl)
      have hvl : vs.length = tr.length := by rw [k2.length, rl0]
      have hsx : seqIndex? j vs.length = some j.toNat := seqIndex_of hj0 (by omega)
      refine ⟨rl, vs, j, j.toNat, y, rfl, rfl, k1, by omega, by have := htr.few; omega, hsx, hy, ?_⟩
      have rr' : Rps K S H3 (vs.eraseIdx j.toNat) (rowsD (tr.eraseIdx j.toNat)) := by
        rw [← erase_rows]
        exact k2.eraseIdx _
      have hrr := htr.each r hrm
      have ta4 := k3 (vs.eraseIdx j.toNat) (tr.eraseIdx j.toNat) (fun r' hr' => htr.each r' (List.mem_of_mem_eraseIdx hr')) rr'
      have sa4 := sa3.atx (o := .lst (vs.eraseIdx j.toNat)) in_two.2
      have s4 := s3.wr (o := .lst (vs.eraseIdx j.toNat)) ta.nr
      have ry4 : Rp K S (upd H3 rl (.lst (vs.eraseIdx j.toNat))) y (.tup r) := Rp.wrL k1 hrr.tups ry
      have hl4 : 4 < σ1.length := by rw [e2.len]; exact (show 4 < 5 by decide)
      show tDrop _ _ (σ1.set 4 (some y)) (upd H3 rl (.lst (vs.eraseIdx j.toNat)))
      obtain ⟨dx, vt, mvs, w1, w2, w3, _, _⟩ := sa4.ex
      obtain ⟨vh, vp, vm, vs', z1, z2, _⟩ := ta4.ex
      refine ⟨.ref x, (List.getElem?_set_ne (by decide)).trans g1, x, dx, _, rfl, w1, rfl, .str T.name, (List.getElem?_set_ne (by decide)).trans g2, y, List.getElem?_set_self hl4, ?_⟩
      have hmem : r ∈ T.rows := by
        rw [h.same]
        exact (srtR_perm tr).mem_iff.mpr hrm
      refine ⟨S.two tb rl, T, k, x, dh, dm, y, r, rfl, two_of ta4 s4, sa4, h.toTbOk, ry4.two z1 z2 hrr.tups, hrr, hmem, fun i H5 hi f5 s5 sa5 => ?_⟩
      have ta5 := ta4.frm sa4 h.toTbOk (fun r' hr' => htr.each r' (List.mem_of_mem_eraseIdx hr')) f5
      refine q { T with rows := T.rows.eraseIdx i } (tr.eraseIdx j.toNat) H5 (h.drop hi hr) rfl rfl rfl ?_ (((Frw.of f13).wr (.inr rfl)).trans (Frw.ofM f5)) s5.unbut.unbut sa5 (ta5.rows_at rfl rfl rfl rfl rfl)
      exact Nat.le_succ_of_le (List.Sublist.length_le (List.eraseIdx_sublist _ _))
  | false =>
    refine iteF ?_
    obtain ⟨vs, k1, k2, k3⟩ := ta2.setr h
    have hvl : vs.length = tr.length := by rw [k2.length, rl0]
    refine go_drop (bm_list ta2 g3 ⟨v1, g4, rl, vs, v1, rfl, rfl, k1, Nat.lt_of_lt_of_le (show vs.length < 60 by omega) (by decide), ?_⟩)
    have hr' : ∀ r' ∈ tr ++ [r0], RowK T.cs r' := fun r' hr' => by
      rcases List.mem_append.mp hr' with z | z
      · exact htr.each r' z
      · rw [List.mem_singleton.mp z]
        exact hr0
    have ry := r1.mono f2
    have ta4 := k3 (vs ++ [v1]) (tr ++ [r0]) hr' (by rw [← rowsD_app]; exact k2.append (.cons ry .nil))
    have sa4 := sa2.atx (o := .lst (vs ++ [v1])) in_two.2
    have s4 := s2.wr (o := .lst (vs ++ [v1])) ta.nr
    have ry4 : Rp K S (upd H2 rl (.lst (vs ++ [v1]))) v1 (.tup r0) := Rp.wrL k1 hr0.tups ry
    obtain ⟨dx, vt, mvs, w1, w2, w3, _, _⟩ := sa4.ex
    obtain ⟨vh, vp, vm, vs', z1, z2, _⟩ := ta4.ex
    refine ⟨.ref x, g1, x, dx, _, rfl, w1, rfl, .str T.name, g2, v1, g4, ?_⟩
    have hrl : T.rows.length < 60 := by
      rw [h.same, srtR_len]
      exact hl
    refine ⟨S.two tb rl, T, k, x, dh, dm, v1, r0, rfl, two_of ta4 s4, sa4, h.toTbOk, ry4.two z1 z2 hr0.tups, hr0, hrl, fun H5 f5 s5 sa5 => ?_⟩
    have ta5 := ta4.frm sa4 h.toTbOk hr' f5
    refine q { T with rows := srtR (T.rows ++ [r0]) } (tr ++ [r0]) H5 (h.put hr0 hl) rfl rfl rfl ?_ (((Frw.of f12).wr (.inr rfl)).trans (Frw.ofM f5)) s5.unbut.unbut sa5 (ta5.rows_at rfl rfl rfl rfl rfl)
    rw [List.length_append]
    exact Nat.le_refl _
end
end Sh
/-! the law's loop: what stands between two steps -/
namespace Sh
open PySem PySem.Spec PyProof.Rows L2
theorem strs_seq (xs : List Str) : (Dat.lst (xs.map Dat.str)).seq = true := seqs_of fun d hd => by
  obtain ⟨x, _, rfl⟩ := List.mem_map.mp hd
  rfl
theorem ints_seq (xs : List Int) : (Dat.lst (xs.map Dat.int)).seq = true := seqs_of fun d hd => by
  obtain ⟨x, _, rfl⟩ := List.mem_map.mp hd
  rfl
section
variable {K : PySem.W.Frag} {CS : Addr} {S S' : Sc} {H H' : Hp} {T T' : Tb} {tr tr' : List Row} {xs : List Str} {cells : List Int} {x dh dm tb rl l a : Addr} {vn : V} {k : Str}
theorem two_to (e : ∀ b o, H b = some o → S.no b → S'.no b) : ∀ b o, H b = some o → (S.two tb rl).no b → (S'.two tb rl).no b := fun b o hb n => by
  have n2 : b ∉ tb :: rl :: S.ex := n.2
  have n1 := e b o hb ⟨n.1, fun z => n2 (List.mem_cons_of_mem _ (List.mem_cons_of_mem _ z))⟩
  refine ⟨n1.1, fun z => ?_⟩
  have z : b ∈ tb :: rl :: S'.ex := z
  rcases List.mem_cons.mp z with rfl | z
  · exact n2 List.mem_cons_self
  rcases List.mem_cons.mp z with rfl | z
  · exact n2 (List.mem_cons_of_mem _ List.mem_cons_self)
  · exact n1.2 z
theorem StAt.to (a : StAt K S CS H x dh dm T) (e : ∀ b o, H b = some o → S.no b → S'.no b) : StAt K S' CS H x dh dm T := by
  obtain ⟨dx, vt, mvs, h1, h2, h3, r1, r2⟩ := a.ex
  exact ⟨e _ _ h1 a.nx, e _ _ h2 a.nh, e _ _ h3 a.nm, a.ne, dx, vt, mvs, h1, h2, h3, r1.to e, r2.to e⟩
theorem TbAt.to (t : TbAt K S H tb rl T tr) (e : ∀ b o, H b = some o → S.no b → S'.no b) : TbAt K S' H tb rl T tr := by
  obtain ⟨vh, vp, vm, vs, h1, h2, r1, r2, r3, r4⟩ := t.ex
  exact ⟨e _ _ h1 t.nt, e _ _ h2 t.nr, t.ne, vh, vp, vm, vs, h1, h2, r1.to e, r2.to e, r3.to e, r4.to e⟩
/-- the store, the table, the names and the cells -/
structure Hd (K : PySem.W.Frag) (CS : Addr) (S : Sc) (H : Hp) (T : Tb) (tr : List Row) (xs : List Str) (cells : List Int) (x dh dm tb rl l : Addr) (vn : V) : Prop where
  sa : StAt K (S.two tb rl) CS H x dh dm T
  ta : TbAt K S H tb rl T tr
  rn : Rp K (S.two tb rl) H vn (.lst (xs.map Dat.str))
  rc : Rp K (S.two tb rl) H (.ref l) (.lst (cells.map Dat.int))
theorem Hd.mono (h : Hd K CS S H T tr xs cells x dh dm tb rl l vn) (f : Fr S H H') : Hd K CS S H' T tr xs cells x dh dm tb rl l vn :=
  ⟨h.sa.mono (f.to (T := S.two tb rl) rfl), h.ta.mono f, h.rn.mono (f.to (T := S.two tb rl) rfl), h.rc.mono (f.to (T := S.two tb rl) rfl)⟩
theorem Hd.to (h : Hd K CS S H T tr xs cells x dh dm tb rl l vn) (e : ∀ b o, H b = some o → S.no b → S'.no b) : Hd K CS S' H T tr xs cells x dh dm tb rl l vn :=
  ⟨h.sa.to (two_to e), h.ta.to e, h.rn.to (two_to e), h.rc.to (two_to e)⟩
theorem Hd.frw (h : Hd K CS S H T tr xs cells x dh dm tb rl l vn) (f : Frw S dh dm tb rl H H') (a : StAt K (S.two tb rl) CS H' x dh dm T') (t : TbAt K S H' tb rl T' tr') : Hd K CS S H' T' tr' xs cells x dh dm tb rl l vn :=
  ⟨a, t, h.rn.frw h.sa f (strs_seq _), h.rc.frw h.sa f (ints_seq _)⟩
theorem Hd.two (h : Hd K CS S H T tr xs cells x dh dm tb rl l vn) (s : StOk S H) : StOk (S.two tb rl) H := two_of h.ta s
/-- the law's names -/
structure Sg (σ : L2.St) (a x tb : Addr) (vn : V) (m mv : Int) : Prop where
  len : σ.length = 9
  g1 : σ[1]? = some (some (.ref a))
  g2 : σ[2]? = some (some vn)
  g3 : σ[3]? = some (some (.ref x))
  g4 : σ[4]? = some (some (.ref tb))
  g5 : σ[5]? = some (some (.int m))
  g6 : σ[6]? = some (some (.int mv))
variable {σ : L2.St} {m mv c : Int}
/-- the names by data; the store's left out -/
theorem Sg.envT (g : Sg σ a x tb vn m mv) (g7 : σ[7]? = some (some (.int c))) (t : TbAt K S H tb rl T tr) (rn : Rp K (S.two tb rl) H vn (.lst (xs.map Dat.str))) : EnvR K S H σ [none, some (.raw (.ref a)), some (.lst (xs.map Dat.str)), none, some (T.law tr), some (.int m), some (.int mv), some (.int c), none] := ⟨g.len, fun i d e =>
  match i, e with
  | 0, e => by cases e
  | 1, e => by cases e; exact ⟨_, g.g1, .raw _⟩
  | 2, e => by cases e; exact ⟨_, g.g2, rn.unbut.unbut⟩
  | 3, e => by cases e
  | 4, e => by cases e; exact ⟨_, g.g4, t.rp⟩
  | 5, e => by cases e; exact ⟨_, g.g5, .int _⟩
  | 6, e => by cases e; exact ⟨_, g.g6, .int _⟩
  | 7, e => by cases e; exact ⟨_, g7, .int _⟩
  | 8, e => by cases e
  | n + 9, e => by simp at e⟩
theorem Sg.envS (g : Sg σ a x tb vn m mv) (g7 : σ[7]? = some (some (.int c))) (h : Hd K CS S H T tr xs cells x dh dm tb rl l vn) : EnvR K S H σ [none, some (.raw (.ref a)), some (.lst (xs.map Dat.str)), some (T.store CS), some (T.law tr), some (.int m), some (.int mv), some (.int c), none] := ⟨g.len, fun i d e =>
  match i, e with
  | 0, e => by cases e
  | 1, e => by cases e; exact ⟨_, g.g1, .raw _⟩
  | 2, e => by cases e; exact ⟨_, g.g2, h.rn.unbut.unbut⟩
  | 3, e => by cases e; exact ⟨_, g.g3, h.sa.rp.unbut.unbut⟩
  | 4, e => by cases e; exact ⟨_, g.g4, h.ta.rp⟩
  | 5, e => by cases e; exact ⟨_, g.g5, .int _⟩
  | 6, e => by cases e; exact ⟨_, g.g6, .int _⟩
  | 7, e => by cases e; exact ⟨_, g7, .int _⟩
  | 8, e => by cases e
  | n + 9, e => by simp at e⟩
theorem Sg.set {i : Nat} {v : V} (g : Sg σ a x tb vn m mv) (hi : 7 ≤ i) : Sg (σ.set i (some v)) a x tb vn m mv :=
  ⟨by rw [List.length_set]; exact g.len, (List.getElem?_set_ne (by omega)).trans g.g1, (List.getElem?_set_ne (by omega)).trans g.g2, (List.getElem?_set_ne (by omega)).trans g.g3, (List.getElem?_set_ne (by omega)).trans g.g4, (List.getElem?_set_ne (by omega)).trans g.g5, (List.getElem?_set_ne (by omega)).trans g.g6⟩
theorem Sg.state {a' : Addr} (g : Sg σ a x tb vn m mv) : Sg (σ.set 1 (some (.ref a'))) a' x tb vn m mv :=
  ⟨by rw [List.length_set]; exact g.len, List.getElem?_set_self (by rw [g.len]; decide), (List.getElem?_set_ne (by decide)).trans g.g2, (List.getElem?_set_ne (by decide)).trans g.g3, (List.getElem?_set_ne (by decide)).trans g.g4, (List.getElem?_set_ne (by decide)).trans g.g5, (List.getElem?_set_ne (by decide)).trans g.g6⟩
theorem Sg.moves {mv' : Int} (g : Sg σ a x tb vn m mv) : Sg (σ.set 6 (some (.int mv'))) a x tb vn m mv' :=
  ⟨by rw [List.length_set]; exact g.len, (List.getElem?_set_ne (by decide)).trans g.g1, (List.getElem?_set_ne (by decide)).trans g.g2, (List.getElem?_set_ne (by decide)).trans g.g3, (List.getElem?_set_ne (by decide)).trans g.g4, (List.getElem?_set_ne (by decide)).trans g.g5, List.getElem?_set_self (by rw [g.len]; decide)⟩
theorem lst_go {t : TA} {Q : VK} (h : t σ H fun xs H1 => xs.length ≤ sizeLine ∧ ∀ p, H1 p = none → Q (.ref p) (upd H1 p (.lst xs))) : tLst t σ H Q := h
/-- a new state for the turn -/
theorem turn_state {u : TS} {D : Ends} {n : Int} (hd : Hd K CS {} H T tr xs cells x dh dm tb rl l vn) (g : Sg σ a x tb vn m mv) (g7 : σ[7]? = some (some (.int c))) (ha : H a = some (.lst [.int n])) (h0 : 0 ≤ n) (h1 : n < stB)
    (k : ∀ a' n' σ' H', Hd K CS (Sc.of a') H' T tr xs cells x dh dm tb rl l vn → Sg σ' a' x tb vn m mv → σ'[7]? = some (some (.int c)) → H' a' = some (.lst [.int n']) → 0 ≤ n' → n' < 2 ^ 63 → u D σ' H') :
    tSeq (tAsg (tLst (tCons (tOp rAddI (tOp (rIx K) (tVar 1) (tC (.int 0))) (tOp rModI (tVar 7) (tOp rPowI (tC (.int 10)) (tC (.int 18))))) tNil)) (gName 1)) u D σ H := by
  have e : EnvR K {} H σ [none, some (.lst [.int n]), none, none, none, none, none, some (.int c), none] := ⟨g.len, fun i d e =>
    match i, e with
    | 0, e => by cases e
    | 1, e => by cases e; exact ⟨_, g.g1, .lst (.inl no_nil) (SqL.of ha) (.cons (.int _) .nil)⟩
    | 2, e => by cases e
    | 3, e => by cases e
    | 4, e => by cases e
    | 5, e => by cases e
    | 6, e => by cases e
    | 7, e => by cases e; exact ⟨_, g7, .int _⟩
    | 8, e => by cases e
    | n + 9, e => by simp at e⟩
  have hv : EvA K {} (tCons (tOp rAddI (tOp (rIx K) (tVar 1) (tC (.int 0))) (tOp rModI (tVar 7) (tOp rPowI (tC (.int 10)) (tC (.int 18))))) tNil) [none, some (.lst [.int n]), none, none, none, none, none, some (.int c), none] (Eq [.int (n + c % 1000000000000000000)]) :=
    ea_consD (ev_add (ev_ixL (xs := [.int n]) (i := 0) (x := .int n) rfl (ev_var (i := 1) rfl) ev_int) (ev_mod (by decide) (ev_var (i := 7) rfl) ((ev_pow ⟨by decide, by decide, by decide⟩ ev_int ev_int).is rfl))) ea_nil
  refine go_asg (lst_go (hv σ H e .nil _ fun us H1 ds f1 s1 p1 r1 => ?_))
  subst p1
  cases r1 with
  | cons q1 q2 =>
    cases q1
    cases q2
    refine ⟨show 1 ≤ sizeLine by decide, fun p hp => ?_⟩
    have b0 := Int.emod_nonneg c (show (1000000000000000000 : Int) ≠ 0 by decide)
    have b1 := Int.emod_lt_of_pos c (show (0 : Int) < 1000000000000000000 by decide)
    have hd1 : Hd K CS (Sc.of p) H1 T tr xs cells x dh dm tb rl l vn := (hd.mono f1).to fun b o hb _ => no_of (ne_of_none hb hp)
    refine k p (n + c % 1000000000000000000) _ _ (hd1.mono (.new hp)) g.state ((List.getElem?_set_ne (by decide)).trans g7) upd_same (by omega) ?_
    unfold stB at h1
    omega
end
end Sh
/-! the law's loop: a move begins -/
namespace Sh
open PySem PySem.Spec PyProof.Rows L2
section
variable {K : PySem.W.Frag} {CS : Addr} {H H' : Hp} {T : Tb} {tr : List Row} {xs : List Str} {cells : List Int} {x dh dm tb rl l a : Addr} {vn : V} {k : Str} {σ : L2.St} {mv c n : Int}
theorem stOf (h : H a = some (.lst [.int n])) : StOk (Sc.of a) H := .of h
theorem stRnd (h : H a = some (.lst [.int n])) (h0 : 0 ≤ n) (h1 : n < stB) : StOk (Sc.rnd a) H := ⟨fun s hs => by
  rw [List.mem_singleton.mp hs]
  exact ⟨n, h, h0, h1⟩, fun s hs => by simp [Sc.rnd] at hs, fun s hs => by
  rw [List.mem_singleton.mp hs]
  exact ⟨_, h⟩, fun s hs => hs⟩
theorem Hd.rnd {a : Addr} (h : Hd K CS (Sc.of a) H T tr xs cells x dh dm tb rl l vn) : Hd K CS (Sc.rnd a) H T tr xs cells x dh dm tb rl l vn := h.to fun b o _ n => n
theorem Hd.ofr {a : Addr} (h : Hd K CS (Sc.rnd a) H T tr xs cells x dh dm tb rl l vn) : Hd K CS (Sc.of a) H T tr xs cells x dh dm tb rl l vn := h.to fun b o _ n => n
/-- lend -/
theorem turn_lend {u : TS} {D : Ends} (hd : Hd K CS (Sc.of a) H T tr xs cells x dh dm tb rl l vn) (g : Sg σ a x tb vn T.m mv) (g7 : σ[7]? = some (some (.int c))) (ha : H a = some (.lst [.int n])) (h0 : 0 ≤ n) (h1 : n < 2 ^ 63) (h : LawOk T k tr) (hx : xs[0]? = some T.name)
    (q : ∀ T' n' mv' σ' H', Hd K CS (Sc.of a) H' T' tr xs cells x dh dm tb rl l vn → Sg σ' a x tb vn T'.m mv' → σ'[7]? = some (some (.int c)) → H' a = some (.lst [.int n']) → 0 ≤ n' → n' < 2 ^ 63 → LawOk T' k tr → T'.name = T.name → T'.m = T.m → u D σ' H') :
    tSeq (tIfS (tAnd (tTest (tOp rIs (tOp (rIx K) (tVar 4) (tC (.int 3))) (tC .non))) (tTest (tOp (rSc vLt) (tVar 6) (tC (.int 5)))))
      (tSeq (tAsg (tCall (spLent K) [] E0 (tCons (tVar 1) (tCons (tVar 4) (tCons (tVar 5) tNil)))) (gSub (tVar 4) (tC (.int 3)) rSetL))
      (tSeq (tDrop (tMeth CS "lend" (spLend K CS) [] E0 (tVar 3) (tCons (tOp (rIx K) (tVar 2) (tC (.int 0))) (tCons (tOp (rIx K) (tOp (rIx K) (tVar 4) (tC (.int 3))) (tC (.int 0))) (tCons (tOp (rIx K) (tOp (rIx K) (tVar 4) (tC (.int 3))) (tC (.int 1))) tNil)))))
      (tAsg (tOp rAddI (tVar 6) (tC (.int 1))) (gName 6)))) tNext) u D σ H := by
  have e := (g.envT g7 hd.ta hd.rn).calm
  have eL : ∀ {S : Sc} {a b c d e f g h : Option Dat}, Ev K S (tVar 4) [a, b, c, d, some (T.law tr), e, f, g, h] (Eq (.lst [.hd (headD T.cs), plD T.n T.h0 T.rest, .lst (rowsD tr), movD T.mv])) := ev_var rfl
  have hc : EvT K {} (tAnd (tTest (tOp rIs (tOp (rIx K) (tVar 4) (tC (.int 3))) (tC .non))) (tTest (tOp (rSc vLt) (tVar 6) (tC (.int 5))))) [none, some (.raw (.ref a)), some (.lst (xs.map Dat.str)), none, some (T.law tr), some (.int T.m), some (.int mv), some (.int c), none] (fun c => c = true → (movD T.mv).isNon = true) :=
    et_andP (et_testD (ev_is (x := movD T.mv) (ev_ixL rfl eL ev_int))) fun _ => et_testD (ev_ltS (x := .int mv) (y := .int 5) rfl (ev_var rfl) ev_int)
  refine go_if hc e .nil (fun H1 f1 s1 hb => ?_) fun H1 f1 s1 hb => ?_
  · have hmv : T.mv = none := by
      have hb := hb rfl
      cases e : T.mv with
      | none => rfl
      | some y =>
        rw [e] at hb
        cases hb
    have hd1 := hd.mono (f1.any (S := Sc.of a))
    have ha1 := f1.all ha
    refine go_asg ?_
    refine ⟨.ref a, g.g1, .ref tb, g.g4, .int T.m, g.g5, T, k, tr, a, n, .ref tb, rfl, ha1, h0, h1, h, hd1.ta.rp, fun n' num hs p H2 H3 b1 b2 hnum hhs hne f2 ha2 hp e3 => ?_⟩
    subst e3
    have f23 : Fr (Sc.of a) H1 (upd H2 p (.tup [.int num, .int hs, .non])) := f2.trans (.new hp)
    have hd2 := (hd1.mono f23).rnd
    have ha3 : upd H2 p (.tup [.int num, .int hs, .non]) a = some (.lst [.int n']) := by
      rw [upd_ne (ne_of_none ha2 hp)]
      exact ha2
    have np : (Sc.rnd a).no p := no_of fun z => by rw [z, ha2] at hp; cases hp
    have rm : Rp K (Sc.rnd a) (upd H2 p (.tup [.int num, .int hs, .non])) (.ref p) (movD (some (num, hs, none))) := .tup (.inl np) (SqT.of upd_same) (.cons (.int _) (.cons (.int _) (.cons .non .nil)))
    obtain ⟨vh, vp, vm, k1, k2, k3, k4⟩ := hd2.ta.sets h.trow.each
    have hT' : LawOk { T with mv := some (num, hs, none) } k tr := h.moved hnum hhs fun r e => by cases e
    have ta3 := k4 vp (.ref p) { T with mv := some (num, hs, none) } rfl (plD_tups h.pl.cuts) (mov_tups hT'.toTbOk) k2 rm
    have sa3 := hd2.sa.atx (o := .lst [vh, vp, .ref rl, .ref p]) in_two.1
    have hta := hd2.ta.nt
    have ntb : tb ≠ a := of_no hta
    have fw : Frw (Sc.rnd a) dh dm tb rl (upd H2 p (.tup [.int num, .int hs, .non])) (upd (upd H2 p (.tup [.int num, .int hs, .non])) tb (.lst [vh, vp, .ref rl, .ref p])) := (Frw.of .refl).wr (.inl rfl)
    have rn3 := hd2.rn.frw hd2.sa fw (strs_seq _)
    have rc3 := hd2.rc.frw hd2.sa fw (ints_seq _)
    have ha4 : upd (upd H2 p (.tup [.int num, .int hs, .non])) tb (.lst [vh, vp, .ref rl, .ref p]) a = some (.lst [.int n']) := by
      rw [upd_ne (Ne.symm ntb)]
      exact ha3
    refine ⟨.ref tb, g.g4, tb, _, 3, 3, rfl, rfl, k1, rfl, ?_⟩
    show tSeq _ _ _ σ (upd (upd H2 p (.tup [.int num, .int hs, .non])) tb (.lst [vh, vp, .ref rl, .ref p]))
    generalize upd (upd H2 p (.tup [.int num, .int hs, .non])) tb (.lst [vh, vp, .ref rl, .ref p]) = H4 at ta3 sa3 rn3 rc3 ha4 ⊢
    have e4 := (g.envT g7 ta3 rn3).calm
    have eL' : ∀ {S : Sc} {a b c d e f g h : Option Dat}, Ev K S (tVar 4) [a, b, c, d, some (Tb.law { T with mv := some (num, hs, none) } tr), e, f, g, h] (Eq (.lst [.hd (headD T.cs), plD T.n T.h0 T.rest, .lst (rowsD tr), .tup [.int num, .int hs, .non]])) := ev_var rfl
    have eM : ∀ {S : Sc} {a b c d e f g h : Option Dat}, Ev K S (tOp (rIx K) (tVar 4) (tC (.int 3))) [a, b, c, d, some (Tb.law { T with mv := some (num, hs, none) } tr), e, f, g, h] (Eq (.tup [.int num, .int hs, .non])) := ev_ixL rfl eL' ev_int
    have ev : EvA K {} (tCons (tOp (rIx K) (tVar 2) (tC (.int 0))) (tCons (tOp (rIx K) (tOp (rIx K) (tVar 4) (tC (.int 3))) (tC (.int 0))) (tCons (tOp (rIx K) (tOp (rIx K) (tVar 4) (tC (.int 3))) (tC (.int 1))) tNil))) [none, some (.raw (.ref a)), some (.lst (xs.map Dat.str)), none, some (Tb.law { T with mv := some (num, hs, none) } tr), some (.int T.m), some (.int mv), some (.int c), none] (Eq [.str T.name, .int num, .int hs]) :=
      ea_consD (ev_ixL (i := ((0 : Nat) : Int)) (atI_nat (by rw [List.getElem?_map, hx]; rfl)) (ev_var (i := 2) rfl) ev_int) (ea_consD (ev_ixT rfl eM ev_int) (ea_consD (ev_ixT rfl eM ev_int) ea_nil))
    obtain ⟨dx, vt, mvs, w1, w2, w3, _, _⟩ := sa3.ex
    refine go_drop ⟨.ref x, g.g3, x, dx, _, rfl, w1, rfl, ev σ H4 e4 .nil _ fun us H5 ds f5 s5 p5 r5 => ?_⟩
    subst p5
    cases r5 with
    | cons q1 r5 => cases r5 with
      | cons q2 r5 => cases r5 with
        | cons q3 r5 =>
          cases r5
          cases q1
          cases q2
          cases q3
          have f5' : Fr (Sc.rnd a) H4 H5 := f5.any
          have ta5 := ta3.mono f5'
          have sa5 := sa3.mono (f5'.to (T := (Sc.rnd a).two tb rl) rfl)
          have ha5 := f5.all ha4
          refine ⟨(Sc.rnd a).two tb rl, T, k, x, dh, dm, num, hs, rfl, two_of ta5 (stRnd ha5 b1 b2), sa5, h.toTbOk, hnum, hhs, hne, hmv, fun H6 f6 s6 sa6 => ?_⟩
          have ta6 := ta5.frm sa5 hT'.toTbOk h.trow.each f6
          have fw6 : Frw (Sc.rnd a) dh dm tb rl H4 H6 := (Frw.of f5').trans (Frw.ofM f6)
          have rn6 := rn3.frw sa3 fw6 (strs_seq _)
          have rc6 := rc3.frw sa3 fw6 (ints_seq _)
          obtain ⟨n6, ha6, c0, c1⟩ := s6.st a (List.mem_singleton.mpr rfl)
          refine ⟨.int mv, g.g6, mv, 1, rfl, rfl, ?_⟩
          exact q { T with mv := some (num, hs, none) } n6 (mv + 1) _ H6 (Hd.ofr ⟨sa6, ta6, rn6, rc6⟩) g.moves ((List.getElem?_set_ne (by decide)).trans g7) ha6 c0 (by unfold stB at c1; omega) hT' rfl rfl
  · exact q T n mv σ H1 (hd.mono (f1.any (S := Sc.of a))) g g7 (f1.all ha) h0 h1 h rfl rfl
end
end Sh
/-! the law's loop: a change, a try, a look -/
namespace Sh
open PySem PySem.Spec PyProof.Rows L2
section
variable {K : PySem.W.Frag} {CS CT : Addr} {H H' : Hp} {T : Tb} {tr : List Row} {xs : List Str} {cells : List Int} {x dh dm tb rl l a : Addr} {vn : V} {k : Str} {σ : L2.St} {mv c n : Int}
theorem c_go {v : V} {Q : VK} (h : Q v H) : tC v σ H Q := h
theorem asg_go {te : TE} {g : TG} {D : Ends} (h : te σ H fun y H1 => g y σ H1 D.nx) : tAsg te g D σ H := h
theorem tif_go {c : TT} {t u : TS} {D : Ends} (h : c σ H fun b H1 => if b = true then t D σ H1 else u D σ H1) : tIfS c t u D σ H := h
theorem ev_name {S : Sc} {b c d e f g h i : Option Dat} (hx : xs[0]? = some T.name) : Ev K S (tOp (rIx K) (tVar 2) (tC (.int 0))) [b, c, some (.lst (xs.map Dat.str)), d, e, f, g, h, i] (Eq (.str T.name)) :=
  ev_ixL (i := ((0 : Nat) : Int)) (atI_nat (by rw [List.getElem?_map, hx]; rfl)) (ev_var (i := 2) rfl) ev_int
/-- a change -/
theorem turn_change {u : TS} {D : Ends} (hd : Hd K CS (Sc.of a) H T tr xs cells x dh dm tb rl l vn) (g : Sg σ a x tb vn T.m mv) (g7 : σ[7]? = some (some (.int c))) (ha : H a = some (.lst [.int n])) (h0 : 0 ≤ n) (h1 : n < 2 ^ 63) (h : LawOk T k tr) (hx : xs[0]? = some T.name) (hl : tr.length < 60)
    (q : ∀ T' tr' H', Hd K CS (Sc.rnd a) H' T' tr' xs cells x dh dm tb rl l vn → StOk (Sc.rnd a) H' → LawOk T' k tr' → T'.name = T.name → T'.m = T.m → tr'.length ≤ tr.length + 1 → u D σ H') :
    tSeq (tIfS (tTest (tOp (rEqD K) (tCall spNext [] E0 (tCons (tVar 1) (tCons (tC (.int 4)) tNil))) (tC (.int 0))))
      (tDrop (tCall (spChanged K CS) [] E0 (tCons (tVar 1) (tCons (tVar 3) (tCons (tOp (rIx K) (tVar 2) (tC (.int 0))) (tCons (tVar 4) tNil)))))) tNext) u D σ H := by
  have e := g.envT g7 hd.ta hd.rn
  show tIfS _ _ _ { D with nx := u D } σ H
  refine tif_go (op_go (next_go e (ev_var (i := 1) rfl) ev_int (by decide) ha h0 h1 fun n1 j H1 a1 a2 a3 a4 f1 ha1 => ?_))
  have hd1 := (hd.mono f1).rnd
  have s1 := stRnd ha1 a1 a2
  refine c_go ((rv_eqD (K := K) (S := Sc.rnd a) (x := .int j) (y := .int 0) .int .int) (.int j) (.int 0) H1 (.int _) (.int _) s1 _ fun z H2 d2 f2 s2 p2 r2 => ?_)
  subst p2
  cases r2
  refine ⟨_, rfl, ?_⟩
  have hd2 := hd1.mono f2
  dsimp only
  by_cases hb : deq (.int j) (.int 0) = true
  · rw [if_pos hb]
    refine ⟨.ref a, g.g1, .ref x, g.g3, ?_⟩
    refine (ev_name (xs := xs) (T := T) hx) σ H2 (g.envT g7 hd2.ta hd2.rn) s2 _ fun v3 H3 d3 f3 s3 p3 r3 => ⟨.ref tb, g.g4, ?_⟩
    subst p3
    cases r3
    have hd3 := hd2.mono f3
    exact ⟨Sc.rnd a, T, k, tr, a, x, dh, dm, tb, rl, rfl, s3, List.mem_singleton.mpr rfl, h, hd3.sa, hd3.ta, hl, fun T' tr' H4 hL e1 e2 e3 hl' f4 s4 sa4 ta4 => q T' tr' H4 (hd3.frw f4 sa4 ta4) s4 hL e1 e2 hl'⟩
  · rw [if_neg hb]
    exact q T tr H2 hd2 s2 h rfl rfl (Nat.le_succ _)
/-- the look -/
theorem ev_right {S : Sc} (h : LawOk T k tr) (hx : xs[0]? = some T.name) {b c d e f : Option Dat} : Ev K S (tCall (SpD K (pre_law_right CS) post_law_right) [] E0 (tCons (tVar 3) (tCons (tOp (rIx K) (tVar 2) (tC (.int 0))) (tCons (tVar 4) (tCons (tVar 5) tNil))))) [b, c, some (.lst (xs.map Dat.str)), some (T.store CS), some (T.law tr), some (.int T.m), d, e, f] (Eq (.bl true)) :=
  ev_callD (ea_consD (ev_var (i := 3) rfl) (ea_consD (ev_name (xs := xs) (T := T) hx) (ea_consD (ev_var (i := 4) rfl) (ea_consD (ev_var (i := 5) rfl) ea_nil)))) ⟨T, k, tr, rfl, h⟩ fun d p => p.symm
theorem turn_right {D : Ends} (hd : Hd K CS (Sc.rnd a) H T tr xs cells x dh dm tb rl l vn) (s : StOk (Sc.rnd a) H) (g : Sg σ a x tb vn T.m mv) (g7 : σ[7]? = some (some (.int c))) (h : LawOk T k tr) (hx : xs[0]? = some T.name)
    (q : ∀ H', Hd K CS (Sc.rnd a) H' T tr xs cells x dh dm tb rl l vn → StOk (Sc.rnd a) H' → D.nx σ H') :
    tIfS (tNot (tB (tCall (SpD K (pre_law_right CS) post_law_right) [] E0 (tCons (tVar 3) (tCons (tOp (rIx K) (tVar 2) (tC (.int 0))) (tCons (tVar 4) (tCons (tVar 5) tNil))))))) (tRet (tC (.bl false))) tNext D σ H := by
  refine tif_go ((et_not (et_BD (ev_right h hx))) σ H (g.envS g7 hd) s _ fun b H1 f1 s1 hb => ?_)
  subst hb
  exact iteF (q H1 (hd.mono f1) s1)
theorem StAt.un {S : Sc} (t : StAt K (S.two tb rl) CS H x dh dm T) : StAt K S CS H x dh dm T := t.to fun b o _ n => ⟨n.1, fun z => n.2 (List.mem_cons_of_mem _ (List.mem_cons_of_mem _ z))⟩
theorem rps_un {S : Sc} {vs : List V} {ds : List Dat} (h : Rps K (S.two tb rl) H vs ds) : Rps K S H vs ds := h.unbut.unbut
/-- the rows carried, by the law -/
theorem turn_try {u : TS} {D : Ends} (hd : Hd K CS (Sc.rnd a) H T tr xs cells x dh dm tb rl l vn) (s : StOk (Sc.rnd a) H) (g : Sg σ a x tb vn T.m mv) (g7 : σ[7]? = some (some (.int c))) (h : LawOk T k tr) (hx : xs[0]? = some T.name)
    (q : ∀ T' σ' H', Hd K CS (Sc.rnd a) H' T' tr xs cells x dh dm tb rl l vn → StOk (Sc.rnd a) H' → Sg σ' a x tb vn T'.m mv → σ'[7]? = some (some (.int c)) → LawOk T' k tr → T'.name = T.name → T'.m = T.m → u D σ' H') :
    tSeq (tIfS (tTest (tOp rIsNot (tOp (rIx K) (tVar 4) (tC (.int 3))) (tC .non)))
      (tSeq (tAsg (tSl (rSlL K) (tSrtSet K (tCall (SpD K pre_law_above post_law_above) [] E0 (tCons (tVar 4) tNil))) tNoPart (tPart (tOp rModI (tVar 7) (tC (.int 4))))) (gName 8))
      (tSeq (tDrop (tMeth CS "carry" (spCarry K CS) [] E0 (tVar 3) (tCons (tOp (rIx K) (tVar 2) (tC (.int 0))) (tCons (tOp rModI (tVar 7) (tC (.int 4))) tNil))))
      (tSeq (tIfS (tTest (tOp (rNeD K) (tVar 8) (tLst tNil)))
        (tAsg (tTup (tCons (tOp (rIx K) (tOp (rIx K) (tVar 4) (tC (.int 3))) (tC (.int 0))) (tCons (tOp (rIx K) (tOp (rIx K) (tVar 4) (tC (.int 3))) (tC (.int 1))) (tCons (tOp (rIx K) (tVar 8) (tUn (rU fun i => .int (-i)) (tC (.int 1)))) tNil)))) (gSub (tVar 4) (tC (.int 3)) rSetL)) tNext)
      (tIfS (tOr (tNot (tB (tCall (SpD K (pre_law_right CS) post_law_right) [] E0 (tCons (tVar 3) (tCons (tOp (rIx K) (tVar 2) (tC (.int 0))) (tCons (tVar 4) (tCons (tVar 5) tNil)))))))
        (tNot (tB (tCall (spTry K CS) [] E0 (tCons (tVar 3) (tCons (tOp (rIx K) (tVar 2) (tC (.int 0))) (tCons (tVar 4) tNil)))))))
        (tRet (tC (.bl false))) tNext)))) tNext) u D σ H := by
  have e := g.envT g7 hd.ta hd.rn
  have eL : ∀ {S : Sc} {a b c d e f g h : Option Dat}, Ev K S (tVar 4) [a, b, c, d, some (T.law tr), e, f, g, h] (Eq (.lst [.hd (headD T.cs), plD T.n T.h0 T.rest, .lst (rowsD tr), movD T.mv])) := ev_var rfl
  cases hm : T.mv with
  | none =>
    refine go_if (R := fun b => b = false) ((et_testD (ev_isnot (x := movD T.mv) (ev_ixL rfl eL ev_int))).imp fun b hb => ?_) e s (fun H1 f1 s1 hb => by cases hb) fun H1 f1 s1 hb => ?_
    · rw [hm] at hb
      exact hb.symm
    · exact q T σ H1 (hd.mono f1) s1 g g7 h rfl rfl
  | some y =>
    obtain ⟨num, hs, mark⟩ := y
    have mo := h.mv _ hm
    refine go_if (R := fun b => b = true) ((et_testD (ev_isnot (x := movD T.mv) (ev_ixL rfl eL ev_int))).imp fun b hb => ?_) e s (fun H1 f1 s1 hb => ?_) fun H1 f1 s1 hb => by cases hb
    · rw [hm] at hb
      exact hb.symm
    have hd1 := hd.mono f1
    have c4 : 0 ≤ c % 4 := Int.emod_nonneg c (by decide)
    have hab := above_ok h.toTbOk (num, hs, mark)
    have hgo := got_ok h.toTbOk (num, hs, mark) (c % 4)
    have hsome : Ev K (Sc.rnd a) (tSl (rSlL K) (tSrtSet K (tCall (SpD K pre_law_above post_law_above) [] E0 (tCons (tVar 4) tNil))) tNoPart (tPart (tOp rModI (tVar 7) (tC (.int 4))))) [none, some (.raw (.ref a)), some (.lst (xs.map Dat.str)), none, some (T.law tr), some (.int T.m), some (.int mv), some (.int c), none] (Eq (.lst (rowsD (T.got (num, hs, mark) (c % 4))))) :=
      (ev_slL (xs := rowsD (uq (T.above (num, hs, mark)))) (ev_uq h.pl.head hab (ev_callD (ea_consD (ev_var (i := 4) rfl) ea_nil) ⟨T, k, tr, _, rfl, h, hm⟩ fun d p => (p T tr _ rfl h.same hm).symm)) eo_none (eo_some (ev_mod (by decide) (ev_var (i := 7) rfl) ev_int))).is ((congrArg Dat.lst ((cut_take c4).trans (take_rows _ _))) : _ = Dat.lst (rowsD (T.got (num, hs, mark) (c % 4))))
    have e1 := g.envT g7 hd1.ta hd1.rn
    refine go_asg (hsome σ H1 e1 s1 _ fun v2 H2 d2 f2 s2 p2 r2 => ?_)
    subst p2
    have hd2 := hd1.mono f2
    have g' : Sg (σ.set 8 (some v2)) a x tb vn T.m mv := g.set (by decide)
    have g7' : (σ.set 8 (some v2))[7]? = some (some (.int c)) := (List.getElem?_set_ne (by decide)).trans g7
    have g8' : (σ.set 8 (some v2))[8]? = some (some v2) := List.getElem?_set_self (by rw [g.len]; decide)
    show tSeq _ _ _ (σ.set 8 (some v2)) H2
    generalize σ.set 8 (some v2) = σ2 at g' g7' g8' ⊢
    -- carry
    have hargs : EvA K (Sc.rnd a) (tCons (tOp (rIx K) (tVar 2) (tC (.int 0))) (tCons (tOp rModI (tVar 7) (tC (.int 4))) tNil)) [none, some (.raw (.ref a)), some (.lst (xs.map Dat.str)), none, some (T.law tr), some (.int T.m), some (.int mv), some (.int c), none] (Eq [.str T.name, .int (c % 4)]) :=
      ea_consD (ev_name (xs := xs) (T := T) hx) (ea_consD (ev_mod (by decide) (ev_var (i := 7) rfl) ev_int) ea_nil)
    obtain ⟨dx, vt, mvs, w1, w2, w3, _, _⟩ := hd2.sa.ex
    refine go_drop ⟨.ref x, g'.g3, x, dx, _, rfl, w1, rfl, hargs σ2 H2 (g'.envT g7' hd2.ta hd2.rn) s2 _ fun us H3 ds f3 s3 p3 r3 => ?_⟩
    subst p3
    cases r3 with
    | cons q1 r3 => cases r3 with
      | cons q2 r3 =>
        cases r3
        cases q1
        cases q2
        have hd3 := hd2.mono f3
        refine ⟨(Sc.rnd a).two tb rl, T, k, x, dh, dm, c % 4, (num, hs, mark), rfl, hd3.two s3, hd3.sa, h.toTbOk, hm, c4, fun v4 H4 f4 s4 sa4 => ?_⟩
        have ta4 := hd3.ta.frm hd3.sa h.toTbOk h.trow.each f4
        have fw4 : Frw (Sc.rnd a) dh dm tb rl H3 H4 := Frw.ofM f4
        have rn4 := hd3.rn.frw hd3.sa fw4 (strs_seq _)
        have rc4 := hd3.rc.frw hd3.sa fw4 (ints_seq _)
        have s4' : StOk (Sc.rnd a) H4 := s4.unbut.unbut
        have r8 : Rp K (Sc.rnd a) H4 v2 (.lst (rowsD (T.got (num, hs, mark) (c % 4)))) := (r2.mono f3).frm hd3.sa.un f4 (by show seqs _ = true; exact rowsD_seq hgo.each)
        have hT' : LawOk (T.carried (num, hs, mark) (c % 4)) k tr := h.carried hm
        have e4 : EnvR K (Sc.rnd a) H4 σ2 [none, some (.raw (.ref a)), some (.lst (xs.map Dat.str)), none, some (T.law tr), some (.int T.m), some (.int mv), some (.int c), some (.lst (rowsD (T.got (num, hs, mark) (c % 4))))] := ⟨g'.len, fun i d e =>
          if z : i = 8 then by
            subst z
            cases e
            exact ⟨v2, g8', r8⟩
          else (g'.envT g7' ta4 rn4).get i d (by
            rw [← e]
            match i, z with
            | 0, _ => rfl
            | 1, _ => rfl
            | 2, _ => rfl
            | 3, _ => rfl
            | 4, _ => rfl
            | 5, _ => rfl
            | 6, _ => rfl
            | 7, _ => rfl
            | 8, z => exact absurd rfl z
            | n + 9, _ => rfl)⟩
        -- behind the carrying
        have fin : ∀ H5, Hd K CS (Sc.rnd a) H5 (T.carried (num, hs, mark) (c % 4)) tr xs cells x dh dm tb rl l vn → StOk (Sc.rnd a) H5 → tIfS (tOr (tNot (tB (tCall (SpD K (pre_law_right CS) post_law_right) [] E0 (tCons (tVar 3) (tCons (tOp (rIx K) (tVar 2) (tC (.int 0))) (tCons (tVar 4) (tCons (tVar 5) tNil)))))))
            (tNot (tB (tCall (spTry K CS) [] E0 (tCons (tVar 3) (tCons (tOp (rIx K) (tVar 2) (tC (.int 0))) (tCons (tVar 4) tNil))))))) (tRet (tC (.bl false))) tNext { D with nx := u D } σ2 H5 := fun H5 hd5 s5 => by
          obtain ⟨en, em⟩ := carried_same (T := T) (y := (num, hs, mark)) (many := c % 4)
          obtain ⟨y', hy', hy2⟩ : ∃ y', (T.carried (num, hs, mark) (c % 4)).mv = some y' ∧ True := by
            unfold Tb.carried
            split
            · exact ⟨_, hm, trivial⟩
            · exact ⟨_, rfl, trivial⟩
          have hx' : xs[0]? = some (T.carried (num, hs, mark) (c % 4)).name := by rw [en]; exact hx
          have g5 : Sg σ2 a x tb vn (T.carried (num, hs, mark) (c % 4)).m mv := by rw [em]; exact g'
          generalize T.carried (num, hs, mark) (c % 4) = T5 at hd5 hT' en em hy' hx' g5
          refine tif_go ((ev_right hT' hx') σ2 H5 (g5.envS g7' hd5) s5 _ fun v6 H6 d6 f6 s6 p6 r6 => ?_)
          subst p6
          cases r6
          refine ⟨true, rfl, iteF ?_⟩
          have hd6 := hd5.mono f6
          refine ⟨.ref x, g5.g3, (ev_name (xs := xs) (T := T5) hx') σ2 H6 (g5.envS g7' hd6) s6 _ fun v7 H7 d7 f7 s7 p7 r7 => ⟨.ref tb, g5.g4, ?_⟩⟩
          subst p7
          cases r7
          have hd7 := hd6.mono f7
          refine ⟨Sc.rnd a, T5, k, tr, x, dh, dm, tb, rl, y', rfl, s7, hT', hd7.sa, hd7.ta, hy', fun _ H8 f8 s8 => ⟨true, rfl, iteF ?_⟩, fun _ H8 f8 s8 sa8 ta8 => ⟨true, rfl, iteF ?_⟩⟩
          · exact q T5 σ2 H8 (hd7.mono f8) s8 g5 g7' hT' en em
          · obtain ⟨b1, b2⟩ := settled_same (T := T5) (y := y')
            exact q (T5.settled y') σ2 H8 (hd7.frw f8 sa8 ta8) s8 (by rw [b2]; exact g5) g7' (hT'.settled hy') (b1.trans en) (b2.trans em)
        -- the mark
        have eG : ∀ {S : Sc} {b0 b1 b2 b3 b4 b5 b6 b7 : Option Dat}, Ev K S (tVar 8) [b0, b1, b2, b3, b4, b5, b6, b7, some (.lst (rowsD (T.got (num, hs, mark) (c % 4))))] (Eq (.lst (rowsD (T.got (num, hs, mark) (c % 4))))) := ev_var rfl
        refine go_if (et_testD (ev_ne (rows_eqn (n := 1) hgo).eqd (EqN.lst (n := 1) fun d hd => by cases hd).eqd eG (ev_lstD ea_nil (Nat.zero_le _)))) e4 s4' (fun H5 f5 s5 hb => ?_) fun H5 f5 s5 hb => ?_
        · have hne : T.got (num, hs, mark) (c % 4) ≠ [] := fun z => by
            rw [z] at hb
            have : deq (.lst (rowsD [])) (.lst []) = true := deq_self
            rw [this] at hb
            cases hb
          have hl : (T.got (num, hs, mark) (c % 4)).getLast? = some ((T.got (num, hs, mark) (c % 4)).getLast hne) := List.getLast?_eq_some_getLast hne
          generalize (T.got (num, hs, mark) (c % 4)).getLast hne = r at hl
          have hrm : RowK T.cs r := hgo.each r (List.mem_of_getLast? hl)
          have et : T.carried (num, hs, mark) (c % 4) = { T with mv := some (num, hs, some r) } := by
            unfold Tb.carried
            rw [hl]
          have eM : ∀ {S : Sc} {a b c d e f g h : Option Dat}, Ev K S (tOp (rIx K) (tVar 4) (tC (.int 3))) [a, b, c, d, some (T.law tr), e, f, g, h] (Eq (.tup [.int num, .int hs, markD mark])) := ev_ixL (xs := [.hd (headD T.cs), plD T.n T.h0 T.rest, .lst (rowsD tr), movD T.mv]) (by rw [hm]; rfl) eL ev_int
          have hmk : Ev K (Sc.rnd a) (tTup (tCons (tOp (rIx K) (tOp (rIx K) (tVar 4) (tC (.int 3))) (tC (.int 0))) (tCons (tOp (rIx K) (tOp (rIx K) (tVar 4) (tC (.int 3))) (tC (.int 1))) (tCons (tOp (rIx K) (tVar 8) (tUn (rU fun i => .int (-i)) (tC (.int 1)))) tNil)))) [none, some (.raw (.ref a)), some (.lst (xs.map Dat.str)), none, some (T.law tr), some (.int T.m), some (.int mv), some (.int c), some (.lst (rowsD (T.got (num, hs, mark) (c % 4))))] (Eq (moveD (num, hs, some r))) :=
            ev_tupD (ds := [.int num, .int hs, .tup r]) (ea_consD (ev_ixT rfl eM ev_int) (ea_consD (ev_ixT rfl eM ev_int) (ea_consD (ev_ixL (last_at hl) eG (ev_neg ev_int)) ea_nil))) (show 3 ≤ sizeLine by decide)
          refine asg_go (hmk σ2 H5 (e4.mono f5) s5 _ fun v6 H6 d6 f6 s6 p6 r6 => ?_)
          subst p6
          have f56 := f5.trans f6
          have ta6 := ta4.mono f56
          have sa6 := sa4.mono (f56.to (T := (Sc.rnd a).two tb rl) rfl)
          have rn6 := rn4.mono (f56.to (T := (Sc.rnd a).two tb rl) rfl)
          have rc6 := rc4.mono (f56.to (T := (Sc.rnd a).two tb rl) rfl)
          obtain ⟨vh, vp, vm, k1, k2, k3, k4⟩ := ta6.sets h.trow.each
          have fw : Frw (Sc.rnd a) dh dm tb rl H6 (upd H6 tb (.lst [vh, vp, .ref rl, v6])) := (Frw.of .refl).wr (.inl rfl)
          refine ⟨.ref tb, g'.g4, tb, _, 3, 3, rfl, rfl, k1, rfl, ?_⟩
          refine fin (upd H6 tb (.lst [vh, vp, .ref rl, v6])) ⟨sa6.atx in_two.1, ?_, rn6.frw sa6 fw (strs_seq _), rc6.frw sa6 fw (ints_seq _)⟩ (s6.wr ta6.nt)
          rw [et] at hT' ⊢
          exact k4 vp v6 { T with mv := some (num, hs, some r) } rfl (plD_tups h.pl.cuts) (mov_tups hT'.toTbOk) k2 r6
        · have eg : T.got (num, hs, mark) (c % 4) = [] := by
            have z : deq (.lst (rowsD (T.got (num, hs, mark) (c % 4)))) (.lst []) = true := by
              cases w : deq (.lst (rowsD (T.got (num, hs, mark) (c % 4)))) (.lst []) with
              | true => rfl
              | false =>
                rw [w] at hb
                cases hb
            have := deq_iff.mp z
            injection this with this
            exact List.map_eq_nil_iff.mp this
          have et : T.carried (num, hs, mark) (c % 4) = T := by
            unfold Tb.carried
            rw [eg]
            rfl
          refine fin H5 ⟨sa4.mono (f5.to (T := (Sc.rnd a).two tb rl) rfl), ?_, rn4.mono (f5.to (T := (Sc.rnd a).two tb rl) rfl), rc4.mono (f5.to (T := (Sc.rnd a).two tb rl) rfl)⟩ s5
          rw [et]
          exact ta4.mono f5
end
end Sh
/-! the law -/
namespace Sh
open PySem PySem.Spec PyProof.Rows L2
structure Llw (P : Program) (w : World) (K : PySem.W.Frag) (mg : Str → Option Value) (base : Heap) (CS : Addr) : Prop where
  law_seed : Cl P w K mg base "_law_seed" 1 ["_law_script"] (SpD K pre_law_seed post_law_seed)
  law_names : Cl P w K mg base "_law_names" 2 ["_law_state", "_law_many"] (SpD K pre_law_names post_law_names)
  law_spans_begun : Cl P w K mg base "_law_spans_begun" 11 ["_law_state", "_law_names_here", "_law_most"] (spBegun K CS)
  law_lent : Cl P w K mg base "_law_lent" 2 ["_law_state", "_law_table", "_law_houses"] (spLent K)
  law_next : NxR P w K mg base
  law_changed : Cl P w K mg base "_law_changed" 5 ["_law_state", "_law_store", "_law_name", "_law_table"] (spChanged K CS)
  law_above : Cl P w K mg base "_law_above" 3 ["_law_table"] (SpD K pre_law_above post_law_above)
  law_right : Cl P w K mg base "_law_right" 10 ["_law_store", "_law_name", "_law_table", "_law_houses"] (SpD K (pre_law_right CS) post_law_right)
  law_try : Cl P w K mg base "_law_try" 9 ["_law_store", "_law_name", "_law_table"] (spTry K CS)
section
variable {P : Program} {w : World} {K : PySem.W.Frag} {mg : Str → Option Value} {base : Heap} {aW aK : Addr} {f : Addr} {fd : FuncData} {CS CT CN : Addr}
theorem rps_ints {S : Sc} {H : Hp} : ∀ ns : List Int, Rps K S H (ns.map V.int) (ns.map Dat.int)
  | [] => .nil
  | n :: ns => .cons (.int n) (rps_ints ns)
theorem ints_rps {S : Sc} {H : Hp} : ∀ {ns : List Int} {vs : List V}, Rps K S H vs (ns.map Dat.int) → vs = ns.map V.int
  | [], _, h => by
    cases h
    rfl
  | n :: ns, _, h => by
    have h : Rps K S H _ (.int n :: ns.map Dat.int) := h
    cases h with
    | cons a t =>
      cases a
      rw [ints_rps t]
      rfl
theorem ints_sq {S : Sc} {H : Hp} {l : Addr} {ns : List Int} (h : Rp K S H (.ref l) (.lst (ns.map Dat.int))) : SqL K H l (ns.map V.int) := by
  cases h with
  | lst n hs r => exact ints_rps r ▸ hs
theorem for_go {te : TE} {g : TG} {tb u : TS} {D : Ends} {σ : L2.St} {H : Hp} (h : te σ H fun v H1 => ∃ l, v = .ref l ∧ (∃ xs, SqL K H1 l xs) ∧ ∃ W : Nat → Nat → L2.St → Hp → Prop, (∃ m, W 0 m σ H1) ∧ ∀ i m σ H, W i m σ H →
    ((Itl K l).stop i H ∧ u D σ H) ∨ ((Itl K l).go i H ∧ ∃ N : L2.St → Hp → Prop, (∀ σ' H', N σ' H' → ∃ m', m' < m ∧ W (i + 1) m' σ' H') ∧ ∀ x H', (Itl K l).yld i H x H' → g x σ H' fun σ2 H2 => tb { nx := N, rt := D.rt, ct := N, bk := u D } σ2 H2)) : tSeq (tFor (iList K te) g tb) u D σ H := h
/-- a loop over a list of whole numbers, its state raw -/
theorem for_ints {te : TE} {tb u : TS} {D : Ends} {σ : L2.St} {H : Hp} {j : Nat} {cells : List Int} {Inv : Addr → Nat → L2.St → Hp → Prop} (hq : ∀ l i σ H, Inv l i σ H → SqL K H l (cells.map V.int))
    (h : ∀ Q : VK, (∀ l H1, Inv l 0 σ H1 → Q (.ref l) H1) → te σ H Q)
    (step : ∀ l i c σ H, cells[i]? = some c → Inv l i σ H → tb { nx := Inv l (i + 1), rt := D.rt, ct := Inv l (i + 1), bk := u D } (σ.set j (some (.int c))) H)
    (fin : ∀ l σ H, Inv l cells.length σ H → u D σ H) : tSeq (tFor (iList K te) (gName j) tb) u D σ H := by
  refine for_go (h _ fun l H1 h0 => ?_)
  refine ⟨l, rfl, ⟨_, hq _ _ _ _ h0⟩, fun i m σ H => m + i = cells.length ∧ Inv l i σ H, ⟨cells.length, rfl, h0⟩, fun i m σ' H' ⟨hm, hi⟩ => ?_⟩
  have sq := hq _ _ _ _ hi
  cases hc : cells[i]? with
  | none =>
    have := List.getElem?_eq_none_iff.mp hc
    have e0 : i = cells.length := by omega
    subst e0
    exact .inl ⟨⟨_, sq, by rw [List.length_map]; exact Nat.le_refl _⟩, fin l σ' H' hi⟩
  | some c =>
    have hil : i < cells.length := (List.getElem?_eq_some_iff.mp hc).1
    have hcm : (cells.map V.int)[i]? = some (.int c) := by rw [List.getElem?_map, hc]; rfl
    refine .inr ⟨⟨_, _, sq, hcm⟩, Inv l (i + 1), fun σ2 H2 h2 => ⟨m - 1, by omega, by omega, h2⟩, fun y H2 hy => ?_⟩
    obtain ⟨rfl, hy⟩ := hy
    have := hy _ sq
    rw [hcm] at this
    cases this
    exact step l i c σ' H2 hc hi
def spLaw (K : PySem.W.Frag) : Sp := fun vs H Q _ => ∃ (a : Addr) (ns : List Int), vs = [.ref a] ∧ SqL K H a (ns.map V.int) ∧ ns.length ≤ 63 ∧ ∀ H', Q (.bl true) H'
/-- between two turns -/
def LpI (K : PySem.W.Frag) (CS : Addr) (k : Str) (xs : List Str) (cells : List Int) (x dh dm tb rl : Addr) (vn : V) : Addr → Nat → L2.St → Hp → Prop := fun l i σ H => ∃ (T : Tb) (tr : List Row) (a : Addr) (n mv : Int), Hd K CS {} H T tr xs cells x dh dm tb rl l vn ∧ Sg σ a x tb vn T.m mv ∧ H a = some (.lst [.int n]) ∧ (0 ≤ n ∧ n < stB) ∧ LawOk T k tr ∧ xs[0]? = some T.name ∧ tr.length ≤ 10 + i
/-- law -/
abbrev s_law : Stmt := top 64
theorem sc_law : FnScope ["_law_script", "_law_state", "_law_names_here", "_law_store", "_law_table", "_law_houses", "_law_moves", "_law_cell", "_law_some"] ["_law_script"] (defScope s_law) := ⟨rfl, rfl, rfl, by decide +kernel, rfl, by decide +kernel, by decide +kernel⟩
theorem ok_law (F : Fun K "law" "law" s_law f fd) (X : Txt K mg aW aK) (L : Llw P w K mg base CS) (m_Store_lend : Ml P w K mg base CS "lend" 5 ["self", "name", "number", "house"] (spLend K CS)) (m_Store_carry : Ml P w K mg base CS "carry" 7 ["self", "name", "many"] (spCarry K CS)) : FnOk P w K mg base CX0 12 f fd ["_law_script"] (spLaw K) := by
  refine F.ok sc_law (fun vs H Q E h => by obtain ⟨a, ns, rfl, h⟩ := h; rfl) fun cdv A outer s H vs Q E hr h => ?_
  have nd := sc_law.nd
  have hu := hr.units
  have hu0 := hr.units0
  have hu1 := hu_of hr
  have hu65 := u65 hr
  refine ⟨_, (pss_cons (ps_set (i := 1) nd rfl (by first | exact Or.inl rfl | exact Or.inr rfl) (pe_lst (pa_cons (pe_fn L.law_seed (hr.mono (by decide)) (pa_cons (pv 0) pa_nil)) pa_nil)))
      (pss_cons (ps_set (i := 2) nd rfl (by first | exact Or.inl rfl | exact Or.inr rfl) (pe_fn L.law_names (hr.mono (by decide)) (pa_cons (pv 1) (pa_cons pe_int pa_nil))))
      (pss_cons (ps_asg (pe_fn L.law_spans_begun (hr.mono (by decide)) (pa_cons (pv 1) (pa_cons (pv 2) (pa_cons pe_int pa_nil)))) (pg_tup rfl (pgs_cons (pg_name (i := 3) nd rfl (by first | exact Or.inl rfl | exact Or.inr rfl)) (pgs_cons (pg_name (i := 4) nd rfl (by first | exact Or.inl rfl | exact Or.inr rfl)) (pgs_cons (pg_name (i := 5) nd rfl (by first | exact Or.inl rfl | exact Or.inr rfl)) pgs_nil)))))
      (pss_cons (ps_set (i := 6) nd rfl (by first | exact Or.inl rfl | exact Or.inr rfl) pe_int)
      (pss_cons (ps_for PassesOwn.never rfl (pi_list (pe_op (r := rCatL K) op_catL (pe_lst (pa_cons pe_int pa_nil)) (pe_slice sl_list (pv 0) po_none (po_some pe_int)))) (pg_name (i := 7) nd rfl (by first | exact Or.inl rfl | exact Or.inr rfl)) (pss_cons (ps_set (i := 1) nd rfl (by first | exact Or.inl rfl | exact Or.inr rfl) (pe_lst (pa_cons (pe_op op_addI (pe_ix (r := rIx K) ix_seq (pv 1) pe_int (fun _ _ => rfl)) (pe_op op_modI (pv 7) (pe_op op_powI pe_int pe_int))) pa_nil)))
      (pss_cons (ps_if (PW.pt (pw_and (pt_cmpR op_is0 (pe_ix (r := rIx K) ix_seq (pv 4) pe_int (fun _ _ => rfl)) pe_non (nomark _)) (pw_and1 (pt_cmpR op_ltS (pv 6) pe_int (nomark _))))) (pss_cons (ps_asg (pe_fn L.law_lent (hr.mono (by decide)) (pa_cons (pv 1) (pa_cons (pv 4) (pa_cons (pv 5) pa_nil)))) (pg_sub (pv 4) pe_int set_list))
      (pss_cons (ps_expr (pe_mt m_Store_lend (hr.mono (by decide)) (pv 3) (pa_cons (pe_ix (r := rIx K) ix_seq (pv 2) pe_int (fun _ _ => rfl)) (pa_cons (pe_ix (r := rIx K) ix_seq (pe_ix (r := rIx K) ix_seq (pv 4) pe_int (fun _ _ => rfl)) pe_int (fun _ _ => rfl)) (pa_cons (pe_ix (r := rIx K) ix_seq (pe_ix (r := rIx K) ix_seq (pv 4) pe_int (fun _ _ => rfl)) pe_int (fun _ _ => rfl)) pa_nil)))))
      (pss_one (ps_set (i := 6) nd rfl (by first | exact Or.inl rfl | exact Or.inr rfl) (pe_op op_addI (pv 6) pe_int))))) pss_nil)
      (pss_cons (ps_if (pt_cmpR (r := rEqD K) (op_eqD hu) (pe_fn L.law_next (hr.mono (by decide)) (pa_cons (pv 1) (pa_cons pe_int pa_nil))) pe_int (nomark _)) (pss_one (ps_expr (pe_fn L.law_changed (hr.mono (by decide)) (pa_cons (pv 1) (pa_cons (pv 3) (pa_cons (pe_ix (r := rIx K) ix_seq (pv 2) pe_int (fun _ _ => rfl)) (pa_cons (pv 4) pa_nil))))))) pss_nil)
      (pss_cons (ps_if (pt_cmpR op_isnot0 (pe_ix (r := rIx K) ix_seq (pv 4) pe_int (fun _ _ => rfl)) pe_non (nomark _)) (pss_cons (ps_set (i := 8) nd rfl (by first | exact Or.inl rfl | exact Or.inr rfl) (pe_slice sl_list (pe_srtset X.b hu (pe_fn L.law_above (hr.mono (by decide)) (pa_cons (pv 4) pa_nil))) po_none (po_some (pe_op op_modI (pv 7) pe_int))))
      (pss_cons (ps_expr (pe_mt m_Store_carry (hr.mono (by decide)) (pv 3) (pa_cons (pe_ix (r := rIx K) ix_seq (pv 2) pe_int (fun _ _ => rfl)) (pa_cons (pe_op op_modI (pv 7) pe_int) pa_nil))))
      (pss_cons (ps_if (pt_cmpR (r := rNeD K) (op_neD hu) (pv 8) (pe_lst pa_nil) (nomark _)) (pss_one (ps_asg (pe_tup (pa_cons (pe_ix (r := rIx K) ix_seq (pe_ix (r := rIx K) ix_seq (pv 4) pe_int (fun _ _ => rfl)) pe_int (fun _ _ => rfl)) (pa_cons (pe_ix (r := rIx K) ix_seq (pe_ix (r := rIx K) ix_seq (pv 4) pe_int (fun _ _ => rfl)) pe_int (fun _ _ => rfl)) (pa_cons (pe_ix (r := rIx K) ix_seq (pv 8) (pe_un un_neg pe_int) (fun _ _ => rfl)) pa_nil)))) (pg_sub (pv 4) pe_int set_list))) pss_nil)
      (pss_one (ps_if (PW.pt (pw_or (pt_not (pt_val (pe_fn L.law_right (hr.mono (by decide)) (pa_cons (pv 3) (pa_cons (pe_ix (r := rIx K) ix_seq (pv 2) pe_int (fun _ _ => rfl)) (pa_cons (pv 4) (pa_cons (pv 5) pa_nil))))))) (pw_or1 (pt_not (pt_val (pe_fn L.law_try (hr.mono (by decide)) (pa_cons (pv 3) (pa_cons (pe_ix (r := rIx K) ix_seq (pv 2) pe_int (fun _ _ => rfl)) (pa_cons (pv 4) pa_nil))))))))) (pss_one (ps_ret pe_bl)) pss_nil))))) pss_nil)
      (pss_one (ps_if (pt_not (pt_val (pe_fn L.law_right (hr.mono (by decide)) (pa_cons (pv 3) (pa_cons (pe_ix (r := rIx K) ix_seq (pv 2) pe_int (fun _ _ => rfl)) (pa_cons (pv 4) (pa_cons (pv 5) pa_nil))))))) (pss_one (ps_ret pe_bl)) pss_nil)))))))
      (pss_one (ps_ret pe_bl))))))), ?_⟩
  obtain ⟨sc, ns, rfl, hsq, hlen, q⟩ := h
  have rsc : Rp K {} H (.ref sc) (.lst (ns.map Dat.int)) := .lst (.inl no_nil) hsq (rps_ints ns)
  have e0 : EnvR K {} H (start ["_law_script", "_law_state", "_law_names_here", "_law_store", "_law_table", "_law_houses", "_law_moves", "_law_cell", "_law_some"] [.ref sc]) [some (.lst (ns.map Dat.int)), none, none, none, none, none, none, none, none] := .consS rsc (.consN (.consN (.consN (.consN (.consN (.consN (.consN (.consN .nil))))))))
  have seed : EvA K {} (tCons (tCall (SpD K pre_law_seed post_law_seed) [] E0 (tCons (tVar 0) tNil)) tNil) [some (.lst (ns.map Dat.int)), none, none, none, none, none, none, none, none] (fun ds => ∃ n, ds = [.int n] ∧ 0 ≤ n ∧ n < stB) :=
    ea_cons (P2 := fun _ ys => ys = []) (ev_callD (P := fun d => ∃ n, d = .int n ∧ 0 ≤ n ∧ n < stB) (ea_consD (ev_var (i := 0) rfl) ea_nil) ⟨ns, rfl⟩ fun d p => p) (fun _ _ => ea_nil.imp fun _ e => e.symm) fun y ys ⟨n, e, h⟩ e2 => ⟨n, by rw [e, e2], h⟩
  refine go_asg (lst_go (seed _ H e0 .nil _ fun us H1 ds f1 s1 p1 r1 => ?_))
  obtain ⟨n0, rfl, b0, b1⟩ := p1
  cases r1 with
  | cons q1 q2 =>
    cases q1
    cases q2
    refine ⟨show 1 ≤ sizeLine by decide, fun a0 ha0 => ?_⟩
    have s2 : StOk (Sc.rnd a0) (upd H1 a0 (.lst [.int n0])) := stRnd upd_same b0 b1
    have rsc2 : Rp K (Sc.rnd a0) (upd H1 a0 (.lst [.int n0])) (.ref sc) (.lst (ns.map Dat.int)) := (Rp.to (S := {}) (T := Sc.rnd a0) (fun b o hb _ => no_of (ne_of_none hb ha0)) (rsc.mono f1)).mono (.new ha0)
    have e2 : EnvR K (Sc.rnd a0) (upd H1 a0 (.lst [.int n0])) ((start ["_law_script", "_law_state", "_law_names_here", "_law_store", "_law_table", "_law_houses", "_law_moves", "_law_cell", "_law_some"] [.ref sc]).set 1 (some (.ref a0))) [some (.lst (ns.map Dat.int)), some (.raw (.ref a0)), none, none, none, none, none, none, none] := .consS rsc2 (.consS (.raw _) (.consN (.consN (.consN (.consN (.consN (.consN (.consN .nil))))))))
    have hnames : Ev K (Sc.rnd a0) (tCall (SpD K pre_law_names post_law_names) [] E0 (tCons (tVar 1) (tCons (tC (.int 17)) tNil))) [some (.lst (ns.map Dat.int)), some (.raw (.ref a0)), none, none, none, none, none, none, none] (fun r => ∃ xs, r = .lst (xs.map Dat.str) ∧ NamesOk xs) :=
      ev_callD (ea_consD (ev_var (i := 1) rfl) (ea_consD ev_int ea_nil)) ⟨a0, rfl, List.mem_singleton.mpr rfl⟩ fun d p => p
    refine go_asg (hnames _ _ e2 s2 _ fun vn H3 d3 f3 s3 p3 r3 => ?_)
    obtain ⟨xs, rfl, hx⟩ := p3
    have rsc3 := rsc2.mono f3
    refine go_asg ⟨.ref a0, rfl, vn, rfl, a0, vn, xs, rfl, s3, r3, hx, fun T k tr p x dh dm tb rl H4 hL hn0 hmv h10 f4 s4 hp np htb hrl sa ta => ?_⟩
    refine ⟨p, _, rfl, .of hp, rfl, _, _, rfl, _, _, rfl, _, _, rfl, rfl, ?_⟩
    have rn4 : Rp K ((Sc.rnd a0).two tb rl) H4 vn (.lst (xs.map Dat.str)) := Rp.mono (S := (Sc.rnd a0).two tb rl) (f4.to rfl) ((r3.but hrl).but htb)
    have rsc4 : Rp K ((Sc.rnd a0).two tb rl) H4 (.ref sc) (.lst (ns.map Dat.int)) := Rp.mono (S := (Sc.rnd a0).two tb rl) (f4.to rfl) ((rsc3.but hrl).but htb)
    refine go_asg (c_go ?_)
    have s42 : StOk ((Sc.rnd a0).two tb rl) H4 := two_of ta s4
    let σ5 : L2.St := [some (.ref sc), some (.ref a0), some vn, some (.ref x), some (.ref tb), some (.int T.m), some (.int 0), none, none]
    show tSeq _ _ _ σ5 H4
    have g5 : Sg σ5 a0 x tb vn T.m 0 := ⟨rfl, rfl, rfl, rfl, rfl, rfl, rfl⟩
    have e5 : EnvR K ((Sc.rnd a0).two tb rl) H4 σ5 [some (.lst (ns.map Dat.int)), none, none, none, none, none, none, none, none] := .consS rsc4 (.consN (.consN (.consN (.consN (.consN (.consN (.consN (.consN .nil))))))))
    have el : cutD (ns.map Dat.int) none (some 40) = (ns.take 40).map Dat.int := (cut_take (by decide)).trans (List.map_take ..).symm
    have hcells : Ev K ((Sc.rnd a0).two tb rl) (tOp (rCatL K) (tLst (tCons (tC (.int 0)) tNil)) (tSl (rSlL K) (tVar 0) tNoPart (tPart (tC (.int 40))))) [some (.lst (ns.map Dat.int)), none, none, none, none, none, none, none, none] (Eq (.lst ((0 :: ns.take 40).map Dat.int))) :=
      ev_catL (xs := [.int 0]) (ys := (ns.take 40).map Dat.int) (by
        rw [List.length_map, List.length_take]
        exact Nat.le_trans (show 1 + min 40 ns.length ≤ 41 by omega) (by decide)) (ev_lstD (ea_consD ev_int ea_nil) (show 1 ≤ sizeLine by decide)) ((ev_slL (ev_var (i := 0) rfl) eo_none (eo_some ev_int)).is (congrArg Dat.lst el))
    refine for_ints (cells := 0 :: ns.take 40) (Inv := LpI K CS k xs (0 :: ns.take 40) x dh dm tb rl vn) (fun l i σ H ⟨T, tr, a, n, mv, hd, _⟩ => ints_sq hd.rc) (fun Q hQ => ?_) ?_ (fun l σ H _ => q H)
    · refine hcells σ5 H4 e5 s42 _ fun v6 H6 d6 f6 s6 p6 r6 => ?_
      subst p6
      obtain ⟨l, rfl⟩ : ∃ l, v6 = .ref l := by
        cases r6
        exact ⟨_, rfl⟩
      have f6' : Fr (Sc.rnd a0) H4 H6 := f6.to rfl
      obtain ⟨n6, ha6, c0, c1⟩ := s6.st a0 (List.mem_singleton.mpr rfl)
      have hd6 : Hd K CS (Sc.rnd a0) H6 T tr xs (0 :: ns.take 40) x dh dm tb rl l vn := ⟨sa.mono f6, ta.mono f6', rn4.mono f6, r6⟩
      exact hQ l H6 ⟨T, tr, a0, n6, 0, hd6.to fun _ _ _ _ => no_nil, g5, ha6, ⟨c0, c1⟩, hL, hn0, h10⟩
    · rintro l i c σ H7 hc ⟨T1, tr1, a1, n1, mv1, hd, g, ha, ⟨h0, h1⟩, hL1, hx1, hl1⟩
      have hi : i < 41 := by
        have z := (List.getElem?_eq_some_iff.mp hc).1
        rw [List.length_cons, List.length_take] at z
        omega
      refine turn_state hd (g.set (i := 7) (v := .int c) (by decide)) (List.getElem?_set_self (by rw [g.len]; decide)) ha h0 h1 fun a2 n2 σ2 H2 hd2 g2 g72 ha2 c0 c1 => ?_
      refine turn_lend hd2 g2 g72 ha2 c0 c1 hL1 hx1 fun T3 n3 mv3 σ3 H3 hd3 g3 g73 ha3 d0 d1 hL3 en3 em3 => ?_
      have hx3 : xs[0]? = some T3.name := by rw [en3]; exact hx1
      refine turn_change hd3 g3 g73 ha3 d0 d1 hL3 hx3 (by omega) fun T4 tr4 H4 hd4 s4 hL4 en4 em4 hl4 => ?_
      have hx4 : xs[0]? = some T4.name := by rw [en4]; exact hx3
      have g4 : Sg σ3 a2 x tb vn T4.m mv3 := by rw [em4]; exact g3
      refine turn_try hd4 s4 g4 g73 hL4 hx4 fun T5 σ5 H5 hd5 s5 g5 g75 hL5 en5 em5 => ?_
      have hx5 : xs[0]? = some T5.name := by rw [en5]; exact hx4
      refine turn_right hd5 s5 g5 g75 hL5 hx5 fun H6 hd6 s6 => ?_
      obtain ⟨n6, ha6, e0, e1⟩ := s6.st a2 (List.mem_singleton.mpr rfl)
      exact ⟨T5, tr4, a2, n6, mv3, hd6.to fun _ _ _ _ => no_nil, g5, ha6, ⟨e0, e1⟩, hL5, hx5, by omega⟩
end
end Sh
/-! all together -/
namespace Sh
open PySem PySem.Spec PyProof.Rows L2
theorem exm_self {K : PySem.W.Frag} {S : Addr} (h1 : PySem.W.subIn K (.ref S) (.type "BaseException") = some true) (h2 : PySem.W.isClsIn K S = true) (h3 : PySem.W.typeIn K (.ref S) = some (.type "type")) (h4 : PySem.W.subIn K (.ref S) (.ref S) = some true) :
    PySem.W.exmOne K (.ref S) (.ref S) = some true := by
  have e1 : (PySem.W.subIn K (.ref S) (.type "BaseException") == some true) = true := by rw [h1] <;> rfl
  have e2 : ((PySem.W.clsIn K S).isSome && PySem.W.typeIn K (.ref S) == some (.type "type")) = true := by
    have h2' : (PySem.W.clsIn K S).isSome = true := h2
    rw [h2', h3] <;> rfl
  show (if (PySem.W.subIn K (.ref S) (.type "BaseException") == some true) = true then (if ((PySem.W.clsIn K S).isSome && PySem.W.typeIn K (.ref S) == some (.type "type")) = true then PySem.W.subIn K (.ref S) (.ref S) else none) else none) = some true
  rw [if_pos e1, if_pos e2]
  exact h4
theorem binds_err {K : PySem.W.Frag} {T : Addr} {od an : Option Addr} {n : Nat} {sl : Array (Option Value)} {kV doc pm cdv ct : Value} (h : K.lookup T = some ⟨.type "tuple", od, .seq #[.none] n, sl⟩) :
    Binds K (PySem.W.fnOf "__init__" "ShardError.__init__" (C8.fnArgs s_ShardError_init) (C8.fnBody s_ShardError_init) (C8.fnScope s_ShardError_init) (.ref T) kV doc pm an cdv ct) ["self", "act"] [] := fun s us X hl => match us, hl with
  | [_, _], _ => PySem.W.binds_K X rfl h rfl rfl rfl
theorem all_mk {l : PySem.W.OpenLaw} {w : World} {K : PySem.W.Frag} {h : Heap} {mg : Str → Option Value} {fa : Addr} (X : K.In h) (G : h.Ns mainGlobals mg) (hfa : mg "law" = some (.ref fa))
    {CT CS CN aW aK fE tE f0 f1 f2 f3 f4 f5 f6 f7 f8 f9 f10 f11 f12 f13 f14 f15 f16 f17 f18 f19 f20 f21 f22 f23 f24 f25 f26 f27 f28 f29 f30 f31 f32 f33 f34 f35 f36 f37 f38 f39 f40 f41 f42 f43 f44 f45 f46 f47 f48 f49 f50 f51 f52 f53 f54 f55 f56 f57 : Addr} {odE anE odD odW odK od0 an0 od1 an1 od2 an2 od3 an3 od4 an4 od5 an5 od6 an6 od7 an7 od8 an8 od9 an9 od10 an10 od11 an11 od12 an12 od13 an13 od14 an14 od15 an15 od16 an16 od17 an17 od18 an18 od19 an19 od20 an20 od21 an21 od22 an22 od23 an23 od24 an24 od25 an25 od26 an26 od27 an27 od28 an28 od29 an29 od30 an30 od31 an31 od32 an32 od33 an33 od34 an34 od35 an35 od36 an36 od37 an37 od38 an38 od39 an39 od40 an40 od41 an41 od42 an42 od43 an43 od44 an44 od45 an45 od46 an46 od47 an47 od48 an48 od49 an49 od50 an50 od51 an51 od52 an52 od53 an53 od54 an54 od55 an55 od56 an56 od57 an57 : Option Addr} {slE slD slW slK sl0 sl1 sl2 sl3 sl4 sl5 sl6 sl7 sl8 sl9 sl10 sl11 sl12 sl13 sl14 sl15 sl16 sl17 sl18 sl19 sl20 sl21 sl22 sl23 sl24 sl25 sl26 sl27 sl28 sl29 sl30 sl31 sl32 sl33 sl34 sl35 sl36 sl37 sl38 sl39 sl40 sl41 sl42 sl43 sl44 sl45 sl46 sl47 sl48 sl49 sl50 sl51 sl52 sl53 sl54 sl55 sl56 sl57 : Array (Option Value)} {ocE kVE dcE pmE cdE ctE oc0 kV0 dc0 pm0 cd0 ct0 oc1 kV1 dc1 pm1 cd1 ct1 oc2 kV2 dc2 pm2 cd2 ct2 oc3 kV3 dc3 pm3 cd3 ct3 oc4 kV4 dc4 pm4 cd4 ct4 oc5 kV5 dc5 pm5 cd5 ct5 oc6 kV6 dc6 pm6 cd6 ct6 oc7 kV7 dc7 pm7 cd7 ct7 oc8 kV8 dc8 pm8 cd8 ct8 oc9 kV9 dc9 pm9 cd9 ct9 oc10 kV10 dc10 pm10 cd10 ct10 oc11 kV11 dc11 pm11 cd11 ct11 oc12 kV12 dc12 pm12 cd12 ct12 oc13 kV13 dc13 pm13 cd13 ct13 oc14 kV14 dc14 pm14 cd14 ct14 oc15 kV15 dc15 pm15 cd15 ct15 oc16 kV16 dc16 pm16 cd16 ct16 oc17 kV17 dc17 pm17 cd17 ct17 oc18 kV18 dc18 pm18 cd18 ct18 oc19 kV19 dc19 pm19 cd19 ct19 oc20 kV20 dc20 pm20 cd20 ct20 oc21 kV21 dc21 pm21 cd21 ct21 oc22 kV22 dc22 pm22 cd22 ct22 oc23 kV23 dc23 pm23 cd23 ct23 oc24 kV24 dc24 pm24 cd24 ct24 oc25 kV25 dc25 pm25 cd25 ct25 oc26 kV26 dc26 pm26 cd26 ct26 oc27 kV27 dc27 pm27 cd27 ct27 oc28 kV28 dc28 pm28 cd28 ct28 oc29 kV29 dc29 pm29 cd29 ct29 oc30 kV30 dc30 pm30 cd30 ct30 oc31 kV31 dc31 pm31 cd31 ct31 oc32 kV32 dc32 pm32 cd32 ct32 oc33 kV33 dc33 pm33 cd33 ct33 oc34 kV34 dc34 pm34 cd34 ct34 oc35 kV35 dc35 pm35 cd35 ct35 oc36 kV36 dc36 pm36 cd36 ct36 oc37 kV37 dc37 pm37 cd37 ct37 oc38 kV38 dc38 pm38 cd38 ct38 oc39 kV39 dc39 pm39 cd39 ct39 oc40 kV40 dc40 pm40 cd40 ct40 oc41 kV41 dc41 pm41 cd41 ct41 oc42 kV42 dc42 pm42 cd42 ct42 oc43 kV43 dc43 pm43 cd43 ct43 oc44 kV44 dc44 pm44 cd44 ct44 oc45 kV45 dc45 pm45 cd45 ct45 oc46 kV46 dc46 pm46 cd46 ct46 oc47 kV47 dc47 pm47 cd47 ct47 oc48 kV48 dc48 pm48 cd48 ct48 oc49 kV49 dc49 pm49 cd49 ct49 oc50 kV50 dc50 pm50 cd50 ct50 oc51 kV51 dc51 pm51 cd51 ct51 oc52 kV52 dc52 pm52 cd52 ct52 oc53 kV53 dc53 pm53 cd53 ct53 oc54 kV54 dc54 pm54 cd54 ct54 oc55 kV55 dc55 pm55 cd55 ct55 oc56 kV56 dc56 pm56 cd56 ct56 oc57 kV57 dc57 pm57 cd57 ct57 : Value} {itW itK : Array Value} {nD nW nK : Nat} {tMOST_LETTERS tMOST_COLUMNS tMOST_HOUSES tMOST_CUTS_towns : Tok}
    {nmN qN : Str} {NN : Addr} {bsN bmN : List Value} {snN : List Str} {subN : List Value} {abN : Bool} {colN : Option Bool} {ddN : Option Addr} {m0N m1N m2N m3N m5N : Option Value}
    (aT : PySem.W.nsIn K mainGlobals "Town" = some (some (.ref CT)))
    (aS : PySem.W.nsIn K mainGlobals "Store" = some (some (.ref CS)))
    (aN : PySem.W.nsIn K mainGlobals "NotYet" = some (some (.ref CN)))
    (pgT : PySem.W.plainGet K CT Str.empty = true)
    (hdT : PySem.W.hasDictIn K CT = true)
    (poT : PySem.W.plainOver K CT = true)
    (saT : PySem.W.findIn K (.ref CT) "__setattr__" = some (some (.builtin "object.__setattr__")))
    (mkT : PySem.W.makesIn K CT = true)
    (kcT : PySem.W.keepIn K (.ref CT) = true)
    (pgS : PySem.W.plainGet K CS Str.empty = true)
    (hdS : PySem.W.hasDictIn K CS = true)
    (poS : PySem.W.plainOver K CS = true)
    (saS : PySem.W.findIn K (.ref CS) "__setattr__" = some (some (.builtin "object.__setattr__")))
    (mkS : PySem.W.makesIn K CS = true)
    (kcS : PySem.W.keepIn K (.ref CS) = true)
    (no_CS_count : PySem.W.findIn K (.ref CS) "count" = some none)
    (no_CS_held : PySem.W.findIn K (.ref CS) "held" = some none)
    (no_CS_moves : PySem.W.findIn K (.ref CS) "moves" = some none)
    (no_CT_many : PySem.W.findIn K (.ref CT) "many" = some none)
    (no_CT_told_heads : PySem.W.findIn K (.ref CT) "told_heads" = some none)
    (no_CT_placings : PySem.W.findIn K (.ref CT) "placings" = some none)
    (no_CT_rows : PySem.W.findIn K (.ref CT) "rows" = some none)
    (xN : K.lookup CN = some (excClassObj nmN qN CN NN bsN bmN true snN subN abN colN ddN m0N m1N m2N m3N m5N "ValueError.__new__"))
    (saN : PySem.W.findIn K (.ref CN) "__setattr__" = some (some (.builtin "object.__setattr__")))
    (iN : PySem.W.findIn K (.ref CN) "__init__" = some (some (.ref fE)))
    (tN : PySem.W.typeIn K (.ref fE) = some (.type "function"))
    (lN : K.lookup fE = some ⟨ocE, odE, .func (PySem.W.fnOf "__init__" "ShardError.__init__" (C8.fnArgs s_ShardError_init) (C8.fnBody s_ShardError_init) (C8.fnScope s_ShardError_init) (.ref tE) kVE dcE pmE anE cdE ctE), slE⟩)
    (cN : PySem.W.codeIn K cdE "ShardError.__init__" = true)
    (lE : K.lookup tE = some ⟨.type "tuple", odD, .seq #[.none] nD, slD⟩)
    (kN : PySem.W.keepIn K (.ref CN) = true)
    (eN : PySem.W.subIn K (.ref CN) (.type "BaseException") = some true)
    (yN : PySem.W.typeIn K (.ref CN) = some (.type "type"))
    (jN : PySem.W.isClsIn K CN = true)
    (sN : PySem.W.subIn K (.ref CN) (.ref CN) = some true)
    (actN : PySem.W.findIn K (.ref CN) "act" = some none)
    (vV : PySem.W.findCls K (.type "ValueError") (.type "type") "__init__" = some (.val (.builtin "ValueError.__init__")))
    (gW : PySem.W.nsIn K mainGlobals "WORDS" = some (some (.ref aW)))
    (lW : K.lookup aW = some ⟨.type "tuple", odW, .seq itW nW, slW⟩)
    (gK : PySem.W.nsIn K mainGlobals "KINDS" = some (some (.ref aK)))
    (lK : K.lookup aK = some ⟨.type "tuple", odK, .seq itK nK, slK⟩)
    (gMOST_LETTERS : PySem.W.nsIn K mainGlobals "MOST_LETTERS" = some (some (.int 8 tMOST_LETTERS)))
    (gMOST_COLUMNS : PySem.W.nsIn K mainGlobals "MOST_COLUMNS" = some (some (.int 8 tMOST_COLUMNS)))
    (gMOST_HOUSES : PySem.W.nsIn K mainGlobals "MOST_HOUSES" = some (some (.int 6 tMOST_HOUSES)))
    (gMOST_CUTS_towns : PySem.W.nsIn K mainGlobals "MOST_CUTS_towns" = some (some (.int 8 tMOST_CUTS_towns)))
    (z_len : PySem.W.nsIn K mainGlobals "len" = some none)
    (z_isinstance : PySem.W.nsIn K mainGlobals "isinstance" = some none)
    (z_all : PySem.W.nsIn K mainGlobals "all" = some none)
    (z_any : PySem.W.nsIn K mainGlobals "any" = some none)
    (z_sorted : PySem.W.nsIn K mainGlobals "sorted" = some none)
    (z_set : PySem.W.nsIn K mainGlobals "set" = some none)
    (z_list : PySem.W.nsIn K mainGlobals "list" = some none)
    (z_tuple : PySem.W.nsIn K mainGlobals "tuple" = some none)
    (z_dict : PySem.W.nsIn K mainGlobals "dict" = some none)
    (z_int : PySem.W.nsIn K mainGlobals "int" = some none)
    (z_str : PySem.W.nsIn K mainGlobals "str" = some none)
    (z_bool : PySem.W.nsIn K mainGlobals "bool" = some none)
    (z_range : PySem.W.nsIn K mainGlobals "range" = some none)
    (z_enumerate : PySem.W.nsIn K mainGlobals "enumerate" = some none)
    (z_zip : PySem.W.nsIn K mainGlobals "zip" = some none)
    (z_ValueError : PySem.W.nsIn K mainGlobals "ValueError" = some none)
    (a0 : PySem.W.nsIn K mainGlobals "is_whole" = some (some (.ref f0)))
    (l0 : K.lookup f0 = some ⟨oc0, od0, .func (PySem.W.fnOf "is_whole" "is_whole" (defArgs s_is_whole) (defBody s_is_whole) (defScope s_is_whole) .none kV0 dc0 pm0 an0 cd0 ct0), sl0⟩)
    (c0 : PySem.W.codeIn K cd0 "is_whole" = true)
    (k0 : PySem.W.keepIn K (.ref f0) = true)
    (a1 : PySem.W.nsIn K mainGlobals "is_letters" = some (some (.ref f1)))
    (l1 : K.lookup f1 = some ⟨oc1, od1, .func (PySem.W.fnOf "is_letters" "is_letters" (defArgs s_is_letters) (defBody s_is_letters) (defScope s_is_letters) .none kV1 dc1 pm1 an1 cd1 ct1), sl1⟩)
    (c1 : PySem.W.codeIn K cd1 "is_letters" = true)
    (k1 : PySem.W.keepIn K (.ref f1) = true)
    (a2 : PySem.W.nsIn K mainGlobals "kind_of" = some (some (.ref f2)))
    (l2 : K.lookup f2 = some ⟨oc2, od2, .func (PySem.W.fnOf "kind_of" "kind_of" (defArgs s_kind_of) (defBody s_kind_of) (defScope s_kind_of) .none kV2 dc2 pm2 an2 cd2 ct2), sl2⟩)
    (c2 : PySem.W.codeIn K cd2 "kind_of" = true)
    (k2 : PySem.W.keepIn K (.ref f2) = true)
    (a3 : PySem.W.nsIn K mainGlobals "span_of" = some (some (.ref f3)))
    (l3 : K.lookup f3 = some ⟨oc3, od3, .func (PySem.W.fnOf "span_of" "span_of" (defArgs s_span_of) (defBody s_span_of) (defScope s_span_of) .none kV3 dc3 pm3 an3 cd3 ct3), sl3⟩)
    (c3 : PySem.W.codeIn K cd3 "span_of" = true)
    (k3 : PySem.W.keepIn K (.ref f3) = true)
    (a4 : PySem.W.nsIn K mainGlobals "kind_in" = some (some (.ref f4)))
    (l4 : K.lookup f4 = some ⟨oc4, od4, .func (PySem.W.fnOf "kind_in" "kind_in" (defArgs s_kind_in) (defBody s_kind_in) (defScope s_kind_in) .none kV4 dc4 pm4 an4 cd4 ct4), sl4⟩)
    (c4 : PySem.W.codeIn K cd4 "kind_in" = true)
    (k4 : PySem.W.keepIn K (.ref f4) = true)
    (a5 : PySem.W.nsIn K mainGlobals "is_name" = some (some (.ref f5)))
    (l5 : K.lookup f5 = some ⟨oc5, od5, .func (PySem.W.fnOf "is_name" "is_name" (defArgs s_is_name) (defBody s_is_name) (defScope s_is_name) .none kV5 dc5 pm5 an5 cd5 ct5), sl5⟩)
    (c5 : PySem.W.codeIn K cd5 "is_name" = true)
    (k5 : PySem.W.keepIn K (.ref f5) = true)
    (a6 : PySem.W.nsIn K mainGlobals "is_value" = some (some (.ref f6)))
    (l6 : K.lookup f6 = some ⟨oc6, od6, .func (PySem.W.fnOf "is_value" "is_value" (defArgs s_is_value) (defBody s_is_value) (defScope s_is_value) .none kV6 dc6 pm6 an6 cd6 ct6), sl6⟩)
    (c6 : PySem.W.codeIn K cd6 "is_value" = true)
    (k6 : PySem.W.keepIn K (.ref f6) = true)
    (a7 : PySem.W.nsIn K mainGlobals "is_house" = some (some (.ref f7)))
    (l7 : K.lookup f7 = some ⟨oc7, od7, .func (PySem.W.fnOf "is_house" "is_house" (defArgs s_is_house) (defBody s_is_house) (defScope s_is_house) .none kV7 dc7 pm7 an7 cd7 ct7), sl7⟩)
    (c7 : PySem.W.codeIn K cd7 "is_house" = true)
    (k7 : PySem.W.keepIn K (.ref f7) = true)
    (a8 : PySem.W.nsIn K mainGlobals "houses_of" = some (some (.ref f8)))
    (l8 : K.lookup f8 = some ⟨oc8, od8, .func (PySem.W.fnOf "houses_of" "houses_of" (defArgs s_houses_of) (defBody s_houses_of) (defScope s_houses_of) .none kV8 dc8 pm8 an8 cd8 ct8), sl8⟩)
    (c8 : PySem.W.codeIn K cd8 "houses_of" = true)
    (k8 : PySem.W.keepIn K (.ref f8) = true)
    (a9 : PySem.W.nsIn K mainGlobals "is_column" = some (some (.ref f9)))
    (l9 : K.lookup f9 = some ⟨oc9, od9, .func (PySem.W.fnOf "is_column" "is_column" (defArgs s_is_column) (defBody s_is_column) (defScope s_is_column) .none kV9 dc9 pm9 an9 cd9 ct9), sl9⟩)
    (c9 : PySem.W.codeIn K cd9 "is_column" = true)
    (k9 : PySem.W.keepIn K (.ref f9) = true)
    (a10 : PySem.W.nsIn K mainGlobals "is_row" = some (some (.ref f10)))
    (l10 : K.lookup f10 = some ⟨oc10, od10, .func (PySem.W.fnOf "is_row" "is_row" (defArgs s_is_row) (defBody s_is_row) (defScope s_is_row) .none kV10 dc10 pm10 an10 cd10 ct10), sl10⟩)
    (c10 : PySem.W.codeIn K cd10 "is_row" = true)
    (k10 : PySem.W.keepIn K (.ref f10) = true)
    (a11 : PySem.W.nsIn K mainGlobals "are_cuts" = some (some (.ref f11)))
    (l11 : K.lookup f11 = some ⟨oc11, od11, .func (PySem.W.fnOf "are_cuts" "are_cuts" (defArgs s_are_cuts) (defBody s_are_cuts) (defScope s_are_cuts) .none kV11 dc11 pm11 an11 cd11 ct11), sl11⟩)
    (c11 : PySem.W.codeIn K cd11 "are_cuts" = true)
    (k11 : PySem.W.keepIn K (.ref f11) = true)
    (a12 : PySem.W.nsIn K mainGlobals "is_head" = some (some (.ref f12)))
    (l12 : K.lookup f12 = some ⟨oc12, od12, .func (PySem.W.fnOf "is_head" "is_head" (defArgs s_is_head) (defBody s_is_head) (defScope s_is_head) .none kV12 dc12 pm12 an12 cd12 ct12), sl12⟩)
    (c12 : PySem.W.codeIn K cd12 "is_head" = true)
    (k12 : PySem.W.keepIn K (.ref f12) = true)
    (a13 : PySem.W.nsIn K mainGlobals "is_placing" = some (some (.ref f13)))
    (l13 : K.lookup f13 = some ⟨oc13, od13, .func (PySem.W.fnOf "is_placing" "is_placing" (defArgs s_is_placing) (defBody s_is_placing) (defScope s_is_placing) .none kV13 dc13 pm13 an13 cd13 ct13), sl13⟩)
    (c13 : PySem.W.codeIn K cd13 "is_placing" = true)
    (k13 : PySem.W.keepIn K (.ref f13) = true)
    (a14 : PySem.W.nsIn K mainGlobals "is_table" = some (some (.ref f14)))
    (l14 : K.lookup f14 = some ⟨oc14, od14, .func (PySem.W.fnOf "is_table" "is_table" (defArgs s_is_table) (defBody s_is_table) (defScope s_is_table) .none kV14 dc14 pm14 an14 cd14 ct14), sl14⟩)
    (c14 : PySem.W.codeIn K cd14 "is_table" = true)
    (k14 : PySem.W.keepIn K (.ref f14) = true)
    (a15 : PySem.W.nsIn K mainGlobals "check_town" = some (some (.ref f15)))
    (l15 : K.lookup f15 = some ⟨oc15, od15, .func (PySem.W.fnOf "check_town" "check_town" (defArgs s_check_town) (defBody s_check_town) (defScope s_check_town) .none kV15 dc15 pm15 an15 cd15 ct15), sl15⟩)
    (c15 : PySem.W.codeIn K cd15 "check_town" = true)
    (k15 : PySem.W.keepIn K (.ref f15) = true)
    (a16 : PySem.W.findIn K (.ref CT) "heads" = some (some (.ref f16)))
    (i16 : PySem.W.isFn K (.ref f16) = true)
    (l16 : K.lookup f16 = some ⟨oc16, od16, .func (PySem.W.fnOf "heads" "Town.heads" (defArgs s_Town_heads) (defBody s_Town_heads) (defScope s_Town_heads) .none kV16 dc16 pm16 an16 cd16 ct16), sl16⟩)
    (c16 : PySem.W.codeIn K cd16 "Town.heads" = true)
    (k16 : PySem.W.keepIn K (.ref f16) = true)
    (a17 : PySem.W.findIn K (.ref CT) "check_name" = some (some (.ref f17)))
    (i17 : PySem.W.isFn K (.ref f17) = true)
    (l17 : K.lookup f17 = some ⟨oc17, od17, .func (PySem.W.fnOf "check_name" "Town.check_name" (defArgs s_Town_check_name) (defBody s_Town_check_name) (defScope s_Town_check_name) .none kV17 dc17 pm17 an17 cd17 ct17), sl17⟩)
    (c17 : PySem.W.codeIn K cd17 "Town.check_name" = true)
    (k17 : PySem.W.keepIn K (.ref f17) = true)
    (a18 : PySem.W.findIn K (.ref CT) "placing" = some (some (.ref f18)))
    (i18 : PySem.W.isFn K (.ref f18) = true)
    (l18 : K.lookup f18 = some ⟨oc18, od18, .func (PySem.W.fnOf "placing" "Town.placing" (defArgs s_Town_placing) (defBody s_Town_placing) (defScope s_Town_placing) .none kV18 dc18 pm18 an18 cd18 ct18), sl18⟩)
    (c18 : PySem.W.codeIn K cd18 "Town.placing" = true)
    (k18 : PySem.W.keepIn K (.ref f18) = true)
    (a19 : PySem.W.findIn K (.ref CT) "whole" = some (some (.ref f19)))
    (i19 : PySem.W.isFn K (.ref f19) = true)
    (l19 : K.lookup f19 = some ⟨oc19, od19, .func (PySem.W.fnOf "whole" "Town.whole" (defArgs s_Town_whole) (defBody s_Town_whole) (defScope s_Town_whole) .none kV19 dc19 pm19 an19 cd19 ct19), sl19⟩)
    (c19 : PySem.W.codeIn K cd19 "Town.whole" = true)
    (k19 : PySem.W.keepIn K (.ref f19) = true)
    (a20 : PySem.W.findIn K (.ref CT) "part" = some (some (.ref f20)))
    (i20 : PySem.W.isFn K (.ref f20) = true)
    (l20 : K.lookup f20 = some ⟨oc20, od20, .func (PySem.W.fnOf "part" "Town.part" (defArgs s_Town_part) (defBody s_Town_part) (defScope s_Town_part) .none kV20 dc20 pm20 an20 cd20 ct20), sl20⟩)
    (c20 : PySem.W.codeIn K cd20 "Town.part" = true)
    (k20 : PySem.W.keepIn K (.ref f20) = true)
    (a21 : PySem.W.findIn K (.ref CT) "__init__" = some (some (.ref f21)))
    (i21 : PySem.W.isFn K (.ref f21) = true)
    (l21 : K.lookup f21 = some ⟨oc21, od21, .func (PySem.W.fnOf "__init__" "Town.__init__" (defArgs s_Town___init__) (defBody s_Town___init__) (defScope s_Town___init__) .none kV21 dc21 pm21 an21 cd21 ct21), sl21⟩)
    (c21 : PySem.W.codeIn K cd21 "Town.__init__" = true)
    (k21 : PySem.W.keepIn K (.ref f21) = true)
    (a22 : PySem.W.findIn K (.ref CS) "with_cuts" = some (some (.ref f22)))
    (i22 : PySem.W.isFn K (.ref f22) = true)
    (l22 : K.lookup f22 = some ⟨oc22, od22, .func (PySem.W.fnOf "with_cuts" "Store.with_cuts" (defArgs s_Store_with_cuts) (defBody s_Store_with_cuts) (defScope s_Store_with_cuts) .none kV22 dc22 pm22 an22 cd22 ct22), sl22⟩)
    (c22 : PySem.W.codeIn K cd22 "Store.with_cuts" = true)
    (k22 : PySem.W.keepIn K (.ref f22) = true)
    (a23 : PySem.W.findIn K (.ref CS) "table_of" = some (some (.ref f23)))
    (i23 : PySem.W.isFn K (.ref f23) = true)
    (l23 : K.lookup f23 = some ⟨oc23, od23, .func (PySem.W.fnOf "table_of" "Store.table_of" (defArgs s_Store_table_of) (defBody s_Store_table_of) (defScope s_Store_table_of) .none kV23 dc23 pm23 an23 cd23 ct23), sl23⟩)
    (c23 : PySem.W.codeIn K cd23 "Store.table_of" = true)
    (k23 : PySem.W.keepIn K (.ref f23) = true)
    (a24 : PySem.W.findIn K (.ref CS) "spans_of" = some (some (.ref f24)))
    (i24 : PySem.W.isFn K (.ref f24) = true)
    (l24 : K.lookup f24 = some ⟨oc24, od24, .func (PySem.W.fnOf "spans_of" "Store.spans_of" (defArgs s_Store_spans_of) (defBody s_Store_spans_of) (defScope s_Store_spans_of) .none kV24 dc24 pm24 an24 cd24 ct24), sl24⟩)
    (c24 : PySem.W.codeIn K cd24 "Store.spans_of" = true)
    (k24 : PySem.W.keepIn K (.ref f24) = true)
    (a25 : PySem.W.findIn K (.ref CS) "put" = some (some (.ref f25)))
    (i25 : PySem.W.isFn K (.ref f25) = true)
    (l25 : K.lookup f25 = some ⟨oc25, od25, .func (PySem.W.fnOf "put" "Store.put" (defArgs s_Store_put) (defBody s_Store_put) (defScope s_Store_put) .none kV25 dc25 pm25 an25 cd25 ct25), sl25⟩)
    (c25 : PySem.W.codeIn K cd25 "Store.put" = true)
    (k25 : PySem.W.keepIn K (.ref f25) = true)
    (a26 : PySem.W.findIn K (.ref CS) "drop" = some (some (.ref f26)))
    (i26 : PySem.W.isFn K (.ref f26) = true)
    (l26 : K.lookup f26 = some ⟨oc26, od26, .func (PySem.W.fnOf "drop" "Store.drop" (defArgs s_Store_drop) (defBody s_Store_drop) (defScope s_Store_drop) .none kV26 dc26 pm26 an26 cd26 ct26), sl26⟩)
    (c26 : PySem.W.codeIn K cd26 "Store.drop" = true)
    (k26 : PySem.W.keepIn K (.ref f26) = true)
    (a27 : PySem.W.findIn K (.ref CS) "moving" = some (some (.ref f27)))
    (i27 : PySem.W.isFn K (.ref f27) = true)
    (l27 : K.lookup f27 = some ⟨oc27, od27, .func (PySem.W.fnOf "moving" "Store.moving" (defArgs s_Store_moving) (defBody s_Store_moving) (defScope s_Store_moving) .none kV27 dc27 pm27 an27 cd27 ct27), sl27⟩)
    (c27 : PySem.W.codeIn K cd27 "Store.moving" = true)
    (k27 : PySem.W.keepIn K (.ref f27) = true)
    (a28 : PySem.W.findIn K (.ref CS) "move_of" = some (some (.ref f28)))
    (i28 : PySem.W.isFn K (.ref f28) = true)
    (l28 : K.lookup f28 = some ⟨oc28, od28, .func (PySem.W.fnOf "move_of" "Store.move_of" (defArgs s_Store_move_of) (defBody s_Store_move_of) (defScope s_Store_move_of) .none kV28 dc28 pm28 an28 cd28 ct28), sl28⟩)
    (c28 : PySem.W.codeIn K cd28 "Store.move_of" = true)
    (k28 : PySem.W.keepIn K (.ref f28) = true)
    (a29 : PySem.W.findIn K (.ref CS) "lend" = some (some (.ref f29)))
    (i29 : PySem.W.isFn K (.ref f29) = true)
    (l29 : K.lookup f29 = some ⟨oc29, od29, .func (PySem.W.fnOf "lend" "Store.lend" (defArgs s_Store_lend) (defBody s_Store_lend) (defScope s_Store_lend) .none kV29 dc29 pm29 an29 cd29 ct29), sl29⟩)
    (c29 : PySem.W.codeIn K cd29 "Store.lend" = true)
    (k29 : PySem.W.keepIn K (.ref f29) = true)
    (a30 : PySem.W.findIn K (.ref CS) "span_rows" = some (some (.ref f30)))
    (i30 : PySem.W.isFn K (.ref f30) = true)
    (l30 : K.lookup f30 = some ⟨oc30, od30, .func (PySem.W.fnOf "span_rows" "Store.span_rows" (defArgs s_Store_span_rows) (defBody s_Store_span_rows) (defScope s_Store_span_rows) .none kV30 dc30 pm30 an30 cd30 ct30), sl30⟩)
    (c30 : PySem.W.codeIn K cd30 "Store.span_rows" = true)
    (k30 : PySem.W.keepIn K (.ref f30) = true)
    (a31 : PySem.W.findIn K (.ref CS) "rows_above" = some (some (.ref f31)))
    (i31 : PySem.W.isFn K (.ref f31) = true)
    (l31 : K.lookup f31 = some ⟨oc31, od31, .func (PySem.W.fnOf "rows_above" "Store.rows_above" (defArgs s_Store_rows_above) (defBody s_Store_rows_above) (defScope s_Store_rows_above) .none kV31 dc31 pm31 an31 cd31 ct31), sl31⟩)
    (c31 : PySem.W.codeIn K cd31 "Store.rows_above" = true)
    (k31 : PySem.W.keepIn K (.ref f31) = true)
    (a32 : PySem.W.findIn K (.ref CS) "stands" = some (some (.ref f32)))
    (i32 : PySem.W.isFn K (.ref f32) = true)
    (l32 : K.lookup f32 = some ⟨oc32, od32, .func (PySem.W.fnOf "stands" "Store.stands" (defArgs s_Store_stands) (defBody s_Store_stands) (defScope s_Store_stands) .none kV32 dc32 pm32 an32 cd32 ct32), sl32⟩)
    (c32 : PySem.W.codeIn K cd32 "Store.stands" = true)
    (k32 : PySem.W.keepIn K (.ref f32) = true)
    (a33 : PySem.W.findIn K (.ref CS) "carry" = some (some (.ref f33)))
    (i33 : PySem.W.isFn K (.ref f33) = true)
    (l33 : K.lookup f33 = some ⟨oc33, od33, .func (PySem.W.fnOf "carry" "Store.carry" (defArgs s_Store_carry) (defBody s_Store_carry) (defScope s_Store_carry) .none kV33 dc33 pm33 an33 cd33 ct33), sl33⟩)
    (c33 : PySem.W.codeIn K cd33 "Store.carry" = true)
    (k33 : PySem.W.keepIn K (.ref f33) = true)
    (a34 : PySem.W.findIn K (.ref CS) "settle" = some (some (.ref f34)))
    (i34 : PySem.W.isFn K (.ref f34) = true)
    (l34 : K.lookup f34 = some ⟨oc34, od34, .func (PySem.W.fnOf "settle" "Store.settle" (defArgs s_Store_settle) (defBody s_Store_settle) (defScope s_Store_settle) .none kV34 dc34 pm34 an34 cd34 ct34), sl34⟩)
    (c34 : PySem.W.codeIn K cd34 "Store.settle" = true)
    (k34 : PySem.W.keepIn K (.ref f34) = true)
    (a35 : PySem.W.findIn K (.ref CS) "town" = some (some (.ref f35)))
    (i35 : PySem.W.isFn K (.ref f35) = true)
    (l35 : K.lookup f35 = some ⟨oc35, od35, .func (PySem.W.fnOf "town" "Store.town" (defArgs s_Store_town) (defBody s_Store_town) (defScope s_Store_town) .none kV35 dc35 pm35 an35 cd35 ct35), sl35⟩)
    (c35 : PySem.W.codeIn K cd35 "Store.town" = true)
    (k35 : PySem.W.keepIn K (.ref f35) = true)
    (a36 : PySem.W.findIn K (.ref CS) "__init__" = some (some (.ref f36)))
    (i36 : PySem.W.isFn K (.ref f36) = true)
    (l36 : K.lookup f36 = some ⟨oc36, od36, .func (PySem.W.fnOf "__init__" "Store.__init__" (defArgs s_Store___init__) (defBody s_Store___init__) (defScope s_Store___init__) .none kV36 dc36 pm36 an36 cd36 ct36), sl36⟩)
    (c36 : PySem.W.codeIn K cd36 "Store.__init__" = true)
    (k36 : PySem.W.keepIn K (.ref f36) = true)
    (a37 : PySem.W.nsIn K mainGlobals "_law_next" = some (some (.ref f37)))
    (l37 : K.lookup f37 = some ⟨oc37, od37, .func (PySem.W.fnOf "_law_next" "_law_next" (defArgs s_law_next) (defBody s_law_next) (defScope s_law_next) .none kV37 dc37 pm37 an37 cd37 ct37), sl37⟩)
    (c37 : PySem.W.codeIn K cd37 "_law_next" = true)
    (k37 : PySem.W.keepIn K (.ref f37) = true)
    (a38 : PySem.W.nsIn K mainGlobals "_law_words" = some (some (.ref f38)))
    (l38 : K.lookup f38 = some ⟨oc38, od38, .func (PySem.W.fnOf "_law_words" "_law_words" (defArgs s_law_words) (defBody s_law_words) (defScope s_law_words) .none kV38 dc38 pm38 an38 cd38 ct38), sl38⟩)
    (c38 : PySem.W.codeIn K cd38 "_law_words" = true)
    (k38 : PySem.W.keepIn K (.ref f38) = true)
    (a39 : PySem.W.nsIn K mainGlobals "_law_seed" = some (some (.ref f39)))
    (l39 : K.lookup f39 = some ⟨oc39, od39, .func (PySem.W.fnOf "_law_seed" "_law_seed" (defArgs s_law_seed) (defBody s_law_seed) (defScope s_law_seed) .none kV39 dc39 pm39 an39 cd39 ct39), sl39⟩)
    (c39 : PySem.W.codeIn K cd39 "_law_seed" = true)
    (k39 : PySem.W.keepIn K (.ref f39) = true)
    (a40 : PySem.W.nsIn K mainGlobals "_law_span" = some (some (.ref f40)))
    (l40 : K.lookup f40 = some ⟨oc40, od40, .func (PySem.W.fnOf "_law_span" "_law_span" (defArgs s_law_span) (defBody s_law_span) (defScope s_law_span) .none kV40 dc40 pm40 an40 cd40 ct40), sl40⟩)
    (c40 : PySem.W.codeIn K cd40 "_law_span" = true)
    (k40 : PySem.W.keepIn K (.ref f40) = true)
    (a41 : PySem.W.nsIn K mainGlobals "_law_spot" = some (some (.ref f41)))
    (l41 : K.lookup f41 = some ⟨oc41, od41, .func (PySem.W.fnOf "_law_spot" "_law_spot" (defArgs s_law_spot) (defBody s_law_spot) (defScope s_law_spot) .none kV41 dc41 pm41 an41 cd41 ct41), sl41⟩)
    (c41 : PySem.W.codeIn K cd41 "_law_spot" = true)
    (k41 : PySem.W.keepIn K (.ref f41) = true)
    (a42 : PySem.W.nsIn K mainGlobals "_law_great" = some (some (.ref f42)))
    (l42 : K.lookup f42 = some ⟨oc42, od42, .func (PySem.W.fnOf "_law_great" "_law_great" (defArgs s_law_great) (defBody s_law_great) (defScope s_law_great) .none kV42 dc42 pm42 an42 cd42 ct42), sl42⟩)
    (c42 : PySem.W.codeIn K cd42 "_law_great" = true)
    (k42 : PySem.W.keepIn K (.ref f42) = true)
    (a43 : PySem.W.nsIn K mainGlobals "_law_value" = some (some (.ref f43)))
    (l43 : K.lookup f43 = some ⟨oc43, od43, .func (PySem.W.fnOf "_law_value" "_law_value" (defArgs s_law_value) (defBody s_law_value) (defScope s_law_value) .none kV43 dc43 pm43 an43 cd43 ct43), sl43⟩)
    (c43 : PySem.W.codeIn K cd43 "_law_value" = true)
    (k43 : PySem.W.keepIn K (.ref f43) = true)
    (a44 : PySem.W.nsIn K mainGlobals "_law_row" = some (some (.ref f44)))
    (l44 : K.lookup f44 = some ⟨oc44, od44, .func (PySem.W.fnOf "_law_row" "_law_row" (defArgs s_law_row) (defBody s_law_row) (defScope s_law_row) .none kV44 dc44 pm44 an44 cd44 ct44), sl44⟩)
    (c44 : PySem.W.codeIn K cd44 "_law_row" = true)
    (k44 : PySem.W.keepIn K (.ref f44) = true)
    (a45 : PySem.W.nsIn K mainGlobals "_law_head" = some (some (.ref f45)))
    (l45 : K.lookup f45 = some ⟨oc45, od45, .func (PySem.W.fnOf "_law_head" "_law_head" (defArgs s_law_head) (defBody s_law_head) (defScope s_law_head) .none kV45 dc45 pm45 an45 cd45 ct45), sl45⟩)
    (c45 : PySem.W.codeIn K cd45 "_law_head" = true)
    (k45 : PySem.W.keepIn K (.ref f45) = true)
    (a46 : PySem.W.nsIn K mainGlobals "_law_names" = some (some (.ref f46)))
    (l46 : K.lookup f46 = some ⟨oc46, od46, .func (PySem.W.fnOf "_law_names" "_law_names" (defArgs s_law_names) (defBody s_law_names) (defScope s_law_names) .none kV46 dc46 pm46 an46 cd46 ct46), sl46⟩)
    (c46 : PySem.W.codeIn K cd46 "_law_names" = true)
    (k46 : PySem.W.keepIn K (.ref f46) = true)
    (a47 : PySem.W.nsIn K mainGlobals "_law_lent" = some (some (.ref f47)))
    (l47 : K.lookup f47 = some ⟨oc47, od47, .func (PySem.W.fnOf "_law_lent" "_law_lent" (defArgs s_law_lent) (defBody s_law_lent) (defScope s_law_lent) .none kV47 dc47 pm47 an47 cd47 ct47), sl47⟩)
    (c47 : PySem.W.codeIn K cd47 "_law_lent" = true)
    (k47 : PySem.W.keepIn K (.ref f47) = true)
    (a48 : PySem.W.nsIn K mainGlobals "_law_stood" = some (some (.ref f48)))
    (l48 : K.lookup f48 = some ⟨oc48, od48, .func (PySem.W.fnOf "_law_stood" "_law_stood" (defArgs s_law_stood) (defBody s_law_stood) (defScope s_law_stood) .none kV48 dc48 pm48 an48 cd48 ct48), sl48⟩)
    (c48 : PySem.W.codeIn K cd48 "_law_stood" = true)
    (k48 : PySem.W.keepIn K (.ref f48) = true)
    (a49 : PySem.W.nsIn K mainGlobals "_law_of_span" = some (some (.ref f49)))
    (l49 : K.lookup f49 = some ⟨oc49, od49, .func (PySem.W.fnOf "_law_of_span" "_law_of_span" (defArgs s_law_of_span) (defBody s_law_of_span) (defScope s_law_of_span) .none kV49 dc49 pm49 an49 cd49 ct49), sl49⟩)
    (c49 : PySem.W.codeIn K cd49 "_law_of_span" = true)
    (k49 : PySem.W.keepIn K (.ref f49) = true)
    (a50 : PySem.W.nsIn K mainGlobals "_law_above" = some (some (.ref f50)))
    (l50 : K.lookup f50 = some ⟨oc50, od50, .func (PySem.W.fnOf "_law_above" "_law_above" (defArgs s_law_above) (defBody s_law_above) (defScope s_law_above) .none kV50 dc50 pm50 an50 cd50 ct50), sl50⟩)
    (c50 : PySem.W.codeIn K cd50 "_law_above" = true)
    (k50 : PySem.W.keepIn K (.ref f50) = true)
    (a51 : PySem.W.nsIn K mainGlobals "_law_stands" = some (some (.ref f51)))
    (l51 : K.lookup f51 = some ⟨oc51, od51, .func (PySem.W.fnOf "_law_stands" "_law_stands" (defArgs s_law_stands) (defBody s_law_stands) (defScope s_law_stands) .none kV51 dc51 pm51 an51 cd51 ct51), sl51⟩)
    (c51 : PySem.W.codeIn K cd51 "_law_stands" = true)
    (k51 : PySem.W.keepIn K (.ref f51) = true)
    (a52 : PySem.W.nsIn K mainGlobals "_law_spans_begun" = some (some (.ref f52)))
    (l52 : K.lookup f52 = some ⟨oc52, od52, .func (PySem.W.fnOf "_law_spans_begun" "_law_spans_begun" (defArgs s_law_spans_begun) (defBody s_law_spans_begun) (defScope s_law_spans_begun) .none kV52 dc52 pm52 an52 cd52 ct52), sl52⟩)
    (c52 : PySem.W.codeIn K cd52 "_law_spans_begun" = true)
    (k52 : PySem.W.keepIn K (.ref f52) = true)
    (a53 : PySem.W.nsIn K mainGlobals "_law_right" = some (some (.ref f53)))
    (l53 : K.lookup f53 = some ⟨oc53, od53, .func (PySem.W.fnOf "_law_right" "_law_right" (defArgs s_law_right) (defBody s_law_right) (defScope s_law_right) .none kV53 dc53 pm53 an53 cd53 ct53), sl53⟩)
    (c53 : PySem.W.codeIn K cd53 "_law_right" = true)
    (k53 : PySem.W.keepIn K (.ref f53) = true)
    (a54 : PySem.W.nsIn K mainGlobals "_law_settled" = some (some (.ref f54)))
    (l54 : K.lookup f54 = some ⟨oc54, od54, .func (PySem.W.fnOf "_law_settled" "_law_settled" (defArgs s_law_settled) (defBody s_law_settled) (defScope s_law_settled) .none kV54 dc54 pm54 an54 cd54 ct54), sl54⟩)
    (c54 : PySem.W.codeIn K cd54 "_law_settled" = true)
    (k54 : PySem.W.keepIn K (.ref f54) = true)
    (a55 : PySem.W.nsIn K mainGlobals "_law_try" = some (some (.ref f55)))
    (l55 : K.lookup f55 = some ⟨oc55, od55, .func (PySem.W.fnOf "_law_try" "_law_try" (defArgs s_law_try) (defBody s_law_try) (defScope s_law_try) .none kV55 dc55 pm55 an55 cd55 ct55), sl55⟩)
    (c55 : PySem.W.codeIn K cd55 "_law_try" = true)
    (k55 : PySem.W.keepIn K (.ref f55) = true)
    (a56 : PySem.W.nsIn K mainGlobals "_law_changed" = some (some (.ref f56)))
    (l56 : K.lookup f56 = some ⟨oc56, od56, .func (PySem.W.fnOf "_law_changed" "_law_changed" (defArgs s_law_changed) (defBody s_law_changed) (defScope s_law_changed) .none kV56 dc56 pm56 an56 cd56 ct56), sl56⟩)
    (c56 : PySem.W.codeIn K cd56 "_law_changed" = true)
    (k56 : PySem.W.keepIn K (.ref f56) = true)
    (a57 : PySem.W.nsIn K mainGlobals "law" = some (some (.ref f57)))
    (l57 : K.lookup f57 = some ⟨oc57, od57, .func (PySem.W.fnOf "law" "law" (defArgs s_law) (defBody s_law) (defScope s_law) .none kV57 dc57 pm57 an57 cd57 ct57), sl57⟩)
    (c57 : PySem.W.codeIn K cd57 "law" = true)
    (k57 : PySem.W.keepIn K (.ref f57) = true)
    (bmOk : PySem.HandSPX.refsVE bmN = true) (sW : itW.size ≤ sizeLine) (vW : Vals (words.map V.str) itW.toList) (sK : itK.size ≤ sizeLine) (vK : Vals [V.str "number", V.str "word"] itK.toList) :
    ∃ fd : FuncData, (∀ (s : Shared) (v : Value), BindsTo s fd ⟨[v], []⟩ [("_law_script", v)]) ∧ ∀ base : Heap, K.In base → base.Ns mainGlobals mg → FnOk l.prog w K mg base CX0 12 fa fd ["_law_script"] (spLaw K) := by
  have e := hfa.symm.trans (PySem.W.mg_of X G a57)
  cases e
  have X0 : Txt K mg aW aK := ⟨⟨PySem.W.mg_none_of X G z_len, PySem.W.mg_none_of X G z_isinstance, PySem.W.mg_none_of X G z_all, PySem.W.mg_none_of X G z_any, PySem.W.mg_none_of X G z_sorted, PySem.W.mg_none_of X G z_set, PySem.W.mg_none_of X G z_list, PySem.W.mg_none_of X G z_tuple, PySem.W.mg_none_of X G z_dict, PySem.W.mg_none_of X G z_int, PySem.W.mg_none_of X G z_str, PySem.W.mg_none_of X G z_bool, PySem.W.mg_none_of X G z_range, PySem.W.mg_none_of X G z_enumerate, PySem.W.mg_none_of X G z_zip⟩, PySem.W.mg_of X G gW, .inr ⟨_, _, _, lW, rfl, rfl, sW, vW⟩, PySem.W.mg_of X G gK, .inr ⟨_, _, _, lK, rfl, rfl, sK, vK⟩, ⟨_, PySem.W.mg_of X G gMOST_LETTERS⟩, ⟨_, PySem.W.mg_of X G gMOST_COLUMNS⟩, ⟨_, PySem.W.mg_of X G gMOST_HOUSES⟩, ⟨_, PySem.W.mg_of X G gMOST_CUTS_towns⟩⟩
  have clS : Cls K CS := ⟨pgS, hdS, poS, saS⟩
  have clT : Cls K CT := ⟨pgT, hdT, poT, saT⟩
  have sC : StoreC K CS := ⟨clS, no_CS_count, no_CS_held, no_CS_moves⟩
  have tC : TownC K CT := ⟨clT, no_CT_many, no_CT_told_heads, no_CT_placings, no_CT_rows⟩
  have FE : C8.Fun K "__init__" "ShardError.__init__" s_ShardError_init fE _ := ⟨_, _, _, _, _, _, _, _, _, _, rfl, lN, cN⟩
  have oN : OexC K CN := ⟨⟨_, _, _, _, _, _, _, _, _, _, _, _, _, _, _, xN, bmOk⟩, saN, eN, yN, kN⟩
  have bE := binds_err (kV := kVE) (doc := dcE) (pm := pmE) (an := anE) (cdv := cdE) (ct := ctE) lE
  have hVE := PySem.W.mg_none_of X G z_ValueError
  have F0 := fun_mk (st := s_is_whole) l0 c0 k0
  have b0 := F0.binds (ps := ["thing"]) fun _ _ _ _ _ _ us hl => match us, hl with | [_], _ => rfl
  have F1 := fun_mk (st := s_is_letters) l1 c1 k1
  have b1 := F1.binds (ps := ["thing", "least"]) fun _ _ _ _ _ _ us hl => match us, hl with | [_, _], _ => rfl
  have F2 := fun_mk (st := s_kind_of) l2 c2 k2
  have b2 := F2.binds (ps := ["value"]) fun _ _ _ _ _ _ us hl => match us, hl with | [_], _ => rfl
  have F3 := fun_mk (st := s_span_of) l3 c3 k3
  have b3 := F3.binds (ps := ["cuts", "value"]) fun _ _ _ _ _ _ us hl => match us, hl with | [_, _], _ => rfl
  have F4 := fun_mk (st := s_kind_in) l4 c4 k4
  have b4 := F4.binds (ps := ["head", "name"]) fun _ _ _ _ _ _ us hl => match us, hl with | [_, _], _ => rfl
  have F5 := fun_mk (st := s_is_name) l5 c5 k5
  have b5 := F5.binds (ps := ["thing"]) fun _ _ _ _ _ _ us hl => match us, hl with | [_], _ => rfl
  have F6 := fun_mk (st := s_is_value) l6 c6 k6
  have b6 := F6.binds (ps := ["thing"]) fun _ _ _ _ _ _ us hl => match us, hl with | [_], _ => rfl
  have F7 := fun_mk (st := s_is_house) l7 c7 k7
  have b7 := F7.binds (ps := ["thing", "many"]) fun _ _ _ _ _ _ us hl => match us, hl with | [_, _], _ => rfl
  have F8 := fun_mk (st := s_houses_of) l8 c8 k8
  have b8 := F8.binds (ps := ["head", "placing", "row", "many"]) fun _ _ _ _ _ _ us hl => match us, hl with | [_, _, _, _], _ => rfl
  have F9 := fun_mk (st := s_is_column) l9 c9 k9
  have b9 := F9.binds (ps := ["thing"]) fun _ _ _ _ _ _ us hl => match us, hl with | [_], _ => rfl
  have F10 := fun_mk (st := s_is_row) l10 c10 k10
  have b10 := F10.binds (ps := ["head", "thing"]) fun _ _ _ _ _ _ us hl => match us, hl with | [_, _], _ => rfl
  have F11 := fun_mk (st := s_are_cuts) l11 c11 k11
  have b11 := F11.binds (ps := ["thing", "kind", "many"]) fun _ _ _ _ _ _ us hl => match us, hl with | [_, _, _], _ => rfl
  have F12 := fun_mk (st := s_is_head) l12 c12 k12
  have b12 := F12.binds (ps := ["thing"]) fun _ _ _ _ _ _ us hl => match us, hl with | [_], _ => rfl
  have F13 := fun_mk (st := s_is_placing) l13 c13 k13
  have b13 := F13.binds (ps := ["thing", "head", "many"]) fun _ _ _ _ _ _ us hl => match us, hl with | [_, _, _], _ => rfl
  have F14 := fun_mk (st := s_is_table) l14 c14 k14
  have b14 := F14.binds (ps := ["thing", "many"]) fun _ _ _ _ _ _ us hl => match us, hl with | [_, _], _ => rfl
  have F15 := fun_mk (st := s_check_town) l15 c15 k15
  have b15 := F15.binds (ps := ["houses", "tables"]) fun _ _ _ _ _ _ us hl => match us, hl with | [_, _], _ => rfl
  have F16 := fun_mk (st := s_Town_heads) l16 c16 k16
  have b16 := F16.binds (ps := ["self"]) fun _ _ _ _ _ _ us hl => match us, hl with | [_], _ => rfl
  have F17 := fun_mk (st := s_Town_check_name) l17 c17 k17
  have b17 := F17.binds (ps := ["self", "name"]) fun _ _ _ _ _ _ us hl => match us, hl with | [_, _], _ => rfl
  have F18 := fun_mk (st := s_Town_placing) l18 c18 k18
  have b18 := F18.binds (ps := ["self", "name"]) fun _ _ _ _ _ _ us hl => match us, hl with | [_, _], _ => rfl
  have F19 := fun_mk (st := s_Town_whole) l19 c19 k19
  have b19 := F19.binds (ps := ["self", "name"]) fun _ _ _ _ _ _ us hl => match us, hl with | [_, _], _ => rfl
  have F20 := fun_mk (st := s_Town_part) l20 c20 k20
  have b20 := F20.binds (ps := ["self", "name", "house"]) fun _ _ _ _ _ _ us hl => match us, hl with | [_, _, _], _ => rfl
  have F21 := fun_mk (st := s_Town___init__) l21 c21 k21
  have b21 := F21.binds (ps := ["self", "houses", "tables"]) fun _ _ _ _ _ _ us hl => match us, hl with | [_, _, _], _ => rfl
  have F22 := fun_mk (st := s_Store_with_cuts) l22 c22 k22
  have b22 := F22.binds (ps := ["self", "name", "cuts"]) fun _ _ _ _ _ _ us hl => match us, hl with | [_, _, _], _ => rfl
  have F23 := fun_mk (st := s_Store_table_of) l23 c23 k23
  have b23 := F23.binds (ps := ["self", "name"]) fun _ _ _ _ _ _ us hl => match us, hl with | [_, _], _ => rfl
  have F24 := fun_mk (st := s_Store_spans_of) l24 c24 k24
  have b24 := F24.binds (ps := ["self", "name"]) fun _ _ _ _ _ _ us hl => match us, hl with | [_, _], _ => rfl
  have F25 := fun_mk (st := s_Store_put) l25 c25 k25
  have b25 := F25.binds (ps := ["self", "name", "row"]) fun _ _ _ _ _ _ us hl => match us, hl with | [_, _, _], _ => rfl
  have F26 := fun_mk (st := s_Store_drop) l26 c26 k26
  have b26 := F26.binds (ps := ["self", "name", "row"]) fun _ _ _ _ _ _ us hl => match us, hl with | [_, _, _], _ => rfl
  have F27 := fun_mk (st := s_Store_moving) l27 c27 k27
  have b27 := F27.binds (ps := ["self", "name"]) fun _ _ _ _ _ _ us hl => match us, hl with | [_, _], _ => rfl
  have F28 := fun_mk (st := s_Store_move_of) l28 c28 k28
  have b28 := F28.binds (ps := ["self", "name"]) fun _ _ _ _ _ _ us hl => match us, hl with | [_, _], _ => rfl
  have F29 := fun_mk (st := s_Store_lend) l29 c29 k29
  have b29 := F29.binds (ps := ["self", "name", "number", "house"]) fun _ _ _ _ _ _ us hl => match us, hl with | [_, _, _, _], _ => rfl
  have F30 := fun_mk (st := s_Store_span_rows) l30 c30 k30
  have b30 := F30.binds (ps := ["self", "name", "number"]) fun _ _ _ _ _ _ us hl => match us, hl with | [_, _, _], _ => rfl
  have F31 := fun_mk (st := s_Store_rows_above) l31 c31 k31
  have b31 := F31.binds (ps := ["self", "name"]) fun _ _ _ _ _ _ us hl => match us, hl with | [_, _], _ => rfl
  have F32 := fun_mk (st := s_Store_stands) l32 c32 k32
  have b32 := F32.binds (ps := ["self", "name", "house"]) fun _ _ _ _ _ _ us hl => match us, hl with | [_, _, _], _ => rfl
  have F33 := fun_mk (st := s_Store_carry) l33 c33 k33
  have b33 := F33.binds (ps := ["self", "name", "many"]) fun _ _ _ _ _ _ us hl => match us, hl with | [_, _, _], _ => rfl
  have F34 := fun_mk (st := s_Store_settle) l34 c34 k34
  have b34 := F34.binds (ps := ["self", "name"]) fun _ _ _ _ _ _ us hl => match us, hl with | [_, _], _ => rfl
  have F35 := fun_mk (st := s_Store_town) l35 c35 k35
  have b35 := F35.binds (ps := ["self"]) fun _ _ _ _ _ _ us hl => match us, hl with | [_], _ => rfl
  have F36 := fun_mk (st := s_Store___init__) l36 c36 k36
  have b36 := F36.binds (ps := ["self", "houses", "tables"]) fun _ _ _ _ _ _ us hl => match us, hl with | [_, _, _], _ => rfl
  have F37 := fun_mk (st := s_law_next) l37 c37 k37
  have b37 := F37.binds (ps := ["_law_state", "_law_many"]) fun _ _ _ _ _ _ us hl => match us, hl with | [_, _], _ => rfl
  have F38 := fun_mk (st := s_law_words) l38 c38 k38
  have b38 := F38.binds (ps := []) fun _ _ _ _ _ _ us hl => match us, hl with | [], _ => rfl
  have F39 := fun_mk (st := s_law_seed) l39 c39 k39
  have b39 := F39.binds (ps := ["_law_script"]) fun _ _ _ _ _ _ us hl => match us, hl with | [_], _ => rfl
  have F40 := fun_mk (st := s_law_span) l40 c40 k40
  have b40 := F40.binds (ps := ["_law_cuts", "_law_value_here"]) fun _ _ _ _ _ _ us hl => match us, hl with | [_, _], _ => rfl
  have F41 := fun_mk (st := s_law_spot) l41 c41 k41
  have b41 := F41.binds (ps := ["_law_head_here", "_law_name"]) fun _ _ _ _ _ _ us hl => match us, hl with | [_, _], _ => rfl
  have F42 := fun_mk (st := s_law_great) l42 c42 k42
  have b42 := F42.binds (ps := ["_law_state"]) fun _ _ _ _ _ _ us hl => match us, hl with | [_], _ => rfl
  have F43 := fun_mk (st := s_law_value) l43 c43 k43
  have b43 := F43.binds (ps := ["_law_state", "_law_kind"]) fun _ _ _ _ _ _ us hl => match us, hl with | [_, _], _ => rfl
  have F44 := fun_mk (st := s_law_row) l44 c44 k44
  have b44 := F44.binds (ps := ["_law_state", "_law_head_here"]) fun _ _ _ _ _ _ us hl => match us, hl with | [_, _], _ => rfl
  have F45 := fun_mk (st := s_law_head) l45 c45 k45
  have b45 := F45.binds (ps := ["_law_state", "_law_names_here"]) fun _ _ _ _ _ _ us hl => match us, hl with | [_, _], _ => rfl
  have F46 := fun_mk (st := s_law_names) l46 c46 k46
  have b46 := F46.binds (ps := ["_law_state", "_law_many"]) fun _ _ _ _ _ _ us hl => match us, hl with | [_, _], _ => rfl
  have F47 := fun_mk (st := s_law_lent) l47 c47 k47
  have b47 := F47.binds (ps := ["_law_state", "_law_table", "_law_houses"]) fun _ _ _ _ _ _ us hl => match us, hl with | [_, _, _], _ => rfl
  have F48 := fun_mk (st := s_law_stood) l48 c48 k48
  have b48 := F48.binds (ps := ["_law_table", "_law_houses", "_law_house"]) fun _ _ _ _ _ _ us hl => match us, hl with | [_, _, _], _ => rfl
  have F49 := fun_mk (st := s_law_of_span) l49 c49 k49
  have b49 := F49.binds (ps := ["_law_table"]) fun _ _ _ _ _ _ us hl => match us, hl with | [_], _ => rfl
  have F50 := fun_mk (st := s_law_above) l50 c50 k50
  have b50 := F50.binds (ps := ["_law_table"]) fun _ _ _ _ _ _ us hl => match us, hl with | [_], _ => rfl
  have F51 := fun_mk (st := s_law_stands) l51 c51 k51
  have b51 := F51.binds (ps := ["_law_table", "_law_houses", "_law_house"]) fun _ _ _ _ _ _ us hl => match us, hl with | [_, _, _], _ => rfl
  have F52 := fun_mk (st := s_law_spans_begun) l52 c52 k52
  have b52 := F52.binds (ps := ["_law_state", "_law_names_here", "_law_most"]) fun _ _ _ _ _ _ us hl => match us, hl with | [_, _, _], _ => rfl
  have F53 := fun_mk (st := s_law_right) l53 c53 k53
  have b53 := F53.binds (ps := ["_law_store", "_law_name", "_law_table", "_law_houses"]) fun _ _ _ _ _ _ us hl => match us, hl with | [_, _, _, _], _ => rfl
  have F54 := fun_mk (st := s_law_settled) l54 c54 k54
  have b54 := F54.binds (ps := ["_law_store", "_law_name"]) fun _ _ _ _ _ _ us hl => match us, hl with | [_, _], _ => rfl
  have F55 := fun_mk (st := s_law_try) l55 c55 k55
  have b55 := F55.binds (ps := ["_law_store", "_law_name", "_law_table"]) fun _ _ _ _ _ _ us hl => match us, hl with | [_, _, _], _ => rfl
  have F56 := fun_mk (st := s_law_changed) l56 c56 k56
  have b56 := F56.binds (ps := ["_law_state", "_law_store", "_law_name", "_law_table"]) fun _ _ _ _ _ _ us hl => match us, hl with | [_, _, _, _], _ => rfl
  have F57 := fun_mk (st := s_law) l57 c57 k57
  refine ⟨PySem.W.fnOf "law" "law" (defArgs s_law) (defBody s_law) (defScope s_law) .none kV57 dc57 pm57 an57 cd57 ct57, fun s v => .of_eq rfl, fun base _ _ => ?_⟩
  · have nyF := ok_ShardError_init (P := l.prog) (w := w) (base := base) FE oN actN hVE vV
    have ny := NyC.mk oN iN tN nyF bE (PySem.W.mg_of X G aN)
    have c_is_whole : Cl l.prog w K mg base "is_whole" 1 ["thing"] (SpD K preWhole postWhole) := ⟨f0, _, ok_is_whole (P := l.prog) (w := w) (base := base) F0 X0, PySem.W.mg_of X G a0, k0, b0⟩
    have c_is_letters : Cl l.prog w K mg base "is_letters" 1 ["thing", "least"] (SpD K pre_is_letters post_is_letters) := ⟨f1, _, ok_is_letters (P := l.prog) (w := w) (base := base) F1 X0, PySem.W.mg_of X G a1, k1, b1⟩
    have c_kind_of : Cl l.prog w K mg base "kind_of" 1 ["value"] (SpD K pre_kind_of post_kind_of) := ⟨f2, _, ok_kind_of (P := l.prog) (w := w) (base := base) F2 X0, PySem.W.mg_of X G a2, k2, b2⟩
    have c_span_of : Cl l.prog w K mg base "span_of" 1 ["cuts", "value"] (SpD K pre_span_of post_span_of) := ⟨f3, _, ok_span_of (P := l.prog) (w := w) (base := base) F3 X0, PySem.W.mg_of X G a3, k3, b3⟩
    have c_kind_in : Cl l.prog w K mg base "kind_in" 1 ["head", "name"] (SpD K pre_kind_in post_kind_in) := ⟨f4, _, ok_kind_in (P := l.prog) (w := w) (base := base) F4 X0, PySem.W.mg_of X G a4, k4, b4⟩
    have c_is_name : Cl l.prog w K mg base "is_name" 2 ["thing"] (SpD K pre_is_name post_is_name) := ⟨f5, _, ok_is_name (P := l.prog) (w := w) (base := base) F5 X0 c_is_letters, PySem.W.mg_of X G a5, k5, b5⟩
    have c_is_value : Cl l.prog w K mg base "is_value" 2 ["thing"] (SpD K pre_is_value post_is_value) := ⟨f6, _, ok_is_value (P := l.prog) (w := w) (base := base) F6 X0 c_is_whole c_is_letters, PySem.W.mg_of X G a6, k6, b6⟩
    have c_is_house : Cl l.prog w K mg base "is_house" 2 ["thing", "many"] (SpD K pre_is_house post_is_house) := ⟨f7, _, ok_is_house (P := l.prog) (w := w) (base := base) F7 X0 c_is_whole, PySem.W.mg_of X G a7, k7, b7⟩
    have c_houses_of : Cl l.prog w K mg base "houses_of" 2 ["head", "placing", "row", "many"] (SpD K pre_houses_of post_houses_of) := ⟨f8, _, ok_houses_of (P := l.prog) (w := w) (base := base) F8 X0 c_span_of, PySem.W.mg_of X G a8, k8, b8⟩
    have c_is_column : Cl l.prog w K mg base "is_column" 3 ["thing"] (SpD K pre_is_column post_is_column) := ⟨f9, _, ok_is_column (P := l.prog) (w := w) (base := base) F9 X0 c_is_name, PySem.W.mg_of X G a9, k9, b9⟩
    have c_is_row : Cl l.prog w K mg base "is_row" 3 ["head", "thing"] (SpD K pre_is_row post_is_row) := ⟨f10, _, ok_is_row (P := l.prog) (w := w) (base := base) F10 X0 c_is_value c_kind_of, PySem.W.mg_of X G a10, k10, b10⟩
    have c_are_cuts : Cl l.prog w K mg base "are_cuts" 3 ["thing", "kind", "many"] (SpD K pre_are_cuts post_are_cuts) := ⟨f11, _, ok_are_cuts (P := l.prog) (w := w) (base := base) F11 X0 c_is_house c_is_value c_kind_of, PySem.W.mg_of X G a11, k11, b11⟩
    have c_is_head : Cl l.prog w K mg base "is_head" 4 ["thing"] (SpD K pre_is_head post_is_head) := ⟨f12, _, ok_is_head (P := l.prog) (w := w) (base := base) F12 X0 c_is_column, PySem.W.mg_of X G a12, k12, b12⟩
    have c_is_placing : Cl l.prog w K mg base "is_placing" 4 ["thing", "head", "many"] (SpD K pre_is_placing post_is_placing) := ⟨f13, _, ok_is_placing (P := l.prog) (w := w) (base := base) F13 X0 c_kind_in c_are_cuts, PySem.W.mg_of X G a13, k13, b13⟩
    have c_is_table : Cl l.prog w K mg base "is_table" 5 ["thing", "many"] (SpD K pre_is_table post_is_table) := ⟨f14, _, ok_is_table (P := l.prog) (w := w) (base := base) F14 X0 c_is_head c_is_placing c_is_row, PySem.W.mg_of X G a14, k14, b14⟩
    have c_check_town : Cl l.prog w K mg base "check_town" 6 ["houses", "tables"] (SpD K pre_check_town post_check_town) := ⟨f15, _, ok_check_town (P := l.prog) (w := w) (base := base) F15 X0 (({ is_whole := c_is_whole, is_name := c_is_name, is_row := c_is_row, is_house := c_is_house, is_table := c_is_table, span_of := c_span_of, houses_of := c_houses_of } : Lo l.prog w K mg base)), PySem.W.mg_of X G a15, k15, b15⟩
    have m_Town_heads : Ml l.prog w K mg base CT "heads" 1 ["self"] (spHeads K CT) := ⟨⟨f16, _, ok_Town_heads (P := l.prog) (w := w) (base := base) F16 X0 tC, ⟨a16, i16, k16⟩, b16⟩, clT⟩
    have m_Town_check_name : Ml l.prog w K mg base CT "check_name" 3 ["self", "name"] (SpD K (pre_Town_check_name CT) (post_Town_check_name CT)) := ⟨⟨f17, _, ok_Town_check_name (P := l.prog) (w := w) (base := base) F17 X0 (({ is_whole := c_is_whole, is_name := c_is_name, is_row := c_is_row, is_house := c_is_house, is_table := c_is_table, span_of := c_span_of, houses_of := c_houses_of } : Lo l.prog w K mg base)) tC, ⟨a17, i17, k17⟩, b17⟩, clT⟩
    have m_Town_placing : Ml l.prog w K mg base CT "placing" 4 ["self", "name"] (SpD K (pre_Town_placing CT) (post_Town_placing CT)) := ⟨⟨f18, _, ok_Town_placing (P := l.prog) (w := w) (base := base) F18 X0 (({ is_whole := c_is_whole, is_name := c_is_name, is_row := c_is_row, is_house := c_is_house, is_table := c_is_table, span_of := c_span_of, houses_of := c_houses_of } : Lo l.prog w K mg base)) tC m_Town_check_name, ⟨a18, i18, k18⟩, b18⟩, clT⟩
    have m_Town_whole : Ml l.prog w K mg base CT "whole" 4 ["self", "name"] (SpD K (pre_Town_whole CT) (post_Town_whole CT)) := ⟨⟨f19, _, ok_Town_whole (P := l.prog) (w := w) (base := base) F19 X0 (({ is_whole := c_is_whole, is_name := c_is_name, is_row := c_is_row, is_house := c_is_house, is_table := c_is_table, span_of := c_span_of, houses_of := c_houses_of } : Lo l.prog w K mg base)) tC m_Town_check_name, ⟨a19, i19, k19⟩, b19⟩, clT⟩
    have m_Town_part : Ml l.prog w K mg base CT "part" 4 ["self", "name", "house"] (SpD K (pre_Town_part CT) (post_Town_part CT)) := ⟨⟨f20, _, ok_Town_part (P := l.prog) (w := w) (base := base) F20 X0 (({ is_whole := c_is_whole, is_name := c_is_name, is_row := c_is_row, is_house := c_is_house, is_table := c_is_table, span_of := c_span_of, houses_of := c_houses_of } : Lo l.prog w K mg base)) tC m_Town_check_name, ⟨a20, i20, k20⟩, b20⟩, clT⟩
    have k_Town : C8.Mak l.prog w K mg base 7 "Town" CT (spTown K CT) [] := ⟨f21, _, _, _, ⟨mkT, a21, i21, kcT⟩, ok_Town___init__ (P := l.prog) (w := w) (base := base) F21 X0 (({ check_town := c_check_town } : Lz l.prog w K mg base)) tC, PySem.W.mg_of X G aT, b21, .nil⟩
    have m_Store_with_cuts : Ml l.prog w K mg base CS "with_cuts" 1 ["self", "name", "cuts"] (spCuts K CS) := ⟨⟨f22, _, ok_Store_with_cuts (P := l.prog) (w := w) (base := base) F22 X0 sC, ⟨a22, i22, k22⟩, b22⟩, clS⟩
    have m_Store_table_of : Ml l.prog w K mg base CS "table_of" 3 ["self", "name"] (SpD K (pre_Store_table_of CS) (post_Store_table_of CS)) := ⟨⟨f23, _, ok_Store_table_of (P := l.prog) (w := w) (base := base) F23 X0 (({ is_whole := c_is_whole, is_name := c_is_name, is_row := c_is_row, is_house := c_is_house, is_table := c_is_table, span_of := c_span_of, houses_of := c_houses_of } : Lo l.prog w K mg base)) sC, ⟨a23, i23, k23⟩, b23⟩, clS⟩
    have m_Store_spans_of : Ml l.prog w K mg base CS "spans_of" 4 ["self", "name"] (SpD K (pre_Store_spans_of CS) (post_Store_spans_of CS)) := ⟨⟨f24, _, ok_Store_spans_of (P := l.prog) (w := w) (base := base) F24 X0 (({ is_whole := c_is_whole, is_name := c_is_name, is_row := c_is_row, is_house := c_is_house, is_table := c_is_table, span_of := c_span_of, houses_of := c_houses_of } : Lo l.prog w K mg base)) sC m_Store_table_of, ⟨a24, i24, k24⟩, b24⟩, clS⟩
    have m_Store_put : Ml l.prog w K mg base CS "put" 4 ["self", "name", "row"] (spPut K CS) := ⟨⟨f25, _, ok_Store_put (P := l.prog) (w := w) (base := base) F25 X0 (({ is_whole := c_is_whole, is_name := c_is_name, is_row := c_is_row, is_house := c_is_house, is_table := c_is_table, span_of := c_span_of, houses_of := c_houses_of } : Lo l.prog w K mg base)) sC m_Store_table_of, ⟨a25, i25, k25⟩, b25⟩, clS⟩
    have m_Store_drop : Ml l.prog w K mg base CS "drop" 4 ["self", "name", "row"] (spDrop K CS) := ⟨⟨f26, _, ok_Store_drop (P := l.prog) (w := w) (base := base) F26 X0 (({ is_whole := c_is_whole, is_name := c_is_name, is_row := c_is_row, is_house := c_is_house, is_table := c_is_table, span_of := c_span_of, houses_of := c_houses_of } : Lo l.prog w K mg base)) sC m_Store_table_of, ⟨a26, i26, k26⟩, b26⟩, clS⟩
    have m_Store_moving : Ml l.prog w K mg base CS "moving" 4 ["self", "name"] (SpD K (pre_Store_moving CS) (post_Store_moving CS)) := ⟨⟨f27, _, ok_Store_moving (P := l.prog) (w := w) (base := base) F27 X0 (({ is_whole := c_is_whole, is_name := c_is_name, is_row := c_is_row, is_house := c_is_house, is_table := c_is_table, span_of := c_span_of, houses_of := c_houses_of } : Lo l.prog w K mg base)) sC m_Store_table_of, ⟨a27, i27, k27⟩, b27⟩, clS⟩
    have m_Store_move_of : Ml l.prog w K mg base CS "move_of" 5 ["self", "name"] (SpD K (pre_Store_move_of CS) (post_Store_move_of CS)) := ⟨⟨f28, _, ok_Store_move_of (P := l.prog) (w := w) (base := base) F28 X0 (({ is_whole := c_is_whole, is_name := c_is_name, is_row := c_is_row, is_house := c_is_house, is_table := c_is_table, span_of := c_span_of, houses_of := c_houses_of } : Lo l.prog w K mg base)) sC m_Store_spans_of, ⟨a28, i28, k28⟩, b28⟩, clS⟩
    have m_Store_lend : Ml l.prog w K mg base CS "lend" 5 ["self", "name", "number", "house"] (spLend K CS) := ⟨⟨f29, _, ok_Store_lend (P := l.prog) (w := w) (base := base) F29 X0 (({ is_whole := c_is_whole, is_name := c_is_name, is_row := c_is_row, is_house := c_is_house, is_table := c_is_table, span_of := c_span_of, houses_of := c_houses_of } : Lo l.prog w K mg base)) sC m_Store_spans_of, ⟨a29, i29, k29⟩, b29⟩, clS⟩
    have m_Store_span_rows : Ml l.prog w K mg base CS "span_rows" 5 ["self", "name", "number"] (SpD K (pre_Store_span_rows CS) (post_Store_span_rows CS)) := ⟨⟨f30, _, ok_Store_span_rows (P := l.prog) (w := w) (base := base) F30 X0 (({ is_whole := c_is_whole, is_name := c_is_name, is_row := c_is_row, is_house := c_is_house, is_table := c_is_table, span_of := c_span_of, houses_of := c_houses_of } : Lo l.prog w K mg base)) sC m_Store_spans_of, ⟨a30, i30, k30⟩, b30⟩, clS⟩
    have m_Store_rows_above : Ml l.prog w K mg base CS "rows_above" 6 ["self", "name"] (SpD K (pre_Store_rows_above CS) (post_Store_rows_above CS)) := ⟨⟨f31, _, ok_Store_rows_above (P := l.prog) (w := w) (base := base) F31 X0 (({ is_whole := c_is_whole, is_name := c_is_name, is_row := c_is_row, is_house := c_is_house, is_table := c_is_table, span_of := c_span_of, houses_of := c_houses_of } : Lo l.prog w K mg base)) sC m_Store_span_rows, ⟨a31, i31, k31⟩, b31⟩, clS⟩
    have m_Store_stands : Ml l.prog w K mg base CS "stands" 6 ["self", "name", "house"] (SpD K (pre_Store_stands CS) (post_Store_stands CS)) := ⟨⟨f32, _, ok_Store_stands (P := l.prog) (w := w) (base := base) F32 X0 (({ is_whole := c_is_whole, is_name := c_is_name, is_row := c_is_row, is_house := c_is_house, is_table := c_is_table, span_of := c_span_of, houses_of := c_houses_of } : Lo l.prog w K mg base)) sC m_Store_table_of m_Store_span_rows, ⟨a32, i32, k32⟩, b32⟩, clS⟩
    have m_Store_carry : Ml l.prog w K mg base CS "carry" 7 ["self", "name", "many"] (spCarry K CS) := ⟨⟨f33, _, ok_Store_carry (P := l.prog) (w := w) (base := base) F33 X0 sC m_Store_move_of m_Store_rows_above, ⟨a33, i33, k33⟩, b33⟩, clS⟩
    have stl : StlC l.prog w K mg base CS CN f34 _ := ⟨ok_Store_settle (P := l.prog) (w := w) (base := base) F34 X0 ny sC m_Store_move_of m_Store_rows_above m_Store_spans_of m_Store_with_cuts, ⟨a34, i34, k34⟩, b34, clS, PySem.W.mg_of X G aN, exm_self eN jN yN sN⟩
    have m_Store_town : Ml l.prog w K mg base CS "town" 9 ["self"] (SpD K (pre_Store_town CS) (post_Store_town CS CT)) := ⟨⟨f35, _, ok_Store_town (P := l.prog) (w := w) (base := base) F35 X0 sC k_Town, ⟨a35, i35, k35⟩, b35⟩, clS⟩
    have k_Store : C8.Mak l.prog w K mg base 9 "Store" CS (spStore K CS) [] := ⟨f36, _, _, _, ⟨mkS, a36, i36, kcS⟩, ok_Store___init__ (P := l.prog) (w := w) (base := base) F36 X0 sC k_Town m_Town_heads m_Town_whole, PySem.W.mg_of X G aS, b36, .nil⟩
    have c_law_next : Cl l.prog w K mg base "_law_next" 1 ["_law_state", "_law_many"] (spNext) := ⟨f37, _, ok_law_next (P := l.prog) (w := w) (base := base) F37 X0, PySem.W.mg_of X G a37, k37, b37⟩
    have c_law_words : Cl l.prog w K mg base "_law_words" 1 [] (SpD K pre_law_words post_law_words) := ⟨f38, _, ok_law_words (P := l.prog) (w := w) (base := base) F38 X0, PySem.W.mg_of X G a38, k38, b38⟩
    have c_law_seed : Cl l.prog w K mg base "_law_seed" 1 ["_law_script"] (SpD K pre_law_seed post_law_seed) := ⟨f39, _, ok_law_seed (P := l.prog) (w := w) (base := base) F39 X0, PySem.W.mg_of X G a39, k39, b39⟩
    have c_law_span : Cl l.prog w K mg base "_law_span" 1 ["_law_cuts", "_law_value_here"] (SpD K pre_law_span post_law_span) := ⟨f40, _, ok_law_span (P := l.prog) (w := w) (base := base) F40 X0, PySem.W.mg_of X G a40, k40, b40⟩
    have c_law_spot : Cl l.prog w K mg base "_law_spot" 1 ["_law_head_here", "_law_name"] (SpD K pre_law_spot post_law_spot) := ⟨f41, _, ok_law_spot (P := l.prog) (w := w) (base := base) F41 X0, PySem.W.mg_of X G a41, k41, b41⟩
    have c_law_great : Cl l.prog w K mg base "_law_great" 2 ["_law_state"] (SpD K pre_law_great post_law_great) := ⟨f42, _, ok_law_great (P := l.prog) (w := w) (base := base) F42 X0 (({ law_next := NxR.data c_law_next } : Ln l.prog w K mg base)), PySem.W.mg_of X G a42, k42, b42⟩
    have c_law_value : Cl l.prog w K mg base "_law_value" 3 ["_law_state", "_law_kind"] (SpD K pre_law_value post_law_value) := ⟨f43, _, ok_law_value (P := l.prog) (w := w) (base := base) F43 X0 (({ law_next := NxR.data c_law_next, law_great := c_law_great } : LgV l.prog w K mg base)), PySem.W.mg_of X G a43, k43, b43⟩
    have c_law_row : Cl l.prog w K mg base "_law_row" 4 ["_law_state", "_law_head_here"] (SpD K pre_law_row post_law_row) := ⟨f44, _, ok_law_row (P := l.prog) (w := w) (base := base) F44 X0 (({ law_value := c_law_value } : Lu l.prog w K mg base)), PySem.W.mg_of X G a44, k44, b44⟩
    have c_law_head : Cl l.prog w K mg base "_law_head" 2 ["_law_state", "_law_names_here"] (SpD K pre_law_head post_law_head) := ⟨f45, _, ok_law_head (P := l.prog) (w := w) (base := base) F45 X0 (({ law_next := NxR.data c_law_next } : Ln l.prog w K mg base)), PySem.W.mg_of X G a45, k45, b45⟩
    have c_law_names : Cl l.prog w K mg base "_law_names" 2 ["_law_state", "_law_many"] (SpD K pre_law_names post_law_names) := ⟨f46, _, ok_law_names (P := l.prog) (w := w) (base := base) F46 X0 (({ law_next := NxR.data c_law_next, law_words := c_law_words } : Lg l.prog w K mg base)), PySem.W.mg_of X G a46, k46, b46⟩
    have c_law_lent : Cl l.prog w K mg base "_law_lent" 2 ["_law_state", "_law_table", "_law_houses"] (spLent K) := ⟨f47, _, ok_law_lent (P := l.prog) (w := w) (base := base) F47 X0 (({ law_next := c_law_next } : Lnr l.prog w K mg base)), PySem.W.mg_of X G a47, k47, b47⟩
    have c_law_stood : Cl l.prog w K mg base "_law_stood" 2 ["_law_table", "_law_houses", "_law_house"] (SpD K pre_law_stood post_law_stood) := ⟨f48, _, ok_law_stood (P := l.prog) (w := w) (base := base) F48 X0 (({ law_span := c_law_span, law_spot := c_law_spot } : Lx l.prog w K mg base)), PySem.W.mg_of X G a48, k48, b48⟩
    have c_law_of_span : Cl l.prog w K mg base "_law_of_span" 2 ["_law_table"] (SpD K pre_law_of_span post_law_of_span) := ⟨f49, _, ok_law_of_span (P := l.prog) (w := w) (base := base) F49 X0 (({ law_span := c_law_span, law_spot := c_law_spot } : Lx l.prog w K mg base)), PySem.W.mg_of X G a49, k49, b49⟩
    have c_law_above : Cl l.prog w K mg base "_law_above" 3 ["_law_table"] (SpD K pre_law_above post_law_above) := ⟨f50, _, ok_law_above (P := l.prog) (w := w) (base := base) F50 X0 (({ law_stood := c_law_stood, law_of_span := c_law_of_span } : Ly l.prog w K mg base)), PySem.W.mg_of X G a50, k50, b50⟩
    have c_law_stands : Cl l.prog w K mg base "_law_stands" 3 ["_law_table", "_law_houses", "_law_house"] (SpD K pre_law_stands post_law_stands) := ⟨f51, _, ok_law_stands (P := l.prog) (w := w) (base := base) F51 X0 (({ law_stood := c_law_stood, law_of_span := c_law_of_span } : Ly l.prog w K mg base)), PySem.W.mg_of X G a51, k51, b51⟩
    have c_law_spans_begun : Cl l.prog w K mg base "_law_spans_begun" 11 ["_law_state", "_law_names_here", "_law_most"] (spBegun K CS) := ⟨f52, _, ok_law_spans_begun (P := l.prog) (w := w) (base := base) F52 X0 (({ law_next := NxR.data c_law_next, law_value := c_law_value, law_row := c_law_row, law_head := c_law_head } : Lb l.prog w K mg base)) k_Store, PySem.W.mg_of X G a52, k52, b52⟩
    have c_law_right : Cl l.prog w K mg base "_law_right" 10 ["_law_store", "_law_name", "_law_table", "_law_houses"] (SpD K (pre_law_right CS) post_law_right) := ⟨f53, _, ok_law_right (P := l.prog) (w := w) (base := base) F53 X0 (({ law_stood := c_law_stood, law_stands := c_law_stands } : Lr l.prog w K mg base)) sC m_Store_moving m_Store_town m_Town_whole m_Town_placing m_Store_stands m_Town_part, PySem.W.mg_of X G a53, k53, b53⟩
    have c_law_settled : Cl l.prog w K mg base "_law_settled" 8 ["_law_store", "_law_name"] (spSettled K CS) := ⟨f54, _, ok_law_settled (P := l.prog) (w := w) (base := base) F54 stl, PySem.W.mg_of X G a54, k54, b54⟩
    have c_law_try : Cl l.prog w K mg base "_law_try" 9 ["_law_store", "_law_name", "_law_table"] (spTry K CS) := ⟨f55, _, ok_law_try (P := l.prog) (w := w) (base := base) F55 X0 (({ law_above := c_law_above, law_settled := c_law_settled } : Lt l.prog w K mg base CS)), PySem.W.mg_of X G a55, k55, b55⟩
    have c_law_changed : Cl l.prog w K mg base "_law_changed" 5 ["_law_state", "_law_store", "_law_name", "_law_table"] (spChanged K CS) := ⟨f56, _, ok_law_changed (P := l.prog) (w := w) (base := base) F56 X0 (({ law_next := NxR.data c_law_next, law_row := c_law_row } : Lch l.prog w K mg base)) m_Store_put m_Store_drop, PySem.W.mg_of X G a56, k56, b56⟩
    exact ok_law (P := l.prog) (w := w) (base := base) F57 X0 (({ law_seed := c_law_seed, law_names := c_law_names, law_spans_begun := c_law_spans_begun, law_lent := c_law_lent, law_next := c_law_next, law_changed := c_law_changed, law_above := c_law_above, law_right := c_law_right, law_try := c_law_try } : Llw l.prog w K mg base CS)) m_Store_lend m_Store_carry
theorem walk {l : PySem.W.OpenLaw} {q : Program} {loose : List Str} {XP : (Str → Option Value) → Heap → Prop} {YP : World → Heap → Prop} {d : DefRec} {K : Params → PySem.W.Frag} (hn : l.most = some 63) (hdf : d.params.defaults = [])
    (hY : ∀ (w : World) (h : Heap), YP w h → (K w.params).In h)
    (F : ∀ (w : World) (mg : Str → Option Value) (fa : Addr) (h : Heap), (K w.params).In h → h.Ns mainGlobals mg → mg d.name = some (.ref fa) →
      ∃ fd : FuncData, (∀ (s : Shared) (u : Value), BindsTo s fd ⟨[u], []⟩ [("_law_script", u)]) ∧ ∀ base : Heap, (K w.params).In base → base.Ns mainGlobals mg → FnOk l.prog w (K w.params) mg base CX0 12 fa fd ["_law_script"] (spLaw (K w.params))) :
    PySem.W.WalkO q loose XP YP l.row.toRowW d [] (fun f vs => PySem.call f vs) :=
  L2.walk_of (n := 63) (k := 12) (x := "_law_script") (CX := fun _ => CX0) (sp := fun w => spLaw (K w.params)) hn (by decide) hdf ⟨rfl, by decide, by decide⟩ hY F (fun _ _ a ns hl _ hS => ⟨a, ns, rfl, hS, hl, fun _ => rfl⟩) fun _ _ _ _ _ z => z
end Sh
open PySem PySem.W PyProof.Rows
set_option maxRecDepth 100000 in
set_option maxHeartbeats 0 in
theorem PySem.Challenge.cw_shardask_k64_settle_holds : PySem.Challenge.rw_shardask_k64_settle.Holds := by
  w_on; o_law; k_head; (case hw => w_witness2)
  k_fill
  refine Sh.walk (l := PySem.Challenge.rw_shardask_k64_settle) rfl rfl (fun w h Y => PySem.W.kIn_of Y) ?F
  case F =>
    intro w mg fa h KX G hmg
    refine' Sh.all_mk KX G hmg ?aT ?aS ?aN ?pgT ?hdT ?poT ?saT ?mkT ?kcT ?pgS ?hdS ?poS ?saS ?mkS ?kcS ?no_CS_count ?no_CS_held ?no_CS_moves ?no_CT_many ?no_CT_told_heads ?no_CT_placings ?no_CT_rows ?xN ?saN ?iN ?tN ?lN ?cN ?lE ?kN ?eN ?yN ?jN ?sN ?actN ?vV ?gW ?lW ?gK ?lK ?gMOST_LETTERS ?gMOST_COLUMNS ?gMOST_HOUSES ?gMOST_CUTS_towns ?z_len ?z_isinstance ?z_all ?z_any ?z_sorted ?z_set ?z_list ?z_tuple ?z_dict ?z_int ?z_str ?z_bool ?z_range ?z_enumerate ?z_zip ?z_ValueError ?a0 ?l0 ?c0 ?k0 ?a1 ?l1 ?c1 ?k1 ?a2 ?l2 ?c2 ?k2 ?a3 ?l3 ?c3 ?k3 ?a4 ?l4 ?c4 ?k4 ?a5 ?l5 ?c5 ?k5 ?a6 ?l6 ?c6 ?k6 ?a7 ?l7 ?c7 ?k7 ?a8 ?l8 ?c8 ?k8 ?a9 ?l9 ?c9 ?k9 ?a10 ?l10 ?c10 ?k10 ?a11 ?l11 ?c11 ?k11 ?a12 ?l12 ?c12 ?k12 ?a13 ?l13 ?c13 ?k13 ?a14 ?l14 ?c14 ?k14 ?a15 ?l15 ?c15 ?k15 ?a16 ?i16 ?l16 ?c16 ?k16 ?a17 ?i17 ?l17 ?c17 ?k17 ?a18 ?i18 ?l18 ?c18 ?k18 ?a19 ?i19 ?l19 ?c19 ?k19 ?a20 ?i20 ?l20 ?c20 ?k20 ?a21 ?i21 ?l21 ?c21 ?k21 ?a22 ?i22 ?l22 ?c22 ?k22 ?a23 ?i23 ?l23 ?c23 ?k23 ?a24 ?i24 ?l24 ?c24 ?k24 ?a25 ?i25 ?l25 ?c25 ?k25 ?a26 ?i26 ?l26 ?c26 ?k26 ?a27 ?i27 ?l27 ?c27 ?k27 ?a28 ?i28 ?l28 ?c28 ?k28 ?a29 ?i29 ?l29 ?c29 ?k29 ?a30 ?i30 ?l30 ?c30 ?k30 ?a31 ?i31 ?l31 ?c31 ?k31 ?a32 ?i32 ?l32 ?c32 ?k32 ?a33 ?i33 ?l33 ?c33 ?k33 ?a34 ?i34 ?l34 ?c34 ?k34 ?a35 ?i35 ?l35 ?c35 ?k35 ?a36 ?i36 ?l36 ?c36 ?k36 ?a37 ?l37 ?c37 ?k37 ?a38 ?l38 ?c38 ?k38 ?a39 ?l39 ?c39 ?k39 ?a40 ?l40 ?c40 ?k40 ?a41 ?l41 ?c41 ?k41 ?a42 ?l42 ?c42 ?k42 ?a43 ?l43 ?c43 ?k43 ?a44 ?l44 ?c44 ?k44 ?a45 ?l45 ?c45 ?k45 ?a46 ?l46 ?c46 ?k46 ?a47 ?l47 ?c47 ?k47 ?a48 ?l48 ?c48 ?k48 ?a49 ?l49 ?c49 ?k49 ?a50 ?l50 ?c50 ?k50 ?a51 ?l51 ?c51 ?k51 ?a52 ?l52 ?c52 ?k52 ?a53 ?l53 ?c53 ?k53 ?a54 ?l54 ?c54 ?k54 ?a55 ?l55 ?c55 ?k55 ?a56 ?l56 ?c56 ?k56 ?a57 ?l57 ?c57 ?k57 ?bmOk ?sW ?vW ?sK ?vK
    (case aT => k_is)
    (case aS => k_is)
    (case aN => k_is)
    (case pgT => k_is)
    (case hdT => k_is)
    (case poT => k_is)
    (case saT => k_is)
    (case mkT => k_is)
    (case kcT => k_is)
    (case pgS => k_is)
    (case hdS => k_is)
    (case poS => k_is)
    (case saS => k_is)
    (case mkS => k_is)
    (case kcS => k_is)
    (case no_CS_count => k_is)
    (case no_CS_held => k_is)
    (case no_CS_moves => k_is)
    (case no_CT_many => k_is)
    (case no_CT_told_heads => k_is)
    (case no_CT_placings => k_is)
    (case no_CT_rows => k_is)
    (case xN => k_is)
    (case saN => k_is)
    (case iN => k_is)
    (case tN => k_is)
    (case lN => k_is)
    (case cN => k_is)
    (case lE => k_is)
    (case kN => k_is)
    (case eN => k_is)
    (case yN => k_is)
    (case jN => k_is)
    (case sN => first | rfl | k_is)
    (case actN => k_is)
    (case vV => k_is)
    (case gW => k_is)
    (case lW => k_is)
    (case gK => k_is)
    (case lK => k_is)
    (case gMOST_LETTERS => k_is)
    (case gMOST_COLUMNS => k_is)
    (case gMOST_HOUSES => k_is)
    (case gMOST_CUTS_towns => k_is)
    (case z_len => k_is)
    (case z_isinstance => k_is)
    (case z_all => k_is)
    (case z_any => k_is)
    (case z_sorted => k_is)
    (case z_set => k_is)
    (case z_list => k_is)
    (case z_tuple => k_is)
    (case z_dict => k_is)
    (case z_int => k_is)
    (case z_str => k_is)
    (case z_bool => k_is)
    (case z_range => k_is)
    (case z_enumerate => k_is)
    (case z_zip => k_is)
    (case z_ValueError => k_is)
    (case a0 => k_is)
    (case l0 => k_is)
    (case c0 => k_is)
    (case k0 => k_is)
    (case a1 => k_is)
    (case l1 => k_is)
    (case c1 => k_is)
    (case k1 => k_is)
    (case a2 => k_is)
    (case l2 => k_is)
    (case c2 => k_is)
    (case k2 => k_is)
    (case a3 => k_is)
    (case l3 => k_is)
    (case c3 => k_is)
    (case k3 => k_is)
    (case a4 => k_is)
    (case l4 => k_is)
    (case c4 => k_is)
    (case k4 => k_is)
    (case a5 => k_is)
    (case l5 => k_is)
    (case c5 => k_is)
    (case k5 => k_is)
    (case a6 => k_is)
    (case l6 => k_is)
    (case c6 => k_is)
    (case k6 => k_is)
    (case a7 => k_is)
    (case l7 => k_is)
    (case c7 => k_is)
    (case k7 => k_is)
    (case a8 => k_is)
    (case l8 => k_is)
    (case c8 => k_is)
    (case k8 => k_is)
    (case a9 => k_is)
    (case l9 => k_is)
    (case c9 => k_is)
    (case k9 => k_is)
    (case a10 => k_is)
    (case l10 => k_is)
    (case c10 => k_is)
    (case k10 => k_is)
    (case a11 => k_is)
    (case l11 => k_is)
    (case c11 => k_is)
    (case k11 => k_is)
    (case a12 => k_is)
    (case l12 => k_is)
    (case c12 => k_is)
    (case k12 => k_is)
    (case a13 => k_is)
    (case l13 => k_is)
    (case c13 => k_is)
    (case k13 => k_is)
    (case a14 => k_is)
    (case l14 => k_is)
    (case c14 => k_is)
    (case k14 => k_is)
    (case a15 => k_is)
    (case l15 => k_is)
    (case c15 => k_is)
    (case k15 => k_is)
    (case a16 => k_is)
    (case i16 => k_is)
    (case l16 => k_is)
    (case c16 => k_is)
    (case k16 => k_is)
    (case a17 => k_is)
    (case i17 => k_is)
    (case l17 => k_is)
    (case c17 => k_is)
    (case k17 => k_is)
    (case a18 => k_is)
    (case i18 => k_is)
    (case l18 => k_is)
    (case c18 => k_is)
    (case k18 => k_is)
    (case a19 => k_is)
    (case i19 => k_is)
    (case l19 => k_is)
    (case c19 => k_is)
    (case k19 => k_is)
    (case a20 => k_is)
    (case i20 => k_is)
    (case l20 => k_is)
    (case c20 => k_is)
    (case k20 => k_is)
    (case a21 => k_is)
    (case i21 => k_is)
    (case l21 => k_is)
    (case c21 => k_is)
    (case k21 => k_is)
    (case a22 => k_is)
    (case i22 => k_is)
    (case l22 => k_is)
    (case c22 => k_is)
    (case k22 => k_is)
    (case a23 => k_is)
    (case i23 => k_is)
    (case l23 => k_is)
    (case c23 => k_is)
    (case k23 => k_is)
    (case a24 => k_is)
    (case i24 => k_is)
    (case l24 => k_is)
    (case c24 => k_is)
    (case k24 => k_is)
    (case a25 => k_is)
    (case i25 => k_is)
    (case l25 => k_is)
    (case c25 => k_is)
    (case k25 => k_is)
    (case a26 => k_is)
    (case i26 => k_is)
    (case l26 => k_is)
    (case c26 => k_is)
    (case k26 => k_is)
    (case a27 => k_is)
    (case i27 => k_is)
    (case l27 => k_is)
    (case c27 => k_is)
    (case k27 => k_is)
    (case a28 => k_is)
    (case i28 => k_is)
    (case l28 => k_is)
    (case c28 => k_is)
    (case k28 => k_is)
    (case a29 => k_is)
    (case i29 => k_is)
    (case l29 => k_is)
    (case c29 => k_is)
    (case k29 => k_is)
    (case a30 => k_is)
    (case i30 => k_is)
    (case l30 => k_is)
    (case c30 => k_is)
    (case k30 => k_is)
    (case a31 => k_is)
    (case i31 => k_is)
    (case l31 => k_is)
    (case c31 => k_is)
    (case k31 => k_is)
    (case a32 => k_is)
    (case i32 => k_is)
    (case l32 => k_is)
    (case c32 => k_is)
    (case k32 => k_is)
    (case a33 => k_is)
    (case i33 => k_is)
    (case l33 => k_is)
    (case c33 => k_is)
    (case k33 => k_is)
    (case a34 => k_is)
    (case i34 => k_is)
    (case l34 => k_is)
    (case c34 => k_is)
    (case k34 => k_is)
    (case a35 => k_is)
    (case i35 => k_is)
    (case l35 => k_is)
    (case c35 => k_is)
    (case k35 => k_is)
    (case a36 => k_is)
    (case i36 => k_is)
    (case l36 => k_is)
    (case c36 => k_is)
    (case k36 => k_is)
    (case a37 => k_is)
    (case l37 => k_is)
    (case c37 => k_is)
    (case k37 => k_is)
    (case a38 => k_is)
    (case l38 => k_is)
    (case c38 => k_is)
    (case k38 => k_is)
    (case a39 => k_is)
    (case l39 => k_is)
    (case c39 => k_is)
    (case k39 => k_is)
    (case a40 => k_is)
    (case l40 => k_is)
    (case c40 => k_is)
    (case k40 => k_is)
    (case a41 => k_is)
    (case l41 => k_is)
    (case c41 => k_is)
    (case k41 => k_is)
    (case a42 => k_is)
    (case l42 => k_is)
    (case c42 => k_is)
    (case k42 => k_is)
    (case a43 => k_is)
    (case l43 => k_is)
    (case c43 => k_is)
    (case k43 => k_is)
    (case a44 => k_is)
    (case l44 => k_is)
    (case c44 => k_is)
    (case k44 => k_is)
    (case a45 => k_is)
    (case l45 => k_is)
    (case c45 => k_is)
    (case k45 => k_is)
    (case a46 => k_is)
    (case l46 => k_is)
    (case c46 => k_is)
    (case k46 => k_is)
    (case a47 => k_is)
    (case l47 => k_is)
    (case c47 => k_is)
    (case k47 => k_is)
    (case a48 => k_is)
    (case l48 => k_is)
    (case c48 => k_is)
    (case k48 => k_is)
    (case a49 => k_is)
    (case l49 => k_is)
    (case c49 => k_is)
    (case k49 => k_is)
    (case a50 => k_is)
    (case l50 => k_is)
    (case c50 => k_is)
    (case k50 => k_is)
    (case a51 => k_is)
    (case l51 => k_is)
    (case c51 => k_is)
    (case k51 => k_is)
    (case a52 => k_is)
    (case l52 => k_is)
    (case c52 => k_is)
    (case k52 => k_is)
    (case a53 => k_is)
    (case l53 => k_is)
    (case c53 => k_is)
    (case k53 => k_is)
    (case a54 => k_is)
    (case l54 => k_is)
    (case c54 => k_is)
    (case k54 => k_is)
    (case a55 => k_is)
    (case l55 => k_is)
    (case c55 => k_is)
    (case k55 => k_is)
    (case a56 => k_is)
    (case l56 => k_is)
    (case c56 => k_is)
    (case k56 => k_is)
    (case a57 => k_is)
    (case l57 => k_is)
    (case c57 => k_is)
    (case k57 => k_is)
    (case bmOk => decide +kernel)
    (case sW => decide +kernel)
    (case vW => exact (.cons ⟨_, rfl⟩ (.cons ⟨_, rfl⟩ (.cons ⟨_, rfl⟩ (.cons ⟨_, rfl⟩ (.cons ⟨_, rfl⟩ (.cons ⟨_, rfl⟩ (.cons ⟨_, rfl⟩ (.cons ⟨_, rfl⟩ (.cons ⟨_, rfl⟩ (.cons ⟨_, rfl⟩ (.cons ⟨_, rfl⟩ (.cons ⟨_, rfl⟩ (.cons ⟨_, rfl⟩ (.cons ⟨_, rfl⟩ (.cons ⟨_, rfl⟩ (.cons ⟨_, rfl⟩ (.cons ⟨_, rfl⟩ .nil))))))))))))))))))
    (case sK => decide +kernel)
    (case vK => exact (.cons ⟨_, rfl⟩ (.cons ⟨_, rfl⟩ .nil)))
