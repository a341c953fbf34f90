import PyProof.Rows.All
import HandS.Conv
import HandS.Deep
import HandS.Defaults
import HandS.Evl
import HandS.ForMost
import HandS.IsInst
import HandS.More
import HandS.NoneIn
import HandS.SortKw
import HandS.Star
import HandS.StrMore
import HandS.Style
import HandS.TupAny
import HandS.Wide
import HandS.Words
import HandS.WordsExc
import HandS.Zip
import KE.KSortKeyAny
import OpenK.AllK
import PyProof.AutoIntOps
import PyProof.ListStr
import PyProof.StrOps2
import PyProof.WalkInts
import PyProof.WalksMore
import PySem.Challenge.RW_twofarplayers_k34_whole_how_near_exactly
import Wide.All
import Wide.FinOn
-- part Dl
set_option Elab.async false
set_option linter.all false
set_option maxRecDepth 100000
set_option maxHeartbeats 4000000
/-! A value level over HandS: data, slots, transformers. -/
namespace Dl
open PySem PySem.Spec PyProof.Rows L2 Evl

/-- what a value is, by content -/
inductive Dat where
  | non
  | bl (b : Bool)
  | int (i : Int)
  | str (s : List Nat)
  | ty (n : String)
  | tup (l : List Dat)
  | lst (l : List Dat)
  | fz (l : List Dat)
  | pot
  | ref (a : Addr)
  | dct (l : List (Key × Dat))

mutual
inductive Rep (K : PySem.W.Frag) (p : Option Addr) (H : Hp) : V → Dat → Prop
  | non : Rep K p H .non .non
  | bl (b : Bool) : Rep K p H (.bl b) (.bl b)
  | int (i : Int) : Rep K p H (.int i) (.int i)
  | str (s : Str) : Rep K p H (.str s) (.str s.cps.toList)
  | ty (n : String) : Rep K p H (.ty n) (.ty n)
  | tup {a : Addr} {vs : List V} {ds : List Dat} : SqT K H a vs → Reps K p H vs ds → Rep K p H (.ref a) (.tup ds)
  | lst {a : Addr} {vs : List V} {ds : List Dat} : H a = some (.lst vs) → Reps K p H vs ds → Rep K p H (.ref a) (.lst ds)
  | fz {a : Addr} {vs : List V} {ds : List Dat} : SqL K H a vs → Reps K p H vs ds → Rep K p H (.ref a) (.fz ds)
  | pot {a : Addr} : p = some a → Rep K p H (.ref a) .pot
  | ref (a : Addr) : Rep K p H (.ref a) (.ref a)
  | dct {a : Addr} {kvs : List (Key × V)} {ds : List (Key × Dat)} : H a = some (.dK kvs) → RepK K p H kvs ds → Rep K p H (.ref a) (.dct ds)
inductive Reps (K : PySem.W.Frag) (p : Option Addr) (H : Hp) : List V → List Dat → Prop
  | nil : Reps K p H [] []
  | cons {v : V} {vs : List V} {d : Dat} {ds : List Dat} : Rep K p H v d → Reps K p H vs ds → Reps K p H (v :: vs) (d :: ds)
inductive RepK (K : PySem.W.Frag) (p : Option Addr) (H : Hp) : List (Key × V) → List (Key × Dat) → Prop
  | nil : RepK K p H [] []
  | cons {k : Key} {v : V} {vs : List (Key × V)} {d : Dat} {ds : List (Key × Dat)} : Rep K p H v d → RepK K p H vs ds → RepK K p H ((k, v) :: vs) ((k, d) :: ds)
end

section
variable {K : PySem.W.Frag} {p : Option Addr} {H H' : Hp}
mutual
theorem Rep.mono (e : Ex H H') : ∀ {v : V} {d : Dat}, Rep K p H v d → Rep K p H' v d
  | _, _, .non => .non
  | _, _, .bl b => .bl b
  | _, _, .int i => .int i
  | _, _, .str s => .str s
  | _, _, .ty n => .ty n
  | _, _, .tup h r => .tup (ex_t e h) (Reps.mono e r)
  | _, _, .lst h r => .lst (e _ _ h) (Reps.mono e r)
  | _, _, .fz h r => .fz (ex_l e h) (Reps.mono e r)
  | _, _, .pot h => .pot h
  | _, _, .ref a => .ref a
  | _, _, .dct h r => .dct (e _ _ h) (RepK.mono e r)
theorem Reps.mono (e : Ex H H') : ∀ {v : List V} {d : List Dat}, Reps K p H v d → Reps K p H' v d
  | _, _, .nil => .nil
  | _, _, .cons r s => .cons (Rep.mono e r) (Reps.mono e s)
theorem RepK.mono (e : Ex H H') : ∀ {v : List (Key × V)} {d : List (Key × Dat)}, RepK K p H v d → RepK K p H' v d
  | _, _, .nil => .nil
  | _, _, .cons r s => .cons (Rep.mono e r) (RepK.mono e s)
end
theorem Reps.length {vs : List V} {ds : List Dat} (r : Reps K p H vs ds) : vs.length = ds.length := by
  induction vs generalizing ds with
  | nil => cases r; rfl
  | cons v vs ih =>
    cases r with
    | cons r s => rw [List.length_cons, List.length_cons, ih s]
theorem Reps.get : ∀ {vs : List V} {ds : List Dat} {i : Nat} {v : V}, Reps K p H vs ds → vs[i]? = some v → ∃ d, ds[i]? = some d ∧ Rep K p H v d
  | _, _, _, _, .nil, h => by simp at h
  | _, _, 0, _, .cons r _, h => by simp at h; subst h; exact ⟨_, rfl, r⟩
  | _, _, i + 1, _, .cons _ s, h => by
    obtain ⟨d, h1, h2⟩ := Reps.get (i := i) s (by simpa using h)
    exact ⟨d, by simpa using h1, h2⟩
theorem Reps.getD : ∀ {vs : List V} {ds : List Dat} {i : Nat} {d : Dat}, Reps K p H vs ds → ds[i]? = some d → ∃ v, vs[i]? = some v ∧ Rep K p H v d
  | _, _, _, _, .nil, h => by simp at h
  | _, _, 0, _, .cons r _, h => by simp at h; subst h; exact ⟨_, rfl, r⟩
  | _, _, i + 1, _, .cons _ s, h => by
    obtain ⟨d, h1, h2⟩ := Reps.getD (i := i) s (by simpa using h)
    exact ⟨d, by simpa using h1, h2⟩
theorem Reps.append : ∀ {vs ws : List V} {ds es : List Dat}, Reps K p H vs ds → Reps K p H ws es → Reps K p H (vs ++ ws) (ds ++ es)
  | _, _, _, _, .nil, s => s
  | _, _, _, _, .cons r t, s => .cons r (Reps.append t s)
theorem Reps.one {v : V} {d : Dat} (r : Rep K p H v d) : Reps K p H [v] [d] := .cons r .nil
theorem Reps.drop : ∀ {vs : List V} {ds : List Dat} (n : Nat), Reps K p H vs ds → Reps K p H (vs.drop n) (ds.drop n)
  | _, _, 0, r => r
  | _, _, _ + 1, .nil => .nil
  | _, _, n + 1, .cons _ t => Reps.drop n t
theorem Reps.take : ∀ {vs : List V} {ds : List Dat} (n : Nat), Reps K p H vs ds → Reps K p H (vs.take n) (ds.take n)
  | _, _, 0, _ => .nil
  | _, _, _ + 1, .nil => .nil
  | _, _, n + 1, .cons r t => .cons r (Reps.take n t)
end

/-- the draws' list: three numbers, its counter below a bound -/
def PotAt (H : Hp) (a : Addr) (n : Nat) : Prop :=
  ∃ x y z : Int, H a = some (.lst [.int x, .int y, .int z]) ∧ 0 ≤ x ∧ 0 ≤ y ∧ y < 2305843009213693952 ∧ 0 ≤ z ∧ z ≤ n ∧ n ≤ 1000000

/-- a slot: nothing known, data, or a list of one's own -/
inductive Sl where
  | un
  | im (d : Dat)
  | ow (l : List Dat)
structure Sx where
  sl : List Sl
  n : Nat

/-- H0, F0: the heap and its frozen part at the entry; F: the frozen part now -/
structure HpOk (p : Option Addr) (H0 F0 F H : Hp) (n : Nat) : Prop where
  e0 : ∀ a o, p ≠ some a → H0 a = some o → H a = some o
  f0 : Ex F0 F
  fr : ∀ a o, F a = some o → F0 a = some o ∨ H0 a = none
  fh : Ex F H
  pt : ∀ a, p = some a → F a = none ∧ H0 a ≠ none ∧ PotAt H a n
def SlOk (K : PySem.W.Frag) (p : Option Addr) (H0 F H : Hp) (s : Sl) (o : Option (Option V)) : Prop :=
  match s with
  | .un => True
  | .im d => ∃ v, o = some (some v) ∧ Rep K p F v d
  | .ow ds => ∃ a vs, o = some (some (.ref a)) ∧ H0 a = none ∧ F a = none ∧ H a = some (.lst vs) ∧ Reps K p F vs ds
structure Ok (K : PySem.W.Frag) (p : Option Addr) (H0 F0 F H : Hp) (σ : L2.St) (S : Sx) (T : List (Addr × List V)) : Prop where
  hp : HpOk p H0 F0 F H S.n
  len : σ.length = S.sl.length
  sl : ∀ (i : Nat) (s : Sl), S.sl[i]? = some s → SlOk K p H0 F H s (σ[i]?)
  own : ∀ (i j : Nat) (ds es : List Dat) (a : Addr), i ≠ j → S.sl[i]? = some (.ow ds) → S.sl[j]? = some (.ow es) → σ[i]? = some (some (.ref a)) → σ[j]? = some (some (.ref a)) → False
  tm : ∀ a vs, (a, vs) ∈ T → H0 a = none ∧ F a = none ∧ H a = some (.lst vs)
  ot : ∀ (i : Nat) (ds : List Dat) (a : Addr) (vs : List V), S.sl[i]? = some (.ow ds) → σ[i]? = some (some (.ref a)) → (a, vs) ∈ T → False
  td : (T.map (·.1)).Nodup

section
variable {K : PySem.W.Frag} {p : Option Addr} {H0 F0 F H F' H' : Hp} {σ : L2.St} {S : Sx} {T : List (Addr × List V)} {n n' : Nat}
theorem HpOk.free (h : HpOk p H0 F0 F H n) {a : Addr} (e : H a = none) : H0 a = none := by
  cases q : H0 a with
  | none => rfl
  | some o =>
    by_cases hp : p = some a
    · obtain ⟨_, _, x, y, z, hz, _⟩ := h.pt a hp
      rw [e] at hz; cases hz
    · rw [h.e0 a o hp q] at e; cases e
theorem HpOk.freeF (h : HpOk p H0 F0 F H n) {a : Addr} (e : H a = none) : F a = none := fresh_back h.fh e
theorem HpOk.nepot (h : HpOk p H0 F0 F H n) {a : Addr} (e : H0 a = none) : p ≠ some a := fun q => (h.pt a q).2.1 e
theorem HpOk.start (hx : Ex F H) (hp : ∀ a, p = some a → F a = none ∧ PotAt H a n) : HpOk p H F F H n :=
  ⟨fun _ _ _ q => q, Ex.refl _, fun _ _ q => .inl q, hx, fun a e => ⟨(hp a e).1, by obtain ⟨_, x, y, z, h, _⟩ := hp a e; rw [h]; simp, (hp a e).2⟩⟩
/-- a new object -/
theorem HpOk.new (h : HpOk p H0 F0 F H n) {a : Addr} {o : HO} (e : H a = none) : HpOk p H0 F0 F (upd H a o) n where
  e0 := fun b u hb q => by
    rw [upd_ne (ne_of_none (h.e0 b u hb q) e)]
    exact h.e0 b u hb q
  f0 := h.f0
  fr := h.fr
  fh := h.fh.trans (Ex.new e)
  pt := fun b hb => by
    obtain ⟨h1, h2, x, y, z, h3, h4⟩ := h.pt b hb
    exact ⟨h1, h2, x, y, z, by rw [upd_ne (ne_of_none h3 e)]; exact h3, h4⟩
/-- what stands, and is new since the entry, is frozen -/
theorem HpOk.freeze (h : HpOk p H0 F0 F H n) {a : Addr} {o : HO} (e : H a = some o) (e0 : H0 a = none) (ef : F a = none) : HpOk p H0 F0 (upd F a o) H n where
  e0 := h.e0
  f0 := h.f0.trans (Ex.new ef)
  fr := fun b u q => by
    by_cases hb : b = a
    · subst hb; exact .inr e0
    · rw [upd_ne hb] at q; exact h.fr b u q
  fh := fun b u q => by
    by_cases hb : b = a
    · subst hb; rw [upd_same] at q; rw [e]; exact q
    · rw [upd_ne hb] at q; exact h.fh b u q
  pt := fun b hb => by
    obtain ⟨h1, h2, h3⟩ := h.pt b hb
    have hba : b ≠ a := fun q => by subst q; exact h2 e0
    exact ⟨by rw [upd_ne hba]; exact h1, h2, h3⟩
/-- an own list is written -/
theorem HpOk.write (h : HpOk p H0 F0 F H n) {a : Addr} {o : HO} (e0 : H0 a = none) (ef : F a = none) : HpOk p H0 F0 F (upd H a o) n where
  e0 := fun b u hb q => by
    rw [upd_ne (ne_of_none q e0)]
    exact h.e0 b u hb q
  f0 := h.f0
  fr := h.fr
  fh := fun b u q => by
    rw [upd_ne (ne_of_none q ef)]
    exact h.fh b u q
  pt := fun b hb => by
    obtain ⟨h1, h2, x, y, z, h3, h4⟩ := h.pt b hb
    have hba : b ≠ a := fun q => by subst q; exact h2 e0
    exact ⟨h1, h2, x, y, z, by rw [upd_ne hba]; exact h3, h4⟩
/-- behind a call that started here -/
theorem HpOk.trans (h : HpOk p H0 F0 F H n) (g : HpOk p H F F' H' n') : HpOk p H0 F0 F' H' n' where
  e0 := fun b u hb q => g.e0 b u hb (h.e0 b u hb q)
  f0 := h.f0.trans g.f0
  fr := fun b u q => by
    rcases g.fr b u q with q | q
    · exact h.fr b u q
    · exact .inr (h.free q)
  fh := g.fh
  pt := fun b hb => ⟨(g.pt b hb).1, (h.pt b hb).2.1, (g.pt b hb).2.2⟩

theorem SlOk.step {s : Sl} {o : Option (Option V)} (h : SlOk K p H0 F H s o) (e : Ex F F')
    (k : ∀ a vs ds, s = .ow ds → o = some (some (.ref a)) → H0 a = none → F a = none → H a = some (.lst vs) → F' a = none ∧ H' a = some (.lst vs)) : SlOk K p H0 F' H' s o := by
  cases s with
  | un => trivial
  | im d =>
    obtain ⟨v, h1, h2⟩ := h
    exact ⟨v, h1, h2.mono e⟩
  | ow ds =>
    obtain ⟨a, vs, h1, h2, h3, h4, h5⟩ := h
    obtain ⟨q1, q2⟩ := k a vs ds rfl h1 h2 h3 h4
    exact ⟨a, vs, h1, h2, q1, q2, h5.mono e⟩
/-- the heap steps, what is one's own stays -/
theorem Ok.step (h : Ok K p H0 F0 F H σ S T) (e : Ex F F') (hp : HpOk p H0 F0 F' H' n')
    (k : ∀ a vs, H0 a = none → F a = none → H a = some (.lst vs) → ((∃ (i : Nat) (ds : List Dat), S.sl[i]? = some (.ow ds) ∧ σ[i]? = some (some (.ref a))) ∨ (a, vs) ∈ T) → F' a = none ∧ H' a = some (.lst vs)) : Ok K p H0 F0 F' H' σ ⟨S.sl, n'⟩ T where
  hp := hp
  len := h.len
  sl := fun i s q => (h.sl i s q).step e fun a vs ds es ho h1 h2 h3 => k a vs h1 h2 h3 (.inl ⟨i, ds, by rw [q, es], ho⟩)
  own := h.own
  tm := fun a vs q => by
    obtain ⟨h1, h2, h3⟩ := h.tm a vs q
    exact ⟨h1, k a vs h1 h2 h3 (.inr q)⟩
  ot := h.ot
  td := h.td
theorem Ok.call (h : Ok K p H0 F0 F H σ S T) (g : HpOk p H F F' H' n') : Ok K p H0 F0 F' H' σ ⟨S.sl, n'⟩ T := by
  refine h.step g.f0 (h.hp.trans g) fun a vs h1 h2 h3 _ => ⟨?_, g.e0 a _ (h.hp.nepot h1) h3⟩
  cases q : F' a with
  | none => rfl
  | some o =>
    rcases g.fr a o q with z | z
    · rw [h2] at z; cases z
    · rw [h3] at z; cases z
/-- a new frozen object -/
theorem Ok.lay (h : Ok K p H0 F0 F H σ S T) {a : Addr} {o : HO} (e : H a = none) : Ok K p H0 F0 (upd F a o) (upd H a o) σ S T :=
  h.step (F' := upd F a o) (H' := upd H a o) (n' := S.n) (Ex.new (h.hp.freeF e)) ((h.hp.new e).freeze upd_same (h.hp.free e) (h.hp.freeF e)) fun b vs h1 h2 h3 _ => by
    have hb : b ≠ a := ne_of_none h3 e
    exact ⟨by rw [upd_ne hb]; exact h2, by rw [upd_ne hb]; exact h3⟩
/-- a new list of one's own, not yet at a slot -/
theorem Ok.layT (h : Ok K p H0 F0 F H σ S T) {a : Addr} {vs : List V} (e : H a = none) : Ok K p H0 F0 F (upd H a (.lst vs)) σ S ((a, vs) :: T) := by
  have h' : Ok K p H0 F0 F (upd H a (.lst vs)) σ S T := h.step (n' := S.n) (Ex.refl F) (h.hp.new e) fun b ws h1 h2 h3 _ => ⟨h2, by rw [upd_ne (ne_of_none h3 e)]; exact h3⟩
  have nT : ∀ ws, (a, ws) ∉ T := fun ws hm => by
    obtain ⟨_, _, q⟩ := h.tm a ws hm
    rw [e] at q; cases q
  refine ⟨h'.hp, h'.len, h'.sl, h'.own, fun b ws hm => ?_, fun i ds b ws h1 h2 hm => ?_, ?_⟩
  · rcases List.mem_cons.mp hm with hm | hm
    · cases hm; exact ⟨h.hp.free e, h.hp.freeF e, upd_same⟩
    · exact h'.tm b ws hm
  · rcases List.mem_cons.mp hm with hm | hm
    · cases hm
      obtain ⟨b, us, q1, _, _, q4, _⟩ := h.sl i _ h1
      rw [h2] at q1; cases q1
      rw [e] at q4; cases q4
    · exact h.ot i ds b ws h1 h2 hm
  · rw [List.map_cons, List.nodup_cons]
    refine ⟨fun hm => ?_, h.td⟩
    obtain ⟨⟨b, ws⟩, hm', e'⟩ := List.mem_map.mp hm
    have e2 : b = a := e'
    subst e2
    exact nT ws hm'
theorem Ok.addT (h : Ok K p H0 F0 F H σ S T) {a : Addr} {vs : List V} (h0 : H0 a = none) (hf : F a = none) (hl : H a = some (.lst vs)) (hs : ∀ (i : Nat) (ds : List Dat), S.sl[i]? = some (.ow ds) → σ[i]? ≠ some (some (.ref a))) (ht : ∀ ws, (a, ws) ∉ T) : Ok K p H0 F0 F H σ S ((a, vs) :: T) := by
  refine ⟨h.hp, h.len, h.sl, h.own, fun b ws hm => ?_, fun i ds b ws h1 h2 hm => ?_, ?_⟩
  · rcases List.mem_cons.mp hm with hm | hm
    · cases hm; exact ⟨h0, hf, hl⟩
    · exact h.tm b ws hm
  · rcases List.mem_cons.mp hm with hm | hm
    · cases hm; exact hs i ds h1 h2
    · exact h.ot i ds b ws h1 h2 hm
  · rw [List.map_cons, List.nodup_cons]
    refine ⟨fun hm => ?_, h.td⟩
    obtain ⟨⟨b, ws⟩, hm', e'⟩ := List.mem_map.mp hm
    have e2 : b = a := e'
    subst e2
    exact ht ws hm'
theorem Ok.tail {a : Addr} {vs : List V} (h : Ok K p H0 F0 F H σ S ((a, vs) :: T)) : Ok K p H0 F0 F H σ S T :=
  ⟨h.hp, h.len, h.sl, h.own, fun b ws hm => h.tm b ws (List.mem_cons_of_mem _ hm), fun i ds b ws h1 h2 hm => h.ot i ds b ws h1 h2 (List.mem_cons_of_mem _ hm), (List.nodup_cons.mp h.td).2⟩
theorem Ok.topT {a : Addr} {vs : List V} (h : Ok K p H0 F0 F H σ S ((a, vs) :: T)) : H0 a = none ∧ F a = none ∧ H a = some (.lst vs) := h.tm a vs List.mem_cons_self
theorem Ok.topNe {a : Addr} {vs : List V} (h : Ok K p H0 F0 F H σ S ((a, vs) :: T)) {b : Addr} {ws : List V} (hm : (b, ws) ∈ T) : b ≠ a := fun e => by
  subst e
  exact (List.nodup_cons.mp h.td).1 (List.mem_map.mpr ⟨_, hm, rfl⟩)
theorem Ok.topOwn {a : Addr} {vs : List V} (h : Ok K p H0 F0 F H σ S ((a, vs) :: T)) {b : Addr} (hm : ∃ (i : Nat) (ds : List Dat), S.sl[i]? = some (.ow ds) ∧ σ[i]? = some (some (.ref b))) : b ≠ a := fun e => by
  subst e
  obtain ⟨i, ds, h1, h2⟩ := hm
  exact h.ot i ds b vs h1 h2 List.mem_cons_self
/-- it is frozen -/
theorem Ok.frzT {a : Addr} {vs : List V} (h : Ok K p H0 F0 F H σ S ((a, vs) :: T)) : Ok K p H0 F0 (upd F a (.lst vs)) H σ S T ∧ Ex F (upd F a (.lst vs)) := by
  obtain ⟨t1, t2, t3⟩ := h.topT
  refine ⟨h.tail.step (n' := S.n) (Ex.new t2) (h.hp.freeze t3 t1 t2) fun b ws h1 h2 h3 hw => ?_, Ex.new t2⟩
  have hb : b ≠ a := by
    rcases hw with hw | hw
    · exact h.topOwn hw
    · exact h.topNe hw
  exact ⟨by rw [upd_ne hb]; exact h2, h3⟩
/-- it is written -/
theorem Ok.updT {a : Addr} {vs : List V} (h : Ok K p H0 F0 F H σ S ((a, vs) :: T)) (ws : List V) : Ok K p H0 F0 F (upd H a (.lst ws)) σ S ((a, ws) :: T) := by
  obtain ⟨t1, t2, t3⟩ := h.topT
  have h' : Ok K p H0 F0 F (upd H a (.lst ws)) σ S T := h.tail.step (n' := S.n) (Ex.refl F) (h.hp.write t1 t2) fun b us h1 h2 h3 hw => by
    have hb : b ≠ a := by
      rcases hw with hw | hw
      · exact h.topOwn hw
      · exact h.topNe hw
    exact ⟨h2, by rw [upd_ne hb]; exact h3⟩
  refine ⟨h'.hp, h'.len, h'.sl, h'.own, fun b us hm => ?_, fun i ds b us h1 h2 hm => ?_, ?_⟩
  · rcases List.mem_cons.mp hm with hm | hm
    · cases hm; exact ⟨t1, t2, upd_same⟩
    · exact h'.tm b us hm
  · rcases List.mem_cons.mp hm with hm | hm
    · cases hm; exact h.ot i ds a vs h1 h2 List.mem_cons_self
    · exact h'.ot i ds b us h1 h2 hm
  · exact h.td
/-- an own list at a slot is frozen -/
theorem Ok.frzS (h : Ok K p H0 F0 F H σ S T) {i : Nat} {ds : List Dat} (hi : S.sl[i]? = some (.ow ds)) :
    ∃ a vs, σ[i]? = some (some (.ref a)) ∧ F a = none ∧ Reps K p F vs ds ∧ Ok K p H0 F0 (upd F a (.lst vs)) H σ ⟨S.sl.set i (.im (.lst ds)), S.n⟩ T := by
  obtain ⟨a, vs, h1, h2, h3, h4, h5⟩ := h.sl i _ hi
  refine ⟨a, vs, h1, h3, h5, ?_⟩
  have hi' : i < S.sl.length := (List.getElem?_eq_some_iff.mp hi).1
  refine ⟨h.hp.freeze h4 h2 h3, by rw [List.length_set]; exact h.len, fun j s q => ?_, fun j k es fs b hjk q1 q2 q3 q4 => ?_, fun b ws hm => ?_, fun j es b ws q1 q2 hm => ?_, h.td⟩
  · by_cases hj : j = i
    · subst hj
      rw [List.getElem?_set_self hi'] at q
      cases q
      exact ⟨.ref a, h1, .lst upd_same (h5.mono (Ex.new h3))⟩
    · rw [List.getElem?_set_ne (Ne.symm hj)] at q
      refine (h.sl j s q).step (Ex.new h3) fun b ws es he ho g1 g2 g3 => ?_
      have hb : b ≠ a := fun e => by
        subst e; subst he
        exact h.own i j ds es b (Ne.symm hj) hi q h1 ho
      exact ⟨by rw [upd_ne hb]; exact g2, g3⟩
  · have nj : j ≠ i := fun e => by subst e; rw [List.getElem?_set_self hi'] at q1; cases q1
    have nk : k ≠ i := fun e => by subst e; rw [List.getElem?_set_self hi'] at q2; cases q2
    rw [List.getElem?_set_ne (Ne.symm nj)] at q1
    rw [List.getElem?_set_ne (Ne.symm nk)] at q2
    exact h.own j k es fs b hjk q1 q2 q3 q4
  · obtain ⟨g1, g2, g3⟩ := h.tm b ws hm
    have hb : b ≠ a := fun e => by subst e; exact h.ot i ds b ws hi h1 hm
    exact ⟨g1, by rw [upd_ne hb]; exact g2, g3⟩
  · have nj : j ≠ i := fun e => by subst e; rw [List.getElem?_set_self hi'] at q1; cases q1
    rw [List.getElem?_set_ne (Ne.symm nj)] at q1
    exact h.ot j es b ws q1 q2 hm
/-- it is written -/
theorem Ok.updS (h : Ok K p H0 F0 F H σ S T) {i : Nat} {ds : List Dat} (hi : S.sl[i]? = some (.ow ds)) :
    ∃ a vs, σ[i]? = some (some (.ref a)) ∧ H a = some (.lst vs) ∧ Reps K p F vs ds ∧ ∀ ws es, Reps K p F ws es → Ok K p H0 F0 F (upd H a (.lst ws)) σ ⟨S.sl.set i (.ow es), S.n⟩ T := by
  obtain ⟨a, vs, h1, h2, h3, h4, h5⟩ := h.sl i _ hi
  refine ⟨a, vs, h1, h4, h5, fun ws es hw => ?_⟩
  have hi' : i < S.sl.length := (List.getElem?_eq_some_iff.mp hi).1
  have back : ∀ (j : Nat) (fs : List Dat), (S.sl.set i (.ow es))[j]? = some (.ow fs) → ∃ gs, S.sl[j]? = some (.ow gs) := fun j fs q => by
    by_cases hj : j = i
    · subst hj; exact ⟨ds, hi⟩
    · rw [List.getElem?_set_ne (Ne.symm hj)] at q; exact ⟨fs, q⟩
  refine ⟨h.hp.write h2 h3, by rw [List.length_set]; exact h.len, fun j s q => ?_, fun j k fs gs b hjk q1 q2 q3 q4 => ?_, fun b us hm => ?_, fun j fs b us q1 q2 hm => ?_, h.td⟩
  · by_cases hj : j = i
    · subst hj
      rw [List.getElem?_set_self hi'] at q
      cases q
      exact ⟨a, ws, h1, h2, h3, upd_same, hw⟩
    · rw [List.getElem?_set_ne (Ne.symm hj)] at q
      refine (h.sl j s q).step (Ex.refl F) fun b us fs he ho g1 g2 g3 => ?_
      have hb : b ≠ a := fun e => by
        subst e; subst he
        exact h.own i j ds fs b (Ne.symm hj) hi q h1 ho
      exact ⟨g2, by rw [upd_ne hb]; exact g3⟩
  · obtain ⟨_, q1⟩ := back j fs q1
    obtain ⟨_, q2⟩ := back k gs q2
    exact h.own j k _ _ b hjk q1 q2 q3 q4
  · obtain ⟨g1, g2, g3⟩ := h.tm b us hm
    have hb : b ≠ a := fun e => by subst e; exact h.ot i ds b us hi h1 hm
    exact ⟨g1, g2, by rw [upd_ne hb]; exact g3⟩
  · obtain ⟨_, q1⟩ := back j fs q1
    exact h.ot j _ b us q1 q2 hm
/-- a slot is set: to data -/
theorem Ok.setIm (h : Ok K p H0 F0 F H σ S T) {i : Nat} {v : V} {d : Dat} (r : Rep K p F v d) : Ok K p H0 F0 F H (σ.set i (some v)) ⟨S.sl.set i (.im d), S.n⟩ T := by
  have back : ∀ (j : Nat) (fs : List Dat), (S.sl.set i (.im d))[j]? = some (.ow fs) → S.sl[j]? = some (.ow fs) ∧ j ≠ i := fun j fs q => by
    by_cases hj : j = i
    · subst hj
      by_cases hl : j < S.sl.length
      · rw [List.getElem?_set_self hl] at q; cases q
      · rw [List.getElem?_eq_none (by rw [List.length_set]; omega)] at q; cases q
    · rw [List.getElem?_set_ne (Ne.symm hj)] at q; exact ⟨q, hj⟩
  refine ⟨h.hp, by rw [List.length_set, List.length_set]; exact h.len, fun j s q => ?_, fun j k fs gs b hjk q1 q2 q3 q4 => ?_, h.tm, fun j fs b us q1 q2 hm => ?_, h.td⟩
  · by_cases hj : j = i
    · subst hj
      have hl : j < S.sl.length := by have := (List.getElem?_eq_some_iff.mp q).1; rwa [List.length_set] at this
      rw [List.getElem?_set_self hl] at q
      cases q
      exact ⟨v, by rw [List.getElem?_set_self (by rw [h.len]; exact hl)], r⟩
    · rw [List.getElem?_set_ne (Ne.symm hj)] at q ⊢
      exact h.sl j s q
  · obtain ⟨q1, nj⟩ := back j fs q1
    obtain ⟨q2, nk⟩ := back k gs q2
    rw [List.getElem?_set_ne (Ne.symm nj)] at q3
    rw [List.getElem?_set_ne (Ne.symm nk)] at q4
    exact h.own j k fs gs b hjk q1 q2 q3 q4
  · obtain ⟨q1, nj⟩ := back j fs q1
    rw [List.getElem?_set_ne (Ne.symm nj)] at q2
    exact h.ot j fs b us q1 q2 hm
/-- .. to a list of one's own -/
theorem Ok.setOw {a : Addr} {vs : List V} (h : Ok K p H0 F0 F H σ S ((a, vs) :: T)) {i : Nat} {ds : List Dat} (r : Reps K p F vs ds) : Ok K p H0 F0 F H (σ.set i (some (.ref a))) ⟨S.sl.set i (.ow ds), S.n⟩ T := by
  obtain ⟨t1, t2, t3⟩ := h.topT
  have back : ∀ (j : Nat) (fs : List Dat), j ≠ i → (S.sl.set i (.ow ds))[j]? = some (.ow fs) → S.sl[j]? = some (.ow fs) := fun j fs hj q => by
    rw [List.getElem?_set_ne (Ne.symm hj)] at q; exact q
  have lt : ∀ {fs}, (S.sl.set i (.ow ds))[i]? = some (.ow fs) → i < σ.length := fun q => by
    have := (List.getElem?_eq_some_iff.mp q).1
    rw [List.length_set] at this; rw [h.len]; exact this
  refine ⟨h.hp, by rw [List.length_set, List.length_set]; exact h.len, fun j s q => ?_, fun j k fs gs b hjk q1 q2 q3 q4 => ?_, h.tail.tm, fun j fs b us q1 q2 hm => ?_, h.tail.td⟩
  · by_cases hj : j = i
    · subst hj
      have hl : j < S.sl.length := by have := (List.getElem?_eq_some_iff.mp q).1; rwa [List.length_set] at this
      rw [List.getElem?_set_self hl] at q
      cases q
      exact ⟨a, vs, by rw [List.getElem?_set_self (by rw [h.len]; exact hl)], t1, t2, t3, r⟩
    · rw [List.getElem?_set_ne (Ne.symm hj)] at q ⊢
      exact h.sl j s q
  · by_cases hj : j = i
    · subst hj
      rw [List.getElem?_set_self (lt q1)] at q3
      cases q3
      rw [List.getElem?_set_ne hjk] at q4
      exact h.ot k gs a vs (back k gs (Ne.symm hjk) q2) q4 List.mem_cons_self
    · by_cases hk : k = i
      · subst hk
        rw [List.getElem?_set_self (lt q2)] at q4
        cases q4
        rw [List.getElem?_set_ne (Ne.symm hj)] at q3
        exact h.ot j fs a vs (back j fs hj q1) q3 List.mem_cons_self
      · rw [List.getElem?_set_ne (Ne.symm hj)] at q3
        rw [List.getElem?_set_ne (Ne.symm hk)] at q4
        exact h.own j k fs gs b hjk (back j fs hj q1) (back k gs hk q2) q3 q4
  · by_cases hj : j = i
    · subst hj
      rw [List.getElem?_set_self (lt q1)] at q2
      cases q2
      exact h.topNe hm rfl
    · rw [List.getElem?_set_ne (Ne.symm hj)] at q2
      exact h.tail.ot j fs b us (back j fs hj q1) q2 hm
/-- forget slots: any other contents there -/
theorem Ok.forget (h : Ok K p H0 F0 F H σ S T) {σ' : L2.St} {sl' : List Sl} (hl : σ'.length = sl'.length) (k : ∀ (i : Nat) (s : Sl), sl'[i]? = some s → s = .un ∨ (∃ d, s = .im d ∧ SlOk K p H0 F H s (σ'[i]?)) ∨ (S.sl[i]? = some s ∧ σ'[i]? = σ[i]?)) : Ok K p H0 F0 F H σ' ⟨sl', S.n⟩ T := by
  have back : ∀ {i : Nat} {ds : List Dat}, sl'[i]? = some (.ow ds) → S.sl[i]? = some (.ow ds) ∧ σ'[i]? = σ[i]? := fun {i ds} q => by
    rcases k i _ q with e | ⟨d, e, _⟩ | e
    · cases e
    · cases e
    · exact e
  refine ⟨h.hp, hl, fun i s q => ?_, fun i j ds es a hij q1 q2 q3 q4 => ?_, h.tm, fun i ds a vs q1 q2 hm => ?_, h.td⟩
  · rcases k i s q with rfl | ⟨d, rfl, e⟩ | ⟨e1, e2⟩
    · trivial
    · exact e
    · rw [e2]; exact h.sl i s e1
  · obtain ⟨q1, e1⟩ := back q1
    obtain ⟨q2, e2⟩ := back q2
    exact h.own i j ds es a hij q1 q2 (e1 ▸ q3) (e2 ▸ q4)
  · obtain ⟨q1, e1⟩ := back q1
    exact h.ot i ds a vs q1 (e1 ▸ q2) hm
end
end Dl
-- part Dm
set_option Elab.async false
set_option linter.all false
set_option maxRecDepth 100000
set_option maxHeartbeats 4000000
namespace Dl
open PySem PySem.Spec PyProof.Rows L2 Evl

abbrev WE := Sx → (Dat → Sx → Prop) → Prop
abbrev WF := Sx → (List Dat → Sx → Prop) → Prop
abbrev WT := Sx → (Bool → Sx → Prop) → Prop
abbrev WO := Sx → (Option Int → Sx → Prop) → Prop
abbrev WG := Dat → Sx → (Sx → Prop) → Prop
structure Dx where
  nx : Sx → Prop
  rt : Dat → Nat → Prop
  rf : List Dat → Nat → Prop := fun _ _ => False
  bk : Sx → Prop := fun _ => False
  ct : Sx → Prop := fun _ => False
abbrev WS := Dx → Sx → Prop
abbrev OpD := Dat → Dat → (Dat → Prop) → Prop
abbrev Fn := List Dat → Nat → (Dat → Nat → Prop) → Prop

/-! ### the classes: a reading t of the layer is described by a transformer w -/
class EV (K : PySem.W.Frag) (t : TE) (w : outParam WE) : Prop where
  run : ∀ {p : Option Addr} {H0 F0 F H : Hp} {σ : L2.St} {S : Sx} {T : List (Addr × List V)} {Q : Dat → Sx → Prop} {Q' : VK}, Ok K p H0 F0 F H σ S T → w S Q →
    (∀ v F' H' S' d, Ok K p H0 F0 F' H' σ S' T → Ex F F' → Rep K p F' v d → Q d S' → Q' v H') → t σ H Q'
/-- the value is a new list, known to nobody -/
class EF (K : PySem.W.Frag) (t : TE) (w : outParam WF) : Prop where
  run : ∀ {p : Option Addr} {H0 F0 F H : Hp} {σ : L2.St} {S : Sx} {T : List (Addr × List V)} {Q : List Dat → Sx → Prop} {Q' : VK}, Ok K p H0 F0 F H σ S T → w S Q →
    (∀ a vs F' H' S' ds, Ok K p H0 F0 F' H' σ S' ((a, vs) :: T) → Ex F F' → Reps K p F' vs ds → Q ds S' → Q' (.ref a) H') → t σ H Q'
class TV (K : PySem.W.Frag) (t : TT) (w : outParam WT) : Prop where
  run : ∀ {p : Option Addr} {H0 F0 F H : Hp} {σ : L2.St} {S : Sx} {T : List (Addr × List V)} {Q : Bool → Sx → Prop} {Q' : Bool → Hp → Prop}, Ok K p H0 F0 F H σ S T → w S Q →
    (∀ b F' H' S', Ok K p H0 F0 F' H' σ S' T → Ex F F' → Q b S' → Q' b H') → t σ H Q'
class AV (K : PySem.W.Frag) (t : TA) (w : outParam WF) : Prop where
  run : ∀ {p : Option Addr} {H0 F0 F H : Hp} {σ : L2.St} {S : Sx} {T : List (Addr × List V)} {Q : List Dat → Sx → Prop} {Q' : List V → Hp → Prop}, Ok K p H0 F0 F H σ S T → w S Q →
    (∀ vs F' H' S' ds, Ok K p H0 F0 F' H' σ S' T → Ex F F' → Reps K p F' vs ds → Q ds S' → Q' vs H') → t σ H Q'
class PV (K : PySem.W.Frag) (t : TO) (w : outParam WO) : Prop where
  run : ∀ {p : Option Addr} {H0 F0 F H : Hp} {σ : L2.St} {S : Sx} {T : List (Addr × List V)} {Q : Option Int → Sx → Prop} {Q' : Option Int → Hp → Prop}, Ok K p H0 F0 F H σ S T → w S Q →
    (∀ o F' H' S', Ok K p H0 F0 F' H' σ S' T → Ex F F' → Q o S' → Q' o H') → t σ H Q'
/-- an operation on two values -/
class OV (K : PySem.W.Frag) (r : R2) (f : outParam OpD) : Prop where
  run : ∀ {p : Option Addr} {H0 F0 F H : Hp} {σ : L2.St} {S : Sx} {T : List (Addr × List V)} {QD : Dat → Prop} {Q' : VK} {x y : V} {a b : Dat}, Ok K p H0 F0 F H σ S T → Rep K p F x a → Rep K p F y b → f a b QD →
    (∀ v F' H' d, Ok K p H0 F0 F' H' σ S T → Ex F F' → Rep K p F' v d → QD d → Q' v H') → r x y H Q'
class UV (K : PySem.W.Frag) (r : V → Hp → VK → Prop) (f : outParam (Dat → (Dat → Prop) → Prop)) : Prop where
  run : ∀ {p : Option Addr} {H0 F0 F H : Hp} {σ : L2.St} {S : Sx} {T : List (Addr × List V)} {QD : Dat → Prop} {Q' : VK} {x : V} {a : Dat}, Ok K p H0 F0 F H σ S T → Rep K p F x a → f a QD →
    (∀ v F' H' d, Ok K p H0 F0 F' H' σ S T → Ex F F' → Rep K p F' v d → QD d → Q' v H') → r x H Q'
/-- a builtin on values -/
class BV (K : PySem.W.Frag) (r : List V → Hp → VK → Prop) (f : outParam (List Dat → (Dat → Prop) → Prop)) : Prop where
  run : ∀ {p : Option Addr} {H0 F0 F H : Hp} {σ : L2.St} {S : Sx} {T : List (Addr × List V)} {QD : Dat → Prop} {Q' : VK} {vs : List V} {ds : List Dat}, Ok K p H0 F0 F H σ S T → Reps K p F vs ds → f ds QD →
    (∀ v F' H' d, Ok K p H0 F0 F' H' σ S T → Ex F F' → Rep K p F' v d → QD d → Q' v H') → r vs H Q'
class BF (K : PySem.W.Frag) (r : List V → Hp → VK → Prop) (f : outParam (List Dat → (List Dat → Prop) → Prop)) : Prop where
  run : ∀ {p : Option Addr} {H0 F0 F H : Hp} {σ : L2.St} {S : Sx} {T : List (Addr × List V)} {QD : List Dat → Prop} {Q' : VK} {vs : List V} {ds : List Dat}, Ok K p H0 F0 F H σ S T → Reps K p F vs ds → f ds QD →
    (∀ a ws F' H' es, Ok K p H0 F0 F' H' σ S ((a, ws) :: T) → Ex F F' → Reps K p F' ws es → QD es → Q' (.ref a) H') → r vs H Q'
/-- a method of a builtin type; t: the data it is asked of -/
class MV (K : PySem.W.Frag) (ty : String) (r : V → List V → Hp → VK → Prop) (t : outParam (Dat → Prop)) (f : outParam (Dat → List Dat → (Dat → Prop) → Prop)) : Prop where
  ty : ∀ {p : Option Addr} {F H : Hp} {x : V} {a : Dat}, Ex F H → Rep K p F x a → t a → tyV K ty x H
  run : ∀ {p : Option Addr} {H0 F0 F H : Hp} {σ : L2.St} {S : Sx} {T : List (Addr × List V)} {QD : Dat → Prop} {Q' : VK} {x : V} {a : Dat} {vs : List V} {ds : List Dat}, Ok K p H0 F0 F H σ S T → Rep K p F x a → Reps K p F vs ds → f a ds QD →
    (∀ v F' H' d, Ok K p H0 F0 F' H' σ S T → Ex F F' → Rep K p F' v d → QD d → Q' v H') → r x vs H Q'
/-- a slice of a value -/
class CT (K : PySem.W.Frag) (r : V → Option Int → Option Int → Hp → VK → Prop) (f : outParam (Dat → Option Int → Option Int → (Dat → Prop) → Prop)) : Prop where
  run : ∀ {p : Option Addr} {H0 F0 F H : Hp} {σ : L2.St} {S : Sx} {T : List (Addr × List V)} {QD : Dat → Prop} {Q' : VK} {x : V} {a : Dat} {lo hi : Option Int}, Ok K p H0 F0 F H σ S T → Rep K p F x a → f a lo hi QD →
    (∀ v F' H' d, Ok K p H0 F0 F' H' σ S T → Ex F F' → Rep K p F' v d → QD d → Q' v H') → r x lo hi H Q'
/-- a constant -/
class CV (K : PySem.W.Frag) (v : V) (d : outParam Dat) : Prop where
  rep : ∀ (p : Option Addr) (F : Hp), Rep K p F v d

/-- what follows -/
structure Cont (K : PySem.W.Frag) (p : Option Addr) (H0 F0 : Hp) (D : Dx) (D' : Ends) : Prop where
  nx : ∀ F H σ S, Ok K p H0 F0 F H σ S [] → D.nx S → D'.nx σ H
  rt : ∀ v F H d n, HpOk p H0 F0 F H n → Rep K p F v d → D.rt d n → D'.rt v H
  rf : ∀ a vs F H ds n, HpOk p H0 F0 F H n → H0 a = none → F a = none → H a = some (.lst vs) → Reps K p F vs ds → D.rf ds n → D'.rt (.ref a) H
  bk : ∀ F H σ S, Ok K p H0 F0 F H σ S [] → D.bk S → D'.bk σ H
  ct : ∀ F H σ S, Ok K p H0 F0 F H σ S [] → D.ct S → D'.ct σ H
class SV (K : PySem.W.Frag) (t : TS) (w : outParam WS) : Prop where
  run : ∀ {p : Option Addr} {H0 F0 F H : Hp} {σ : L2.St} {S : Sx} {D : Dx} {D' : Ends}, Ok K p H0 F0 F H σ S [] → w D S → Cont K p H0 F0 D D' → t D' σ H
/-- a target; ix: the slots it sets -/
class GV (K : PySem.W.Frag) (g : TG) (ix : outParam (List Nat)) (w : outParam WG) : Prop where
  run : ∀ {p : Option Addr} {H0 F0 F H : Hp} {σ : L2.St} {S : Sx} {T : List (Addr × List V)} {Q : Sx → Prop} {Q' : L2.St → Hp → Prop} {v : V} {d : Dat}, Ok K p H0 F0 F H σ S T → Rep K p F v d → w d S Q →
    (∀ σ' S', Ok K p H0 F0 F H σ' S' T → (∀ i : Nat, i ∉ ix → σ'[i]? = σ[i]?) → σ'.length = σ.length → Q S' → Q' σ' H) → g v σ H Q'
class GsV (K : PySem.W.Frag) (g : TGs) (ix : outParam (List Nat)) (w : outParam (List Dat → Sx → (Sx → Prop) → Prop)) : Prop where
  run : ∀ {p : Option Addr} {H0 F0 F H : Hp} {σ : L2.St} {S : Sx} {T : List (Addr × List V)} {Q : Sx → Prop} {Q' : L2.St → Hp → Prop} {vs : List V} {ds : List Dat}, Ok K p H0 F0 F H σ S T → Reps K p F vs ds → w ds S Q →
    (∀ σ' S', Ok K p H0 F0 F H σ' S' T → (∀ i : Nat, i ∉ ix → σ'[i]? = σ[i]?) → σ'.length = σ.length → Q S' → Q' σ' H) → g vs σ H Q'
/-- what a loop walks gives: at each turn the item, perhaps as a new tuple -/
def Yields (K : PySem.W.Frag) (p : Option Addr) (F H H' : Hp) (x : V) (d : Dat) : Prop :=
  (H' = H ∧ Rep K p F x d) ∨ ∃ a vs ds, H a = none ∧ H' = upd H a (.tup vs) ∧ x = .ref a ∧ d = .tup ds ∧ Reps K p F vs ds
def ItOk (K : PySem.W.Frag) (p : Option Addr) (F : Hp) (J : It) (ds : List Dat) : Prop :=
  ∀ F' H', Ex F F' → Ex F' H' → (∀ i d, ds[i]? = some d → J.go i H' ∧ ∀ x H'', J.yld i H' x H'' → Yields K p F' H' H'' x d) ∧ ∀ i, ds.length ≤ i → J.stop i H'
class IV (K : PySem.W.Frag) (t : TI) (w : outParam WF) : Prop where
  run : ∀ {p : Option Addr} {H0 F0 F H : Hp} {σ : L2.St} {S : Sx} {T : List (Addr × List V)} {Q : List Dat → Sx → Prop} {R : It → Hp → Prop}, Ok K p H0 F0 F H σ S T → w S Q →
    (∀ J F' H' S' ds, Ok K p H0 F0 F' H' σ S' T → Ex F F' → ItOk K p F' J ds → Q ds S' → R J H') → t σ H R

/-! ### expressions -/
section
variable {K : PySem.W.Frag}
def wVar (i : Nat) : WE := fun S Q =>
  match S.sl[i]? with
  | some (.im d) => Q d S
  | some (.ow ds) => Q (.lst ds) ⟨S.sl.set i (.im (.lst ds)), S.n⟩
  | _ => False
instance ev_var {i : Nat} : EV K (tVar i) (wVar i) := ⟨by
  intro p H0 F0 F H σ S T Q Q' ok hw k
  unfold wVar at hw
  split at hw
  · rename_i d hd
    obtain ⟨v, hv, r⟩ := ok.sl i _ hd
    exact ⟨v, hv, k v F H S d ok (Ex.refl F) r hw⟩
  · rename_i ds hd
    obtain ⟨a, vs, hv, fa, r, ok'⟩ := ok.frzS hd
    exact ⟨_, hv, k _ _ H _ _ ok' (Ex.new fa) (.lst upd_same (r.mono (Ex.new fa))) hw⟩
  · exact hw.elim⟩
instance : CV K .non .non := ⟨fun _ _ => .non⟩
instance {b : Bool} : CV K (.bl b) (.bl b) := ⟨fun _ _ => .bl b⟩
instance {i : Int} : CV K (.int i) (.int i) := ⟨fun _ _ => .int i⟩
instance {s : Str} : CV K (.str s) (.str s.cps.toList) := ⟨fun _ _ => .str s⟩
instance {n : String} : CV K (.ty n) (.ty n) := ⟨fun _ _ => .ty n⟩
def wC (d : Dat) : WE := fun S Q => Q d S
instance ev_c {v : V} {d : Dat} [c : CV K v d] : EV K (tC v) (wC d) := ⟨fun {p _ _ F H _ S _ _ _} ok hw k => k v F H S d ok (Ex.refl F) (c.rep p F) hw⟩
def wOp (f : OpD) (wa wb : WE) : WE := fun S Q => wa S fun a S1 => wb S1 fun b S2 => f a b fun d => Q d S2
instance ev_op {r : R2} {ta tb : TE} {wa wb : WE} {f : OpD} [o : OV K r f] [a : EV K ta wa] [b : EV K tb wb] : EV K (tOp r ta tb) (wOp f wa wb) := ⟨fun ok hw k =>
  a.run ok hw fun x F1 H1 S1 d1 ok1 e1 r1 q1 => b.run ok1 q1 fun y F2 H2 S2 d2 ok2 e2 r2 q2 => o.run ok2 (r1.mono e2) r2 q2 fun v F3 H3 d ok3 e3 r3 q3 => k v F3 H3 S2 d ok3 ((e1.trans e2).trans e3) r3 q3⟩
def wUn (f : Dat → (Dat → Prop) → Prop) (wa : WE) : WE := fun S Q => wa S fun a S1 => f a fun d => Q d S1
instance ev_un {r : V → Hp → VK → Prop} {ta : TE} {wa : WE} {f : Dat → (Dat → Prop) → Prop} [o : UV K r f] [a : EV K ta wa] : EV K (tUn r ta) (wUn f wa) := ⟨fun ok hw k =>
  a.run ok hw fun x F1 H1 S1 d1 ok1 e1 r1 q1 => o.run ok1 r1 q1 fun v F3 H3 d ok3 e3 r3 q3 => k v F3 H3 S1 d ok3 (e1.trans e3) r3 q3⟩
def wIf (wt : WT) (wa wb : WE) : WE := fun S Q => wt S fun b S1 => if b = true then wa S1 Q else wb S1 Q
instance ev_if {t : TT} {ta tb : TE} {wt : WT} {wa wb : WE} [c : TV K t wt] [a : EV K ta wa] [b : EV K tb wb] : EV K (tIf t ta tb) (wIf wt wa wb) := ⟨fun ok hw k =>
  c.run ok hw fun k1 F1 H1 S1 ok1 e1 q1 => by
    cases k1 with
    | true => exact a.run ok1 q1 fun v F2 H2 S2 d ok2 e2 r2 q2 => k v F2 H2 S2 d ok2 (e1.trans e2) r2 q2
    | false => exact b.run ok1 q1 fun v F2 H2 S2 d ok2 e2 r2 q2 => k v F2 H2 S2 d ok2 (e1.trans e2) r2 q2⟩
/-! tests -/
def asB (d : Dat) (Q : Bool → Prop) : Prop :=
  match d with
  | .bl b => Q b
  | _ => False
theorem asB_of {d : Dat} {Q : Bool → Prop} (h : asB d Q) : ∃ b, d = .bl b ∧ Q b := by
  cases d with
  | bl b => exact ⟨b, rfl, h⟩
  | _ => exact False.elim h
theorem Rep.bl_of {p : Option Addr} {F : Hp} {v : V} {b : Bool} (r : Rep K p F v (.bl b)) : v = .bl b := by cases r; rfl
theorem Rep.int_of {p : Option Addr} {F : Hp} {v : V} {i : Int} (r : Rep K p F v (.int i)) : v = .int i := by cases r; rfl
theorem Rep.str_of {p : Option Addr} {F : Hp} {v : V} {l : List Nat} (r : Rep K p F v (.str l)) : v = .str ⟨l.toArray⟩ := by cases r; rfl
theorem Rep.strL {p : Option Addr} {F : Hp} (l : List Nat) : Rep K p F (.str ⟨l.toArray⟩) (.str l) := .str ⟨l.toArray⟩
def wTest (we : WE) : WT := fun S Q => we S fun d S1 => asB d fun b => Q b S1
instance tv_test {t : TE} {w : WE} [a : EV K t w] : TV K (tTest t) (wTest w) := ⟨fun ok hw k =>
  a.run ok hw fun v F1 H1 S1 d ok1 e1 r1 q1 => by
    obtain ⟨b, rfl, q⟩ := asB_of q1
    exact ⟨b, r1.bl_of, k b F1 H1 S1 ok1 e1 q⟩⟩
instance tv_B {t : TE} {w : WE} [a : EV K t w] : TV K (tB t) (wTest w) := ⟨fun ok hw k =>
  a.run ok hw fun v F1 H1 S1 d ok1 e1 r1 q1 => by
    obtain ⟨b, rfl, q⟩ := asB_of q1
    exact ⟨b, r1.bl_of, k b F1 H1 S1 ok1 e1 q⟩⟩
def wAnd (wa wb : WT) : WT := fun S Q => wa S fun b S1 => if b = true then wb S1 Q else Q false S1
def wOr (wa wb : WT) : WT := fun S Q => wa S fun b S1 => if b = true then Q true S1 else wb S1 Q
def wNot (wa : WT) : WT := fun S Q => wa S fun b S1 => Q (!b) S1
instance tv_and {t u : TT} {wa wb : WT} [a : TV K t wa] [b : TV K u wb] : TV K (tAnd t u) (wAnd wa wb) := ⟨fun ok hw k =>
  a.run ok hw fun c F1 H1 S1 ok1 e1 q1 => by
    cases c with
    | true => exact b.run ok1 q1 fun c2 F2 H2 S2 ok2 e2 q2 => k c2 F2 H2 S2 ok2 (e1.trans e2) q2
    | false => exact k false F1 H1 S1 ok1 e1 q1⟩
instance tv_or {t u : TT} {wa wb : WT} [a : TV K t wa] [b : TV K u wb] : TV K (tOr t u) (wOr wa wb) := ⟨fun ok hw k =>
  a.run ok hw fun c F1 H1 S1 ok1 e1 q1 => by
    cases c with
    | true => exact k true F1 H1 S1 ok1 e1 q1
    | false => exact b.run ok1 q1 fun c2 F2 H2 S2 ok2 e2 q2 => k c2 F2 H2 S2 ok2 (e1.trans e2) q2⟩
instance tv_not {t : TT} {wa : WT} [a : TV K t wa] : TV K (tNot t) (wNot wa) := ⟨fun ok hw k =>
  a.run ok hw fun c F1 H1 S1 ok1 e1 q1 => k (!c) F1 H1 S1 ok1 e1 q1⟩
def wYes : WT := fun S Q => Q true S
instance tv_yes : TV K tYes wYes := ⟨fun {_ _ _ F H _ S _ _ _} ok hw k => k true F H S ok (Ex.refl F) hw⟩
def wAndV (wa wb : WE) : WE := fun S Q => wa S fun d S1 => asB d fun b => if b = true then wb S1 Q else Q (.bl false) S1
def wOrV (wa wb : WE) : WE := fun S Q => wa S fun d S1 => asB d fun b => if b = true then Q (.bl true) S1 else wb S1 Q
def wNotV (wa : WE) : WE := fun S Q => wa S fun d S1 => asB d fun b => Q (.bl (!b)) S1
instance ev_andV {ta tb : TE} {wa wb : WE} [a : EV K ta wa] [b : EV K tb wb] : EV K (tAndV ta tb) (wAndV wa wb) := ⟨fun ok hw k =>
  a.run ok hw fun v F1 H1 S1 d ok1 e1 r1 q1 => by
    obtain ⟨c, rfl, q⟩ := asB_of q1
    refine ⟨c, r1.bl_of, ?_⟩
    cases c with
    | true => exact b.run ok1 q fun v2 F2 H2 S2 d2 ok2 e2 r2 q2 => k v2 F2 H2 S2 d2 ok2 (e1.trans e2) r2 q2
    | false => exact k _ F1 H1 S1 _ ok1 e1 (.bl false) q⟩
instance ev_orV {ta tb : TE} {wa wb : WE} [a : EV K ta wa] [b : EV K tb wb] : EV K (tOrV ta tb) (wOrV wa wb) := ⟨fun ok hw k =>
  a.run ok hw fun v F1 H1 S1 d ok1 e1 r1 q1 => by
    obtain ⟨c, rfl, q⟩ := asB_of q1
    refine ⟨c, r1.bl_of, ?_⟩
    cases c with
    | true => exact k _ F1 H1 S1 _ ok1 e1 (.bl true) q
    | false => exact b.run ok1 q fun v2 F2 H2 S2 d2 ok2 e2 r2 q2 => k v2 F2 H2 S2 d2 ok2 (e1.trans e2) r2 q2⟩
instance ev_notV {ta : TE} {wa : WE} [a : EV K ta wa] : EV K (tNotV ta) (wNotV wa) := ⟨fun ok hw k =>
  a.run ok hw fun v F1 H1 S1 d ok1 e1 r1 q1 => by
    obtain ⟨c, rfl, q⟩ := asB_of q1
    exact ⟨c, r1.bl_of, k _ F1 H1 S1 _ ok1 e1 (.bl (!c)) q⟩⟩
def wChain (f g : OpD) (wa wb wc : WE) : WE := fun S Q => wa S fun a S1 => wb S1 fun b S2 => f a b fun d => asB d fun k => if k = true then wc S2 (fun c S3 => g b c fun e => Q e S3) else Q (.bl false) S2
instance ev_chain {r r' : R2} {ta tb tc : TE} {wa wb wc : WE} {f g : OpD} [o : OV K r f] [o' : OV K r' g] [a : EV K ta wa] [b : EV K tb wb] [c : EV K tc wc] : EV K (tChain r r' ta tb tc) (wChain f g wa wb wc) := ⟨fun ok hw k =>
  a.run ok hw fun x F1 H1 S1 d1 ok1 e1 r1 q1 => b.run ok1 q1 fun y F2 H2 S2 d2 ok2 e2 r2 q2 => o.run ok2 (r1.mono e2) r2 q2 fun v F3 H3 d ok3 e3 r3 q3 => by
    obtain ⟨b3, rfl, q⟩ := asB_of q3
    refine ⟨b3, r3.bl_of, ?_⟩
    cases b3 with
    | true => exact c.run ok3 q fun z F4 H4 S4 d4 ok4 e4 r4 q4 => o'.run ok4 (r2.mono (e3.trans e4)) r4 q4 fun v5 F5 H5 d5 ok5 e5 r5 q5 => k v5 F5 H5 S4 d5 ok5 ((((e1.trans e2).trans e3).trans e4).trans e5) r5 q5
    | false => exact k _ F3 H3 S2 _ ok3 ((e1.trans e2).trans e3) (.bl false) q⟩
/-! argument lists -/
def wNil : WF := fun S Q => Q [] S
def wCons (wa : WE) (wr : WF) : WF := fun S Q => wa S fun a S1 => wr S1 fun ds S2 => Q (a :: ds) S2
instance av_nil : AV K tNil wNil := ⟨fun {_ _ _ F H _ S _ _ _} ok hw k => k [] F H S [] ok (Ex.refl F) .nil hw⟩
instance av_cons {ta : TE} {tr : TA} {wa : WE} {wr : WF} [a : EV K ta wa] [b : AV K tr wr] : AV K (tCons ta tr) (wCons wa wr) := ⟨fun ok hw k =>
  a.run ok hw fun v F1 H1 S1 d ok1 e1 r1 q1 => b.run ok1 q1 fun vs F2 H2 S2 ds ok2 e2 r2 q2 => k (v :: vs) F2 H2 S2 (d :: ds) ok2 (e1.trans e2) (.cons (r1.mono e2) r2) q2⟩
/-! displays -/
def wTup (wa : WF) : WE := fun S Q => wa S fun ds S1 => ds.length ≤ 100000 ∧ Q (.tup ds) S1
instance ev_tup {ta : TA} {wa : WF} [a : AV K ta wa] : EV K (tTup ta) (wTup wa) := ⟨fun ok hw k =>
  a.run ok hw fun vs F1 H1 S1 ds ok1 e1 r1 q1 => ⟨sz_of (by rw [r1.length]; exact q1.1), fun a ha =>
    k _ (upd F1 a (.tup vs)) _ S1 _ (ok1.lay ha) (e1.trans (Ex.new (ok1.hp.freeF ha))) (.tup (.inl (.inl upd_same)) (r1.mono (Ex.new (ok1.hp.freeF ha)))) q1.2⟩⟩
def wLst (wa : WF) : WF := fun S Q => wa S fun ds S1 => ds.length ≤ 100000 ∧ Q ds S1
instance ef_lst {ta : TA} {wa : WF} [a : AV K ta wa] : EF K (tLst ta) (wLst wa) := ⟨fun ok hw k =>
  a.run ok hw fun vs F1 H1 S1 ds ok1 e1 r1 q1 => ⟨sz_of (by rw [r1.length]; exact q1.1), fun a ha => k a vs F1 _ S1 ds (ok1.layT ha) e1 r1 q1.2⟩⟩
def wFz (w : WF) : WE := fun S Q => w S fun ds S1 => Q (.lst ds) S1
instance (priority := low) ev_fz {t : TE} {w : WF} [a : EF K t w] : EV K t (wFz w) := ⟨fun ok hw k =>
  a.run ok hw fun b vs F1 H1 S1 ds ok1 e1 r1 q1 => by
    obtain ⟨ok2, e2⟩ := ok1.frzT
    exact k _ _ H1 S1 _ ok2 (e1.trans e2) (.lst upd_same (r1.mono e2)) q1⟩
/-! calls -/
def spF (K : PySem.W.Frag) (f : Fn) : Sp := fun vs H Q _ => ∃ (p : Option Addr) (F : Hp) (ds : List Dat) (n : Nat) (QD : Dat → Nat → Prop), HpOk p H F F H n ∧ Reps K p F vs ds ∧ f ds n QD ∧
  ∀ v F' H' d n', HpOk p H F F' H' n' → Rep K p F' v d → QD d n' → Q v H'
theorem HpOk.self {p : Option Addr} {H0 F0 F H : Hp} {n : Nat} (h : HpOk p H0 F0 F H n) : HpOk p H F F H n := .start h.fh fun a e => ⟨(h.pt a e).1, (h.pt a e).2.2⟩
def wCall (f : Fn) (wa : WF) : WE := fun S Q => wa S fun ds S1 => f ds S1.n fun d n' => Q d ⟨S1.sl, n'⟩
instance ev_call {f : Fn} {E : XK} {ta : TA} {wa : WF} [a : AV K ta wa] : EV K (tCall (spF K f) [] E ta) (wCall f wa) := ⟨fun {p _ _ _ _ _ _ _ _ _} ok hw k =>
  a.run ok hw fun vs F1 H1 S1 ds ok1 e1 r1 q1 => ⟨p, F1, ds, S1.n, _, ok1.hp.self, by rw [List.append_nil]; exact r1, q1, fun v F2 H2 d n2 g2 r2 q2 => k v F2 H2 _ d (ok1.call g2) (e1.trans g2.f0) r2 q2⟩⟩
/-- a def that hands back a new list, known to nobody -/
abbrev FnF := List Dat → Nat → (List Dat → Nat → Prop) → Prop
def spFF (K : PySem.W.Frag) (f : FnF) : Sp := fun vs H Q _ => ∃ (p : Option Addr) (F : Hp) (ds : List Dat) (n : Nat) (QD : List Dat → Nat → Prop), HpOk p H F F H n ∧ Reps K p F vs ds ∧ f ds n QD ∧
  ∀ a ws F' H' es n', HpOk p H F F' H' n' → H a = none → F' a = none → H' a = some (.lst ws) → Reps K p F' ws es → QD es n' → Q (.ref a) H'
def wCallF (f : FnF) (wa : WF) : WF := fun S Q => wa S fun ds S1 => f ds S1.n fun d n' => Q d ⟨S1.sl, n'⟩
instance ef_call {f : FnF} {E : XK} {ta : TA} {wa : WF} [a : AV K ta wa] : EF K (tCall (spFF K f) [] E ta) (wCallF f wa) := ⟨fun {p _ _ _ _ _ _ _ _ _} ok hw k =>
  a.run ok hw fun vs F1 H1 S1 ds ok1 e1 r1 q1 => ⟨p, F1, ds, S1.n, _, ok1.hp.self, by rw [List.append_nil]; exact r1, q1, fun b ws F2 H2 es n2 g2 hb hf hl r2 q2 =>
    k b ws F2 H2 _ es ((ok1.call g2).addT (ok1.hp.free hb) hf hl (fun i ds hi hs => by
      obtain ⟨c, us, h1, _, _, h4, _⟩ := ok1.sl i _ hi
      rw [hs] at h1
      cases h1
      rw [hb] at h4
      cases h4) (fun us hm => by
      obtain ⟨_, _, h3⟩ := ok1.tm b us hm
      rw [hb] at h3
      cases h3)) (e1.trans g2.f0) r2 q2⟩⟩
/-- keywords: the values put in the parameters' order -/
class KPerm (gV : List V → List V → List V) (gD : outParam (List Dat → List Dat → List Dat)) : Prop where
  rep : ∀ {K : PySem.W.Frag} {p : Option Addr} {F : Hp} {vs ws : List V} {ds es : List Dat}, Reps K p F vs ds → Reps K p F ws es → Reps K p F (gV vs ws) (gD ds es)
def wCallK (f : Fn) (gD : List Dat → List Dat → List Dat) (wa wk : WF) : WE := fun S Q => wa S fun ds S1 => wk S1 fun es S2 => f (gD ds es) S2.n fun d n' => Q d ⟨S2.sl, n'⟩
instance ev_callK {f : Fn} {E : XK} {gV : List V → List V → List V} {gD : List Dat → List Dat → List Dat} {ta tk : TA} {wa wk : WF} [g : KPerm gV gD] [a : AV K ta wa] [b : AV K tk wk] : EV K (tCallK (spF K f) gV E ta tk) (wCallK f gD wa wk) :=
  ⟨fun {p _ _ _ _ _ _ _ _ _} ok hw k => a.run ok hw fun vs F1 H1 S1 ds ok1 e1 r1 q1 => b.run ok1 q1 fun ws F2 H2 S2 es ok2 e2 r2 q2 =>
    ⟨p, F2, gD ds es, S2.n, _, ok2.hp.self, g.rep (r1.mono e2) r2, q2, fun v F3 H3 d n3 g3 r3 q3 => k v F3 H3 _ d (ok2.call g3) ((e1.trans e2).trans g3.f0) r3 q3⟩⟩
def wCB (f : List Dat → (Dat → Prop) → Prop) (wa : WF) : WE := fun S Q => wa S fun ds S1 => f ds fun d => Q d S1
instance ev_cb {r : List V → Hp → VK → Prop} {f : List Dat → (Dat → Prop) → Prop} {ta : TA} {wa : WF} [o : BV K r f] [a : AV K ta wa] : EV K (tCB r ta) (wCB f wa) := ⟨fun ok hw k =>
  a.run ok hw fun vs F1 H1 S1 ds ok1 e1 r1 q1 => o.run ok1 r1 q1 fun v F2 H2 d ok2 e2 r2 q2 => k v F2 H2 S1 d ok2 (e1.trans e2) r2 q2⟩
def wCBF (f : List Dat → (List Dat → Prop) → Prop) (wa : WF) : WF := fun S Q => wa S fun ds S1 => f ds fun d => Q d S1
instance ef_cb {r : List V → Hp → VK → Prop} {f : List Dat → (List Dat → Prop) → Prop} {ta : TA} {wa : WF} [o : BF K r f] [a : AV K ta wa] : EF K (tCB r ta) (wCBF f wa) := ⟨fun ok hw k =>
  a.run ok hw fun vs F1 H1 S1 ds ok1 e1 r1 q1 => o.run ok1 r1 q1 fun v ws F2 H2 d ok2 e2 r2 q2 => k v ws F2 H2 S1 d ok2 (e1.trans e2) r2 q2⟩
def wBM (t : Dat → Prop) (f : Dat → List Dat → (Dat → Prop) → Prop) (wo : WE) (wa : WF) : WE := fun S Q => wo S fun x S1 => t x ∧ wa S1 fun ds S2 => f x ds fun d => Q d S2
instance ev_bm {ty : String} {r : V → List V → Hp → VK → Prop} {t : Dat → Prop} {f : Dat → List Dat → (Dat → Prop) → Prop} {to : TE} {ta : TA} {wo : WE} {wa : WF} [m : MV K ty r t f] [o : EV K to wo] [a : AV K ta wa] : EV K (tBM K ty r to ta) (wBM t f wo wa) := ⟨fun ok hw k =>
  o.run ok hw fun x F1 H1 S1 d1 ok1 e1 r1 q1 => ⟨m.ty ok1.hp.fh r1 q1.1, a.run ok1 q1.2 fun vs F2 H2 S2 ds ok2 e2 r2 q2 => m.run ok2 (r1.mono e2) r2 q2 fun v F3 H3 d ok3 e3 r3 q3 => k v F3 H3 S2 d ok3 ((e1.trans e2).trans e3) r3 q3⟩⟩
def wBM0 (t : Dat → Prop) (f : Dat → List Dat → (Dat → Prop) → Prop) (wo : WE) : WE := fun S Q => wo S fun x S1 => t x ∧ f x [] fun d => Q d S1
instance ev_bm0 {ty : String} {r : V → List V → Hp → VK → Prop} {t : Dat → Prop} {f : Dat → List Dat → (Dat → Prop) → Prop} {to : TE} {wo : WE} [m : MV K ty r t f] [o : EV K to wo] : EV K (tBM0 K ty r to) (wBM0 t f wo) := ⟨fun ok hw k =>
  o.run ok hw fun x F1 H1 S1 d1 ok1 e1 r1 q1 => ⟨m.ty ok1.hp.fh r1 q1.1, m.run ok1 r1 .nil q1.2 fun v F3 H3 d ok3 e3 r3 q3 => k v F3 H3 S1 d ok3 (e1.trans e3) r3 q3⟩⟩
def tStr (d : Dat) : Prop :=
  match d with
  | .str _ => True
  | _ => False
/-! slices -/
def wNone : WO := fun S Q => Q none S
instance pv_none : PV K tNoPart wNone := ⟨fun {_ _ _ F H _ S _ _ _} ok hw k => k none F H S ok (Ex.refl F) hw⟩
def asI (d : Dat) (Q : Int → Prop) : Prop :=
  match d with
  | .int i => Q i
  | _ => False
theorem asI_of {d : Dat} {Q : Int → Prop} (h : asI d Q) : ∃ b, d = .int b ∧ Q b := by
  cases d with
  | int b => exact ⟨b, rfl, h⟩
  | _ => exact False.elim h
def wPart (we : WE) : WO := fun S Q => we S fun d S1 => asI d fun i => Q (some i) S1
instance pv_some {t : TE} {w : WE} [a : EV K t w] : PV K (tPart t) (wPart w) := ⟨fun ok hw k =>
  a.run ok hw fun v F1 H1 S1 d ok1 e1 r1 q1 => by
    obtain ⟨i, rfl, q⟩ := asI_of q1
    exact ⟨i, r1.int_of, k _ F1 H1 S1 ok1 e1 q⟩⟩
def wSl (f : Dat → Option Int → Option Int → (Dat → Prop) → Prop) (we : WE) (wl wh : WO) : WE := fun S Q => we S fun d S1 => wl S1 fun l S2 => wh S2 fun h S3 => f d l h fun e => Q e S3
instance ev_sl {r : V → Option Int → Option Int → Hp → VK → Prop} {f : Dat → Option Int → Option Int → (Dat → Prop) → Prop} {te : TE} {tl th : TO} {we : WE} {wl wh : WO} [o : CT K r f] [a : EV K te we] [b : PV K tl wl] [c : PV K th wh] :
    EV K (L2.tSl r te tl th) (wSl f we wl wh) := ⟨fun ok hw k =>
  a.run ok hw fun x F1 H1 S1 d1 ok1 e1 r1 q1 => b.run ok1 q1 fun l F2 H2 S2 ok2 e2 q2 => c.run ok2 q2 fun u F3 H3 S3 ok3 e3 q3 => o.run ok3 (r1.mono (e2.trans e3)) q3 fun v F4 H4 d4 ok4 e4 r4 q4 =>
    k v F4 H4 S3 d4 ok4 (((e1.trans e2).trans e3).trans e4) r4 q4⟩
end

/-! ### targets -/
section
variable {K : PySem.W.Frag}
def wgN (i : Nat) : WG := fun d S Q => Q ⟨S.sl.set i (.im d), S.n⟩
instance gv_name {i : Nat} : GV K (gName i) [i] (wgN i) := ⟨fun {_ _ _ F H σ S _ _ _ v d} ok r hw k =>
  k _ _ (ok.setIm r) (fun j hj => by rw [List.getElem?_set_ne (fun e => hj (by simp [e]))]) (List.length_set ..) hw⟩
def wgNil : List Dat → Sx → (Sx → Prop) → Prop := fun ds S Q =>
  match ds with
  | [] => Q S
  | _ :: _ => False
def wgCons (w : WG) (ws : List Dat → Sx → (Sx → Prop) → Prop) : List Dat → Sx → (Sx → Prop) → Prop := fun ds S Q =>
  match ds with
  | [] => False
  | d :: es => w d S fun S1 => ws es S1 Q
instance gsv_nil : GsV K gNil [] wgNil := ⟨fun {_ _ _ F H σ S _ _ _ vs ds} ok r hw k => by
  cases ds with
  | nil => cases r; exact ⟨rfl, k σ S ok (fun _ _ => rfl) rfl hw⟩
  | cons d es => exact hw.elim⟩
instance gsv_cons {g : TG} {gs : TGs} {ix iy : List Nat} {w : WG} {ws : List Dat → Sx → (Sx → Prop) → Prop} [a : GV K g ix w] [b : GsV K gs iy ws] : GsV K (gCons g gs) (ix ++ iy) (wgCons w ws) := ⟨fun {_ _ _ F H σ S _ _ _ vs ds} ok r hw k => by
  cases ds with
  | nil => exact hw.elim
  | cons d es =>
    cases r with
    | cons r1 r2 =>
      refine ⟨_, _, rfl, a.run ok r1 hw fun σ1 S1 ok1 h1 l1 q1 => b.run ok1 r2 q1 fun σ2 S2 ok2 h2 l2 q2 => k σ2 S2 ok2 (fun i hi => ?_) (l2.trans l1) q2⟩
      rw [h2 i fun z => hi (List.mem_append_right _ z), h1 i fun z => hi (List.mem_append_left _ z)]⟩
def wgTup (n : Nat) (ws : List Dat → Sx → (Sx → Prop) → Prop) : WG := fun d S Q =>
  match d with
  | .tup ds => ds.length = n ∧ ws ds S Q
  | _ => False
instance gv_tup {n : Nat} {gs : TGs} {ix : List Nat} {ws : List Dat → Sx → (Sx → Prop) → Prop} [b : GsV K gs ix ws] : GV K (gTup K n gs) ix (wgTup n ws) := ⟨fun {_ _ _ F H σ S _ _ _ v d} ok r hw k => by
  cases d with
  | tup ds =>
    obtain ⟨hl, hw⟩ := hw
    cases r with
    | tup h1 h2 => exact ⟨_, _, rfl, ex_t ok.hp.fh h1, h2.length.trans hl, b.run ok h2 hw k⟩
  | _ => exact hw.elim⟩
end
end Dl
-- part Dn
set_option Elab.async false
set_option linter.all false
set_option maxRecDepth 100000
set_option maxHeartbeats 4000000
namespace Dl
open PySem PySem.Spec PyProof.Rows L2 Evl

/-! ### statements -/
section
variable {K : PySem.W.Frag}
def wNext : WS := fun D S => D.nx S
instance sv_next : SV K tNext wNext := ⟨fun ok hw c => c.nx _ _ _ _ ok hw⟩
def wBreak : WS := fun D S => D.bk S
def wContinue : WS := fun D S => D.ct S
instance sv_break : SV K tBreak wBreak := ⟨fun ok hw c => c.bk _ _ _ _ ok hw⟩
instance sv_cont : SV K tCont wContinue := ⟨fun ok hw c => c.ct _ _ _ _ ok hw⟩
def wNever : WS := fun _ _ => False
instance sv_never : SV K tNever wNever := ⟨fun _ hw _ => hw⟩
def wSeq (wa wb : WS) : WS := fun D S => wa { D with nx := fun S1 => wb D S1 } S
instance sv_seq {t u : TS} {wa wb : WS} [a : SV K t wa] [b : SV K u wb] : SV K (tSeq t u) (wSeq wa wb) := ⟨fun {p H0 F0 F H σ S D D'} ok hw c =>
  a.run (D := { D with nx := fun S1 => wb D S1 }) ok hw ⟨fun F1 H1 σ1 S1 ok1 q1 => b.run ok1 q1 c, c.rt, c.rf, c.bk, c.ct⟩⟩
def wAsg (we : WE) (wg : WG) : WS := fun D S => we S fun d S1 => wg d S1 fun S2 => D.nx S2
instance sv_asg {te : TE} {g : TG} {we : WE} {ix : List Nat} {wg : WG} [a : EV K te we] [b : GV K g ix wg] : SV K (tAsg te g) (wAsg we wg) := ⟨fun ok hw c =>
  a.run ok hw fun v F1 H1 S1 d ok1 e1 r1 q1 => b.run ok1 r1 q1 fun σ2 S2 ok2 _ _ q2 => c.nx _ _ _ _ ok2 q2⟩
/-- name = a new list, which becomes the name's own -/
def tOwn (te : TE) (i : Nat) : TS := tAsg te (gName i)
def wOwn (we : WF) (i : Nat) : WS := fun D S => we S fun ds S1 => D.nx ⟨S1.sl.set i (.ow ds), S1.n⟩
instance sv_own {te : TE} {i : Nat} {we : WF} [a : EF K te we] : SV K (tOwn te i) (wOwn we i) := ⟨fun ok hw c =>
  a.run ok hw fun b vs F1 H1 S1 ds ok1 e1 r1 q1 => c.nx _ _ _ _ (ok1.setOw r1) q1⟩
def wPar (i j : Nat) (wa : WF) : WS := fun D S => wa S fun ds S1 =>
  match ds with
  | [a, b] => D.nx ⟨(S1.sl.set i (.im a)).set j (.im b), S1.n⟩
  | _ => False
instance sv_par {i j : Nat} {ta : TA} {wa : WF} [a : AV K ta wa] : SV K (tPar i j ta) (wPar i j wa) := ⟨fun ok hw c =>
  a.run ok hw fun vs F1 H1 S1 ds ok1 e1 r1 q1 => by
    match ds, r1, q1 with
    | [x, y], .cons ra (.cons rb .nil), q1 => exact ⟨_, _, rfl, c.nx _ _ _ _ ((ok1.setIm ra).setIm rb) q1⟩⟩
def wIfS (wt : WT) (wa wb : WS) : WS := fun D S => wt S fun b S1 => if b = true then wa D S1 else wb D S1
instance sv_if {t : TT} {ta tb : TS} {wt : WT} {wa wb : WS} [c : TV K t wt] [a : SV K ta wa] [b : SV K tb wb] : SV K (tIfS t ta tb) (wIfS wt wa wb) := ⟨fun ok hw k =>
  c.run ok hw fun k1 F1 H1 S1 ok1 e1 q1 => by
    cases k1 with
    | true => exact a.run ok1 q1 k
    | false => exact b.run ok1 q1 k⟩
def wRet (we : WE) : WS := fun D S => we S fun d S1 => D.rt d S1.n
instance sv_ret {te : TE} {we : WE} [a : EV K te we] : SV K (tRet te) (wRet we) := ⟨fun ok hw c =>
  a.run ok hw fun v F1 H1 S1 d ok1 e1 r1 q1 => c.rt v F1 H1 d S1.n ok1.hp r1 q1⟩
/-- return of a new list, which is the caller's own then -/
def tRetF (te : TE) : TS := tRet te
def wRetF (we : WF) : WS := fun D S => we S fun ds S1 => D.rf ds S1.n
instance sv_retF {te : TE} {we : WF} [a : EF K te we] : SV K (tRetF te) (wRetF we) := ⟨fun ok hw c =>
  a.run ok hw fun b vs F1 H1 S1 ds ok1 e1 r1 q1 => c.rf b vs F1 H1 ds S1.n ok1.hp ok1.topT.1 ok1.topT.2.1 ok1.topT.2.2 r1 q1⟩
/-- .. of an own list at a name -/
def tRetO (i : Nat) : TS := tRet (tVar i)
def wRetO (i : Nat) : WS := fun D S =>
  match S.sl[i]? with
  | some (.ow ds) => D.rf ds S.n
  | _ => False
instance sv_retO {i : Nat} : SV K (tRetO i) (wRetO i) := ⟨fun {p H0 F0 F H σ S D D'} ok hw c => by
  unfold wRetO at hw
  split at hw
  · rename_i ds hd
    obtain ⟨a, vs, h1, h2, h3, h4, h5⟩ := ok.sl i _ hd
    exact ⟨_, h1, c.rf a vs F H ds S.n ok.hp h2 h3 h4 h5 hw⟩
  · exact hw.elim⟩
def wRetN : WS := fun D S => D.rt .non S.n
instance sv_retN : SV K tRetN wRetN := ⟨fun ok hw c => c.rt _ _ _ _ _ ok.hp .non hw⟩
def wDrop (we : WE) : WS := fun D S => we S fun _ S1 => D.nx S1
instance sv_drop {te : TE} {we : WE} [a : EV K te we] : SV K (tDrop te) (wDrop we) := ⟨fun ok hw c =>
  a.run ok hw fun v F1 H1 S1 d ok1 e1 r1 q1 => c.nx _ _ _ _ ok1 q1⟩
/-- name += e -/
def wAug (i : Nat) (f : OpD) (we : WE) : WS := fun D S =>
  match S.sl[i]? with
  | some (.im a) => we S fun b S1 => f a b fun d => D.nx ⟨S1.sl.set i (.im d), S1.n⟩
  | _ => False
instance sv_aug {i : Nat} {te : TE} {ti : TIp} {we : WE} {f : OpD} [a : EV K te we] [o : OV K ti f] : SV K (tAug i te ti) (wAug i f we) := ⟨fun ok hw c => by
  unfold wAug at hw
  split at hw
  · rename_i d hd
    obtain ⟨v, hv, r⟩ := ok.sl i _ hd
    exact ⟨v, hv, a.run ok hw fun y F1 H1 S1 e ok1 e1 r1 q1 => o.run ok1 (r.mono e1) r1 q1 fun z F2 H2 d2 ok2 e2 r2 q2 => c.nx _ _ _ _ (ok2.setIm r2) q2⟩
  · exact hw.elim⟩
/-- xs.append(e), xs a list of one's own -/
def tApp (K : PySem.W.Frag) (i : Nat) (te : TE) : TS := tDrop (tBM K "list" rAppend (tVar i) (tCons te tNil))
def wApp (i : Nat) (we : WE) : WS := fun D S =>
  match S.sl[i]? with
  | some (.ow _) => we S fun d S1 => match S1.sl[i]? with
    | some (.ow ds) => ds.length < 100000 ∧ D.nx ⟨S1.sl.set i (.ow (ds ++ [d])), S1.n⟩
    | _ => False
  | _ => False
instance sv_app {i : Nat} {te : TE} {we : WE} [a : EV K te we] : SV K (tApp K i te) (wApp i we) := ⟨fun {p H0 F0 F H σ S D D'} ok hw c => by
  unfold wApp at hw
  split at hw
  · rename_i ds0 hd
    obtain ⟨l, vs, h1, h2, h3, h4, h5⟩ := ok.sl i _ hd
    show tDrop (tBM K "list" rAppend (tVar i) (tCons te tNil)) D' σ H
    refine ⟨_, h1, .inl ⟨rfl, vs, sq_of h4⟩, a.run ok hw fun v F1 H1 S1 d ok1 e1 r1 q1 => ?_⟩
    split at q1
    · rename_i ds hd1
      obtain ⟨l', ws, g1, g2, g3, g4⟩ := ok1.updS hd1
      rw [h1] at g1
      cases g1
      exact ⟨l, ws, v, rfl, rfl, g2, sz_lt (by rw [g3.length]; exact q1.1), c.nx _ _ _ _ (g4 _ _ (g3.append (.one r1))) q1.2⟩
    · exact q1.elim
  · exact hw.elim⟩

/-! ### loops -/
def forW (wg : WG) (wb : WS) : List Dat → WS
  | [] => fun D S => D.nx S
  | d :: ds => fun D S => wg d S fun S2 => wb { D with nx := forW wg wb ds D, ct := forW wg wb ds D, bk := D.nx } S2
def wFor (wi : WF) (wg : WG) (wb : WS) : WS := fun D S => wi S fun ds S1 => forW wg wb ds D S1
theorem ItOk.mono {p : Option Addr} {F F' : Hp} {J : It} {ds : List Dat} (h : ItOk K p F J ds) (e : Ex F F') : ItOk K p F' J ds := fun F2 H2 e1 e2 => h F2 H2 (e.trans e1) e2
/-- the item has come -/
theorem Ok.yield {p : Option Addr} {H0 F0 F H H' : Hp} {σ : L2.St} {S : Sx} {T : List (Addr × List V)} {x : V} {d : Dat} (ok : Ok K p H0 F0 F H σ S T) (y : Yields K p F H H' x d) : ∃ F', Ok K p H0 F0 F' H' σ S T ∧ Ex F F' ∧ Rep K p F' x d := by
  rcases y with ⟨rfl, r⟩ | ⟨a, vs, ds, ha, rfl, rfl, rfl, r⟩
  · exact ⟨F, ok, Ex.refl F, r⟩
  · have e := Ex.new (o := HO.tup vs) (ok.hp.freeF ha)
    exact ⟨_, ok.lay ha, e, .tup (.inl (.inl upd_same)) (r.mono e)⟩
instance sv_for {wi : TI} {g : TG} {tb : TS} {ww : WF} {ix : List Nat} {wg : WG} {wb : WS} [a : IV K wi ww] [b : GV K g ix wg] [s : SV K tb wb] : SV K (tFor wi g tb) (wFor ww wg wb) := ⟨fun {p H0 F0 F H σ S D D'} ok hw c => by
  refine a.run ok hw fun J F1 H1 S1 ds ok1 e1 it q1 => ?_
  refine ⟨fun i m σ2 H2 => m = ds.length - i ∧ i ≤ ds.length ∧ ∃ F2 S2, Ok K p H0 F0 F2 H2 σ2 S2 [] ∧ Ex F1 F2 ∧ forW wg wb (ds.drop i) D S2,
    ⟨ds.length, by simp, Nat.zero_le _, F1, S1, ok1, Ex.refl _, q1⟩, ?_⟩
  rintro i m σ2 H2 ⟨rfl, hi, F2, S2, ok2, e2, q2⟩
  obtain ⟨i1, i2⟩ := it F2 H2 e2 ok2.hp.fh
  by_cases hlt : i < ds.length
  · have hd : ds[i]? = some ds[i] := List.getElem?_eq_getElem hlt
    rw [List.drop_eq_getElem_cons hlt] at q2
    obtain ⟨go, yl⟩ := i1 i _ hd
    refine .inr ⟨go, fun σ3 H3 => ∃ F3 S3, Ok K p H0 F0 F3 H3 σ3 S3 [] ∧ Ex F1 F3 ∧ forW wg wb (ds.drop (i + 1)) D S3, ?_, ?_⟩
    · rintro σ3 H3 ⟨F3, S3, ok3, e3, q3⟩
      exact ⟨ds.length - (i + 1), by omega, rfl, hlt, F3, S3, ok3, e3, q3⟩
    · intro x H3 hy
      obtain ⟨F3, ok3, e3, r3⟩ := ok2.yield (yl x H3 hy)
      refine b.run ok3 r3 q2 fun σ4 S4 ok4 _ _ q4 => ?_
      -- F grows along the body; what is wanted of it is told by Ok alone but for Ex F1
      have bodyC : Cont K p H0 F3 { D with nx := forW wg wb (ds.drop (i + 1)) D, ct := forW wg wb (ds.drop (i + 1)) D, bk := D.nx }
          { D' with nx := fun σ3 H3 => ∃ F3 S3, Ok K p H0 F0 F3 H3 σ3 S3 [] ∧ Ex F1 F3 ∧ forW wg wb (ds.drop (i + 1)) D S3,
                    ct := fun σ3 H3 => ∃ F3 S3, Ok K p H0 F0 F3 H3 σ3 S3 [] ∧ Ex F1 F3 ∧ forW wg wb (ds.drop (i + 1)) D S3, bk := D'.nx } := by
        have toF0 : ∀ {F5 H5 σ5 S5}, Ok K p H0 F3 F5 H5 σ5 S5 [] → Ok K p H0 F0 F5 H5 σ5 S5 [] := fun {F5 H5 σ5 S5} k5 =>
          ⟨⟨k5.hp.e0, ok3.hp.f0.trans k5.hp.f0, fun b o q => (k5.hp.fr b o q).elim (fun z => ok3.hp.fr b o z) .inr, k5.hp.fh, k5.hp.pt⟩, k5.len, k5.sl, k5.own, k5.tm, k5.ot, k5.td⟩
        refine ⟨fun F5 H5 σ5 S5 k5 q5 => ⟨F5, S5, toF0 k5, (e2.trans e3).trans k5.hp.f0, q5⟩, fun v F5 H5 d5 n5 k5 r5 q5 => ?_, fun b us F5 H5 d5 n5 k5 g0 g1 g2 r5 q5 => ?_, fun F5 H5 σ5 S5 k5 q5 => c.nx _ _ _ _ (toF0 k5) q5, fun F5 H5 σ5 S5 k5 q5 => ⟨F5, S5, toF0 k5, (e2.trans e3).trans k5.hp.f0, q5⟩⟩
        · exact c.rt v F5 H5 d5 n5 ⟨k5.e0, ok3.hp.f0.trans k5.f0, fun b o q => (k5.fr b o q).elim (fun z => ok3.hp.fr b o z) .inr, k5.fh, k5.pt⟩ r5 q5
        · exact c.rf b us F5 H5 d5 n5 ⟨k5.e0, ok3.hp.f0.trans k5.f0, fun b o q => (k5.fr b o q).elim (fun z => ok3.hp.fr b o z) .inr, k5.fh, k5.pt⟩ g0 g1 g2 r5 q5
      exact s.run (F0 := F3) ⟨⟨ok4.hp.e0, Ex.refl _, fun b o q => .inl q, ok4.hp.fh, ok4.hp.pt⟩, ok4.len, ok4.sl, ok4.own, ok4.tm, ok4.ot, ok4.td⟩ q4 bodyC
  · have e : i = ds.length := by omega
    subst e
    rw [List.drop_length] at q2
    exact .inl ⟨i2 _ (Nat.le_refl _), c.nx _ _ _ _ ok2 q2⟩⟩
def whileW (wt : WT) (wb : WS) : Nat → WS
  | 0 => fun _ _ => False
  | k + 1 => fun D S => wt S fun b S1 => if b = true then wb { D with nx := whileW wt wb k D, ct := whileW wt wb k D, bk := D.nx } S1 else D.nx S1
def wWhile (wt : WT) (wb : WS) : WS := fun D S => ∃ k, whileW wt wb k D S
instance sv_while {t : TT} {tb : TS} {wt : WT} {wb : WS} [a : TV K t wt] [s : SV K tb wb] : SV K (tWhile t tb) (wWhile wt wb) := ⟨fun {p H0 F0 F H σ S D D'} ok hw c => by
  obtain ⟨k, hk⟩ := hw
  refine ⟨fun m σ2 H2 => ∃ F2 S2, Ok K p H0 F0 F2 H2 σ2 S2 [] ∧ whileW wt wb m D S2, ⟨k, F, S, ok, hk⟩, ?_⟩
  rintro m σ2 H2 ⟨F2, S2, ok2, q2⟩
  cases m with
  | zero => exact q2.elim
  | succ m =>
    refine a.run ok2 q2 fun b F3 H3 S3 ok3 e3 q3 => ?_
    cases b with
    | false => exact c.nx _ _ _ _ ok3 q3
    | true =>
      refine ⟨fun σ4 H4 => ∃ F4 S4, Ok K p H0 F0 F4 H4 σ4 S4 [] ∧ whileW wt wb m D S4, fun σ4 H4 h4 => ⟨m, Nat.lt_succ_self m, h4⟩, ?_⟩
      exact s.run ok3 q3 ⟨fun F5 H5 σ5 S5 k5 q5 => ⟨F5, S5, k5, q5⟩, c.rt, c.rf, fun F5 H5 σ5 S5 k5 q5 => c.nx _ _ _ _ k5 q5, fun F5 H5 σ5 S5 k5 q5 => ⟨F5, S5, k5, q5⟩⟩⟩

/-! ### what is walked -/
def itemsD (d : Dat) (Q : List Dat → Prop) : Prop :=
  match d with
  | .tup ds => Q ds
  | .lst ds => Q ds
  | _ => False
def wTupIt (we : WE) : WF := fun S Q => we S fun d S1 => match d with
  | .tup ds => Q ds S1
  | _ => False
def wListIt (we : WE) : WF := fun S Q => we S fun d S1 => match d with
  | .lst ds => Q ds S1
  | _ => False
def signsD (z : List Nat) : List Dat := z.map fun c => .str [c]
def wStrIt (we : WE) : WF := fun S Q => we S fun d S1 => match d with
  | .str z => Q (signsD z) S1
  | _ => False
instance iv_tup {te : TE} {we : WE} [a : EV K te we] : IV K (iTup K te) (wTupIt we) := ⟨fun {p H0 F0 F H σ S T Q R} ok hw k =>
  a.run ok hw fun v F1 H1 S1 d ok1 e1 r1 q1 => by
    cases d with
    | tup ds =>
      cases r1 with
      | @tup a vs _ h1 h2 =>
        refine ⟨a, rfl, ⟨vs, ex_t ok1.hp.fh h1⟩, k _ F1 H1 S1 ds ok1 e1 (fun F' H' e e' => ⟨fun i d hd => ?_, fun i hi => ⟨vs, ex_t e' (ex_t e h1), by rw [h2.length]; exact hi⟩⟩) q1⟩
        obtain ⟨v, hv, rv⟩ := h2.getD hd
        exact ⟨⟨vs, v, ex_t e' (ex_t e h1), hv⟩, fun x H'' hy => .inl ⟨hy.1, by
          have q := hy.2 vs (ex_t e' (ex_t e h1))
          rw [hv] at q
          cases q
          exact rv.mono e⟩⟩
    | _ => exact q1.elim⟩
instance iv_list {te : TE} {we : WE} [a : EV K te we] : IV K (iList K te) (wListIt we) := ⟨fun {p H0 F0 F H σ S T Q R} ok hw k =>
  a.run ok hw fun v F1 H1 S1 d ok1 e1 r1 q1 => by
    cases d with
    | lst ds =>
      cases r1 with
      | @lst a vs _ h0 h2 =>
        have h1 : SqL K F1 a vs := .of h0
        refine ⟨a, rfl, ⟨vs, ex_l ok1.hp.fh h1⟩, k _ F1 H1 S1 ds ok1 e1 (fun F' H' e e' => ⟨fun i d hd => ?_, fun i hi => ⟨vs, ex_l e' (ex_l e h1), by rw [h2.length]; exact hi⟩⟩) q1⟩
        obtain ⟨v, hv, rv⟩ := h2.getD hd
        exact ⟨⟨vs, v, ex_l e' (ex_l e h1), hv⟩, fun x H'' hy => .inl ⟨hy.1, by
          have q := hy.2 vs (ex_l e' (ex_l e h1))
          rw [hv] at q
          cases q
          exact rv.mono e⟩⟩
    | _ => exact q1.elim⟩
instance iv_str {te : TE} {we : WE} [a : EV K te we] : IV K (iStr te) (wStrIt we) := ⟨fun {p H0 F0 F H σ S T Q R} ok hw k =>
  a.run ok hw fun v F1 H1 S1 d ok1 e1 r1 q1 => by
    cases d with
    | str z =>
      refine ⟨⟨z.toArray⟩, r1.str_of, k _ F1 H1 S1 (signsD z) ok1 e1 (fun F' H' e e' => ⟨fun i d hd => ?_, fun i hi => ?_⟩) q1⟩
      · unfold signsD at hd
        rw [List.getElem?_map] at hd
        obtain ⟨c, hc, rfl⟩ := Option.map_eq_some_iff.mp hd
        have hc' : z.toArray[i]? = some c := by simpa using hc
        refine ⟨(Array.getElem?_eq_some_iff.mp hc').1, fun x H'' hy => ?_⟩
        obtain ⟨h1, c2, h2, h3⟩ := hy
        rw [hc'] at h2
        cases h2
        exact .inl ⟨h1, by rw [h3]; exact .strL _⟩
      · show z.toArray.size ≤ i
        unfold signsD at hi
        simpa using hi
    | _ => exact q1.elim⟩
def intsD (lo : Int) (n : Nat) : List Dat := (List.range n).map fun (i : Nat) => Dat.int (lo + (i : Int))
def as1 (ds : List Dat) (Q : Dat → Prop) : Prop :=
  match ds with
  | [a] => Q a
  | _ => False
def as2 (ds : List Dat) (Q : Dat → Dat → Prop) : Prop :=
  match ds with
  | [a, b] => Q a b
  | _ => False
theorem as1_of {ds : List Dat} {Q : Dat → Prop} (h : as1 ds Q) : ∃ a, ds = [a] ∧ Q a := by
  cases ds with
  | nil => exact h.elim
  | cons a r =>
    cases r with
    | nil => exact ⟨a, rfl, h⟩
    | cons b r => exact False.elim h
theorem as2_of {ds : List Dat} {Q : Dat → Dat → Prop} (h : as2 ds Q) : ∃ a b, ds = [a, b] ∧ Q a b := by
  cases ds with
  | nil => exact h.elim
  | cons a r =>
    cases r with
    | nil => exact False.elim h
    | cons b r =>
      cases r with
      | nil => exact ⟨a, b, rfl, h⟩
      | cons c r => exact False.elim h
theorem Reps.one_of {p : Option Addr} {F : Hp} {vs : List V} {d : Dat} (r : Reps K p F vs [d]) : ∃ v, vs = [v] ∧ Rep K p F v d := by
  cases r with
  | cons r s => cases s; exact ⟨_, rfl, r⟩
theorem Reps.two_of {p : Option Addr} {F : Hp} {vs : List V} {d e : Dat} (r : Reps K p F vs [d, e]) : ∃ v u, vs = [v, u] ∧ Rep K p F v d ∧ Rep K p F u e := by
  cases r with
  | cons r s =>
    obtain ⟨u, rfl, q⟩ := s.one_of
    exact ⟨_, u, rfl, r, q⟩
def wRng1 (wa : WF) : WF := fun S Q => wa S fun ds S1 => as1 ds fun d => asI d fun j => j < 4611686018427387904 ∧ -4611686018427387904 ≤ j ∧ Q (intsD 0 j.toNat) S1
theorem itr_ok {p : Option Addr} {F : Hp} {lo : Int} {n : Nat} : ItOk K p F (Itr lo n) (intsD lo n) := fun F' H' e e' => by
  refine ⟨fun i d hd => ?_, fun i hi => ?_⟩
  · unfold intsD at hd
    rw [List.getElem?_map] at hd
    obtain ⟨c, hc, rfl⟩ := Option.map_eq_some_iff.mp hd
    obtain ⟨h1, h2⟩ := List.getElem?_eq_some_iff.mp hc
    rw [List.length_range] at h1
    rw [List.getElem_range] at h2
    subst h2
    exact ⟨h1, fun x H'' hy => .inl ⟨hy.1, by rw [hy.2]; exact .int _⟩⟩
  · show n ≤ i
    unfold intsD at hi
    simpa using hi
instance iv_rng1 {ta : TA} {wa : WF} [a : AV K ta wa] : IV K (iRng1 ta) (wRng1 wa) := ⟨fun {p H0 F0 F H σ S T Q R} ok hw k =>
  a.run ok hw fun vs F1 H1 S1 ds ok1 e1 r1 q1 => by
    obtain ⟨d, rfl, q1⟩ := as1_of q1
    obtain ⟨j, rfl, q1⟩ := asI_of q1
    obtain ⟨v, rfl, r⟩ := r1.one_of
    cases r
    exact ⟨j, rfl, by omega, by omega, k _ F1 H1 S1 _ ok1 e1 itr_ok q1.2.2⟩⟩
def wRng2 (wa : WF) : WF := fun S Q => wa S fun ds S1 => as2 ds fun d e => asI d fun i => asI e fun j => (j < 4611686018427387904 ∧ -4611686018427387904 ≤ j ∧ i < 4611686018427387904 ∧ -4611686018427387904 ≤ i) ∧ Q (intsD i (j - i).toNat) S1
instance iv_rng2 {ta : TA} {wa : WF} [a : AV K ta wa] : IV K (iRng2 ta) (wRng2 wa) := ⟨fun {p H0 F0 F H σ S T Q R} ok hw k =>
  a.run ok hw fun vs F1 H1 S1 ds ok1 e1 r1 q1 => by
    obtain ⟨d, e, rfl, q1⟩ := as2_of q1
    obtain ⟨i, rfl, q1⟩ := asI_of q1
    obtain ⟨j, rfl, q1⟩ := asI_of q1
    obtain ⟨v, u, rfl, r, r'⟩ := r1.two_of
    cases r
    cases r'
    exact ⟨i, j, rfl, ⟨by omega, by omega, by omega, by omega⟩, k _ F1 H1 S1 _ ok1 e1 itr_ok q1.2⟩⟩
end
end Dl
-- part Dp
set_option Elab.async false
set_option linter.all false
set_option maxRecDepth 100000
set_option maxHeartbeats 4000000
namespace Dl
open PySem PySem.Spec PyProof.Rows L2 Evl

/-! ### list comprehensions -/
class MemN (i : Nat) (l : List Nat) : Prop where
  mem : i ∈ l
instance {i : Nat} {l : List Nat} : MemN i (i :: l) := ⟨List.mem_cons_self⟩
instance (priority := low) {i j : Nat} {l : List Nat} [m : MemN i l] : MemN i (j :: l) := ⟨List.mem_cons_of_mem _ m.mem⟩
class SubN (a b : List Nat) : Prop where
  sub : ∀ i ∈ a, i ∈ b
instance {b : List Nat} : SubN [] b := ⟨fun _ h => nomatch h⟩
instance {i : Nat} {a b : List Nat} [m : MemN i b] [s : SubN a b] : SubN (i :: a) b := ⟨fun j h => by
  rcases List.mem_cons.mp h with h | h
  · exact h ▸ m.mem
  · exact s.sub j h⟩
def wipeL (sl : List Sl) : List Nat → List Sl
  | [] => sl
  | v :: vs => (wipeL sl vs).set v .un
def keepIm : Option Sl → Sl
  | some (.im d) => .im d
  | _ => .un
def restL (orig sl : List Sl) : List Nat → List Sl
  | [] => sl
  | v :: vs => (restL orig sl vs).set v (keepIm orig[v]?)
theorem wipeL_length (sl : List Sl) : ∀ vs : List Nat, (wipeL sl vs).length = sl.length
  | [] => rfl
  | v :: vs => by unfold wipeL; rw [List.length_set, wipeL_length sl vs]
theorem restL_length (o sl : List Sl) : ∀ vs : List Nat, (restL o sl vs).length = sl.length
  | [] => rfl
  | v :: vs => by unfold restL; rw [List.length_set, restL_length o sl vs]
theorem wipeL_get {sl : List Sl} {i : Nat} {s : Sl} : ∀ {vs : List Nat}, (wipeL sl vs)[i]? = some s → s = .un ∨ (i ∉ vs ∧ sl[i]? = some s)
  | [], h => .inr ⟨by simp, h⟩
  | v :: vs, h => by
    unfold wipeL at h
    by_cases hv : v = i
    · subst hv
      by_cases hl : v < (wipeL sl vs).length
      · rw [List.getElem?_set_self hl] at h
        exact .inl (Option.some.inj h).symm
      · rw [List.getElem?_eq_none (by rw [List.length_set]; omega)] at h
        cases h
    · rw [List.getElem?_set_ne hv] at h
      rcases wipeL_get h with h | ⟨h1, h2⟩
      · exact .inl h
      · exact .inr ⟨by simp only [List.mem_cons, not_or]; exact ⟨fun e => hv e.symm, h1⟩, h2⟩
theorem restL_get {o sl : List Sl} {i : Nat} {s : Sl} : ∀ {vs : List Nat}, (restL o sl vs)[i]? = some s → s = .un ∨ (∃ d, s = .im d ∧ o[i]? = some (.im d)) ∨ (i ∉ vs ∧ sl[i]? = some s)
  | [], h => .inr (.inr ⟨by simp, h⟩)
  | v :: vs, h => by
    unfold restL at h
    by_cases hv : v = i
    · subst hv
      by_cases hl : v < (restL o sl vs).length
      · rw [List.getElem?_set_self hl] at h
        have e : keepIm o[v]? = s := Option.some.inj h
        cases ho : o[v]? with
        | none => rw [ho] at e; exact .inl e.symm
        | some z =>
          cases z with
          | im d => rw [ho] at e; exact .inr (.inl ⟨d, e.symm, rfl⟩)
          | un => rw [ho] at e; exact .inl e.symm
          | ow d => rw [ho] at e; exact .inl e.symm
      · rw [List.getElem?_eq_none (by rw [List.length_set]; omega)] at h
        cases h
    · rw [List.getElem?_set_ne hv] at h
      rcases restL_get h with h | h | ⟨h1, h2⟩
      · exact .inl h
      · exact .inr (.inl h)
      · exact .inr (.inr ⟨by simp only [List.mem_cons, not_or]; exact ⟨fun e => hv e.symm, h1⟩, h2⟩)
theorem wipe_get {σ : L2.St} {i : Nat} : ∀ {vs : List Nat}, i ∉ vs → (wipe σ vs)[i]? = σ[i]?
  | [], _ => rfl
  | v :: vs, h => by
    unfold wipe
    have hv : v ≠ i := fun e => h (by simp [e])
    rw [List.getElem?_set_ne hv]
    exact wipe_get fun z => h (List.mem_cons_of_mem _ z)
theorem wipe_mem {σ : L2.St} {i : Nat} : ∀ {vs : List Nat}, i ∈ vs → i < σ.length → (wipe σ vs)[i]? = some none
  | [], h, _ => nomatch h
  | v :: vs, h, hl => by
    unfold wipe
    by_cases hv : v = i
    · subst hv
      rw [List.getElem?_set_self (by rw [wipe_length]; exact hl)]
    · rw [List.getElem?_set_ne hv]
      rcases List.mem_cons.mp h with e | h
      · exact absurd e.symm hv
      · exact wipe_mem h hl
theorem wipe_same {σ σ' : L2.St} {vs : List Nat} (h : ∀ i : Nat, i ∉ vs → σ'[i]? = (wipe σ vs)[i]?) (hl : σ'.length = (wipe σ vs).length) : wipe σ' vs = wipe σ vs := by
  refine List.ext_getElem? fun i => ?_
  have hl2 : σ'.length = σ.length := by rw [hl, wipe_length]
  by_cases hi : i ∈ vs
  · by_cases hlt : i < σ.length
    · rw [wipe_mem hi (by omega), wipe_mem hi hlt]
    · rw [List.getElem?_eq_none (by rw [wipe_length]; omega), List.getElem?_eq_none (by rw [wipe_length]; omega)]
  · rw [wipe_get hi, h i hi]
section
variable {K : PySem.W.Frag} {p : Option Addr} {H0 F0 F H : Hp} {σ : L2.St} {S : Sx} {T : List (Addr × List V)}
theorem Ok.wiped (h : Ok K p H0 F0 F H σ S T) (vs : List Nat) : Ok K p H0 F0 F H (wipe σ vs) ⟨wipeL S.sl vs, S.n⟩ T :=
  h.forget (by rw [wipe_length, wipeL_length]; exact h.len) fun i s q => by
    rcases wipeL_get q with e | ⟨e1, e2⟩
    · exact .inl e
    · exact .inr (.inr ⟨e2, wipe_get e1⟩)
theorem Ok.rested (h : Ok K p H0 F0 F H (wipe σ vs) S T) {o : List Sl} (ho : ∀ (i : Nat) (d : Dat), o[i]? = some (.im d) → SlOk K p H0 F H (.im d) (σ[i]?)) : Ok K p H0 F0 F H σ ⟨restL o S.sl vs, S.n⟩ T :=
  h.forget (by rw [restL_length, ← h.len, wipe_length]) fun i s q => by
    rcases restL_get q with e | ⟨d, e1, e2⟩ | ⟨e1, e2⟩
    · exact .inl e
    · exact .inr (.inl ⟨d, e1, by rw [e1]; exact ho i d e2⟩)
    · exact .inr (.inr ⟨e2, (wipe_get e1).symm⟩)
def lcW (vs : List Nat) (wg : WG) (wt : WT) (we : WE) : List Dat → List Dat → WF
  | [], acc => fun S Q => Q acc S
  | d :: ds, acc => fun S Q => wg d S fun S1 => wt S1 fun b S2 =>
    if b = true then we S2 fun x S3 => acc.length < 100000 ∧ lcW vs wg wt we ds (acc ++ [x]) ⟨wipeL S3.sl vs, S3.n⟩ Q
    else lcW vs wg wt we ds acc ⟨wipeL S2.sl vs, S2.n⟩ Q
def wLc (wi : WF) (vs : List Nat) (wg : WG) (wt : WT) (we : WE) : WF := fun S Q => wi S fun ds S1 => lcW vs wg wt we ds [] ⟨wipeL S1.sl vs, S1.n⟩ fun acc S2 => Q acc ⟨restL S1.sl S2.sl vs, S2.n⟩
instance ef_lc {wi : TI} {g : TG} {tt : TT} {te : TE} {vs ix : List Nat} {ww : WF} {wg : WG} {wt : WT} {we : WE} [a : IV K wi ww] [b : GV K g ix wg] [u : SubN ix vs] [c : TV K tt wt] [e : EV K te we] : EF K (tLc wi g tt te vs) (wLc ww vs wg wt we) := ⟨fun {p H0 F0 F H σ S T Q Q'} ok hw k => by
  refine a.run ok hw fun J F1 H1 S1 ds ok1 e1 it q1 => ?_
  intro D hD
  have okW := ok1.wiped vs
  refine ⟨fun i m H2 => m = ds.length - i ∧ i ≤ ds.length ∧ ∃ F2 S2 acc us, Ok K p H0 F0 F2 H2 (wipe σ vs) S2 ((D, us) :: T) ∧ Ex F1 F2 ∧ Reps K p F2 us acc ∧
      lcW vs wg wt we (ds.drop i) acc S2 fun acc S2 => Q acc ⟨restL S1.sl S2.sl vs, S2.n⟩,
    ⟨ds.length, by simp, Nat.zero_le _, F1, _, [], [], okW.layT hD, Ex.refl _, .nil, q1⟩, ?_⟩
  rintro i m H2 ⟨rfl, hi, F2, S2, acc, us, ok2, e2, r2, q2⟩
  obtain ⟨i1, i2⟩ := it F2 H2 e2 ok2.hp.fh
  by_cases hlt : i < ds.length
  · have hd : ds[i]? = some ds[i] := List.getElem?_eq_getElem hlt
    rw [List.drop_eq_getElem_cons hlt] at q2
    obtain ⟨go, yl⟩ := i1 i _ hd
    refine .inr ⟨go, fun H3 => ∃ F3 S3 acc us, Ok K p H0 F0 F3 H3 (wipe σ vs) S3 ((D, us) :: T) ∧ Ex F1 F3 ∧ Reps K p F3 us acc ∧
      lcW vs wg wt we (ds.drop (i + 1)) acc S3 fun acc S2 => Q acc ⟨restL S1.sl S2.sl vs, S2.n⟩, ?_, ?_⟩
    · rintro H3 ⟨F3, S3, acc3, us3, h3⟩
      exact ⟨ds.length - (i + 1), by omega, rfl, hlt, F3, S3, acc3, us3, h3⟩
    · intro x H3 hy
      obtain ⟨F3, ok3, e3, r3⟩ := ok2.yield (yl x H3 hy)
      refine b.run ok3 r3 q2 fun σ4 S4 ok4 h4 l4 q4 => ?_
      have hws : wipe σ4 vs = wipe σ vs := wipe_same (fun j hj => h4 j fun z => hj (u.sub j z)) l4
      refine ⟨hws, c.run ok4 q4 fun bb F5 H5 S5 ok5 e5 q5 => ?_⟩
      cases bb with
      | false =>
        show ∃ F3 S3 acc us, _
        have ok6 := ok5.wiped vs
        rw [hws] at ok6
        exact ⟨F5, _, acc, us, ok6, (e2.trans e3).trans e5, r2.mono (e3.trans e5), q5⟩
      | true =>
        refine e.run ok5 q5 fun y F6 H6 S6 dy ok6 e6 r6 q6 => ?_
        obtain ⟨t1, t2, t3⟩ := ok6.topT
        have r26 := r2.mono ((e3.trans e5).trans e6)
        refine ⟨us, t3, sz_lt (by rw [r26.length]; exact q6.1), ?_⟩
        have ok7 := (ok6.updT (us ++ [y])).wiped vs
        rw [hws] at ok7
        exact ⟨F6, _, acc ++ [dy], us ++ [y], ok7, ((e2.trans e3).trans e5).trans e6, r26.append (.one r6), q6.2⟩
  · have hii : i = ds.length := by omega
    subst hii
    rw [List.drop_length] at q2
    refine .inl ⟨i2 _ (Nat.le_refl _), ?_⟩
    have ok3 : Ok K p H0 F0 F2 H2 σ ⟨restL S1.sl S2.sl vs, S2.n⟩ ((D, us) :: T) := ok2.rested fun j d hj => by
      obtain ⟨v, h1, h2⟩ := ok1.sl j _ hj
      exact ⟨v, h1, h2.mono e2⟩
    exact k D us F2 H2 _ acc ok3 (e1.trans e2) r2 q2⟩
end
end Dl
-- part Dq
set_option Elab.async false
set_option linter.all false
set_option maxRecDepth 100000
set_option maxHeartbeats 4000000
namespace Dl
open PySem PySem.Spec PyProof.Rows L2 Evl

/-! ### rules that the layer lacks -/
section
variable {X : Cx}
theorem foldl_app (x : Array Nat) : ∀ (k : Nat) (acc : List Nat), (List.replicate k x).foldl (· ++ ·) acc.toArray = (acc ++ (List.replicate k x.toList).flatten).toArray
  | 0, acc => by simp
  | k + 1, acc => by
    rw [List.replicate_succ, List.foldl_cons, List.replicate_succ, List.flatten_cons]
    have e : acc.toArray ++ x = (acc ++ x.toList).toArray := by apply Array.ext'; simp
    rw [e, foldl_app x k (acc ++ x.toList), List.append_assoc]
theorem flat_len (l : List Nat) : ∀ k : Nat, ((List.replicate k l).flatten).length = l.length * k
  | 0 => by simp
  | k + 1 => by rw [List.replicate_succ, List.flatten_cons, List.length_append, flat_len l k, Nat.mul_succ, Nat.add_comm]
/-- text * int -/
def rMulS : R2 := fun x y H Q => ∃ (z : Str) (i : Int), x = .str z ∧ y = .int i ∧ -4611686018427387904 ≤ i ∧ i ≤ 1000000 ∧ z.cps.toList.length * i.toNat ≤ 1000000 ∧ Q (.str ⟨((List.replicate i.toNat z.cps.toList).flatten).toArray⟩) H
theorem op_mulS : OpR X (binaryOp .Mult) rMulS := by
  intro pins s σ H x y v u Q I rx ry h
  obtain ⟨z, i, rfl, rfl, h0, h1, h2, q⟩ := h
  obtain ⟨t, rfl⟩ := rx
  obtain ⟨t', rfl⟩ := ry
  have hl : z.length = z.cps.toList.length := by simp [Str.length]
  have hs : sizeLine = 16777216 := sizeLine_eq
  refine PySem.P.mul_str ?_ (fun g1 g2 => ?_) (fun g1 g2 => ?_) ?_
  · have e1 : decide (i < -(2 ^ 63 : Int)) = false := decide_eq_false (by omega)
    have e2 : decide (i ≥ 2 ^ 63) = false := decide_eq_false (by omega)
    rw [e1, e2]; rfl
  · intro hgt
    have hi : 1 ≤ i := by omega
    have hz : (z.length : Int) ≤ 1000000 := by
      have : z.cps.toList.length * 1 ≤ z.cps.toList.length * i.toNat := Nat.mul_le_mul_left _ (by omega)
      omega
    have : (1000000 : Int) ≤ (2 ^ 63 - 1) / i := by
      rw [Int.le_ediv_iff_mul_le (by omega)]
      omega
    omega
  · unfold Builtin.Str.tooLong
    exact decide_eq_false (by rw [hl]; omega)
  · split
    · rename_i hn
      have e : i.toNat = 0 := by omega
      rw [e] at q
      exact ⟨by show (0 : Nat) ≤ _; exact Nat.zero_le _, ⟨.str Str.empty, H, I.tok _, ⟨_, rfl⟩, q⟩⟩
    · split
      · rename_i hn hc
        have e : (List.replicate i.toNat z.cps.toList).flatten = z.cps.toList := by
          rcases Bool.or_eq_true_iff.mp hc with hc | hc
          · have : i = 1 := by simpa using hc
            subst this
            simp
          · have e0 : z.cps.toList = [] := by
              have : z.length = 0 := by simpa using hc
              rw [hl] at this
              exact List.length_eq_zero_iff.mp this
            rw [e0]; simp
        rw [e] at q
        exact ⟨.str z, H, I, ⟨t, rfl⟩, q⟩
      · have e : (List.replicate i.toNat z.cps).foldl (fun x1 x2 => x1 ++ x2) #[] = ((List.replicate i.toNat z.cps.toList).flatten).toArray := by
          have := foldl_app z.cps i.toNat []
          simpa using this
        rw [e]
        refine ⟨?_, ⟨.str _, H, I.tok _, ⟨_, rfl⟩, q⟩⟩
        show ((List.replicate i.toNat z.cps.toList).flatten).toArray.size ≤ _
        rw [List.size_toArray, flat_len]
        omega
/-- int ** int of any size, within the line -/
def CPowW (i j : Int) : Prop := 2 ≤ i ∧ 1 ≤ j ∧ Builtin.Int.intTooBig (((Builtin.Int.intBits i : Nat) : Int) * j) = false
theorem op_powW : OpR X (binaryOp .Pow) (rI CPowW fun i j => .int (i ^ j.toNat)) := by
  intro pins s σ H x y v u Q I rx ry h
  obtain ⟨i, j, rfl, rfl, ⟨h1, h2, h3⟩, q⟩ := h
  obtain ⟨t, rfl⟩ := rx
  obtain ⟨t', rfl⟩ := ry
  have n0 : ¬ (i = 0) := by omega
  have n1 : ¬ (i = 1) := by omega
  refine PySem.AutoIntOps.pow_4 (by omega) (by simp; omega) (by simp [n0, n1]) (by simp; omega) (by rw [h3]; exact Bool.false_ne_true) ?_
  exact ⟨.int (i ^ j.toNat), H, I.tok _, ⟨_, rfl⟩, q⟩
/-- list(text) -/
def rListS : List V → Hp → VK → Prop := fun xs H Q => ∃ z : Str, xs = [.str z] ∧ z.length ≤ sizeLine ∧ ∀ l, H l = none → Q (.ref l) (upd H l (.lst (z.cps.toList.map fun c => V.str ⟨#[c]⟩)))
theorem vals_signs {z : Str} {acc : Array Value} (h : ItemsOf (SignAt z) acc z.cps.size) : Vals (z.cps.toList.map fun c => V.str ⟨#[c]⟩) acc.toList := by
  refine vals_of_at (by simp [h.1]) fun j x u hx hu => ?_
  obtain ⟨c, t, hc, e⟩ := h.2 j u (by simpa using hu)
  subst e
  rw [List.getElem?_map] at hx
  have hc' : z.cps.toList[j]? = some c := by simpa using hc
  rw [hc'] at hx
  cases hx
  exact ⟨t, rfl⟩
theorem call_listS (hc : X.calm = true) : CallR X (.type "list") rListS := by
  intro pins s σ H xs us Q I r h
  obtain ⟨z, rfl, hz, q⟩ := h
  obtain ⟨u, rfl, t, rfl⟩ := vals1 r
  refine call_list_str (hn := hz) (I.ok.hd hc) z t fun h' tk acc c hk hS hacc => ?_
  refine ⟨.ref s.heap.objs.size, upd H s.heap.objs.size (.lst (z.cps.toList.map fun c => V.str ⟨#[c]⟩)), I.laid hk (Nat.le_refl _) ⟨?_, acc.toList, c, vals_signs hacc, by rw [Array.toArray_toList]; exact hS⟩, rfl, q _ (I.hok.fresh (Nat.le_refl _))⟩
  rw [List.length_map]
  simpa [Str.length] using hz
variable {CX : CXT} {k : Nat} {f C : Addr} {fd : FuncData} {ps ks : List Str} {sp : Sp} {E : XK} {x m : Str} {p pos apos kpos : Pos} {kws : List Keyword} {tk : TA} {g : List Value → List Value → List Value} {gV : List V → List V → List V}
theorem pe_callK0 (F : FnOk X.prog X.w X.K X.mg X.base CX k f fd ps sp) (hr : Room k X.A) (hg : Gl X x) (hm : X.mg x = some (.ref f)) (hk : PySem.W.keepIn X.K (.ref f) = true) (hb : KBinds X.K fd ps ks g gV) (hx : Passes CX X E)
    (hkw : PK X kws tk) (hall : (backToKw pos (keywordEach kws X.env)).all (·.1.isSome) = true := by rfl) (hks : (backToKw pos (keywordEach kws X.env)).filterMap (·.1) = ks := by rfl)
    (hdb : (x == ("__debug__" : Str)) = false := by decide) (hpl : (backToKw pos (keywordEach kws X.env)).any (·.1.isNone) = false := by rfl) :
    PE X (.Call (.Name x p) [] kws pos) (tCallK sp gV E tNil tk) := by
  refine ⟨fun pins s σ H Q I h => ?_⟩
  refine wpAny_Call_Name_kw (ld_glob I hg hm ?_ hdb)
  refine PySem.W.callWith_KW0 (h₀ := X.base) I.ok.mod.kin hk hall ?_ hpl
  refine thn (hkw.run pos pins s σ H _ I h) fun ws s2 hw => ?_
  obtain ⟨zs, H2, I2, rz, q2⟩ := hw
  refine ⟨I2.kIn, ?_⟩
  rw [hks]
  exact run_fnk F hr hb hx I2 .nil rz q2
end
end Dl
-- part Dr
set_option Elab.async false
set_option linter.all false
set_option maxRecDepth 100000
set_option maxHeartbeats 4000000
namespace Dl
open PySem PySem.Spec PyProof.Rows L2 Evl

section
variable {K : PySem.W.Frag}
/-! ### how a rule on plain values becomes one on data -/
theorem OV.pure {r : R2} {f : OpD} (h : ∀ {p : Option Addr} {F H : Hp} {QD : Dat → Prop} {x y : V} {a b : Dat} {Q' : VK}, Ex F H → Rep K p F x a → Rep K p F y b → f a b QD → (∀ v d, Rep K p F v d → QD d → Q' v H) → r x y H Q') : OV K r f :=
  ⟨fun {p _ _ F H _ S T QD Q' x y a b} ok ra rb hf k => h ok.hp.fh ra rb hf fun v d rv q => k v F H d ok (Ex.refl F) rv q⟩
theorem BV.pure {r : List V → Hp → VK → Prop} {f : List Dat → (Dat → Prop) → Prop} (h : ∀ {p : Option Addr} {F H : Hp} {QD : Dat → Prop} {vs : List V} {ds : List Dat} {Q' : VK}, Ex F H → Reps K p F vs ds → f ds QD → (∀ v d, Rep K p F v d → QD d → Q' v H) → r vs H Q') : BV K r f :=
  ⟨fun {p _ _ F H _ S T QD Q' vs ds} ok ra hf k => h ok.hp.fh ra hf fun v d rv q => k v F H d ok (Ex.refl F) rv q⟩
theorem Rep.tup_of {p : Option Addr} {F : Hp} {v : V} {l : List Dat} (r : Rep K p F v (.tup l)) : ∃ a vs, v = .ref a ∧ SqT K F a vs ∧ Reps K p F vs l := by
  cases r with
  | tup h1 h2 => exact ⟨_, _, rfl, h1, h2⟩
theorem Rep.lst_of {p : Option Addr} {F : Hp} {v : V} {l : List Dat} (r : Rep K p F v (.lst l)) : ∃ a vs, v = .ref a ∧ F a = some (.lst vs) ∧ Reps K p F vs l := by
  cases r with
  | lst h1 h2 => exact ⟨_, _, rfl, h1, h2⟩
theorem Rep.fz_of {p : Option Addr} {F : Hp} {v : V} {l : List Dat} (r : Rep K p F v (.fz l)) : ∃ a vs, v = .ref a ∧ SqL K F a vs ∧ Reps K p F vs l := by
  cases r with
  | fz h1 h2 => exact ⟨_, _, rfl, h1, h2⟩

/-! ### data as the library compares it -/
mutual
def pd : Dat → PyData
  | .non => .none
  | .bl b => .bool b
  | .int i => .int i
  | .str l => .str ⟨l.toArray⟩
  | .tup l => .tuple (pds l)
  | .lst l => .list (pds l)
  | .fz l => .list (pds l)
  | _ => .none
def pds : List Dat → List PyData
  | [] => []
  | d :: ds => pd d :: pds ds
end
mutual
def plain : Dat → Bool
  | .non => true
  | .bl _ => true
  | .int _ => true
  | .str _ => true
  | .tup l => plains l
  | .lst l => plains l
  | .fz l => plains l
  | _ => false
def plains : List Dat → Bool
  | [] => true
  | d :: ds => plain d && plains ds
end
mutual
theorem dp_of {p : Option Addr} {F H : Hp} (e : Ex F H) : ∀ {d : Dat} {v : V}, Rep K p F v d → plain d = true → Dp K H v (pd d)
  | .non, _, r, _ => by cases r; exact .non
  | .bl b, _, r, _ => by cases r; exact .bl b
  | .int i, _, r, _ => by cases r; exact .int i
  | .str l, _, r, _ => by rw [r.str_of]; exact .str _
  | .tup l, _, r, hp => by
    obtain ⟨a, vs, rfl, h1, h2⟩ := r.tup_of
    exact .tup (ex_t e h1) (dps_of e h2 hp)
  | .lst l, _, r, hp => by
    obtain ⟨a, vs, rfl, h1, h2⟩ := r.lst_of
    exact .lst (.of (e _ _ h1)) (dps_of e h2 hp)
  | .fz l, _, r, hp => by
    obtain ⟨a, vs, rfl, h1, h2⟩ := r.fz_of
    exact .lst (ex_l e h1) (dps_of e h2 hp)
  | .pot, _, _, hp => nomatch hp
  | .ref _, _, _, hp => nomatch hp
  | .dct _, _, _, hp => nomatch hp
  | .ty _, _, _, hp => nomatch hp
theorem dps_of {p : Option Addr} {F H : Hp} (e : Ex F H) : ∀ {ds : List Dat} {vs : List V}, Reps K p F vs ds → plains ds = true → DpAll K H vs (pds ds)
  | [], _, r, _ => by cases r; exact .nil
  | d :: ds, _, r, hp => by
    have hp' : plain d = true ∧ plains ds = true := by simpa [plains] using hp
    cases r with
    | cons r1 r2 => exact .cons (dp_of e r1 hp'.1) (dps_of e r2 hp'.2)
end
/-- == of data -/
def eqD (a b : Dat) : Bool := PyData.eqv (pd a) (pd b)
def cmpOk (a : Dat) : Prop := plain a = true ∧ SeqAt.shaped (pd a) = true

/-! ### operators -/
def rAddS : R2 := fun x y H Q => ∃ i j, x = .str i ∧ y = .str j ∧ i.length + j.length ≤ sizeLine ∧ Q (.str (i ++ j)) H
def rAddG (K : PySem.W.Frag) : R2 := fun x y H Q => rI0 (fun i j => .int (i + j)) x y H Q ∨ (rAddS x y H Q ∨ (rCatA K x y H Q ∨ rCat x y H Q))
theorem op_addG {X : Cx} : OpR X (binaryOp .Add) (rAddG X.K) := op_add.or (OpR.or (r := rAddS) op_add_str (op_catA.or op_cat))
def aAdd : OpD := fun a b Q =>
  match a with
  | .int i => (match b with | .int j => Q (.int (i + j)) | _ => False)
  | .str x => (match b with | .str y => x.length + y.length ≤ 1000000 ∧ Q (.str (x ++ y)) | _ => False)
  | .tup x => (match b with | .tup y => x.length + y.length ≤ 1000000 ∧ Q (.tup (x ++ y)) | _ => False)
  | .lst x => (match b with | .lst y => x.length + y.length ≤ 1000000 ∧ Q (.lst (x ++ y)) | _ => False)
  | _ => False
theorem line_of {n : Nat} (h : n ≤ 1000000) : n ≤ sizeLine := by
  have := sizeLine_eq; omega
theorem str_len (l : List Nat) : (Str.mk l.toArray).length = l.length := by simp [Str.length]
theorem str_app (a b : List Nat) : (Str.mk a.toArray) ++ (Str.mk b.toArray) = Str.mk (a ++ b).toArray := by
  show Str.mk (a.toArray ++ b.toArray) = _
  simp
instance : OV K (rAddG K) aAdd := ⟨fun {p H0 F0 F H σ S T QD Q' x y a b} ok ra rb hf k => by
  cases a with
  | int i =>
    cases b with
    | int j => rw [ra.int_of, rb.int_of]; exact .inl ⟨i, j, rfl, rfl, k _ F H _ ok (Ex.refl F) (.int _) hf⟩
    | _ => exact hf.elim
  | str i =>
    cases b with
    | str j =>
      rw [ra.str_of, rb.str_of]
      exact .inr (.inl ⟨_, _, rfl, rfl, line_of (by rw [str_len, str_len]; exact hf.1), by rw [str_app]; exact k _ F H _ ok (Ex.refl F) (.strL _) hf.2⟩)
    | _ => exact hf.elim
  | tup l =>
    cases b with
    | tup m =>
      obtain ⟨a, vs, rfl, h1, h2⟩ := ra.tup_of
      obtain ⟨b, ws, rfl, g1, g2⟩ := rb.tup_of
      have l1 := h2.length
      have l2 := g2.length
      refine .inr (.inr (.inl ⟨a, b, vs, ws, rfl, rfl, ex_t ok.hp.fh h1, ex_t ok.hp.fh g1, line_of (by rw [l1, l2]; exact hf.1), fun e => ?_, fun _ e => ?_, fun _ _ p hp => ?_⟩))
      · have : l = [] := List.length_eq_zero_iff.mp (by rw [← l1, e]; rfl)
        subst this
        exact k _ F H _ ok (Ex.refl F) (.tup g1 g2) hf.2
      · have : m = [] := List.length_eq_zero_iff.mp (by rw [← l2, e]; rfl)
        subst this
        have hf2 : QD (.tup (l ++ [])) := hf.2
        rw [List.append_nil] at hf2
        exact k _ F H _ ok (Ex.refl F) (.tup h1 h2) hf2
      · have e := Ex.new (o := HO.tup (vs ++ ws)) (ok.hp.freeF hp)
        exact k _ _ _ _ (ok.lay hp) e (.tup (.inl (.inl upd_same)) ((h2.mono e).append (g2.mono e))) hf.2
    | _ => exact hf.elim
  | lst l =>
    cases b with
    | lst m =>
      obtain ⟨a, vs, rfl, h1, h2⟩ := ra.lst_of
      obtain ⟨b, ws, rfl, g1, g2⟩ := rb.lst_of
      refine .inr (.inr (.inr ⟨a, b, vs, ws, rfl, rfl, ok.hp.fh _ _ h1, ok.hp.fh _ _ g1, line_of (by rw [h2.length, g2.length]; exact hf.1), fun p hp => ?_⟩))
      have e := Ex.new (o := HO.lst (vs ++ ws)) (ok.hp.freeF hp)
      exact k _ _ _ _ (ok.lay hp) e (.lst upd_same ((h2.mono e).append (g2.mono e))) hf.2
    | _ => exact hf.elim
  | _ => exact hf.elim⟩
/-- ints alone -/
def aII (C : Int → Int → Prop) (g : Int → Int → Dat) : OpD := fun a b Q => asI a fun i => asI b fun j => C i j ∧ Q (g i j)
theorem ov_II {C : Int → Int → Prop} {g : Int → Int → V} {gd : Int → Int → Dat} {C' : Int → Int → Prop} (hc : ∀ i j, C' i j → C i j) (hg : ∀ p F i j, C' i j → Rep K p F (g i j) (gd i j)) : OV K (rI C g) (aII C' gd) := .pure fun {p F H QD x y a b Q'} _ ra rb hf k => by
  obtain ⟨i, rfl, f1⟩ := asI_of hf
  obtain ⟨j, rfl, f2⟩ := asI_of f1
  rw [ra.int_of, rb.int_of]
  exact ⟨i, j, rfl, rfl, hc i j f2.1, k _ _ (hg p F i j f2.1) f2.2⟩
def aI0 (g : Int → Int → Dat) : OpD := fun a b Q => asI a fun i => asI b fun j => Q (g i j)
theorem ov_I0 {g : Int → Int → V} {gd : Int → Int → Dat} (hg : ∀ p F i j, Rep K p F (g i j) (gd i j)) : OV K (rI0 g) (aI0 gd) := .pure fun {p F H QD x y a b Q'} _ ra rb hf k => by
  obtain ⟨i, rfl, f1⟩ := asI_of hf
  obtain ⟨j, rfl, f2⟩ := asI_of f1
  rw [ra.int_of, rb.int_of]
  exact ⟨i, j, rfl, rfl, k _ _ (hg p F i j) f2⟩
abbrev aSub : OpD := aI0 fun i j => .int (i - j)
instance : OV K (rI0 fun i j => .int (i - j)) aSub := ov_I0 fun _ _ _ _ => .int _
abbrev aLt : OpD := aI0 fun i j => .bl (decide (i < j))
abbrev aLe : OpD := aI0 fun i j => .bl (decide (i ≤ j))
abbrev aGt : OpD := aI0 fun i j => .bl (decide (j < i))
abbrev aGe : OpD := aI0 fun i j => .bl (decide (j ≤ i))
instance : OV K (rI0 fun i j => .bl (decide (i < j))) aLt := ov_I0 fun _ _ _ _ => .bl _
instance : OV K (rI0 fun i j => .bl (decide (i ≤ j))) aLe := ov_I0 fun _ _ _ _ => .bl _
instance : OV K (rI0 fun i j => .bl (decide (j < i))) aGt := ov_I0 fun _ _ _ _ => .bl _
instance : OV K (rI0 fun i j => .bl (decide (j ≤ i))) aGe := ov_I0 fun _ _ _ _ => .bl _
/-- %, by a positive number -/
abbrev aMod : OpD := aII (fun _ j => 0 < j) fun i j => .int (i % j)
instance : OV K (rI (fun _ j => 0 < j) fun i j => .int (i % j)) aMod := ov_II (fun _ _ h => h) fun _ _ _ _ _ => .int _
/-- //, by a positive number -/
def CFd (_ j : Int) : Prop := 0 < j ∧ j.natAbs.log2 < 9000
abbrev aFd : OpD := aII CFd fun i j => .int (i / j)
instance : OV K (rI CDivW fun i j => .int (i / j)) aFd := ov_II (fun _ _ h => h) fun _ _ _ _ _ => .int _
def CPw (i j : Int) : Prop := CPow i j ∨ CPowW i j
def rPowG : R2 := fun x y H Q => rI CPow (fun i j => .int (i ^ j.toNat)) x y H Q ∨ rI CPowW (fun i j => .int (i ^ j.toNat)) x y H Q
theorem op_powG {X : Cx} : OpR X (binaryOp .Pow) rPowG := op_pow.or op_powW
abbrev aPow : OpD := aII CPw fun i j => .int (i ^ j.toNat)
instance : OV K rPowG aPow := .pure fun {p F H QD x y a b Q'} _ ra rb hf k => by
  obtain ⟨i, rfl, f1⟩ := asI_of hf
  obtain ⟨j, rfl, f2⟩ := asI_of f1
  rw [ra.int_of, rb.int_of]
  rcases f2.1 with h | h
  · exact .inl ⟨i, j, rfl, rfl, h, k _ _ (.int _) f2.2⟩
  · exact .inr ⟨i, j, rfl, rfl, h, k _ _ (.int _) f2.2⟩
/-- * -/
def CMu (i j : Int) : Prop := CMul i j ∨ CMulW i j
def rMulG : R2 := fun x y H Q => rI CMul (fun i j => .int (i * j)) x y H Q ∨ (rI CMulW (fun i j => .int (i * j)) x y H Q ∨ (rMulS x y H Q ∨ rRep x y H Q))
theorem op_mulG {X : Cx} : OpR X (binaryOp .Mult) rMulG := op_mul.or (op_mulW.or (op_mulS.or op_rep))
def repL {α : Type} (l : List α) (n : Nat) : List α := (List.replicate n l).flatten
def aMul : OpD := fun a b Q =>
  match a with
  | .int i => asI b fun j => CMu i j ∧ Q (.int (i * j))
  | .str x => asI b fun j => (-4611686018427387904 ≤ j ∧ j ≤ 1000000 ∧ x.length * j.toNat ≤ 1000000) ∧ Q (.str (repL x j.toNat))
  | .lst x => asI b fun j => (-4611686018427387904 ≤ j ∧ j ≤ 1000000 ∧ x.length * j.toNat ≤ 1000000) ∧ Q (.lst (repL x j.toNat))
  | _ => False
theorem Reps.rep {p : Option Addr} {F : Hp} {vs : List V} {ds : List Dat} (r : Reps K p F vs ds) : ∀ n : Nat, Reps K p F ((List.replicate n vs).flatten) (repL ds n)
  | 0 => .nil
  | n + 1 => by
    unfold repL
    rw [List.replicate_succ, List.flatten_cons, List.replicate_succ, List.flatten_cons]
    exact r.append (Reps.rep r n)
instance : OV K rMulG aMul := ⟨fun {p H0 F0 F H σ S T QD Q' x y a b} ok ra rb hf k => by
  cases a with
  | int i =>
    obtain ⟨j, rfl, f2⟩ := asI_of hf
    rw [ra.int_of, rb.int_of]
    rcases f2.1 with h | h
    · exact .inl ⟨i, j, rfl, rfl, h, k _ F H _ ok (Ex.refl F) (.int _) f2.2⟩
    · exact .inr (.inl ⟨i, j, rfl, rfl, h, k _ F H _ ok (Ex.refl F) (.int _) f2.2⟩)
  | str l =>
    obtain ⟨j, rfl, ⟨h1, h2, h3⟩, f2⟩ := asI_of hf
    rw [ra.str_of, rb.int_of]
    exact .inr (.inr (.inl ⟨_, j, rfl, rfl, h1, h2, by simpa using h3, k _ F H _ ok (Ex.refl F) (.strL _) f2⟩))
  | lst l =>
    obtain ⟨j, rfl, ⟨h1, h2, h3⟩, f2⟩ := asI_of hf
    obtain ⟨a, vs, rfl, g1, g2⟩ := ra.lst_of
    rw [rb.int_of]
    refine .inr (.inr (.inr ⟨a, j, vs, rfl, rfl, ok.hp.fh _ _ g1, by omega, by omega, line_of (by rw [g2.length]; exact h3), fun q hq => ?_⟩))
    have e := Ex.new (o := HO.lst ((List.replicate j.toNat vs).flatten)) (ok.hp.freeF hq)
    exact k _ _ _ _ (ok.lay hq) e (.lst upd_same ((g2.mono e).rep _)) f2
  | _ => exact hf.elim⟩
/-- -a -/
def aNeg (a : Dat) (Q : Dat → Prop) : Prop := asI a fun i => Q (.int (-i))
instance : UV K (rU fun i => .int (-i)) aNeg := ⟨fun {p H0 F0 F H σ S T QD Q' x a} ok ra hf k => by
  obtain ⟨i, rfl, f1⟩ := asI_of hf
  rw [ra.int_of]
  exact ⟨i, rfl, k _ F H _ ok (Ex.refl F) (.int _) f1⟩⟩
/-! == and != -/
def rEqG (K : PySem.W.Frag) : R2 := fun x y H Q => rEq x y H Q ∨ rEqD K x y H Q
def rNeG (K : PySem.W.Frag) : R2 := fun x y H Q => rNe x y H Q ∨ rNeD K x y H Q
theorem op_eqG {X : Cx} (hu : X.A.units + 64 < cLine) : OpR X (compareOp .Eq) (rEqG X.K) := op_eq.or (op_eqD hu)
theorem op_neG {X : Cx} (hu : X.A.units + 64 < cLine) : OpR X (compareOp .NotEq) (rNeG X.K) := op_ne.or (op_neD hu)
def eqS (a b : Dat) (k : Bool → Prop) : Prop :=
  match a with
  | .int i => (match b with | .int j => k (decide (i = j)) | .non => k false | .str _ => k false | _ => False)
  | .str x => (match b with | .str y => k (decide (x = y)) | .non => k false | .int _ => k false | .bl _ => k false | _ => False)
  | .bl x => (match b with | .bl y => k (decide (x = y)) | .non => k false | .str _ => k false | _ => False)
  | .non => (match b with | .non => k true | .int _ => k false | .str _ => k false | .bl _ => k false | .tup y => cmpOk (.tup y) ∧ k false | _ => False)
  | .tup x => cmpOk (.tup x) ∧ cmpOk b ∧ k (eqD (.tup x) b)
  | .lst x => cmpOk (.lst x) ∧ cmpOk b ∧ k (eqD (.lst x) b)
  | _ => False
def aEq : OpD := fun a b Q => eqS a b fun k => Q (.bl k)
def aNe : OpD := fun a b Q => eqS a b fun k => Q (.bl (!k))
theorem str_inj {x y : List Nat} : decide (V.str ⟨x.toArray⟩ = V.str ⟨y.toArray⟩) = decide (x = y) := by
  rw [Bool.eq_iff_iff]
  simp
theorem eqS_ok {p : Option Addr} {F H : Hp} {x y : V} {a b : Dat} {k : Bool → Prop} (e : Ex F H) (ra : Rep K p F x a) (rb : Rep K p F y b) (h : eqS a b k) :
    (scal x y = true ∧ k (decide (x = y))) ∨ ∃ d e, Dp K H x d ∧ Dp K H y e ∧ SeqAt.shaped d = true ∧ SeqAt.shaped e = true ∧ k (PyData.eqv d e) := by
  cases a with
  | int i =>
    rw [ra.int_of]
    cases b with
    | int j => rw [rb.int_of]; refine .inl ⟨rfl, ?_⟩; have h : k (decide (i = j)) := h; rw [show decide (V.int i = V.int j) = decide (i = j) by rw [Bool.eq_iff_iff]; simp]; exact h
    | non => cases rb; refine .inl ⟨rfl, ?_⟩; have h : k false := h; simpa using h
    | str j => rw [rb.str_of]; refine .inl ⟨rfl, ?_⟩; have h : k false := h; simpa using h
    | _ => exact (show False from h).elim
  | str i =>
    rw [ra.str_of]
    cases b with
    | str j => rw [rb.str_of]; refine .inl ⟨rfl, ?_⟩; have h : k (decide (i = j)) := h; rw [str_inj]; exact h
    | non => cases rb; refine .inl ⟨rfl, ?_⟩; have h : k false := h; simpa using h
    | int j => rw [rb.int_of]; refine .inl ⟨rfl, ?_⟩; have h : k false := h; simpa using h
    | bl j => rw [rb.bl_of]; refine .inl ⟨rfl, ?_⟩; have h : k false := h; simpa using h
    | _ => exact (show False from h).elim
  | bl i =>
    rw [ra.bl_of]
    cases b with
    | bl j => rw [rb.bl_of]; refine .inl ⟨rfl, ?_⟩; have h : k (decide (i = j)) := h; rw [show decide (V.bl i = V.bl j) = decide (i = j) by rw [Bool.eq_iff_iff]; simp]; exact h
    | non => cases rb; refine .inl ⟨rfl, ?_⟩; have h : k false := h; simpa using h
    | str j => rw [rb.str_of]; refine .inl ⟨rfl, ?_⟩; have h : k false := h; simpa using h
    | _ => exact (show False from h).elim
  | non =>
    cases ra
    cases b with
    | non => cases rb; refine .inl ⟨rfl, ?_⟩; have h : k true := h; simpa using h
    | int j => rw [rb.int_of]; refine .inl ⟨rfl, ?_⟩; have h : k false := h; simpa using h
    | str j => rw [rb.str_of]; refine .inl ⟨rfl, ?_⟩; have h : k false := h; simpa using h
    | bl j => rw [rb.bl_of]; refine .inl ⟨rfl, ?_⟩; have h : k false := h; simpa using h
    | tup j =>
      obtain ⟨h1, h2⟩ : cmpOk (.tup j) ∧ k false := h
      exact .inr ⟨.none, _, .non, dp_of e rb h1.1, by decide, h1.2, h2⟩
    | _ => exact (show False from h).elim
  | tup l =>
    obtain ⟨h1, h2, h3⟩ : cmpOk (.tup l) ∧ cmpOk b ∧ k (eqD (.tup l) b) := h
    exact .inr ⟨_, _, dp_of e ra h1.1, dp_of e rb h2.1, h1.2, h2.2, h3⟩
  | lst l =>
    obtain ⟨h1, h2, h3⟩ : cmpOk (.lst l) ∧ cmpOk b ∧ k (eqD (.lst l) b) := h
    exact .inr ⟨_, _, dp_of e ra h1.1, dp_of e rb h2.1, h1.2, h2.2, h3⟩
  | _ => exact (show False from h).elim
instance : OV K (rEqG K) aEq := .pure fun {p F H QD x y a b Q'} e ra rb hf k => by
  rcases eqS_ok e ra rb hf with ⟨h1, h2⟩ | ⟨d, g, h1, h2, h3, h4, h5⟩
  · exact .inl ⟨h1, k _ _ (.bl _) h2⟩
  · exact .inr ⟨d, g, h1, h2, h3, h4, k _ _ (.bl _) h5⟩
instance : OV K (rNeG K) aNe := .pure fun {p F H QD x y a b Q'} e ra rb hf k => by
  rcases eqS_ok e ra rb hf with ⟨h1, h2⟩ | ⟨d, g, h1, h2, h3, h4, h5⟩
  · exact .inl ⟨h1, k _ _ (.bl _) h2⟩
  · exact .inr ⟨d, g, h1, h2, h3, h4, k _ _ (.bl _) h5⟩
end
end Dl
-- part Ds
set_option Elab.async false
set_option linter.all false
set_option maxRecDepth 100000
set_option maxHeartbeats 4000000
namespace Dl
open PySem PySem.Spec PyProof.Rows L2 Evl

section
variable {K : PySem.W.Frag}
/-! in, not in -/
def rInS (neg : Bool) : R2 := fun x y H Q => ∃ (c : Nat) (z : Str), x = .str ⟨#[c]⟩ ∧ y = .str z ∧ Q (.bl (if neg then !decide (c ∈ z.cps.toList) else decide (c ∈ z.cps.toList))) H
def rInG (K : PySem.W.Frag) (neg : Bool) : R2 := fun x y H Q => rInS neg x y H Q ∨ rIn K neg x y H Q
theorem op_inG {X : Cx} : OpR X (compareOp .In) (rInG X.K false) := OpR.or (r := rInS false) op_in_sign op_in_seq
theorem op_notInG {X : Cx} : OpR X (compareOp .NotIn) (rInG X.K true) := OpR.or (r := rInS true) op_notIn_sign op_notIn_seq
/-- flat items alone: == of such -/
def flat : Dat → Bool
  | .non => true
  | .bl _ => true
  | .int _ => true
  | .str _ => true
  | _ => false
def eqF : Dat → Dat → Bool
  | .non, .non => true
  | .bl a, .bl b => a == b
  | .bl a, .int b => (if a then 1 else 0) == b
  | .int a, .bl b => a == (if b then 1 else 0)
  | .int a, .int b => a == b
  | .str a, .str b => a == b
  | _, _ => false
theorem flat_of {p : Option Addr} {F : Hp} {v : V} {d : Dat} (r : Rep K p F v d) (h : flat d = true) : flatV v = true := by
  cases r <;> first | rfl | exact nomatch h
theorem str_beq {s t : Str} : (s == t) = (s.cps.toList == t.cps.toList) := by
  cases s with
  | mk a =>
    cases t with
    | mk b =>
      rw [Bool.eq_iff_iff]
      simp
theorem eqF_of {p : Option Addr} {F : Hp} {v u : V} {d e : Dat} (r : Rep K p F v d) (q : Rep K p F u e) (h : flat d = true) (g : flat e = true) : eqV v u = eqF d e := by
  cases r <;> (try exact absurd h Bool.false_ne_true) <;> cases q <;> (try exact absurd g Bool.false_ne_true) <;> first
    | rfl
    | exact str_beq
def inF (x : Dat) (l : List Dat) : Bool := l.any fun y => eqF y x
theorem inF_of {p : Option Addr} {F : Hp} {v : V} {d : Dat} (r : Rep K p F v d) (h : flat d = true) : ∀ {vs : List V} {ds : List Dat}, Reps K p F vs ds → ds.all flat = true → inV v vs = inF d ds ∧ vs.all flatV = true
  | _, _, .nil, _ => ⟨rfl, rfl⟩
  | v' :: vs, d' :: ds, .cons r1 r2, hf => by
    have hf' : flat d' = true ∧ ds.all flat = true := by simpa using hf
    obtain ⟨h1, h2⟩ := inF_of r h r2 hf'.2
    refine ⟨?_, ?_⟩
    · show (eqV v' v || inV v vs) = (eqF d' d || inF d ds)
      rw [eqF_of r1 r hf'.1 h, h1]
    · rw [List.all_cons, flat_of r1 hf'.1, h2]; rfl
def inS (a b : Dat) (k : Bool → Prop) : Prop :=
  match b with
  | .str z => (match a with | .str [c] => k (decide (c ∈ z)) | _ => False)
  | .tup l => flat a = true ∧ l.all flat = true ∧ k (inF a l)
  | .lst l => flat a = true ∧ l.all flat = true ∧ k (inF a l)
  | _ => False
def aIn : OpD := fun a b Q => inS a b fun k => Q (.bl k)
def aNotIn : OpD := fun a b Q => inS a b fun k => Q (.bl (!k))
theorem inS_ok {neg : Bool} {p : Option Addr} {F H : Hp} {x y : V} {a b : Dat} {k : Bool → Prop} {Q' : VK} (e : Ex F H) (ra : Rep K p F x a) (rb : Rep K p F y b) (h : inS a b k) (hq : ∀ c, k c → Q' (.bl (if neg then !c else c)) H) : rInG K neg x y H Q' := by
  cases b with
  | str z =>
    cases a with
    | str l =>
      match l, h with
      | [c], h =>
        rw [ra.str_of, rb.str_of]
        have h' : k (decide (c ∈ z)) := h
        refine .inl ⟨c, _, rfl, rfl, ?_⟩
        rw [show (Str.mk z.toArray).cps.toList = z from List.toList_toArray]
        exact hq _ h'
    | _ => exact (show False from h).elim
  | tup l =>
    obtain ⟨h1, h2, h3⟩ : flat a = true ∧ l.all flat = true ∧ k (inF a l) := h
    obtain ⟨b, vs, rfl, g1, g2⟩ := rb.tup_of
    obtain ⟨e1, e2⟩ := inF_of ra h1 g2 h2
    exact .inr ⟨b, vs, rfl, .inr (ex_t e g1), flat_of ra h1, e2, by rw [e1]; exact hq _ h3⟩
  | lst l =>
    obtain ⟨h1, h2, h3⟩ : flat a = true ∧ l.all flat = true ∧ k (inF a l) := h
    obtain ⟨b, vs, rfl, g1, g2⟩ := rb.lst_of
    obtain ⟨e1, e2⟩ := inF_of ra h1 g2 h2
    exact .inr ⟨b, vs, rfl, .inl (.of (e _ _ g1)), flat_of ra h1, e2, by rw [e1]; exact hq _ h3⟩
  | _ => exact (show False from h).elim
instance : OV K (rInG K false) aIn := .pure fun e ra rb hf k => inS_ok e ra rb hf fun _ h => k _ _ (.bl _) h
instance : OV K (rInG K true) aNotIn := .pure fun e ra rb hf k => inS_ok e ra rb hf fun _ h => k _ _ (.bl _) h
/-! is None -/
def rIsN : R2 := fun x y H Q => y = .non ∧ Q (.bl (decide (x = .non))) H
def rIsNotN : R2 := fun x y H Q => y = .non ∧ Q (.bl (!decide (x = .non))) H
def isN : Dat → Bool
  | .non => true
  | _ => false
theorem isN_of {p : Option Addr} {F : Hp} {v : V} {d : Dat} (r : Rep K p F v d) : decide (v = .non) = isN d := by
  cases r <;> first | rfl | exact decide_eq_false (fun z => nomatch z)
def aIsN : OpD := fun a b Q => match b with | .non => Q (.bl (isN a)) | _ => False
def aIsNotN : OpD := fun a b Q => match b with | .non => Q (.bl (!isN a)) | _ => False
theorem op_isNG {X : Cx} : OpR X (compareOp .Is) rIsN := op_isN
theorem op_isNotNG {X : Cx} : OpR X (compareOp .IsNot) rIsNotN := op_notN
instance : OV K rIsN aIsN := .pure fun {p F H QD x y a b Q'} e ra rb hf k => by
  cases b with
  | non => cases rb; exact ⟨rfl, k _ _ (by rw [isN_of ra]; exact .bl _) hf⟩
  | _ => exact hf.elim
instance : OV K rIsNotN aIsNotN := .pure fun {p F H QD x y a b Q'} e ra rb hf k => by
  cases b with
  | non => cases rb; exact ⟨rfl, k _ _ (by rw [isN_of ra]; exact .bl _) hf⟩
  | _ => exact hf.elim
/-! builtins on ints -/
def rAbs : List V → Hp → VK → Prop := fun xs H Q => ∃ i, xs = [.int i] ∧ Q (.int (if i < 0 then -i else i)) H
def rMax2G : List V → Hp → VK → Prop := fun xs H Q => ∃ i j, xs = [.int i, .int j] ∧ Q (.int (if j > i then j else i)) H
def rMin2G : List V → Hp → VK → Prop := fun xs H Q => ∃ i j, xs = [.int i, .int j] ∧ Q (.int (if j < i then j else i)) H
def rInt1 : List V → Hp → VK → Prop := fun xs H Q => (∃ i, xs = [.int i] ∧ Q (.int i) H) ∨ ∃ k, xs = [.bl k] ∧ Q (.int (if k then 1 else 0)) H
theorem call_absG {X : Cx} : CallR X (.builtin "abs") rAbs := call_abs
theorem call_maxG {X : Cx} (hc : X.calm = true) : CallR X (.builtin "max") rMax2G := call_max2 hc
theorem call_minG {X : Cx} (hc : X.calm = true) : CallR X (.builtin "min") rMin2G := call_min2 hc
theorem call_intG {X : Cx} : CallR X (.type "int") rInt1 := call_int1
def aAbs (ds : List Dat) (Q : Dat → Prop) : Prop := as1 ds fun a => asI a fun i => Q (.int (if i < 0 then -i else i))
def aMax (ds : List Dat) (Q : Dat → Prop) : Prop := as2 ds fun a b => asI a fun i => asI b fun j => Q (.int (if j > i then j else i))
def aMin (ds : List Dat) (Q : Dat → Prop) : Prop := as2 ds fun a b => asI a fun i => asI b fun j => Q (.int (if j < i then j else i))
def aInt (ds : List Dat) (Q : Dat → Prop) : Prop := as1 ds fun a =>
  match a with
  | .int i => Q (.int i)
  | .bl b => Q (.int (if b then 1 else 0))
  | _ => False
instance : BV K rAbs aAbs := .pure fun {p F H QD vs ds Q'} e r hf k => by
  obtain ⟨a, rfl, f1⟩ := as1_of hf
  obtain ⟨i, rfl, f2⟩ := asI_of f1
  obtain ⟨v, rfl, rv⟩ := r.one_of
  rw [rv.int_of]
  exact ⟨i, rfl, k _ _ (.int _) f2⟩
instance : BV K rMax2G aMax := .pure fun {p F H QD vs ds Q'} e r hf k => by
  obtain ⟨a, b, rfl, f1⟩ := as2_of hf
  obtain ⟨i, rfl, f2⟩ := asI_of f1
  obtain ⟨j, rfl, f3⟩ := asI_of f2
  obtain ⟨v, u, rfl, rv, ru⟩ := r.two_of
  rw [rv.int_of, ru.int_of]
  exact ⟨i, j, rfl, k _ _ (.int _) f3⟩
instance : BV K rMin2G aMin := .pure fun {p F H QD vs ds Q'} e r hf k => by
  obtain ⟨a, b, rfl, f1⟩ := as2_of hf
  obtain ⟨i, rfl, f2⟩ := asI_of f1
  obtain ⟨j, rfl, f3⟩ := asI_of f2
  obtain ⟨v, u, rfl, rv, ru⟩ := r.two_of
  rw [rv.int_of, ru.int_of]
  exact ⟨i, j, rfl, k _ _ (.int _) f3⟩
instance : BV K rInt1 aInt := .pure fun {p F H QD vs ds Q'} e r hf k => by
  obtain ⟨a, rfl, f1⟩ := as1_of hf
  obtain ⟨v, rfl, rv⟩ := r.one_of
  cases a with
  | int i => rw [rv.int_of]; exact .inl ⟨i, rfl, k _ _ (.int _) f1⟩
  | bl b => rw [rv.bl_of]; exact .inr ⟨b, rfl, k _ _ (.int _) f1⟩
  | _ => exact (show False from f1).elim
/-! len -/
def rLenG (K : PySem.W.Frag) : List V → Hp → VK → Prop := fun xs H Q => ∃ x n, xs = [x] ∧ LenV K x H n ∧ Q (.int n) H
theorem call_lenG {X : Cx} : CallR X (.builtin "len") (rLenG X.K) := call_len
def lenD (a : Dat) (Q : Nat → Prop) : Prop :=
  match a with
  | .str l => l.length ≤ 1000000 ∧ Q l.length
  | .tup l => Q l.length
  | .lst l => Q l.length
  | .fz l => Q l.length
  | _ => False
def aLen (ds : List Dat) (Q : Dat → Prop) : Prop := as1 ds fun a => lenD a fun n => Q (.int (n : Int))
instance : BV K (rLenG K) aLen := .pure fun {p F H QD vs ds Q'} e r hf k => by
  obtain ⟨a, rfl, f1⟩ := as1_of hf
  obtain ⟨v, rfl, rv⟩ := r.one_of
  cases a with
  | str l => rw [rv.str_of]; exact ⟨_, l.length, rfl, ⟨line_of (by rw [str_len]; exact f1.1), by rw [str_len]⟩, k _ _ (.int _) f1.2⟩
  | tup l => obtain ⟨a, ws, rfl, h1, h2⟩ := rv.tup_of; exact ⟨_, l.length, rfl, .inr ⟨ws, ex_t e h1, h2.length.symm⟩, k _ _ (.int _) f1⟩
  | lst l => obtain ⟨a, ws, rfl, h1, h2⟩ := rv.lst_of; exact ⟨_, l.length, rfl, .inl ⟨ws, .of (e _ _ h1), h2.length.symm⟩, k _ _ (.int _) f1⟩
  | fz l => obtain ⟨a, ws, rfl, h1, h2⟩ := rv.fz_of; exact ⟨_, l.length, rfl, .inl ⟨ws, ex_l e h1, h2.length.symm⟩, k _ _ (.int _) f1⟩
  | _ => exact (show False from f1).elim
/-! sum, all, any -/
def listD (a : Dat) (Q : List Dat → Prop) : Prop :=
  match a with
  | .lst l => Q l
  | .fz l => Q l
  | _ => False
theorem listD_of {a : Dat} {Q : List Dat → Prop} (h : listD a Q) : ∃ l, (a = .lst l ∨ a = .fz l) ∧ Q l := by
  cases a with
  | lst l => exact ⟨l, .inl rfl, h⟩
  | fz l => exact ⟨l, .inr rfl, h⟩
  | _ => exact False.elim h
theorem Rep.list_of {p : Option Addr} {F : Hp} {v : V} {a : Dat} {l : List Dat} (r : Rep K p F v a) (h : a = .lst l ∨ a = .fz l) : ∃ b vs, v = .ref b ∧ SqL K F b vs ∧ Reps K p F vs l := by
  rcases h with rfl | rfl
  · obtain ⟨b, vs, e, h1, h2⟩ := r.lst_of
    exact ⟨b, vs, e, .of h1, h2⟩
  · exact r.fz_of
def isInts : List Dat → Option (List Int)
  | [] => some []
  | .int i :: ds => (isInts ds).map (i :: ·)
  | _ => none
def isBls : List Dat → Option (List Bool)
  | [] => some []
  | .bl i :: ds => (isBls ds).map (i :: ·)
  | _ => none
theorem isInts_map : ∀ l : List Int, isInts (l.map Dat.int) = some l
  | [] => rfl
  | i :: l => by
    show (isInts (l.map Dat.int)).map (i :: ·) = _
    rw [isInts_map l]; rfl
theorem isBls_map : ∀ l : List Bool, isBls (l.map Dat.bl) = some l
  | [] => rfl
  | i :: l => by
    show (isBls (l.map Dat.bl)).map (i :: ·) = _
    rw [isBls_map l]; rfl
theorem Reps.ints_of {p : Option Addr} {F : Hp} : ∀ {vs : List V} {ds : List Dat} {ns : List Int}, Reps K p F vs ds → isInts ds = some ns → vs = ns.map V.int
  | _, _, _, .nil, h => by cases h; rfl
  | _, d :: ds, _, .cons r1 r2, h => by
    cases d with
    | int i =>
      obtain ⟨ms, h1, rfl⟩ := Option.map_eq_some_iff.mp (show (isInts ds).map (i :: ·) = some _ from h)
      rw [r1.int_of, Reps.ints_of r2 h1]; rfl
    | _ => exact nomatch h
theorem Reps.bls_of {p : Option Addr} {F : Hp} : ∀ {vs : List V} {ds : List Dat} {ns : List Bool}, Reps K p F vs ds → isBls ds = some ns → vs = ns.map V.bl
  | _, _, _, .nil, h => by cases h; rfl
  | _, d :: ds, _, .cons r1 r2, h => by
    cases d with
    | bl i =>
      obtain ⟨ms, h1, rfl⟩ := Option.map_eq_some_iff.mp (show (isBls ds).map (i :: ·) = some _ from h)
      rw [r1.bl_of, Reps.bls_of r2 h1]; rfl
    | _ => exact nomatch h
def aSum (ds : List Dat) (Q : Dat → Prop) : Prop := as1 ds fun a => listD a fun l => ∃ ns, isInts l = some ns ∧ Q (.int ns.sum)
def aAll (ds : List Dat) (Q : Dat → Prop) : Prop := as1 ds fun a => listD a fun l => ∃ bs, isBls l = some bs ∧ Q (.bl (bs.all id))
def aAny (ds : List Dat) (Q : Dat → Prop) : Prop := as1 ds fun a => listD a fun l => ∃ bs, isBls l = some bs ∧ Q (.bl (bs.any id))
instance : BV K (rSum K) aSum := .pure fun {p F H QD vs ds Q'} e r hf k => by
  obtain ⟨a, rfl, f1⟩ := as1_of hf
  obtain ⟨v, rfl, rv⟩ := r.one_of
  obtain ⟨l, hl, ns, h1, h2⟩ := listD_of f1
  obtain ⟨b, ws, rfl, g1, g2⟩ := rv.list_of hl
  have g3 := g2.ints_of h1
  subst g3
  exact ⟨b, ns, rfl, ex_l e g1, k _ _ (.int _) h2⟩
instance : BV K (rAll K) aAll := .pure fun {p F H QD vs ds Q'} e r hf k => by
  obtain ⟨a, rfl, f1⟩ := as1_of hf
  obtain ⟨v, rfl, rv⟩ := r.one_of
  obtain ⟨l, hl, ns, h1, h2⟩ := listD_of f1
  obtain ⟨b, ws, rfl, g1, g2⟩ := rv.list_of hl
  have g3 := g2.bls_of h1
  subst g3
  exact ⟨b, ns, rfl, ex_l e g1, k _ _ (.bl _) h2⟩
instance : BV K (rAny K) aAny := .pure fun {p F H QD vs ds Q'} e r hf k => by
  obtain ⟨a, rfl, f1⟩ := as1_of hf
  obtain ⟨v, rfl, rv⟩ := r.one_of
  obtain ⟨l, hl, ns, h1, h2⟩ := listD_of f1
  obtain ⟨b, ws, rfl, g1, g2⟩ := rv.list_of hl
  have g3 := g2.bls_of h1
  subst g3
  exact ⟨b, ns, rfl, ex_l e g1, k _ _ (.bl _) h2⟩
/-! isinstance -/
def tyD : Dat → Option String
  | .non => some "NoneType"
  | .bl _ => some "bool"
  | .int _ => some "int"
  | .str _ => some "str"
  | .tup _ => some "tuple"
  | .lst _ => some "list"
  | .dct _ => some "dict"
  | _ => none
def isiB (a n : String) : Bool := a == n || (a == "bool" && n == "int")
theorem kit_all : ∀ a ∈ ["NoneType", "bool", "int", "str", "tuple", "list", "dict"], ∀ n ∈ ["bool", "int", "str", "tuple", "list", "dict"], kitB a n = some (isiB a n) := by decide +kernel
def kinds : List String := ["bool", "int", "str", "tuple", "list", "dict"]
/-- the answer, told by forms -/
def isi (d : Dat) (n : String) : Bool :=
  match d with
  | .bl _ => n == "bool" || n == "int"
  | .int _ => n == "int"
  | .str _ => n == "str"
  | .tup _ => n == "tuple"
  | .lst _ => n == "list"
  | .dct _ => n == "dict"
  | _ => false
def goodTy : Dat → Bool
  | .pot => false
  | .ref _ => false
  | .ty _ => false
  | .fz _ => false
  | _ => true
def aIsi (ds : List Dat) (Q : Dat → Prop) : Prop := as2 ds fun x c =>
  match c with
  | .ty n => kinds.contains n = true ∧ goodTy x = true ∧ Q (.bl (isi x n))
  | _ => False
theorem tyX_of {p : Option Addr} {F H : Hp} {v : V} {d : Dat} (e : Ex F H) (r : Rep K p F v d) (h : goodTy d = true) : ∃ a, a ∈ ["NoneType", "bool", "int", "str", "tuple", "list", "dict"] ∧ TyX K H v (.type a) ∧ ∀ n, kinds.contains n = true → isiB a n = isi d n := by
  have nn : ∀ n, kinds.contains n = true → ("NoneType" == n) = false := fun n hn => by
    have : n ∈ kinds := by simpa using hn
    unfold kinds at this
    simp only [List.mem_cons, List.not_mem_nil, or_false] at this
    rcases this with rfl | rfl | rfl | rfl | rfl | rfl <;> decide
  cases r with
  | non => exact ⟨"NoneType", by simp, .base .non, fun n hn => by unfold isiB isi; rw [nn n hn]; rfl⟩
  | bl b => exact ⟨"bool", by simp, .base (.bl b), fun n _ => by
      unfold isiB isi
      rw [show ("bool" == n) = (n == "bool") from BEq.comm, show ("bool" == "bool") = true from rfl, Bool.true_and]⟩
  | int i => exact ⟨"int", by simp, .base (.int i), fun n _ => by
      unfold isiB isi
      rw [show ("int" == n) = (n == "int") from BEq.comm, show ("int" == "bool") = false from rfl, Bool.false_and, Bool.or_false]⟩
  | str s => exact ⟨"str", by simp, .base (.str s), fun n _ => by
      unfold isiB isi
      rw [show ("str" == n) = (n == "str") from BEq.comm, show ("str" == "bool") = false from rfl, Bool.false_and, Bool.or_false]⟩
  | ty n => exact nomatch h
  | tup h1 h2 =>
    refine ⟨"tuple", by simp, ?_, fun n _ => by
      unfold isiB isi
      rw [show ("tuple" == n) = (n == "tuple") from BEq.comm, show ("tuple" == "bool") = false from rfl, Bool.false_and, Bool.or_false]⟩
    rcases h1 with (h1 | ⟨o, h1⟩) | ⟨o, its, n, h1, h3, _⟩
    · exact .base (.tup (e _ _ h1))
    · exact .fTuple (e _ _ h1)
    · exact .kTuple h1 h3
  | lst h1 h2 =>
    exact ⟨"list", by simp, .base (.lst (e _ _ h1)), fun n _ => by
      unfold isiB isi
      rw [show ("list" == n) = (n == "list") from BEq.comm, show ("list" == "bool") = false from rfl, Bool.false_and, Bool.or_false]⟩
  | fz h1 h2 => exact nomatch h
  | pot _ => exact nomatch h
  | ref _ => exact nomatch h
  | dct h1 h2 =>
    exact ⟨"dict", by simp, .base (.dK (e _ _ h1)), fun n _ => by
      unfold isiB isi
      rw [show ("dict" == n) = (n == "dict") from BEq.comm, show ("dict" == "bool") = false from rfl, Bool.false_and, Bool.or_false]⟩
instance : BV K (rIsi K) aIsi := .pure fun {p F H QD vs ds Q'} e r hf k => by
  obtain ⟨x, c, rfl, f1⟩ := as2_of hf
  obtain ⟨v, u, rfl, rv, ru⟩ := r.two_of
  cases c with
  | ty n =>
    obtain ⟨h1, h2, h3⟩ : kinds.contains n = true ∧ goodTy x = true ∧ QD (.bl (isi x n)) := f1
    cases ru
    obtain ⟨a, ha, ty, hi⟩ := tyX_of e rv h2
    have hn : n ∈ ["bool", "int", "str", "tuple", "list", "dict"] := by simpa [kinds] using h1
    exact ⟨v, .ty n, _, _, _, rfl, .ty n, ty, kit_ty ((kit_all a ha n hn).trans (congrArg some (hi n h1))), k _ _ (.bl _) h3⟩
  | _ => exact (show False from f1).elim
end
end Dl
-- part Dt
set_option Elab.async false
set_option linter.all false
set_option maxRecDepth 100000
set_option maxHeartbeats 4000000
namespace Dl
open PySem PySem.Spec PyProof.Rows L2 Evl RZ

section
variable {K : PySem.W.Frag}
/-! ### subscripts, slices -/
theorem atI_len {α β : Type} {xs : List α} {ys : List β} {i : Int} {y : β} (h : xs.length = ys.length) (hy : atI ys i = some y) : ∃ j : Nat, ys[j]? = some y ∧ ∀ x, xs[j]? = some x → atI xs i = some x := by
  unfold atI at hy ⊢
  rw [h]
  cases e : ixN ys.length i with
  | none => rw [e] at hy; exact nomatch hy
  | some j =>
    rw [e] at hy
    exact ⟨j, hy, fun x hx => hx⟩
theorem Reps.at {p : Option Addr} {F : Hp} {vs : List V} {ds : List Dat} {i : Int} {d : Dat} (r : Reps K p F vs ds) (h : atI ds i = some d) : ∃ v, atI vs i = some v ∧ Rep K p F v d := by
  obtain ⟨j, h1, h2⟩ := atI_len r.length h
  obtain ⟨v, h3, h4⟩ := r.getD h1
  exact ⟨v, h2 v h3, h4⟩
def ixD (a : Dat) (i : Int) (Q : Dat → Prop) : Prop :=
  match a with
  | .tup l => ∃ d, atI l i = some d ∧ Q d
  | .lst l => ∃ d, atI l i = some d ∧ Q d
  | .fz l => ∃ d, atI l i = some d ∧ Q d
  | .str l => l.length ≤ 1000000 ∧ ∃ c, atI l i = some c ∧ Q (.str [c])
  | .pot => if i = 0 then ∀ x, 0 ≤ x → Q (.int x) else if i = 1 then ∀ x, 0 ≤ x → x < 2305843009213693952 → Q (.int x) else i = 2 ∧ ∀ x, 0 ≤ x → x ≤ 1000000 → Q (.int x)
  | _ => False
def aIx : OpD := fun a b Q => asI b fun i => ixD a i Q
instance : OV K (L2.rIx K) aIx := ⟨fun {p H0 F0 F H σ S T QD Q' x y a b} ok ra rb hf k' => by
  have e := ok.hp.fh
  have k : ∀ v d, Rep K p F v d → QD d → Q' v H := fun v d r q => k' v F H d ok (Ex.refl F) r q
  obtain ⟨i, rfl, f1⟩ := asI_of hf
  rw [rb.int_of]
  cases a with
  | tup l =>
    obtain ⟨d, h1, h2⟩ : ∃ d, atI l i = some d ∧ QD d := f1
    obtain ⟨a, vs, rfl, g1, g2⟩ := ra.tup_of
    obtain ⟨v, g3, g4⟩ := g2.at h1
    exact .inr (.inl ⟨a, vs, i, v, rfl, rfl, ex_t e g1, g3, k _ _ g4 h2⟩)
  | lst l =>
    obtain ⟨d, h1, h2⟩ : ∃ d, atI l i = some d ∧ QD d := f1
    obtain ⟨a, vs, rfl, g1, g2⟩ := ra.lst_of
    obtain ⟨v, g3, g4⟩ := g2.at h1
    exact .inl ⟨a, vs, i, v, rfl, rfl, .of (e _ _ g1), g3, k _ _ g4 h2⟩
  | fz l =>
    obtain ⟨d, h1, h2⟩ : ∃ d, atI l i = some d ∧ QD d := f1
    obtain ⟨a, vs, rfl, g1, g2⟩ := ra.fz_of
    obtain ⟨v, g3, g4⟩ := g2.at h1
    exact .inl ⟨a, vs, i, v, rfl, rfl, ex_l e g1, g3, k _ _ g4 h2⟩
  | str l =>
    obtain ⟨h0, c, h1, h2⟩ : l.length ≤ 1000000 ∧ ∃ c, atI l i = some c ∧ QD (.str [c]) := f1
    rw [ra.str_of]
    exact .inr (.inr ⟨_, i, c, rfl, rfl, line_of (by rw [str_len]; exact h0), by simpa using h1, k _ _ (.strL [c]) h2⟩)
  | pot =>
    have f2 : if i = 0 then ∀ x, 0 ≤ x → QD (.int x) else if i = 1 then ∀ x, 0 ≤ x → x < 2305843009213693952 → QD (.int x) else i = 2 ∧ ∀ x, 0 ≤ x → x ≤ 1000000 → QD (.int x) := f1
    cases ra with
    | @pot a hp =>
      obtain ⟨_, _, x, y, z, g1, g2, g3, g4, g5, g6, g7⟩ := ok.hp.pt a hp
      by_cases i0 : i = 0
      · rw [if_pos i0] at f2
        subst i0
        exact .inl ⟨a, _, 0, .int x, rfl, rfl, .of g1, rfl, k _ _ (.int _) (f2 x g2)⟩
      · rw [if_neg i0] at f2
        by_cases i1 : i = 1
        · rw [if_pos i1] at f2
          subst i1
          exact .inl ⟨a, _, 1, .int y, rfl, rfl, .of g1, rfl, k _ _ (.int _) (f2 y g3 g4)⟩
        · rw [if_neg i1] at f2
          obtain ⟨i2, f2⟩ := f2
          subst i2
          exact .inl ⟨a, _, 2, .int z, rfl, rfl, .of g1, rfl, k _ _ (.int _) (f2 z g5 (by omega))⟩
  | _ => exact (show False from f1).elim⟩
def cutN {α : Type} (l : List α) (lo hi : Option Int) : List α := (l.drop (HT.sIx l.length 0 lo)).take (HT.sIx l.length l.length hi - HT.sIx l.length 0 lo)
def rCutG (K : PySem.W.Frag) : V → Option Int → Option Int → Hp → VK → Prop := fun x lo hi H Q => rSlS x lo hi H Q ∨ (rSlL K x lo hi H Q ∨ rSlA K x lo hi H Q)
theorem sl_G {X : Cx} : SlR X (rCutG X.K) := sl_str.or (sl_list.or sl_tupA)
def cutDd (a : Dat) (lo hi : Option Int) (Q : Dat → Prop) : Prop :=
  match a with
  | .str l => l.length ≤ 1000000 ∧ Q (.str (cutN l lo hi))
  | .lst l => Q (.lst (cutN l lo hi))
  | .fz l => Q (.lst (cutN l lo hi))
  | .tup l => Q (.tup (cutN l lo hi))
  | _ => False
theorem cut_len {vs : List V} {ds : List Dat} {p : Option Addr} {F : Hp} (r : Reps K p F vs ds) (lo hi : Option Int) : Reps K p F (cutV vs lo hi) (cutN ds lo hi) := by
  unfold cutV cutN
  rw [r.length]
  exact (r.drop _).take _
theorem cut_whole {α : Type} {l : List α} {lo hi : Option Int} (h : HT.sIx l.length 0 lo = 0 ∧ HT.sIx l.length l.length hi = l.length) : cutN l lo hi = l := by
  unfold cutN
  rw [h.1, h.2]
  simp
theorem cutS_eq (l : List Nat) (lo hi : Option Int) : cutS ⟨l.toArray⟩ lo hi = ⟨(cutN l lo hi).toArray⟩ := by
  unfold cutS cutN
  rw [str_len]
instance : CT K (rCutG K) cutDd := ⟨fun {p H0 F0 F H σ S T QD Q' x a lo hi} ok ra hf k => by
  cases a with
  | str l =>
    rw [ra.str_of]
    exact .inl ⟨_, rfl, line_of (by rw [str_len]; exact hf.1), by rw [cutS_eq]; exact k _ F H _ ok (Ex.refl F) (.strL _) hf.2⟩
  | lst l =>
    obtain ⟨a, vs, rfl, g1, g2⟩ := ra.lst_of
    refine .inr (.inl ⟨a, vs, rfl, .of (ok.hp.fh _ _ g1), fun q hq => ?_⟩)
    have e := Ex.new (o := HO.lst (cutV vs lo hi)) (ok.hp.freeF hq)
    exact k _ _ _ _ (ok.lay hq) e (.lst upd_same (cut_len (g2.mono e) lo hi)) hf
  | fz l =>
    obtain ⟨a, vs, rfl, g1, g2⟩ := ra.fz_of
    refine .inr (.inl ⟨a, vs, rfl, ex_l ok.hp.fh g1, fun q hq => ?_⟩)
    have e := Ex.new (o := HO.lst (cutV vs lo hi)) (ok.hp.freeF hq)
    exact k _ _ _ _ (ok.lay hq) e (.lst upd_same (cut_len (g2.mono e) lo hi)) hf
  | tup l =>
    obtain ⟨a, vs, rfl, g1, g2⟩ := ra.tup_of
    refine .inr (.inr ⟨a, vs, rfl, ex_t ok.hp.fh g1, fun hw => ?_, fun hw q hq => ?_⟩)
    · rw [g2.length] at hw
      have hf2 : QD (.tup (cutN l lo hi)) := hf
      rw [cut_whole hw] at hf2
      exact k _ F H _ ok (Ex.refl F) (.tup g1 g2) hf2
    · have e := Ex.new (o := HO.tup (cutV vs lo hi)) (ok.hp.freeF hq)
      exact k _ _ _ _ (ok.lay hq) e (.tup (.inl (.inl upd_same)) (cut_len (g2.mono e) lo hi)) hf
  | _ => exact (show False from hf).elim⟩
/-! ### list(..), tuple(..) -/
def rListQ (K : PySem.W.Frag) : List V → Hp → VK → Prop := fun xs H Q => ∃ p ys, xs = [.ref p] ∧ (SqL K H p ys ∨ SqT K H p ys) ∧ ∀ l, H l = none → Q (.ref l) (upd H l (.lst ys))
def rListG (K : PySem.W.Frag) : List V → Hp → VK → Prop := fun xs H Q => rListS xs H Q ∨ rListQ K xs H Q
theorem call_listG {X : Cx} (hc : X.calm = true) : CallR X (.type "list") (rListG X.K) := by
  intro pins s σ H xs us Q I r h
  rcases h with h | h
  · exact call_listS hc pins s σ H xs us Q I r h
  · exact call_list_of pins s σ H xs us Q I r h
def itemsQ (a : Dat) (Q : List Dat → Prop) : Prop :=
  match a with
  | .str l => l.length ≤ 1000000 ∧ Q (signsD l)
  | .tup l => Q l
  | .lst l => Q l
  | .fz l => Q l
  | _ => False
def aListOf (ds : List Dat) (Q : List Dat → Prop) : Prop := as1 ds fun a => itemsQ a Q
theorem reps_signs {p : Option Addr} {F : Hp} : ∀ l : List Nat, Reps K p F (l.map fun c => V.str ⟨#[c]⟩) (signsD l)
  | [] => .nil
  | c :: l => .cons (.strL [c]) (reps_signs l)
instance : BF K (rListG K) aListOf := ⟨fun {p H0 F0 F H σ S T QD Q' vs ds} ok r hf k => by
  obtain ⟨a, rfl, f1⟩ := as1_of hf
  obtain ⟨v, rfl, rv⟩ := r.one_of
  cases a with
  | str l =>
    rw [rv.str_of]
    refine .inl ⟨_, rfl, line_of (by rw [str_len]; exact f1.1), fun q hq => ?_⟩
    exact k q _ F _ _ (ok.layT hq) (Ex.refl F) (by rw [show (Str.mk l.toArray).cps.toList = l from List.toList_toArray]; exact reps_signs l) f1.2
  | tup l =>
    obtain ⟨a, ws, rfl, g1, g2⟩ := rv.tup_of
    exact .inr ⟨a, ws, rfl, .inr (ex_t ok.hp.fh g1), fun q hq => k q ws F _ _ (ok.layT hq) (Ex.refl F) g2 f1⟩
  | lst l =>
    obtain ⟨a, ws, rfl, g1, g2⟩ := rv.lst_of
    exact .inr ⟨a, ws, rfl, .inl (.of (ok.hp.fh _ _ g1)), fun q hq => k q ws F _ _ (ok.layT hq) (Ex.refl F) g2 f1⟩
  | fz l =>
    obtain ⟨a, ws, rfl, g1, g2⟩ := rv.fz_of
    exact .inr ⟨a, ws, rfl, .inl (ex_l ok.hp.fh g1), fun q hq => k q ws F _ _ (ok.layT hq) (Ex.refl F) g2 f1⟩
  | _ => exact (show False from f1).elim⟩
def rTupG (K : PySem.W.Frag) : List V → Hp → VK → Prop := fun xs H Q => ∃ p ys, xs = [.ref p] ∧ ((SqL K H p ys ∧ ∀ l, H l = none → Q (.ref l) (upd H l (.tup ys))) ∨ (SqT K H p ys ∧ Q (.ref p) H))
theorem call_tupG {X : Cx} : CallR X (.type "tuple") (rTupG X.K) := call_tuple_of
def aTupOf (ds : List Dat) (Q : Dat → Prop) : Prop := as1 ds fun a =>
  match a with
  | .lst l => Q (.tup l)
  | .tup l => Q (.tup l)
  | _ => False
instance : BV K (rTupG K) aTupOf := ⟨fun {p H0 F0 F H σ S T QD Q' vs ds} ok r hf k => by
  obtain ⟨a, rfl, f1⟩ := as1_of hf
  obtain ⟨v, rfl, rv⟩ := r.one_of
  cases a with
  | tup l =>
    obtain ⟨a, ws, rfl, g1, g2⟩ := rv.tup_of
    exact ⟨a, ws, rfl, .inr ⟨ex_t ok.hp.fh g1, k _ F H _ ok (Ex.refl F) (.tup g1 g2) f1⟩⟩
  | lst l =>
    obtain ⟨a, ws, rfl, g1, g2⟩ := rv.lst_of
    refine ⟨a, ws, rfl, .inl ⟨.of (ok.hp.fh _ _ g1), fun q hq => ?_⟩⟩
    have e := Ex.new (o := HO.tup ws) (ok.hp.freeF hq)
    exact k _ _ _ _ (ok.lay hq) e (.tup (.inl (.inl upd_same)) (g2.mono e)) f1
  | _ => exact (show False from f1).elim⟩
/-- list(range(n)) -/
def wListRg (we : WE) : WF := fun S Q => we S fun d S1 => asI d fun n => (0 ≤ n ∧ n ≤ 1000000) ∧ Q (intsD 0 n.toNat) S1
theorem reps_rg {p : Option Addr} {F : Hp} {lo : Int} (n : Nat) : Reps K p F ((List.range n).map fun (i : Nat) => V.int (lo + (i : Int))) (intsD lo n) := by
  unfold intsD
  induction List.range n with
  | nil => exact .nil
  | cons i l ih => exact .cons (.int _) ih
instance {ta : TE} {wa : WE} [a : EV K ta wa] : EF K (tLstRg (tRg1 ta)) (wListRg wa) := ⟨fun {p H0 F0 F H σ S T Q Q'} ok hw k =>
  a.run ok hw fun v F1 H1 S1 d ok1 e1 r1 q1 => by
    obtain ⟨n, rfl, h1, h2⟩ := asI_of q1
    refine ⟨n, r1.int_of, RgOk.of_le (by omega) (by omega) (by omega) (by omega), fun q hq => k q _ F1 _ _ _ (ok1.layT hq) e1 ?_ h2⟩
    unfold rgV
    rw [Int.sub_zero]
    exact reps_rg _⟩
/-! ### texts -/
def rJoin (K : PySem.W.Frag) : V → List V → Hp → VK → Prop := fun x xs H Q => ∃ a p, ∃ ys : List Str, x = .str a ∧ xs = [.ref p] ∧ (SqL K H p (ys.map V.str) ∨ SqT K H p (ys.map V.str)) ∧
    (ys.map (·.length)).sum + ys.length * a.length ≤ 16777216 ∧ Q (.str (Txt.join a ys)) H
theorem mt_joinG {X : Cx} : MtR X "str.join" (rJoin X.K) := mt_join
def isStrs : List Dat → Option (List (List Nat))
  | [] => some []
  | .str i :: ds => (isStrs ds).map (i :: ·)
  | _ => none
theorem isStrs_map : ∀ l : List (List Nat), isStrs (l.map Dat.str) = some l
  | [] => rfl
  | i :: l => by
    show (isStrs (l.map Dat.str)).map (i :: ·) = _
    rw [isStrs_map l]; rfl
theorem Reps.strs_of {p : Option Addr} {F : Hp} : ∀ {vs : List V} {ds : List Dat} {ns : List (List Nat)}, Reps K p F vs ds → isStrs ds = some ns → vs = (ns.map fun l => Str.mk l.toArray).map V.str
  | _, _, _, .nil, h => by cases h; rfl
  | _, d :: ds, _, .cons r1 r2, h => by
    cases d with
    | str i =>
      obtain ⟨ms, h1, rfl⟩ := Option.map_eq_some_iff.mp (show (isStrs ds).map (i :: ·) = some _ from h)
      rw [r1.str_of, Reps.strs_of r2 h1]; rfl
    | _ => exact nomatch h
def joinN (s : List Nat) : List (List Nat) → List Nat
  | [] => []
  | [a] => a
  | a :: b :: r => a ++ (s ++ joinN s (b :: r))
theorem join_eq (s : List Nat) (ys : List (List Nat)) : (Txt.join ⟨s.toArray⟩ (ys.map fun l => Str.mk l.toArray)).cps.toList = joinN s ys := by
  rw [TL.join_eq]
  have h := TL.tl_join ⟨s.toArray⟩ (ys.map fun l => Str.mk l.toArray)
  refine h.trans ?_
  rw [List.map_map]
  have e : (TL.tl ∘ fun l : List Nat => Str.mk l.toArray) = id := by funext l; simp [TL.tl]
  rw [e, List.map_id]
  have go : ∀ ys : List (List Nat), TL.joinL s ys = joinN s ys := by
    intro ys
    induction ys with
    | nil => rfl
    | cons a r ih =>
      cases r with
      | nil => rfl
      | cons b r =>
        show a ++ (s ++ TL.joinL s (b :: r)) = a ++ (s ++ joinN s (b :: r))
        rw [ih]
  exact go ys
def joinD (a : Dat) (ds : List Dat) (Q : Dat → Prop) : Prop :=
  match a with
  | .str s => as1 ds fun b => itemsD b fun l => ∃ ys, isStrs l = some ys ∧ ((ys.map (·.length)).sum + ys.length * s.length ≤ 1000000) ∧ Q (.str (joinN s ys))
  | _ => False
theorem itemsD_of {a : Dat} {Q : List Dat → Prop} (h : itemsD a Q) : ∃ l, (a = .lst l ∨ a = .tup l) ∧ Q l := by
  cases a with
  | lst l => exact ⟨l, .inl rfl, h⟩
  | tup l => exact ⟨l, .inr rfl, h⟩
  | _ => exact False.elim h
instance : MV K "str" (rJoin K) tStr joinD where
  ty := fun {p F H x a} e ra hf => by
    cases a with
    | str l => rw [ra.str_of]; exact rfl
    | _ => exact (show False from hf).elim
  run := fun {p H0 F0 F H σ S T QD Q' x a vs ds} ok ra r hf k => by
    cases a with
    | str s =>
      obtain ⟨b, rfl, f1⟩ := as1_of (show as1 ds _ from hf)
      obtain ⟨l, hl, ys, h1, h2, h3⟩ := itemsD_of f1
      obtain ⟨v, rfl, rv⟩ := r.one_of
      rw [ra.str_of]
      have hq : Q' (.str (Txt.join ⟨s.toArray⟩ (ys.map fun l => Str.mk l.toArray))) H := by
        refine k _ F H _ ok (Ex.refl F) ?_ h3
        rw [← join_eq]
        exact .str _
      have hz : ((ys.map fun l => Str.mk l.toArray).map (·.length)).sum + (ys.map fun l => Str.mk l.toArray).length * (Str.mk s.toArray).length ≤ 16777216 := by
        rw [List.map_map, List.length_map, str_len]
        have e : ((fun z : Str => z.length) ∘ fun l : List Nat => Str.mk l.toArray) = fun l => l.length := by
          funext l; exact str_len l
        rw [e]
        omega
      rcases hl with rfl | rfl
      · obtain ⟨b, ws, rfl, g1, g2⟩ := rv.lst_of
        have g3 := g2.strs_of h1
        subst g3
        exact ⟨_, b, _, rfl, rfl, .inl (.of (ok.hp.fh _ _ g1)), hz, hq⟩
      · obtain ⟨b, ws, rfl, g1, g2⟩ := rv.tup_of
        have g3 := g2.strs_of h1
        subst g3
        exact ⟨_, b, _, rfl, rfl, .inr (ex_t ok.hp.fh g1), hz, hq⟩
    | _ => exact (show False from hf).elim
/-- s.index(t), found -/
def rIdxS : V → List V → Hp → VK → Prop := fun x xs H Q => ∃ (a b : Str) (k : Nat), x = .str a ∧ xs = [.str b] ∧ Txt.index0 a b = some k ∧ Q (.int (k : Nat)) H
theorem mt_idxS {X : Cx} (hc : X.calm = true) : MtR X "str.index" rIdxS := fun pins s σ H x xs v us Q I rx rs h => by
  obtain ⟨a, b, k, e1, e2, e3, q⟩ := h
  refine mt_indexX (W := fun _ _ _ _ => False) hc takes0 pins s σ H x xs v us Q I rx rs ⟨a, b, e1, e2, fun j hj => ?_, fun hn => ?_⟩
  · rw [e3] at hj
    cases hj
    exact q
  · rw [e3] at hn
    cases hn
def idxS (a : Dat) (ds : List Dat) (Q : Dat → Prop) : Prop :=
  match a with
  | .str s => as1 ds fun b => match b with
    | .str t => ∃ k, Txt.index0 ⟨s.toArray⟩ ⟨t.toArray⟩ = some k ∧ Q (.int (k : Int))
    | _ => False
  | _ => False
instance : MV K "str" rIdxS tStr idxS where
  ty := fun {p F H x a} e ra hf => by
    cases a with
    | str l => rw [ra.str_of]; exact rfl
    | _ => exact (show False from hf).elim
  run := fun {p H0 F0 F H σ S T QD Q' x a vs ds} ok ra r hf k => by
    cases a with
    | str s =>
      obtain ⟨b, rfl, f1⟩ := as1_of (show as1 ds _ from hf)
      obtain ⟨v, rfl, rv⟩ := r.one_of
      cases b with
      | str t =>
        obtain ⟨j, h1, h2⟩ : ∃ k, Txt.index0 ⟨s.toArray⟩ ⟨t.toArray⟩ = some k ∧ QD (.int (k : Int)) := f1
        rw [ra.str_of, rv.str_of]
        exact ⟨_, _, j, rfl, rfl, h1, k _ F H _ ok (Ex.refl F) (.int _) h2⟩
      | _ => exact (show False from f1).elim
    | _ => exact (show False from hf).elim
/-! ### whatever is walked: a list, a tuple, a text -/
def iAny (K : PySem.W.Frag) (tl : TE) : TI := fun σ H R => tl σ H fun x H1 =>
  (∃ a, x = .ref a ∧ (∃ xs, SqL K H1 a xs) ∧ R (Itl K a) H1) ∨ ((∃ a, x = .ref a ∧ (∃ xs, SqT K H1 a xs) ∧ R (Itt K a) H1) ∨ ∃ z, x = .str z ∧ R (Its z) H1)
theorem pi_any {X : Cx} {tg l : Expr} {tl : TE} (hl : PE X l tl) : PI X tg l (iAny X.K tl) := by
  refine ⟨fun pn s0 st H0 R I0 hw => ?_⟩
  refine thn (hl.run pn s0 st H0 _ I0 hw) fun val s2 hv => ?_
  obtain ⟨x, H2, I2, rx, hx⟩ := hv
  have old : ∀ (b : Addr) (o : Obj) (oo : Obj), s2.heap.get? b = some o → (s2.heap.push oo).get? b = some o := fun b o oo e => Heap.get?_push_of_some _ e
  have only : ∀ b, b ∈ [s2.heap.objs.size] → FpOk X pn H2 b := fun b hb => by
    have hbs : b = s2.heap.objs.size := by simpa using hb
    rw [hbs]
    exact I2.fpOk (Nat.le_refl _) (I2.hok.fresh (Nat.le_refl _))
  rcases hx with ⟨a, rfl, ⟨xs, hq⟩, hR⟩ | ⟨a, rfl, ⟨xs, hq⟩, hR⟩ | ⟨z, rfl, hR⟩
  · cases rx
    obtain ⟨ls, _, pl, _⟩ := I2.list hq
    exact wpAny_pyIter_list pl.isList ⟨_, [s2.heap.objs.size], _, _, H2, rfl, I2.kept (t' := s2.toks) fun b o e => old b o _ e, turn_list a _, ⟨_, Heap.get?_push_size _ rfl, rfl, rfl⟩, only, hR⟩
  · cases rx
    obtain ⟨ls, _, pl, _⟩ := I2.tuple hq
    exact wpAny_pyIter_tuple (show s2.heap.IsTuple a ls.toArray from pl) ⟨_, [s2.heap.objs.size], _, _, H2, rfl, I2.kept (t' := s2.toks) fun b o e => old b o _ e, turn_tuple a _, ⟨_, Heap.get?_push_size _ rfl, rfl, rfl⟩, only, hR⟩
  · obtain ⟨tk0, rfl⟩ := rx
    cases hasc : z.cps.all (· < 128) with
    | true => exact wpAny_pyIter_ascii hasc (pi_one (tk := s2.toks) I2 _ (turn_str _ z tk0 "str_ascii_iterator" (.inl rfl)) ⟨_, Heap.get?_push_size _ rfl, rfl, rfl⟩ hR)
    | false => exact wpAny_pyIter_wide hasc (pi_one (tk := s2.toks) I2 _ (turn_str _ z tk0 "str_iterator" (.inr rfl)) ⟨_, Heap.get?_push_size _ rfl, rfl, rfl⟩ hR)
def wAnyIt (we : WE) : WF := fun S Q => we S fun d S1 =>
  match d with
  | .lst l => Q l S1
  | .fz l => Q l S1
  | .tup l => Q l S1
  | .str l => Q (signsD l) S1
  | _ => False
theorem itl_ok {p : Option Addr} {F : Hp} {a : Addr} {vs : List V} {l : List Dat} (h1 : SqL K F a vs) (h2 : Reps K p F vs l) : ItOk K p F (Itl K a) l := fun F' H' e e' => by
  have sa : SqL K H' a vs := ex_l e' (ex_l e h1)
  refine ⟨fun i d hd => ?_, fun i hi => ⟨vs, sa, by rw [h2.length]; exact hi⟩⟩
  obtain ⟨v, hv, rv⟩ := h2.getD hd
  refine ⟨⟨vs, v, sa, hv⟩, fun x H'' hy => .inl ⟨hy.1, ?_⟩⟩
  have q := hy.2 vs sa
  rw [hv] at q
  cases q
  exact rv.mono e
theorem itt_ok {p : Option Addr} {F : Hp} {a : Addr} {vs : List V} {l : List Dat} (h1 : SqT K F a vs) (h2 : Reps K p F vs l) : ItOk K p F (Itt K a) l := fun F' H' e e' => by
  have sa : SqT K H' a vs := ex_t e' (ex_t e h1)
  refine ⟨fun i d hd => ?_, fun i hi => ⟨vs, sa, by rw [h2.length]; exact hi⟩⟩
  obtain ⟨v, hv, rv⟩ := h2.getD hd
  refine ⟨⟨vs, v, sa, hv⟩, fun x H'' hy => .inl ⟨hy.1, ?_⟩⟩
  have q := hy.2 vs sa
  rw [hv] at q
  cases q
  exact rv.mono e
theorem its_ok {p : Option Addr} {F : Hp} (z : List Nat) : ItOk K p F (Its ⟨z.toArray⟩) (signsD z) := fun F' H' e e' => by
  refine ⟨fun i d hd => ?_, fun i hi => ?_⟩
  · unfold signsD at hd
    rw [List.getElem?_map] at hd
    obtain ⟨c, hc, rfl⟩ := Option.map_eq_some_iff.mp hd
    have hc' : z.toArray[i]? = some c := by simpa using hc
    refine ⟨(Array.getElem?_eq_some_iff.mp hc').1, fun x H'' hy => ?_⟩
    obtain ⟨h1, c2, h2, h3⟩ := hy
    rw [hc'] at h2
    cases h2
    exact .inl ⟨h1, by rw [h3]; exact .strL _⟩
  · show z.toArray.size ≤ i
    unfold signsD at hi
    simpa using hi
instance iv_any {te : TE} {we : WE} [a : EV K te we] : IV K (iAny K te) (wAnyIt we) := ⟨fun {p H0 F0 F H σ S T Q R} ok hw k =>
  a.run ok hw fun v F1 H1 S1 d ok1 e1 r1 q1 => by
    cases d with
    | tup l =>
      obtain ⟨a, vs, rfl, h1, h2⟩ := r1.tup_of
      exact .inr (.inl ⟨a, rfl, ⟨vs, ex_t ok1.hp.fh h1⟩, k _ F1 H1 S1 l ok1 e1 (itt_ok h1 h2) q1⟩)
    | lst l =>
      obtain ⟨a, vs, rfl, h1, h2⟩ := r1.lst_of
      exact .inl ⟨a, rfl, ⟨vs, .of (ok1.hp.fh _ _ h1)⟩, k _ F1 H1 S1 l ok1 e1 (itl_ok (.of h1) h2) q1⟩
    | fz l =>
      obtain ⟨a, vs, rfl, h1, h2⟩ := r1.fz_of
      exact .inl ⟨a, rfl, ⟨vs, ex_l ok1.hp.fh h1⟩, k _ F1 H1 S1 l ok1 e1 (itl_ok h1 h2) q1⟩
    | str z =>
      rw [r1.str_of]
      exact .inr (.inr ⟨_, rfl, k _ F1 H1 S1 _ ok1 e1 (its_ok z) q1⟩)
    | _ => exact q1.elim⟩
/-! ### zip, enumerate -/
def zipD : List Dat → List Dat → List Dat
  | a :: l, b :: m => .tup [a, b] :: zipD l m
  | _, _ => []
theorem zipD_get : ∀ {l m : List Dat} {i : Nat} {d : Dat}, (zipD l m)[i]? = some d → ∃ a b, l[i]? = some a ∧ m[i]? = some b ∧ d = .tup [a, b]
  | [], _, _, _, h => by simp [zipD] at h
  | _ :: _, [], _, _, h => by simp [zipD] at h
  | a :: l, b :: m, 0, d, h => by
    simp [zipD] at h
    exact ⟨a, b, rfl, rfl, h.symm⟩
  | a :: l, b :: m, i + 1, d, h => by
    have h' : (zipD l m)[i]? = some d := by simpa [zipD] using h
    obtain ⟨x, y, h1, h2, h3⟩ := zipD_get h'
    exact ⟨x, y, by simpa using h1, by simpa using h2, h3⟩
theorem zipD_len : ∀ (l m : List Dat), (zipD l m).length = min l.length m.length
  | [], _ => by simp [zipD]
  | _ :: _, [] => by simp [zipD]
  | a :: l, b :: m => by
    show (zipD l m).length + 1 = min (l.length + 1) (m.length + 1)
    rw [zipD_len l m]
    omega
def wZip (wa : WF) : WF := fun S Q => wa S fun ds S1 => as2 ds fun a b =>
  match a with
  | .tup l => (match b with | .tup m => Q (zipD l m) S1 | _ => False)
  | .lst l => (match b with | .lst m => Q (zipD l m) S1 | _ => False)
  | _ => False
theorem itz_l {p : Option Addr} {F : Hp} {a b : Addr} {vs ws : List V} {l m : List Dat} (ha : F a = some (.lst vs)) (hb : F b = some (.lst ws)) (r1 : Reps K p F vs l) (r2 : Reps K p F ws m) : ItOk K p F (Itz K a b) (zipD l m) := fun F' H' e e' => by
  have sa : SqL K H' a vs := .of (e' _ _ (e _ _ ha))
  have sb : SqL K H' b ws := .of (e' _ _ (e _ _ hb))
  refine ⟨fun i d hd => ?_, fun i hi => ⟨vs, ws, sa, sb, ?_⟩⟩
  · obtain ⟨x, y, h1, h2, rfl⟩ := zipD_get hd
    obtain ⟨v, h3, h4⟩ := r1.getD h1
    obtain ⟨u, h5, h6⟩ := r2.getD h2
    refine ⟨⟨vs, ws, v, u, sa, sb, h3, h5⟩, fun z H'' hy => ?_⟩
    obtain ⟨T, x1, x2, q1, q2, q3, q4, q5⟩ := hy
    have g1 := q4 vs sa
    have g2 := q5 ws sb
    rw [h3] at g1
    rw [h5] at g2
    cases g1
    cases g2
    exact .inr ⟨T, _, _, q2, q3, q1, rfl, .cons (h4.mono e) (.one (h6.mono e))⟩
  · rw [zipD_len] at hi
    rw [r1.length, r2.length]
    omega
theorem itz_t {p : Option Addr} {F : Hp} {a b : Addr} {vs ws : List V} {l m : List Dat} (ha : SqT K F a vs) (hb : SqT K F b ws) (r1 : Reps K p F vs l) (r2 : Reps K p F ws m) : ItOk K p F (ItzT K a b) (zipD l m) := fun F' H' e e' => by
  have sa : SqT K H' a vs := ex_t e' (ex_t e ha)
  have sb : SqT K H' b ws := ex_t e' (ex_t e hb)
  refine ⟨fun i d hd => ?_, fun i hi => ⟨vs, ws, sa, sb, ?_⟩⟩
  · obtain ⟨x, y, h1, h2, rfl⟩ := zipD_get hd
    obtain ⟨v, h3, h4⟩ := r1.getD h1
    obtain ⟨u, h5, h6⟩ := r2.getD h2
    refine ⟨⟨vs, ws, v, u, sa, sb, h3, h5⟩, fun z H'' hy => ?_⟩
    obtain ⟨T, x1, x2, q1, q2, q3, q4, q5⟩ := hy
    have g1 := q4 vs sa
    have g2 := q5 ws sb
    rw [h3] at g1
    rw [h5] at g2
    cases g1
    cases g2
    exact .inr ⟨T, _, _, q2, q3, q1, rfl, .cons (h4.mono e) (.one (h6.mono e))⟩
  · rw [zipD_len] at hi
    rw [r1.length, r2.length]
    omega
instance iv_zip {ta : TA} {wa : WF} [a : AV K ta wa] : IV K (iZipA K ta) (wZip wa) := ⟨fun {p H0 F0 F H σ S T Q R} ok hw k =>
  a.run ok hw fun vs F1 H1 S1 ds ok1 e1 r1 q1 => by
    obtain ⟨x, y, rfl, f1⟩ := as2_of q1
    obtain ⟨v, u, rfl, rv, ru⟩ := r1.two_of
    cases x with
    | tup l =>
      cases y with
      | tup m =>
        obtain ⟨a, xs, rfl, g1, g2⟩ := rv.tup_of
        obtain ⟨b, ys, rfl, h1, h2⟩ := ru.tup_of
        exact ⟨a, b, xs, ys, rfl, .inr ⟨ex_t ok1.hp.fh g1, ex_t ok1.hp.fh h1, k _ F1 H1 S1 _ ok1 e1 (itz_t g1 h1 g2 h2) f1⟩⟩
      | _ => exact (show False from f1).elim
    | lst l =>
      cases y with
      | lst m =>
        obtain ⟨a, xs, rfl, g1, g2⟩ := rv.lst_of
        obtain ⟨b, ys, rfl, h1, h2⟩ := ru.lst_of
        exact ⟨a, b, xs, ys, rfl, .inl ⟨.of (ok1.hp.fh _ _ g1), .of (ok1.hp.fh _ _ h1), k _ F1 H1 S1 _ ok1 e1 (itz_l g1 h1 g2 h2) f1⟩⟩
      | _ => exact (show False from f1).elim
    | _ => exact (show False from f1).elim⟩
end
end Dl
-- part Du
set_option Elab.async false
set_option linter.all false
set_option maxRecDepth 100000
set_option maxHeartbeats 4000000
namespace Dl
open PySem PySem.Spec PyProof.Rows L2 Evl RZ

section
variable {K : PySem.W.Frag} {p : Option Addr} {H0 F0 F H : Hp} {σ : L2.St} {S : Sx} {T : List (Addr × List V)}
/-- the draws' list is written -/
theorem Ok.setPot (h : Ok K p H0 F0 F H σ S T) {a : Addr} (hp : p = some a) {n' : Nat} {vs : List V} (hq : PotAt (upd H a (.lst vs)) a n') : Ok K p H0 F0 F (upd H a (.lst vs)) σ ⟨S.sl, n'⟩ T := by
  obtain ⟨p1, p2, _⟩ := h.hp.pt a hp
  refine h.step (Ex.refl F) ⟨fun b o hb q => ?_, h.hp.f0, h.hp.fr, fun b o q => ?_, fun b hb => ?_⟩ fun b ws h1 h2 h3 _ => ⟨h2, ?_⟩
  · rw [upd_ne (fun e => hb (by rw [hp, e]))]
    exact h.hp.e0 b o hb q
  · rw [upd_ne (ne_of_none q p1)]
    exact h.hp.fh b o q
  · have : b = a := by rw [hp] at hb; exact (Option.some.inj hb).symm
    subst this
    exact ⟨p1, p2, hq⟩
  · have hb : b ≠ a := fun e => by subst e; exact p2 h1
    rw [upd_ne hb]
    exact h3
/-- x[k] = e: the draws' list at 0, or a list of one's own -/
def setW (i : Nat) (k : Int) (d : Dat) (S : Sx) (Q : Sx → Prop) : Prop :=
  match S.sl[i]? with
  | some (.im .pot) => k = 0 ∧ asI d fun x => 0 ≤ x ∧ Q S
  | some (.ow l) => ∃ j, ixN l.length k = some j ∧ Q ⟨S.sl.set i (.ow (l.set j d)), S.n⟩
  | _ => False
def slotSet : Option Sl → Prop
  | some (.im _) => True
  | some (.ow _) => True
  | _ => False
def wSet (i : Nat) (we wk : WE) : WS := fun D S => we S fun d S1 => slotSet S1.sl[i]? ∧ wk S1 fun k S2 => asI k fun k => setW i k d S2 D.nx
theorem Reps.set {vs : List V} {ds : List Dat} {v : V} {d : Dat} (r : Reps K p F vs ds) (q : Rep K p F v d) : ∀ j : Nat, Reps K p F (vs.set j v) (ds.set j d) := fun j => by
  induction j generalizing vs ds with
  | zero =>
    cases r with
    | nil => exact .nil
    | cons r s => exact .cons q s
  | succ j ih =>
    cases r with
    | nil => exact .nil
    | cons r s => exact .cons r (ih s)
/-- the target's name is read ahead of the index -/
instance sv_set {i : Nat} {te tk : TE} {we wk : WE} [a : EV K te we] [b : EV K tk wk] : SV K (tAsg te (gSub (tVar i) tk rSetL)) (wSet i we wk) := ⟨fun {p H0 F0 F H σ S D D'} ok hw c => by
  refine a.run ok hw fun v F1 H1 S1 d ok1 e1 r1 q1 => ?_
  obtain ⟨q0, q1⟩ := q1
  have hv : ∃ u, σ[i]? = some (some u) := by
    cases hs : S1.sl[i]? with
    | none => rw [hs] at q0; exact q0.elim
    | some s =>
      have := ok1.sl i s hs
      cases s with
      | un => rw [hs] at q0; exact q0.elim
      | im e => obtain ⟨u, h1, _⟩ := this; exact ⟨u, h1⟩
      | ow l => obtain ⟨u, _, h1, _⟩ := this; exact ⟨_, h1⟩
  obtain ⟨u, hu⟩ := hv
  refine ⟨u, hu, b.run ok1 q1 fun kv F2 H2 S2 kd ok2 e2 r2 q2 => ?_⟩
  obtain ⟨k, rfl, q3⟩ := asI_of q2
  have hk := r2.int_of
  unfold setW at q3
  split at q3
  · rename_i hs
    obtain ⟨rfl, q4⟩ := q3
    obtain ⟨x, rfl, hx, q5⟩ := asI_of q4
    obtain ⟨u2, h1, h2⟩ := ok2.sl i _ hs
    rw [hu] at h1
    cases h1
    cases h2 with
    | @pot b hp =>
      obtain ⟨_, _, x0, y, z, g1, g2, g3, g4, g5, g6, g7⟩ := ok2.hp.pt b hp
      refine ⟨b, _, 0, 0, rfl, hk, g1, rfl, c.nx _ _ _ _ (ok2.setPot (n' := S2.n) hp ⟨x, y, z, ?_, hx, g3, g4, g5, g6, g7⟩) q5⟩
      rw [upd_same, r1.int_of]
      rfl
  · rename_i l hs
    obtain ⟨j, hj, q4⟩ := q3
    obtain ⟨b, vs, h1, h2, h3, h4⟩ := ok2.updS hs
    rw [hu] at h1
    cases h1
    exact ⟨b, vs, k, j, rfl, hk, h2, by rw [h3.length]; exact hj, c.nx _ _ _ _ (h4 _ _ (h3.set (r1.mono e2) j)) q4⟩
  · exact q3.elim⟩
/-- the counter goes up -/
def tInc (K : PySem.W.Frag) (i : Nat) : TS := tAsg (tOp (rAddG K) (tOp (L2.rIx K) (tVar i) (tC (.int 2))) (tC (.int 1))) (gSub (tVar i) (tC (.int 2)) rSetL)
def wInc (i : Nat) : WS := fun D S =>
  match S.sl[i]? with
  | some (.im .pot) => S.n + 1 ≤ 1000000 ∧ D.nx ⟨S.sl, S.n + 1⟩
  | _ => False
instance sv_inc {i : Nat} : SV K (tInc K i) (wInc i) := ⟨fun {p H0 F0 F H σ S D D'} ok hw c => by
  unfold wInc at hw
  split at hw
  · rename_i hs
    obtain ⟨u, h1, h2⟩ := ok.sl i _ hs
    cases h2 with
    | @pot b hp =>
      obtain ⟨_, _, x, y, z, g1, g2, g3, g4, g5, g6, g7⟩ := ok.hp.pt b hp
      refine ⟨_, h1, .inl ⟨b, _, 2, .int z, rfl, rfl, .of g1, rfl, .inl ⟨z, 1, rfl, rfl, _, h1, b, _, 2, 2, rfl, rfl, g1, rfl, c.nx _ _ _ _ (ok.setPot (n' := S.n + 1) hp ⟨x, y, z + 1, ?_, g2, g3, g4, by omega, by omega, hw.1⟩) hw.2⟩⟩⟩
      rw [upd_same]
      rfl
  · exact hw.elim⟩
/-- f(g(..)), g's list the draws of f -/
def tPot (K : PySem.W.Frag) (f : Fn) (g : FnF) (E E' : XK) (ta : TA) : TE := tCall (spF K f) [] E (tCons (tCall (spFF K g) [] E' ta) tNil)
def wPot (f : Fn) (g : FnF) (wa : WF) : WE := fun S Q => wCallF g wa S fun es S1 =>
  ∃ x y, es = [.int x, .int y, .int 0] ∧ 0 ≤ x ∧ 0 ≤ y ∧ y < 2305843009213693952 ∧ f [.pot] 0 fun d _ => asB d fun b => Q (.bl b) S1
instance ev_pot {f : Fn} {g : FnF} {E E' : XK} {ta : TA} {wa : WF} [a : AV K ta wa] : EV K (tPot K f g E E' ta) (wPot f g wa) := ⟨fun {p H0 F0 F H σ S T Q Q'} ok hw k => by
  refine (ef_call (K := K) (f := g) (E := E') (ta := ta)).run ok hw fun b vs F1 H1 S1 es ok1 e1 r1 q1 => ?_
  obtain ⟨x, y, rfl, h1, h2, h3, q2⟩ := q1
  obtain ⟨t1, t2, t3⟩ := ok1.topT
  have hvs := r1.ints_of (ns := [x, y, 0]) rfl
  subst hvs
  have st : HpOk (some b) H1 F1 F1 H1 0 := .start ok1.hp.fh fun c hc => by cases hc; exact ⟨t2, x, y, 0, t3, h1, h2, h3, by omega, by omega, by omega⟩
  refine ⟨some b, F1, [.pot], 0, _, st, .one (.pot rfl), q2, fun v F2 H2 d n2 g2 r2 q3 => ?_⟩
  obtain ⟨c, rfl, q4⟩ := asB_of q3
  have hF : ∀ c o, F2 c = some o → F1 c = some o ∨ H1 c = none := g2.fr
  have ok2 : Ok K p H0 F0 F2 H2 σ ⟨S1.sl, S1.n⟩ T := ok1.tail.step g2.f0 ⟨fun d o hd q => ?_, ok1.hp.f0.trans g2.f0, fun d o q => ?_, g2.fh, fun d hd => ?_⟩ fun d ws q1 q2 q3 q4 => ⟨?_, ?_⟩
  · exact k v F2 H2 _ _ ok2 (e1.trans g2.f0) (by rw [r2.bl_of]; exact .bl c) q4
  · exact g2.e0 d o (fun e => by cases e; rw [t1] at q; cases q) (ok1.hp.e0 d o hd q)
  · rcases hF d o q with q | q
    · exact ok1.hp.fr d o q
    · exact .inr (ok1.hp.free q)
  · obtain ⟨m1, m2, x', y', z', m3, m4⟩ := ok1.hp.pt d hd
    have hdb : d ≠ b := fun e => by subst e; exact m2 t1
    refine ⟨?_, m2, x', y', z', g2.e0 d _ (fun e => hdb (Option.some.inj e).symm) m3, m4⟩
    cases hq : F2 d with
    | none => rfl
    | some o =>
      rcases hF d o hq with q | q
      · rw [m1] at q; cases q
      · rw [m3] at q; cases q
  · cases hq : F2 d with
    | none => rfl
    | some o =>
      rcases hF d o hq with q | q
      · rw [q2] at q; cases q
      · rw [q3] at q; cases q
  · have hdb : d ≠ b := by
      rcases q4 with q4 | q4
      · exact ok1.topOwn q4
      · exact ok1.topNe q4
    exact g2.e0 d _ (fun e => hdb (Option.some.inj e).symm) q3⟩
end

/-! ### rules under the names by which the transformers know them -/
section
variable {X : Cx}
theorem ps_own {i : Nat} {x : Str} {e : Expr} {te : TE} {pos pos' : Pos} (hN : X.N.Nodup) (hi : X.N[i]? = some x) (hx : Loc X.env.scope x) (he : PE X e te) (hs : swapsWith e (some (.Name x pos')) pos.line X.env = pure false := by rfl) (hf : X.fn x = true ∨ X.env.scope.names.lookup x = some .local := by first | exact .inl rfl | exact .inr rfl | assumption) :
    PS X (.Assign [.Name x pos'] e pos) (tOwn te i) := ps_set hN hi hx he hs hf
theorem ps_ownLc {t : TE} {i : Nat} {st : Stmt} (h : PS X st (tAsg t (gName i))) : PS X st (tOwn t i) := h
theorem ps_app {i : Nat} {te : TE} {st : Stmt} (h : PS X st (tDrop (tBM X.K "list" rAppend (tVar i) (tCons te tNil)))) : PS X st (tApp X.K i te) := h
theorem ps_inc {i : Nat} {st : Stmt} (h : PS X st (tAsg (tOp (rAddG X.K) (tOp (L2.rIx X.K) (tVar i) (tC (.int 2))) (tC (.int 1))) (gSub (tVar i) (tC (.int 2)) rSetL))) : PS X st (tInc X.K i) := h
theorem ps_retO {i : Nat} {st : Stmt} (h : PS X st (tRet (tVar i))) : PS X st (tRetO i) := h
theorem ps_retF {t : TE} {st : Stmt} (h : PS X st (tRet t)) : PS X st (tRetF t) := h
theorem pe_pot {K : PySem.W.Frag} {f : Fn} {g : FnF} {E E' : XK} {ta : TA} {e : Expr} (h : PE X e (tCall (spF K f) [] E (tCons (tCall (spFF K g) [] E' ta) tNil))) : PE X e (tPot K f g E E' ta) := h
theorem fn_none {P : Program} {w : World} {K : PySem.W.Frag} {mg : Str → Option Value} {base : Heap} {CX : CXT} {k : Nat} {f : Addr} {fd : FuncData} {ps : List Str} {G : Fn} (h : ∀ ds n QD, ¬ G ds n QD) : FnOk P w K mg base CX k f fd ps (spF K G) :=
  ⟨fun vs H Q E z => by obtain ⟨_, _, ds, n, QD, _, _, g, _⟩ := z; exact (h ds n QD g).elim, fun A outer s H args us vs Q E _ _ _ _ z => by obtain ⟨_, _, ds, n, QD, _, _, g, _⟩ := z; exact (h ds n QD g).elim⟩
end

/-! ### a def keeps its promise -/
section
variable {P : Program} {w : World} {K : PySem.W.Frag} {mg : Str → Option Value} {base : Heap}
abbrev cxR (P : Program) (w : World) (K : PySem.W.Frag) (mg : Str → Option Value) (base : Heap) (N : List Str) (qual : Str) (scope : Scope) (f : Addr) (cd : Value) (A : Around) (outer : List Env) (s : Shared) (H : Hp) : Cx where
  prog := P
  w := w
  K := K
  mg := mg
  base := base
  A := A.deeper (envOfC qual scope s.heap.objs.size f cd)
  N := N
  s_0 := s
  H_0 := H
  env := envOfC qual scope s.heap.objs.size f cd
  outer := outer
  stack := envOfC qual scope s.heap.objs.size f cd :: outer
  ex := []
  calm := true
  fn := fun _ => true
  pn := []
  xe := fun _ _ => False
/-- the slots at the entry -/
def start0 (np : Nat) (ds : List Dat) (n : Nat) : Sx := ⟨ds.map Sl.im ++ List.replicate (np - ds.length) Sl.un, n⟩
def bodyW (np : Nat) (w : WS) : Fn := fun ds n QD => w { nx := fun S => QD .non S.n, rt := QD } (start0 np ds n)
def bodyF (np : Nat) (w : WS) : FnF := fun ds n QD => w { nx := fun _ => False, rt := fun _ _ => False, rf := QD } (start0 np ds n)
theorem ok_start {p : Option Addr} {F H : Hp} {n : Nat} {vs : List V} {ds : List Dat} {N : List Str} (h : HpOk p H F F H n) (r : Reps K p F vs ds) : Ok K p H F F H (L2.start N vs) (start0 N.length ds n) [] where
  hp := h
  len := by
    unfold L2.start start0
    rw [List.length_append, List.length_append, List.length_map, List.length_map, List.length_replicate, List.length_replicate, r.length]
  sl := fun i s q => by
    unfold start0 at q
    unfold L2.start
    by_cases hi : i < ds.length
    · have hi2 : i < vs.length := by rw [r.length]; exact hi
      rw [List.getElem?_append_left (by rw [List.length_map]; exact hi), List.getElem?_map] at q
      rw [List.getElem?_append_left (by rw [List.length_map]; exact hi2), List.getElem?_map]
      rw [List.getElem?_eq_getElem hi] at q
      cases q
      obtain ⟨v, h1, h2⟩ := r.getD (List.getElem?_eq_getElem hi)
      rw [h1]
      exact ⟨v, rfl, h2⟩
    · rw [List.getElem?_append_right (by rw [List.length_map]; omega)] at q
      have := List.mem_of_getElem? q
      rw [(List.mem_replicate.mp this).2]
      trivial
  own := fun i j ds' es a hij q _ _ _ => by
    exfalso
    have := List.mem_of_getElem? q
    rcases List.mem_append.mp this with h | h
    · obtain ⟨_, _, e⟩ := List.mem_map.mp h
      cases e
    · have := (List.mem_replicate.mp h).2
      cases this
  tm := fun a vs hm => nomatch hm
  ot := fun i ds a vs _ _ hm => nomatch hm
  td := List.nodup_nil
theorem okD {x qual : Str} {st : Stmt} {f : Addr} {fd : FuncData} {N ps : List Str} {k : Nat} {G : Fn} (F : Fun K x qual st f fd) (S : FnScope N ps (defScope st)) (len : ∀ ds n QD, G ds n QD → ds.length = ps.length)
    (body : ∀ (cdv : Value) (A : Around) (outer : List Env) (s : Shared) (H : Hp), Room k (A.deeper (envOfC qual (defScope st) s.heap.objs.size f cdv)) →
      ∃ t, PSs (cxR P w K mg base N qual (defScope st) f cdv A outer s H) (defBody st) t ∧ ∃ ws, SV K t ws ∧ ∀ ds n QD, G ds n QD → bodyW N.length ws ds n QD) : FnOk P w K mg base CX0 (k + 1) f fd ps (spF K G) := by
  refine F.ok S (fun vs H Q E h => ?_) (fun cdv A outer s H vs Q E hr h => ?_)
  · obtain ⟨p, F, ds, n, QD, _, r, hG, _⟩ := h
    rw [r.length]
    exact len ds n QD hG
  · obtain ⟨t, ht, ws, sv, hb⟩ := body cdv A outer s H hr
    refine ⟨t, ht, ?_⟩
    obtain ⟨p, F, ds, n, QD, hh, r, hG, hQ⟩ := h
    exact sv.run (D := { nx := fun S => QD .non S.n, rt := QD }) (ok_start hh r) (hb ds n QD hG) ⟨fun F' H' σ' S' ok q => hQ _ F' H' .non S'.n ok.hp .non q, fun v F' H' d n' g r' q => hQ v F' H' d n' g r' q,
      fun _ _ _ _ _ _ _ _ _ _ _ q => q.elim, fun _ _ _ _ _ q => q.elim, fun _ _ _ _ _ q => q.elim⟩
theorem okF {x qual : Str} {st : Stmt} {f : Addr} {fd : FuncData} {N ps : List Str} {k : Nat} {G : FnF} (F : Fun K x qual st f fd) (S : FnScope N ps (defScope st)) (len : ∀ ds n QD, G ds n QD → ds.length = ps.length)
    (body : ∀ (cdv : Value) (A : Around) (outer : List Env) (s : Shared) (H : Hp), Room k (A.deeper (envOfC qual (defScope st) s.heap.objs.size f cdv)) →
      ∃ t, PSs (cxR P w K mg base N qual (defScope st) f cdv A outer s H) (defBody st) t ∧ ∃ ws, SV K t ws ∧ ∀ ds n QD, G ds n QD → bodyF N.length ws ds n QD) : FnOk P w K mg base CX0 (k + 1) f fd ps (spFF K G) := by
  refine F.ok S (fun vs H Q E h => ?_) (fun cdv A outer s H vs Q E hr h => ?_)
  · obtain ⟨p, F, ds, n, QD, _, r, hG, _⟩ := h
    rw [r.length]
    exact len ds n QD hG
  · obtain ⟨t, ht, ws, sv, hb⟩ := body cdv A outer s H hr
    refine ⟨t, ht, ?_⟩
    obtain ⟨p, F, ds, n, QD, hh, r, hG, hQ⟩ := h
    exact sv.run (D := { nx := fun _ => False, rt := fun _ _ => False, rf := QD }) (ok_start hh r) (hb ds n QD hG) ⟨fun _ _ _ _ _ q => q.elim, fun _ _ _ _ _ _ _ q => q.elim,
      fun a us F' H' es n' g g0 g1 g2 r' q => hQ a us F' H' es n' g g0 g1 g2 r' q, fun _ _ _ _ _ q => q.elim, fun _ _ _ _ _ q => q.elim⟩
/-! a def that draws: the count of draws is told from above -/
theorem PotAt.bump {H : Hp} {a : Addr} {n m : Nat} (h : PotAt H a n) (h1 : n ≤ m) (h2 : m ≤ 1000000) : PotAt H a m := by
  obtain ⟨x, y, z, q1, q2, q3, q4, q5, q6, q7⟩ := h
  exact ⟨x, y, z, q1, q2, q3, q4, q5, by omega, h2⟩
theorem HpOk.bump {p : Option Addr} {H0 F0 F H : Hp} {n m : Nat} (h : HpOk p H0 F0 F H n) (h1 : n ≤ m) (h2 : m ≤ 1000000) : HpOk p H0 F0 F H m :=
  ⟨h.e0, h.f0, h.fr, h.fh, fun a ha => ⟨(h.pt a ha).1, (h.pt a ha).2.1, (h.pt a ha).2.2.bump h1 h2⟩⟩
def bodyP (np : Nat) (w : WS) : Fn := fun ds n QD => w { nx := fun S => ∃ m, S.n ≤ m ∧ m ≤ 1000000 ∧ QD .non m, rt := fun d k => ∃ m, k ≤ m ∧ m ≤ 1000000 ∧ QD d m } (start0 np ds n)
theorem okP {x qual : Str} {st : Stmt} {f : Addr} {fd : FuncData} {N ps : List Str} {k : Nat} {G : Fn} (F : Fun K x qual st f fd) (S : FnScope N ps (defScope st)) (len : ∀ ds n QD, G ds n QD → ds.length = ps.length)
    (body : ∀ (cdv : Value) (A : Around) (outer : List Env) (s : Shared) (H : Hp), Room k (A.deeper (envOfC qual (defScope st) s.heap.objs.size f cdv)) →
      ∃ t, PSs (cxR P w K mg base N qual (defScope st) f cdv A outer s H) (defBody st) t ∧ ∃ ws, SV K t ws ∧ ∀ ds n QD, G ds n QD → bodyP N.length ws ds n QD) : FnOk P w K mg base CX0 (k + 1) f fd ps (spF K G) := by
  refine F.ok S (fun vs H Q E h => ?_) (fun cdv A outer s H vs Q E hr h => ?_)
  · obtain ⟨p, F, ds, n, QD, _, r, hG, _⟩ := h
    rw [r.length]
    exact len ds n QD hG
  · obtain ⟨t, ht, ws, sv, hb⟩ := body cdv A outer s H hr
    refine ⟨t, ht, ?_⟩
    obtain ⟨p, F, ds, n, QD, hh, r, hG, hQ⟩ := h
    exact sv.run (D := { nx := fun S => ∃ m, S.n ≤ m ∧ m ≤ 1000000 ∧ QD .non m, rt := fun d k => ∃ m, k ≤ m ∧ m ≤ 1000000 ∧ QD d m }) (ok_start hh r) (hb ds n QD hG)
      ⟨fun F' H' σ' S' ok q => by obtain ⟨m, m1, m2, q⟩ := q; exact hQ _ F' H' .non m (ok.hp.bump m1 m2) .non q, fun v F' H' d n' g r' q => by obtain ⟨m, m1, m2, q⟩ := q; exact hQ v F' H' d m (g.bump m1 m2) r' q,
      fun _ _ _ _ _ _ _ _ _ _ _ q => q.elim, fun _ _ _ _ _ q => q.elim, fun _ _ _ _ _ q => q.elim⟩
/-- the law, called with the script alone -/
theorem sp_law {K : PySem.W.Frag} {G : Fn} (h : ∀ ns : List Int, ns.length ≤ 63 → G [.fz (ns.map Dat.int)] 0 fun d _ => d = .bl true) : ∀ (H : Hp) (a : Addr) (ns : List Int), ns.length ≤ 63 → SqL K H a (ns.map V.int) → spF K G [.ref a] H (fun v _ => v = .bl true) fun _ _ _ => False := fun H a ns hl hs => by
  refine ⟨none, H, [.fz (ns.map Dat.int)], 0, _, .start (Ex.refl H) (fun _ e => nomatch e), .one (.fz hs ?_), h ns hl, fun v F' H' d n' g r q => ?_⟩
  · induction ns with
    | nil => exact .nil
    | cons i l ih => exact .cons (.int i) (reps_ints l)
  · subst q
    exact r.bl_of
where
  reps_ints {K : PySem.W.Frag} {p : Option Addr} {F : Hp} : ∀ l : List Int, Reps K p F (l.map V.int) (l.map Dat.int)
    | [] => .nil
    | i :: l => .cons (.int i) (reps_ints l)
end
end Dl
-- part Dv
set_option Elab.async false
set_option linter.all false
set_option maxRecDepth 100000
set_option maxHeartbeats 4000000
namespace Dl
open PySem PySem.Spec PyProof.Rows L2 Evl RZ
theorem cmuL {i j : Int} (h : -18446744073709551616 < i ∧ i < 18446744073709551616) : CMu i j := .inl (.inl ⟨by omega, by omega⟩)
theorem cmuR {i j : Int} (h : -18446744073709551616 < j ∧ j < 18446744073709551616) : CMu i j := .inl (.inr ⟨by omega, by omega⟩)
theorem cfdS {i j : Int} (h : 0 < j ∧ j < 1073741824) : CFd i j := by
  refine ⟨h.1, ?_⟩
  have h1 : j.natAbs < 2 ^ 30 := by omega
  have : j.natAbs.log2 < 30 := by
    rw [Nat.log2_lt (by omega)]
    exact h1
  omega
theorem cpwS {i j : Int} (h : (0 ≤ j ∧ j ≤ 1000000) ∧ -18446744073709551616 < i ∧ i < 18446744073709551616) : CPw i j := .inl ⟨h.1.1, h.1.2, by omega⟩
theorem cpwW {i j : Int} (h : (2 ≤ i ∧ 1 ≤ j) ∧ (Builtin.Int.intBits i : Int) * j ≤ 1000000) : CPw i j := by
  refine .inr ⟨h.1.1, h.1.2, ?_⟩
  unfold Builtin.Int.intTooBig
  refine decide_eq_false ?_
  have := h.2
  unfold bitsLine
  omega
theorem asI_int {i : Int} {Q : Int → Prop} : asI (.int i) Q = Q i := rfl
theorem asB_bl {b : Bool} {Q : Bool → Prop} : asB (.bl b) Q = Q b := rfl
theorem as1_one {a : Dat} {Q : Dat → Prop} : as1 [a] Q = Q a := rfl
theorem as2_two {a b : Dat} {Q : Dat → Dat → Prop} : as2 [a, b] Q = Q a b := rfl
theorem sIx_pos {n d : Nat} {k : Int} (h : 0 ≤ k) : HT.sIx n d (some k) = min k.toNat n := by
  have := HT.sIx_nat n d k.toNat
  rwa [Int.toNat_of_nonneg h] at this
theorem cutN_hi {α : Type} {l : List α} {k : Int} (h : 0 ≤ k) : cutN l none (some k) = l.take k.toNat := by
  unfold cutN
  rw [HT.sIx_none, sIx_pos h, List.drop_zero, Nat.sub_zero]
  by_cases hl : k.toNat ≤ l.length
  · rw [Nat.min_eq_left hl]
  · rw [Nat.min_eq_right (by omega), List.take_length, List.take_of_length_le (by omega)]
theorem cutN_lo {α : Type} {l : List α} {k : Int} (h : 0 ≤ k) : cutN l (some k) none = l.drop k.toNat := by
  unfold cutN
  rw [HT.sIx_none, sIx_pos h]
  by_cases hl : k.toNat ≤ l.length
  · rw [Nat.min_eq_left hl]
    exact List.take_of_length_le (by rw [List.length_drop]; omega)
  · rw [Nat.min_eq_right (by omega), List.drop_length, List.drop_of_length_le (by omega), List.take_nil]
theorem isi_bl (b : Bool) (n : String) : isi (.bl b) n = (n == "bool" || n == "int") := rfl
theorem atI_pos {α : Type} {l : List α} {i : Int} (h : 0 ≤ i) : atI l i = l[i.toNat]? := by
  unfold atI ixN
  rw [if_pos h]
  by_cases hl : i < l.length
  · rw [if_pos hl]; rfl
  · rw [if_neg hl, List.getElem?_eq_none (by omega)]; rfl
theorem atI_neg1 {α : Type} {l : List α} : atI l (-1) = l[l.length - 1]? := by
  unfold atI ixN
  rw [if_neg (by decide)]
  by_cases hl : -(l.length : Int) ≤ -1
  · rw [if_pos hl]
    show l[((-1 : Int) + (l.length : Int)).toNat]? = _
    congr 1
    omega
  · rw [if_neg hl, List.getElem?_eq_none (by omega)]; rfl
theorem isBls_nil : isBls [] = some [] := rfl
theorem isBls_bl {b : Bool} {l : List Dat} : isBls (.bl b :: l) = (isBls l).map (b :: ·) := rfl
/-! ### loops and comprehensions in one go -/
/-- each item gives one element, or none, told by f; the slots stay -/
theorem lcW_filter {vs : List Nat} {wg : WG} {wt : WT} {we : WE} (f : Dat → Option Dat) {S0 : Sx} : ∀ (ds acc : List Dat) (Q : List Dat → Sx → Prop), acc.length + ds.length ≤ 100000 →
    (∀ d ∈ ds, ∀ (R : Dat → Sx → Prop) (R0 : Sx → Prop), (∀ x, f d = some x → R x S0) → (f d = none → R0 S0) → wg d S0 fun S1 => wt S1 fun b S2 => if b = true then we S2 fun x S3 => R x ⟨wipeL S3.sl vs, S3.n⟩ else R0 ⟨wipeL S2.sl vs, S2.n⟩) →
    Q (acc ++ ds.filterMap f) S0 → lcW vs wg wt we ds acc S0 Q
  | [], acc, Q, _, _, q => by rw [List.filterMap_nil, List.append_nil] at q; exact q
  | d :: ds, acc, Q, hl, h, q => by
    rw [List.length_cons] at hl
    refine h d List.mem_cons_self (fun x S => acc.length < 100000 ∧ lcW vs wg wt we ds (acc ++ [x]) S Q) (fun S => lcW vs wg wt we ds acc S Q) (fun x hx => ⟨by omega, ?_⟩) (fun hx => ?_)
    · refine lcW_filter f ds (acc ++ [x]) Q (by rw [List.length_append, List.length_singleton]; omega) (fun e he => h e (List.mem_cons_of_mem _ he)) ?_
      rw [List.filterMap_cons, hx] at q
      rw [List.append_assoc]
      exact q
    · refine lcW_filter f ds acc Q (by omega) (fun e he => h e (List.mem_cons_of_mem _ he)) ?_
      rw [List.filterMap_cons, hx] at q
      exact q
theorem lcW_map {vs : List Nat} {wg : WG} {wt : WT} {we : WE} (f : Dat → Dat) {S0 : Sx} (ds : List Dat) (Q : List Dat → Sx → Prop) (hl : ds.length ≤ 100000)
    (h : ∀ d ∈ ds, ∀ (R : Dat → Sx → Prop) (R0 : Sx → Prop), R (f d) S0 → wg d S0 fun S1 => wt S1 fun b S2 => if b = true then we S2 fun x S3 => R x ⟨wipeL S3.sl vs, S3.n⟩ else R0 ⟨wipeL S2.sl vs, S2.n⟩)
    (q : Q (ds.map f) S0) : lcW vs wg wt we ds [] S0 Q := by
  refine lcW_filter (fun d => some (f d)) ds [] Q (by simpa using hl) (fun d hd R R0 h1 _ => h d hd R R0 (h1 _ rfl)) ?_
  have e : ∀ l : List Dat, l.filterMap (fun d => some (f d)) = l.map f := fun l => by
    induction l with
    | nil => rfl
    | cons x l ih => rw [List.filterMap_cons, ih]; rfl
  rw [e, List.nil_append]
  exact q
/-- each item gives one element of which P is known, and takes c draws -/
theorem lcW_draw {vs : List Nat} {wg : WG} {wt : WT} {we : WE} (P : Dat → Prop) (c : Nat) {sl : List Sl} : ∀ (ds acc : List Dat) (n : Nat) (Q : List Dat → Sx → Prop), acc.length + ds.length ≤ 100000 → n + c * ds.length ≤ 1000000 →
    (∀ d ∈ ds, ∀ (n : Nat) (R : Dat → Sx → Prop) (R0 : Sx → Prop), n + c ≤ 1000000 → (∀ x, P x → R x ⟨sl, n + c⟩) → wg d ⟨sl, n⟩ fun S1 => wt S1 fun b S2 => if b = true then we S2 fun x S3 => R x ⟨wipeL S3.sl vs, S3.n⟩ else R0 ⟨wipeL S2.sl vs, S2.n⟩) →
    (∀ xs, xs.length = ds.length → (∀ x ∈ xs, P x) → Q (acc ++ xs) ⟨sl, n + c * ds.length⟩) → lcW vs wg wt we ds acc ⟨sl, n⟩ Q
  | [], acc, n, Q, _, _, _, q => by
    have := q [] rfl (fun _ h => nomatch h)
    rw [List.append_nil] at this
    exact this
  | d :: ds, acc, n, Q, hl, hn, h, q => by
    rw [List.length_cons] at hl
    rw [List.length_cons, Nat.mul_succ] at hn
    refine h d List.mem_cons_self n (fun x S => acc.length < 100000 ∧ lcW vs wg wt we ds (acc ++ [x]) S Q) (fun S => lcW vs wg wt we ds acc S Q) (by omega) (fun x hx => ⟨by omega, ?_⟩)
    refine lcW_draw P c ds (acc ++ [x]) (n + c) Q (by rw [List.length_append, List.length_singleton]; omega) (by omega) (fun e he => h e (List.mem_cons_of_mem _ he)) (fun xs hxs hp => ?_)
    have := q (x :: xs) (by rw [List.length_cons, List.length_cons, hxs]) (fun y hy => by
      rcases List.mem_cons.mp hy with rfl | hy
      · exact hx
      · exact hp y hy)
    rw [List.append_assoc]
    rw [List.length_cons, Nat.mul_succ] at this
    rw [show n + c + c * ds.length = n + (c * ds.length + c) by omega]
    exact this
/-- a loop that is never left: f upon what Inv tells of the slots -/
theorem forW_fold {α : Type} {wg : WG} {wb : WS} (Inv : α → Sx → Prop) (f : α → Dat → α) : ∀ (ds : List Dat) (a : α) (S : Sx) (D : Dx),
    (∀ d ∈ ds, ∀ (a : α) (S : Sx) (D : Dx), Inv a S → (∀ S', Inv (f a d) S' → D.nx S') → wg d S fun S2 => wb D S2) → Inv a S → (∀ S', Inv (ds.foldl f a) S' → D.nx S') → forW wg wb ds D S
  | [], a, S, D, _, hi, q => q S hi
  | d :: ds, a, S, D, h, hi, q =>
    h d List.mem_cons_self a S { D with nx := forW wg wb ds D, ct := forW wg wb ds D, bk := D.nx } hi fun S' hS' => forW_fold Inv f ds (f a d) S' D (fun e he => h e (List.mem_cons_of_mem _ he)) hS' q
theorem isBls_all {l : List Dat} (h : ∀ x ∈ l, x = .bl true) : ∃ bs, isBls l = some bs ∧ bs.all id = true := by
  induction l with
  | nil => exact ⟨[], rfl, rfl⟩
  | cons x l ih =>
    obtain ⟨bs, h1, h2⟩ := ih fun y hy => h y (List.mem_cons_of_mem _ hy)
    rw [h x List.mem_cons_self]
    exact ⟨true :: bs, by rw [isBls_bl, h1]; rfl, by rw [List.all_cons, h2]; rfl⟩
end Dl
-- part Dw
set_option Elab.async false
set_option linter.all false
set_option maxRecDepth 100000
set_option maxHeartbeats 4000000
namespace Dl
open PySem PySem.Spec PyProof.Rows L2 Evl RZ
/-! ### how transformers go on, by the forms of data -/
section
variable {S : Sx} {r : List Sl} {n i : Nat} {d a b : Dat} {l m : List Dat} {x y : List Nat} {p q : Int} {c c' : Bool} {Q : Dat → Sx → Prop} {QF : List Dat → Sx → Prop} {K : Dat → Prop} {KB : Bool → Prop} {KN : Nat → Prop} {KL : List Dat → Prop} {wa : WE} {lo hi : Option Int}
theorem e_var0 : wVar 0 ⟨.im d :: r, n⟩ Q = Q d ⟨.im d :: r, n⟩ := rfl
theorem e_var0o : wVar 0 ⟨.ow l :: r, n⟩ Q = Q (.lst l) ⟨.im (.lst l) :: r, n⟩ := rfl
theorem e_varS {s : Sl} : wVar (i + 1) ⟨s :: r, n⟩ Q = wVar i ⟨r, n⟩ fun d S' => Q d ⟨s :: S'.sl, S'.n⟩ := by
  unfold wVar
  dsimp only
  rw [List.getElem?_cons_succ]
  cases h : r[i]? with
  | none => rfl
  | some s => cases s <;> rfl
theorem aAdd_i : aAdd (.int p) (.int q) K = K (.int (p + q)) := rfl
theorem aAdd_s : aAdd (.str x) (.str y) K = (x.length + y.length ≤ 1000000 ∧ K (.str (x ++ y))) := rfl
theorem aAdd_t : aAdd (.tup l) (.tup m) K = (l.length + m.length ≤ 1000000 ∧ K (.tup (l ++ m))) := rfl
theorem aAdd_l : aAdd (.lst l) (.lst m) K = (l.length + m.length ≤ 1000000 ∧ K (.lst (l ++ m))) := rfl
theorem aMul_i : aMul (.int p) (.int q) K = (CMu p q ∧ K (.int (p * q))) := rfl
theorem aMul_s : aMul (.str x) (.int q) K = ((-4611686018427387904 ≤ q ∧ q ≤ 1000000 ∧ x.length * q.toNat ≤ 1000000) ∧ K (.str (repL x q.toNat))) := rfl
theorem aMul_l : aMul (.lst l) (.int q) K = ((-4611686018427387904 ≤ q ∧ q ≤ 1000000 ∧ l.length * q.toNat ≤ 1000000) ∧ K (.lst (repL l q.toNat))) := rfl
theorem eqS_i : eqS (.int p) (.int q) KB = KB (decide (p = q)) := rfl
theorem eqS_s : eqS (.str x) (.str y) KB = KB (decide (x = y)) := rfl
theorem eqS_b : eqS (.bl c) (.bl c') KB = KB (decide (c = c')) := rfl
theorem eqS_nn : eqS .non .non KB = KB true := rfl
theorem eqS_ni : eqS .non (.int q) KB = KB false := rfl
theorem eqS_ns : eqS .non (.str y) KB = KB false := rfl
theorem eqS_nt : eqS .non (.tup l) KB = (cmpOk (.tup l) ∧ KB false) := rfl
theorem eqS_in : eqS (.int p) .non KB = KB false := rfl
theorem eqS_sn : eqS (.str x) .non KB = KB false := rfl
theorem eqS_is : eqS (.int p) (.str y) KB = KB false := rfl
theorem eqS_si : eqS (.str x) (.int q) KB = KB false := rfl
theorem eqS_t : eqS (.tup l) b KB = (cmpOk (.tup l) ∧ cmpOk b ∧ KB (eqD (.tup l) b)) := rfl
theorem eqS_l : eqS (.lst l) b KB = (cmpOk (.lst l) ∧ cmpOk b ∧ KB (eqD (.lst l) b)) := rfl
theorem inS_s {k : Nat} : inS (.str [k]) (.str y) KB = KB (decide (k ∈ y)) := rfl
theorem inS_t : inS a (.tup l) KB = (flat a = true ∧ l.all flat = true ∧ KB (inF a l)) := rfl
theorem inS_l : inS a (.lst l) KB = (flat a = true ∧ l.all flat = true ∧ KB (inF a l)) := rfl
theorem lenD_s : lenD (.str x) KN = (x.length ≤ 1000000 ∧ KN x.length) := rfl
theorem lenD_t : lenD (.tup l) KN = KN l.length := rfl
theorem lenD_l : lenD (.lst l) KN = KN l.length := rfl
theorem lenD_z : lenD (.fz l) KN = KN l.length := rfl
theorem ixD_t : ixD (.tup l) p K = ∃ d, atI l p = some d ∧ K d := rfl
theorem ixD_l : ixD (.lst l) p K = ∃ d, atI l p = some d ∧ K d := rfl
theorem ixD_z : ixD (.fz l) p K = ∃ d, atI l p = some d ∧ K d := rfl
theorem ixD_s : ixD (.str x) p K = (x.length ≤ 1000000 ∧ ∃ c, atI x p = some c ∧ K (.str [c])) := rfl
theorem ixD_0 : ixD .pot 0 K = ∀ x, 0 ≤ x → K (.int x) := rfl
theorem ixD_p {i : Int} : ixD .pot i K = if i = 0 then ∀ x, 0 ≤ x → K (.int x) else if i = 1 then ∀ x, 0 ≤ x → x < 2305843009213693952 → K (.int x) else i = 2 ∧ ∀ x, 0 ≤ x → x ≤ 1000000 → K (.int x) := rfl
theorem ixD_1 : ixD .pot 1 K = ∀ x, 0 ≤ x → x < 2305843009213693952 → K (.int x) := by simp [ixD_p]
theorem ixD_2 : ixD .pot 2 K = ∀ x, 0 ≤ x → x ≤ 1000000 → K (.int x) := by simp [ixD_p]
theorem cutDd_s : cutDd (.str x) lo hi K = (x.length ≤ 1000000 ∧ K (.str (cutN x lo hi))) := rfl
theorem cutDd_l : cutDd (.lst l) lo hi K = K (.lst (cutN l lo hi)) := rfl
theorem cutDd_z : cutDd (.fz l) lo hi K = K (.lst (cutN l lo hi)) := rfl
theorem cutDd_t : cutDd (.tup l) lo hi K = K (.tup (cutN l lo hi)) := rfl
theorem listD_l : listD (.lst l) KL = KL l := rfl
theorem listD_z : listD (.fz l) KL = KL l := rfl
theorem itemsD_l : itemsD (.lst l) KL = KL l := rfl
theorem itemsD_t : itemsD (.tup l) KL = KL l := rfl
theorem itemsQ_s : itemsQ (.str x) KL = (x.length ≤ 1000000 ∧ KL (signsD x)) := rfl
theorem itemsQ_l : itemsQ (.lst l) KL = KL l := rfl
theorem itemsQ_z : itemsQ (.fz l) KL = KL l := rfl
theorem itemsQ_t : itemsQ (.tup l) KL = KL l := rfl
theorem aInt_i : aInt [.int p] K = K (.int p) := rfl
theorem aInt_b : aInt [.bl c] K = K (.int (if c then 1 else 0)) := rfl
theorem aTupOf_l : aTupOf [.lst l] K = K (.tup l) := rfl
theorem aTupOf_t : aTupOf [.tup l] K = K (.tup l) := rfl
def anyD (d : Dat) (K : List Dat → Prop) : Prop :=
  match d with
  | .lst l => K l
  | .fz l => K l
  | .tup l => K l
  | .str x => K (signsD x)
  | _ => False
theorem e_anyIt : wAnyIt wa S QF = wa S fun d S1 => anyD d fun l => QF l S1 := by
  unfold wAnyIt anyD
  rfl
theorem anyD_l : anyD (.lst l) KL = KL l := rfl
theorem anyD_z : anyD (.fz l) KL = KL l := rfl
theorem anyD_t : anyD (.tup l) KL = KL l := rfl
theorem anyD_s : anyD (.str x) KL = KL (signsD x) := rfl
def par2 (i j : Nat) (D : Dx) (ds : List Dat) (S1 : Sx) : Prop := as2 ds fun a b => D.nx ⟨(S1.sl.set i (.im a)).set j (.im b), S1.n⟩
theorem e_par {i j : Nat} {wf : WF} {D : Dx} : wPar i j wf D S = wf S fun ds S1 => par2 i j D ds S1 := rfl
theorem joinD_l : joinD (.str x) [.lst l] K = ∃ ys, isStrs l = some ys ∧ ((ys.map (·.length)).sum + ys.length * x.length ≤ 1000000) ∧ K (.str (joinN x ys)) := rfl
theorem joinD_t : joinD (.str x) [.tup l] K = ∃ ys, isStrs l = some ys ∧ ((ys.map (·.length)).sum + ys.length * x.length ≤ 1000000) ∧ K (.str (joinN x ys)) := rfl
def zipQ (a b : Dat) (K : List Dat → Prop) : Prop :=
  match a with
  | .tup l => (match b with | .tup m => K (zipD l m) | _ => False)
  | .lst l => (match b with | .lst m => K (zipD l m) | _ => False)
  | _ => False
theorem e_zip {wf : WF} : wZip wf S QF = wf S fun ds S1 => as2 ds fun a b => zipQ a b fun l => QF l S1 := rfl
theorem zipQ_t : zipQ (.tup l) (.tup m) KL = KL (zipD l m) := rfl
theorem zipQ_l : zipQ (.lst l) (.lst m) KL = KL (zipD l m) := rfl
end
end Dl
-- part Dx
set_option Elab.async false
set_option linter.all false
set_option maxRecDepth 100000
set_option maxHeartbeats 4000000
namespace Dl
open PySem PySem.Spec PyProof.Rows L2 Evl RZ
theorem vals_getD {vs : List V} {us : List Value} (h : Vals vs us) (i : Nat) : RelV (vs.getD i .non) (us.getD i .none) := by
  induction h generalizing i with
  | nil => cases i <;> exact rfl
  | cons r _ ih =>
    cases i with
    | zero => exact r
    | succ i => exact ih i
theorem reps_getD {K : PySem.W.Frag} {p : Option Addr} {F : Hp} : ∀ {vs : List V} {ds : List Dat}, Reps K p F vs ds → ∀ i : Nat, Rep K p F (vs.getD i .non) (ds.getD i .non)
  | _, _, .nil, i => by cases i <;> exact .non
  | _, _, .cons r _, 0 => r
  | _, _, .cons _ s, i + 1 => reps_getD s i
theorem rep_str {K : PySem.W.Frag} {p : Option Addr} {F : Hp} {s : Str} {z : List Nat} (h : s.cps.toList = z) : Rep K p F (.str s) (.str z) := h ▸ .str s
/-- a tuple of the top's -/
theorem cv_tup {K : PySem.W.Frag} {a : Addr} {oc : Option Addr} {its : List Value} {n : Nat} {m : Array (Option Value)} {vs : List V} {ds : List Dat} (l : K.lookup a = some ⟨.type "tuple", oc, .seq its.toArray n, m⟩) (hl : its.length ≤ sizeLine) (hv : Vals vs its)
    (hr : ∀ p F, Reps K p F vs ds) : CV K (.ref a) (.tup ds) := ⟨fun p F => .tup (.inr ⟨_, its.toArray, n, l, rfl, rfl, by simpa using hl, hv⟩) (hr p F)⟩
/-- keywords: n values and m keywords' values -/
def wCallN (n m : Nat) (f : Fn) (gD : List Dat → List Dat → List Dat) (wa wk : WF) : WE := fun S Q => wa S fun ds S1 => wk S1 fun es S2 => ds.length = n ∧ es.length = m ∧ f (gD ds es) S2.n fun d n' => Q d ⟨S2.sl, n'⟩
theorem reps_len {K : PySem.W.Frag} {p : Option Addr} {F : Hp} : ∀ {vs : List V} {ds : List Dat}, Reps K p F vs ds → vs.length = ds.length
  | _, _, .nil => rfl
  | _, _, .cons _ s => congrArg Nat.succ (reps_len s)
instance ev_callN {K : PySem.W.Frag} {n m : Nat} {f : Fn} {E : XK} {gV : List V → List V → List V} {gD : List Dat → List Dat → List Dat} {ta tk : TA} {wa wk : WF} [g : KPerm gV gD] [a : AV K ta wa] [b : AV K tk wk] : EV K (tCallN n m (spF K f) gV E ta tk) (wCallN n m f gD wa wk) :=
  ⟨fun {p _ _ _ _ _ _ _ _ _} ok hw k => a.run ok hw fun vs F1 H1 S1 ds ok1 e1 r1 q1 => b.run ok1 q1 fun ws F2 H2 S2 es ok2 e2 r2 ⟨l1, l2, q2⟩ =>
    ⟨(reps_len r1).trans l1, (reps_len r2).trans l2, p, F2, gD ds es, S2.n, _, ok2.hp.self, g.rep (r1.mono e2) r2, q2, fun v F3 H3 d n3 g3 r3 q3 => k v F3 H3 _ d (ok2.call g3) ((e1.trans e2).trans g3.f0) r3 q3⟩⟩
section
variable {X : Cx} {CX : CXT} {k : Nat} {f : Addr} {fd : FuncData} {ps ks : List Str} {sp : Sp} {E : XK} {x : Str} {p pos : Pos} {kws : List Keyword} {tk : TA} {g : List Value → List Value → List Value} {gV : List V → List V → List V}
theorem pe_callN0 (F : FnOk X.prog X.w X.K X.mg X.base CX k f fd ps sp) (hr : Room k X.A) (hg : Gl X x) (hm : X.mg x = some (.ref f)) (hk : PySem.W.keepIn X.K (.ref f) = true) (hb : KBn X.K fd ps 0 ks g gV) (hx : Passes CX X E)
    (hkw : PK X kws tk) (hall : (backToKw pos (keywordEach kws X.env)).all (·.1.isSome) = true := by rfl) (hks : (backToKw pos (keywordEach kws X.env)).filterMap (·.1) = ks := by rfl)
    (hdb : (x == ("__debug__" : Str)) = false := by decide) (hpl : (backToKw pos (keywordEach kws X.env)).any (·.1.isNone) = false := by rfl) :
    PE X (.Call (.Name x p) [] kws pos) (tCallN 0 ks.length sp gV E tNil tk) := by
  refine ⟨fun pins s σ H Q I h => ?_⟩
  refine wpAny_Call_Name_kw (ld_glob I hg hm ?_ hdb)
  refine PySem.W.callWith_KW0 (h₀ := X.base) I.ok.mod.kin hk hall ?_ hpl
  refine thn (hkw.run pos pins s σ H _ I h) fun ws s2 hw => ?_
  obtain ⟨zs, H2, I2, rz, l1, l2, q2⟩ := hw
  refine ⟨I2.kIn, ?_⟩
  rw [hks]
  exact run_fnN F hr hb hx I2 .nil rz l1 l2 q2
end
/-- how its arguments bind when some are named -/
theorem kbn {K : PySem.W.Frag} {x qual : Str} {st : Stmt} {f : Addr} {fd : FuncData} (F : Fun K x qual st f fd) {ps : List Str} (n : Nat) (ks : List Str) (g : List Value → List Value → List Value) (gV : List V → List V → List V)
    (h : ∀ (kV doc pm : Value) (an : Option Addr) (cdv ct : Value) (us ws : List Value), us.length = n → ws.length = ks.length → bindArgs (PySem.W.fnOf x qual (defArgs st) (defBody st) (defScope st) .none kV doc pm an cdv ct) ⟨us, ks.zip ws⟩ = pure (ps.zip (g us ws)))
    (r : ∀ {vs : List V} {us : List Value} {zs : List V} {ws : List Value}, Vals vs us → Vals zs ws → Vals (gV vs zs) (g us ws)) : KBn K fd ps n ks g gV := by
  obtain ⟨oc, od, kV, doc, pm, an, cdv, ct, osl, rfl, lk, hcd⟩ := F.ex
  exact ⟨fun s us ws _ l1 l2 => .of_eq (h kV doc pm an cdv ct us ws l1 l2), r⟩
section
variable {X : Cx}
theorem addK (K : PySem.W.Frag) (h : X.K = K := by rfl) : OpR X (binaryOp .Add) (rAddG K) := h ▸ op_addG
theorem inK (K : PySem.W.Frag) (h : X.K = K := by rfl) : OpR X (compareOp .In) (rInG K false) := h ▸ op_inG
theorem notInK (K : PySem.W.Frag) (h : X.K = K := by rfl) : OpR X (compareOp .NotIn) (rInG K true) := h ▸ op_notInG
theorem eqK (K : PySem.W.Frag) (u : X.A.units + 64 < cLine) (h : X.K = K := by rfl) : OpR X (compareOp .Eq) (rEqG K) := h ▸ op_eqG u
theorem neK (K : PySem.W.Frag) (u : X.A.units + 64 < cLine) (h : X.K = K := by rfl) : OpR X (compareOp .NotEq) (rNeG K) := h ▸ op_neG u
theorem ixK (K : PySem.W.Frag) (h : X.K = K := by rfl) : IxR X (L2.rIx K) := h ▸ ix_seq
theorem lenK (K : PySem.W.Frag) (h : X.K = K := by rfl) : CallR X (.builtin "len") (rLenG K) := h ▸ call_lenG
theorem isiK (K : PySem.W.Frag) (h : X.K = K := by rfl) : CallR X (.builtin "isinstance") (rIsi K) := h ▸ call_isi
theorem sumK (K : PySem.W.Frag) (c : X.calm = true) (h : X.K = K := by rfl) : CallR X (.builtin "sum") (rSum K) := h ▸ cr_sum c
theorem allK (K : PySem.W.Frag) (c : X.calm = true) (h : X.K = K := by rfl) : CallR X (.builtin "all") (rAll K) := h ▸ cr_all c
theorem anyK (K : PySem.W.Frag) (c : X.calm = true) (h : X.K = K := by rfl) : CallR X (.builtin "any") (rAny K) := h ▸ cr_any c
theorem slK (K : PySem.W.Frag) (h : X.K = K := by rfl) : SlR X (rCutG K) := h ▸ sl_G
theorem tupK (K : PySem.W.Frag) (h : X.K = K := by rfl) : CallR X (.type "tuple") (rTupG K) := h ▸ call_tupG
theorem listK (K : PySem.W.Frag) (c : X.calm = true) (h : X.K = K := by rfl) : CallR X (.type "list") (rListG K) := h ▸ call_listG c
theorem joinK (K : PySem.W.Frag) (h : X.K = K := by rfl) : MtR X "str.join" (rJoin K) := h ▸ mt_joinG
theorem piK (K : PySem.W.Frag) {tg l : Expr} {tl : TE} (a : PE X l tl) (h : X.K = K := by rfl) : PI X tg l (iAny K tl) := h ▸ pi_any a
theorem zipK (K : PySem.W.Frag) {e e2 : Expr} {ta : TA} {p pos tpos : Pos} {elts : List Expr} {kk : Nat} (hg : Gl X "zip") (hm : X.mg "zip" = none) (a : PA X [e, e2] ta)
    (h1 : starEach [e, e2] X.env = (false, eval e X.env) :: starEach [e2] X.env := by rfl) (h2 : ((backTo pos (starEach [e2] X.env)).any (·.1)) = false := by rfl) (h : X.K = K := by rfl) :
    PI X (.Tuple elts kk tpos) (.Call (.Name "zip" p) [e, e2] [] pos) (iZipA K ta) := h ▸ pi_zipA hg hm a h1 h2
theorem tgK (K : PySem.W.Frag) {pos : Pos} {es : List Expr} {k : Nat} {t : TGs} (n : Nat) (hc : X.calm = true) (a : PGs X es t) (h1 : (assignEach es X.env).length = n := by rfl)
    (h2 : (assignEach es X.env).findIdx? (·.1) = none := by rfl) (h : X.K = K := by rfl) : PG X (.Tuple es k pos) (gTup K n t) := h ▸ pg_tup hc a h1 h2
theorem bmK (K : PySem.W.Frag) {o e : Expr} {es : List Expr} {to : TE} {t : TA} {name : Str} {apos cpos : Pos} {T id : String} {r : V → List V → Hp → VK → Prop} (h1 : PlainAttrs T) (h2 : Slot T name id)
    (h3 : typeOf (.builtin id) = pure (.type "method_descriptor")) (h4 : MtR X id r) (h5 : PE X o to) (h6 : PA X (e :: es) t) (h7 : attributeBase o name X.env (eval o X.env) = eval o X.env := by rfl)
    (h8 : ((backTo cpos (starEach (e :: es) X.env)).all (!·.1) && (backToKw cpos (keywordEach [] X.env)).all (·.1.isSome) && decide ((e :: es).length + ([] : List Keyword).length + (if ([] : List Keyword).isEmpty then 0 else 1) < 30)) = true := by rfl)
    (h9 : (apos.endLine == cpos.line) = true := by decide) (h10 : starEach (e :: es) X.env = (false, eval e X.env) :: starEach es X.env := by rfl) (h11 : ((backTo cpos (starEach es X.env)).any (·.1)) = false := by rfl) (h : X.K = K := by rfl) :
    PE X (.Call (.Attribute o name apos) (e :: es) [] cpos) (tBM K T r to t) := h ▸ pe_bm h1 h2 h3 h4 h5 h6 h7 h8 h9 h10 h11
end
section
variable {X : Cx}
theorem lcK {elt tg iter : Expr} {ifs : List Expr} {scope : Scope} (own : List (Str × Nat)) (vs : List Nat) {pos : Pos} {wi : TI} {g : TG} {tt : TT} {te : TE} (hc : X.calm = true) (hN : X.N.Nodup) (hi : PI X tg iter wi) (ok : BlkOk X.N X.env.scope scope own)
    (hg : ∀ (s : Shared) (H : Hp) (C : Addr) (cl : List (Str × Addr)) (fp : List Addr), PG (X.blk s H scope (compEnvC scope cl C X.env) fp) tg g) (ht : ∀ (s : Shared) (H : Hp) (C : Addr) (cl : List (Str × Addr)) (fp : List Addr), PTs (X.blk s H scope (compEnvC scope cl C X.env) fp) ifs tt)
    (he : ∀ (s : Shared) (H : Hp) (C : Addr) (cl : List (Str × Addr)) (fp : List Addr), PE (X.blk s H scope (compEnvC scope cl C X.env) fp) elt te) (hs : ∀ x, foldedSetIterable iter X.env x = pure x := by intro _; rfl) (hv : own.map (·.2) = vs := by rfl) :
    PE X (.ListComp elt [⟨tg, iter, ifs, 0⟩] scope pos) (tLc wi g tt te vs) := hv ▸ pe_lc hc hN hi ok hg ht he hs
theorem setLcK (i : Nat) {y : Str} {py : Pos} {elt tg iter : Expr} {ifs : List Expr} {scope : Scope} (own : List (Str × Nat)) (vs : List Nat) {pos spos : Pos} {wi : TI} {g : TG} {tt : TT} {te : TE} (hc : X.calm = true) (hN : X.N.Nodup) (hy : X.N[i]? = some y) (hyl : X.env.scope.names.lookup y = some .local)
    (hsw : swapsWith (.ListComp elt [⟨tg, iter, ifs, 0⟩] scope pos) (some (.Name y py)) spos.line X.env = pure true) (hi : PI X tg iter wi) (ok : BlkOk X.N X.env.scope scope own)
    (hg : ∀ (s : Shared) (H : Hp) (C : Addr) (cl : List (Str × Addr)) (fp : List Addr), PG (X.blk s H scope (compEnvC scope cl C X.env) fp) tg g) (ht : ∀ (s : Shared) (H : Hp) (C : Addr) (cl : List (Str × Addr)) (fp : List Addr), PTs (X.blk s H scope (compEnvC scope cl C X.env) fp) ifs tt)
    (he : ∀ (s : Shared) (H : Hp) (C : Addr) (cl : List (Str × Addr)) (fp : List Addr), PE (X.blk s H scope (compEnvC scope cl C X.env) fp) elt te) (hs : ∀ x, foldedSetIterable iter X.env x = pure x := by intro _; rfl) (hv : own.map (·.2) = vs := by rfl) :
    PS X (.Assign [.Name y py] (.ListComp elt [⟨tg, iter, ifs, 0⟩] scope pos) spos) (tAsg (tLc wi g tt te vs) (gName i)) := hv ▸ ps_setLc hc hN hy hyl hsw hi ok hg ht he hs
end
instance subN_app {a b c : List Nat} [x : SubN a c] [y : SubN b c] : SubN (a ++ b) c := ⟨fun j h => by
  rcases List.mem_append.mp h with h | h
  · exact x.sub j h
  · exact y.sub j h⟩
end Dl
-- part Dy
set_option Elab.async false
set_option linter.all false
set_option maxRecDepth 100000
set_option maxHeartbeats 4000000
namespace Dl
open PySem PySem.Spec PyProof.Rows L2 Evl RZ
section
variable {prog : Program} {w : World} {A : Around} {E : Value → Shared → Prop} {s : Shared} {l : Addr} {its : List Value} {ns : List Int} {Q : Value → Shared → Prop}
theorem old_keptT {h' : Heap} {hl : l < s.heap.objs.size} (hk : ∀ b o, b ∉ [s.heap.objs.size] → (s.heap.push { cls := .type "tuple_iterator", data := .fields #[.ref l, .int 0 0] }).get? b = some o → h'.get? b = some o) :
    ∀ b o, s.heap.get? b = some o → h'.get? b = some o := fun b o e => by
  refine hk b o (fun hm => ?_) (Heap.get?_push_of_some _ e)
  rcases List.mem_cons.mp hm with e1 | hm
  · exact absurd (e1 ▸ Heap.lt_size e) (Nat.lt_irrefl _)
  · cases hm
theorem minT_raw (hh : A.handled = none) (hl : s.heap.IsTuple l its.toArray) (hi : IntsAre its ns) (hne : 0 < ns.length)
    (h : ∀ h' tk M t', (∀ b o, s.heap.get? b = some o → h'.get? b = some o) → M ∈ ns → (∀ a, a ∈ ns → M ≤ a) → Q (.int M t') { s with heap := h', toks := tk }) : wpAny (model prog w) A (call (.builtin "min") [.ref l]) Q E s := by
  obtain ⟨xs, e⟩ := hi.allInts.items
  have hn : numsOf (intItems xs).toList = ns := by rw [← e]; exact hi.numsOf
  rw [nums_intItems] at hn
  subst hn
  rw [e] at hl
  have hsz : 0 < xs.size := by simpa using hne
  have hlt : l < s.heap.objs.size := by obtain ⟨_, e, _⟩ := hl; exact Heap.lt_size e
  refine call_min_walk (wpAny_pyIter_tuple hl ?_)
  refine ⟨_, [_, l], [_], _, _, _, _, rfl, Walks.tuple (A := A.in1) hh _ l (Nat.ne_of_lt hlt) (intItems xs), ⟨⟨_, Heap.get?_push_size _ rfl, rfl, rfl⟩, hl.push _⟩, fun b hb => ?_, by simpa [intItems] using hsz, CmpOf.ints_lt (numAt xs) (fun _ _ => intItems_at), fun v h' tk hP hk => ?_⟩
  · show b < (s.heap.push _).objs.size
    rw [Heap.size_push]
    rcases List.mem_cons.mp hb with rfl | hb
    · exact Nat.lt_succ_self _
    · rcases List.mem_cons.mp hb with rfl | hb
      · exact Nat.lt_succ_of_lt hlt
      · cases hb
  · have hv : (intItems xs)[argBest (fun i j => decide (numAt xs i < numAt xs j)) (xs.size - 1)]? = some v := by simpa [intItems] using hP
    obtain ⟨t, rfl⟩ := intItems_at hv
    obtain ⟨h1, h2⟩ := argBest_lt (numAt xs) (xs.size - 1)
    refine h h' tk _ t (old_keptT (hl := hlt) hk) ?_ fun a ha => ?_
    · rw [numAt_eq]; exact PySem.getD_mem (by rw [List.length_map, Array.length_toList]; omega)
    · obtain ⟨j, hj, rfl⟩ := mem_getD ha
      rw [List.length_map, Array.length_toList] at hj
      rw [← numAt_eq]; exact h2 j (by omega)
theorem maxT_raw (hh : A.handled = none) (hl : s.heap.IsTuple l its.toArray) (hi : IntsAre its ns) (hne : 0 < ns.length)
    (h : ∀ h' tk M t', (∀ b o, s.heap.get? b = some o → h'.get? b = some o) → M ∈ ns → (∀ a, a ∈ ns → a ≤ M) → Q (.int M t') { s with heap := h', toks := tk }) : wpAny (model prog w) A (call (.builtin "max") [.ref l]) Q E s := by
  obtain ⟨xs, e⟩ := hi.allInts.items
  have hn : numsOf (intItems xs).toList = ns := by rw [← e]; exact hi.numsOf
  rw [nums_intItems] at hn
  subst hn
  rw [e] at hl
  have hsz : 0 < xs.size := by simpa using hne
  have hlt : l < s.heap.objs.size := by obtain ⟨_, e, _⟩ := hl; exact Heap.lt_size e
  refine call_max_walk (wpAny_pyIter_tuple hl ?_)
  refine ⟨_, [_, l], [_], _, _, _, _, rfl, Walks.tuple (A := A.in1) hh _ l (Nat.ne_of_lt hlt) (intItems xs), ⟨⟨_, Heap.get?_push_size _ rfl, rfl, rfl⟩, hl.push _⟩, fun b hb => ?_, by simpa [intItems] using hsz, CmpOf.ints_gt (numAt xs) (fun _ _ => intItems_at), fun v h' tk hP hk => ?_⟩
  · show b < (s.heap.push _).objs.size
    rw [Heap.size_push]
    rcases List.mem_cons.mp hb with rfl | hb
    · exact Nat.lt_succ_self _
    · rcases List.mem_cons.mp hb with rfl | hb
      · exact Nat.lt_succ_of_lt hlt
      · cases hb
  · have hv : (intItems xs)[argBest (fun i j => decide (numAt xs i > numAt xs j)) (xs.size - 1)]? = some v := by simpa [intItems] using hP
    obtain ⟨t, rfl⟩ := intItems_at hv
    obtain ⟨h1, h2⟩ := argBest_gt (numAt xs) (xs.size - 1)
    refine h h' tk _ t (old_keptT (hl := hlt) hk) ?_ fun a ha => ?_
    · rw [numAt_eq]; exact PySem.getD_mem (by rw [List.length_map, Array.length_toList]; omega)
    · obtain ⟨j, hj, rfl⟩ := mem_getD ha
      rw [List.length_map, Array.length_toList] at hj
      rw [← numAt_eq]; exact h2 j (by omega)
end
section
variable {X : Cx}
def rMin1 (K : PySem.W.Frag) : List V → Hp → VK → Prop := fun vs H Q => ∃ (a : Addr) (ns : List Int), vs = [V.ref a] ∧ (SqL K H a (ns.map V.int) ∨ SqT K H a (ns.map V.int)) ∧ 0 < ns.length ∧ ∀ m, m ∈ ns → (∀ y, y ∈ ns → m ≤ y) → Q (.int m) H
def rMax1 (K : PySem.W.Frag) : List V → Hp → VK → Prop := fun vs H Q => ∃ (a : Addr) (ns : List Int), vs = [V.ref a] ∧ (SqL K H a (ns.map V.int) ∨ SqT K H a (ns.map V.int)) ∧ 0 < ns.length ∧ ∀ m, m ∈ ns → (∀ y, y ∈ ns → y ≤ m) → Q (.int m) H
theorem minK1 (K : PySem.W.Frag) (hc : X.calm = true) (h : X.K = K := by rfl) : CallR X (.builtin "min") (rMin1 K) := by
  subst h
  intro pins s σ H vs us Q I r h
  obtain ⟨a, ns, rfl, hs, hne, q⟩ := h
  rcases hs with hs | hs
  · obtain ⟨its, rv, hl, _⟩ := I.list hs
    rw [Vals.ref1 r]
    exact min_raw (I.ok.hd hc) hl.isList rv.ints hne fun h' tk m t' hk h1 h2 => ⟨.int _, H, I.kept hk, ⟨_, rfl⟩, q m h1 h2⟩
  · obtain ⟨its, rv, hl, _⟩ := I.tuple hs
    rw [Vals.ref1 r]
    exact minT_raw (I.ok.hd hc) hl rv.ints hne fun h' tk m t' hk h1 h2 => ⟨.int _, H, I.kept hk, ⟨_, rfl⟩, q m h1 h2⟩
theorem maxK1 (K : PySem.W.Frag) (hc : X.calm = true) (h : X.K = K := by rfl) : CallR X (.builtin "max") (rMax1 K) := by
  subst h
  intro pins s σ H vs us Q I r h
  obtain ⟨a, ns, rfl, hs, hne, q⟩ := h
  rcases hs with hs | hs
  · obtain ⟨its, rv, hl, _⟩ := I.list hs
    rw [Vals.ref1 r]
    exact max_raw (I.ok.hd hc) hl.isList rv.ints hne fun h' tk m t' hk h1 h2 => ⟨.int _, H, I.kept hk, ⟨_, rfl⟩, q m h1 h2⟩
  · obtain ⟨its, rv, hl, _⟩ := I.tuple hs
    rw [Vals.ref1 r]
    exact maxT_raw (I.ok.hd hc) hl rv.ints hne fun h' tk m t' hk h1 h2 => ⟨.int _, H, I.kept hk, ⟨_, rfl⟩, q m h1 h2⟩
end
/-- the items of a list or a tuple -/
def partsD (d : Dat) (Q : List Dat → Prop) : Prop :=
  match d with
  | .lst l => Q l
  | .fz l => Q l
  | .tup l => Q l
  | _ => False
theorem partsD_l {l : List Dat} {Q : List Dat → Prop} : partsD (.lst l) Q = Q l := rfl
theorem partsD_z {l : List Dat} {Q : List Dat → Prop} : partsD (.fz l) Q = Q l := rfl
theorem partsD_t {l : List Dat} {Q : List Dat → Prop} : partsD (.tup l) Q = Q l := rfl
theorem partsD_of {a : Dat} {Q : List Dat → Prop} (h : partsD a Q) : ∃ l, ((a = .lst l ∨ a = .fz l) ∨ a = .tup l) ∧ Q l := by
  cases a with
  | lst l => exact ⟨l, .inl (.inl rfl), h⟩
  | fz l => exact ⟨l, .inl (.inr rfl), h⟩
  | tup l => exact ⟨l, .inr rfl, h⟩
  | _ => exact h.elim
def aMin1 (ds : List Dat) (Q : Dat → Prop) : Prop := as1 ds fun a => partsD a fun l => ∃ ns, isInts l = some ns ∧ 0 < ns.length ∧ ∀ m, m ∈ ns → (∀ y, y ∈ ns → m ≤ y) → Q (.int m)
def aMax1 (ds : List Dat) (Q : Dat → Prop) : Prop := as1 ds fun a => partsD a fun l => ∃ ns, isInts l = some ns ∧ 0 < ns.length ∧ ∀ m, m ∈ ns → (∀ y, y ∈ ns → y ≤ m) → Q (.int m)
section
variable {K : PySem.W.Frag}
theorem Rep.parts_of {p : Option Addr} {F : Hp} {v : V} {a : Dat} {l : List Dat} (r : Rep K p F v a) (h : (a = .lst l ∨ a = .fz l) ∨ a = .tup l) : ∃ b vs, v = .ref b ∧ (SqL K F b vs ∨ SqT K F b vs) ∧ Reps K p F vs l := by
  rcases h with h | h
  · obtain ⟨b, vs, e, g, q⟩ := r.list_of h
    exact ⟨b, vs, e, .inl g, q⟩
  · subst h
    obtain ⟨b, vs, e, g, q⟩ := r.tup_of
    exact ⟨b, vs, e, .inr g, q⟩
instance : BV K (rMin1 K) aMin1 := .pure fun {p F H QD vs ds Q'} e r hf k => by
  obtain ⟨a, rfl, f1⟩ := as1_of hf
  obtain ⟨v, rfl, rv⟩ := r.one_of
  obtain ⟨l, hl, ns, h1, h2, h3⟩ := partsD_of f1
  obtain ⟨b, ws, rfl, g1, g2⟩ := rv.parts_of hl
  have g3 := g2.ints_of h1
  subst g3
  exact ⟨b, ns, rfl, g1.imp (ex_l e) (ex_t e), h2, fun m q1 q2 => k _ _ (.int _) (h3 m q1 q2)⟩
instance : BV K (rMax1 K) aMax1 := .pure fun {p F H QD vs ds Q'} e r hf k => by
  obtain ⟨a, rfl, f1⟩ := as1_of hf
  obtain ⟨v, rfl, rv⟩ := r.one_of
  obtain ⟨l, hl, ns, h1, h2, h3⟩ := partsD_of f1
  obtain ⟨b, ws, rfl, g1, g2⟩ := rv.parts_of hl
  have g3 := g2.ints_of h1
  subst g3
  exact ⟨b, ns, rfl, g1.imp (ex_l e) (ex_t e), h2, fun m q1 q2 => k _ _ (.int _) (h3 m q1 q2)⟩
end
/-! loops -/
/-- a loop that may be left: an invariant for each turn -/
theorem forW_at {wg : WG} {wb : WS} {D : Dx} : ∀ (ds : List Dat) (Iv : Nat → Sx → Prop) (S : Sx),
    (∀ i d S, ds[i]? = some d → Iv i S → ∀ N : Sx → Prop, (∀ S', Iv (i + 1) S' → N S') → wg d S fun S2 => wb { D with nx := N, ct := N, bk := D.nx } S2) →
    Iv 0 S → (∀ S', Iv ds.length S' → D.nx S') → forW wg wb ds D S
  | [], Iv, S, _, h0, h1 => h1 S h0
  | d :: ds, Iv, S, st, h0, h1 => st 0 d S rfl h0 _ fun S' hS' =>
    forW_at ds (fun i => Iv (i + 1)) S' (fun i e S hi => st (i + 1) e S hi) hS' h1
/-- while: an invariant and a measure -/
theorem wWhile_at {wt : WT} {wb : WS} {D : Dx} (Iv : Sx → Prop) (mu : Sx → Nat) {S : Sx}
    (st : ∀ S, Iv S → ∀ N : Sx → Prop, (∀ S', Iv S' → mu S' < mu S → N S') → wt S fun b S1 => if b = true then wb { D with nx := N, ct := N, bk := D.nx } S1 else D.nx S1)
    (h0 : Iv S) : wWhile wt wb D S := by
  refine ⟨mu S + 1, ?_⟩
  have key : ∀ k S, Iv S → mu S < k → whileW wt wb k D S := by
    intro k
    induction k with
    | zero => intro S _ h; omega
    | succ k ih =>
      intro S hS hk
      exact st S hS _ fun S' h1 h2 => ih S' h1 (by omega)
  exact key _ S h0 (Nat.lt_succ_self _)
/-- a comprehension that draws nothing and keeps all: what each element gives is only known by P -/
theorem intsD_get {a : Int} {k i : Nat} {d : Dat} (h : (intsD a k)[i]? = some d) : i < k ∧ d = .int (a + i) := by
  unfold intsD at h
  rw [List.getElem?_map, Option.map_eq_some_iff] at h
  obtain ⟨j, h1, rfl⟩ := h
  have h2 : i < k := by
    by_cases hi : i < k
    · exact hi
    · rw [List.getElem?_eq_none (by simpa using hi)] at h1
      cases h1
  rw [List.getElem?_range h2] at h1
  cases h1
  exact ⟨h2, rfl⟩
end Dl
-- part Dz
set_option Elab.async false
set_option linter.all false
set_option maxRecDepth 100000
set_option maxHeartbeats 4000000
namespace Dl
open PySem PySem.Spec PyProof.Rows L2 Evl RZ
/-! data that == compares as one expects: no bools -/
def okStr (l : List Nat) : Bool := l.all fun c => decide (c < 1114112)
def nice : Nat → Dat → Bool
  | _, .non => true
  | _, .int _ => true
  | _, .str l => okStr l
  | k + 1, .tup l => l.all (nice k)
  | k + 1, .lst l => l.all (nice k)
  | _, _ => false
theorem nice_tup {k : Nat} {l : List Dat} : nice (k + 1) (.tup l) = l.all (nice k) := by simp only [nice]
theorem nice_lst {k : Nat} {l : List Dat} : nice (k + 1) (.lst l) = l.all (nice k) := by simp only [nice]
theorem nice_str {k : Nat} {l : List Nat} : nice k (.str l) = okStr l := by cases k <;> simp only [nice]
theorem nice_int {k : Nat} {i : Int} : nice k (.int i) = true := by cases k <;> simp only [nice]
theorem nice_non {k : Nat} : nice k .non = true := by cases k <;> simp only [nice]
theorem nice_bad {k : Nat} {x : Dat} (h : nice k x = true) : x = .non ∨ (∃ i, x = .int i) ∨ (∃ l, x = .str l ∧ okStr l = true) ∨ ∃ j l, k = j + 1 ∧ l.all (nice j) = true ∧ (x = .tup l ∨ x = .lst l) := by
  cases x with
  | non => exact .inl rfl
  | int i => exact .inr (.inl ⟨i, rfl⟩)
  | str l => rw [nice_str] at h; exact .inr (.inr (.inl ⟨l, rfl, h⟩))
  | tup l =>
    cases k with
    | zero => simp [nice] at h
    | succ k => rw [nice_tup] at h; exact .inr (.inr (.inr ⟨k, l, rfl, h, .inl rfl⟩))
  | lst l =>
    cases k with
    | zero => simp [nice] at h
    | succ k => rw [nice_lst] at h; exact .inr (.inr (.inr ⟨k, l, rfl, h, .inr rfl⟩))
  | _ => cases k <;> simp [nice] at h
theorem eqvAll_of {k : Nat} (ih : ∀ x y, nice k x = true → nice k y = true → (PyData.eqv (pd x) (pd y) = true ↔ x = y)) : ∀ l m : List Dat, l.all (nice k) = true → m.all (nice k) = true → (PyData.eqvAll (pds l) (pds m) = true ↔ l = m)
  | [], [], _, _ => by simp [pds, PyData.eqvAll]
  | [], _ :: _, _, _ => by simp [pds, PyData.eqvAll]
  | _ :: _, [], _, _ => by simp [pds, PyData.eqvAll]
  | x :: l, y :: m, hl, hm => by
    rw [List.all_cons, Bool.and_eq_true] at hl hm
    simp only [pds, PyData.eqvAll, Bool.and_eq_true, List.cons.injEq]
    rw [ih x y hl.1 hm.1, eqvAll_of ih l m hl.2 hm.2]
theorem eqv_nice : ∀ (k : Nat) (x y : Dat), nice k x = true → nice k y = true → (PyData.eqv (pd x) (pd y) = true ↔ x = y) := by
  intro k
  induction k with
  | zero =>
    intro x y hx hy
    rcases nice_bad hx with rfl | ⟨i, rfl⟩ | ⟨l, rfl, h1⟩ | ⟨j, l, h0, _⟩
    · rcases nice_bad hy with rfl | ⟨j, rfl⟩ | ⟨m, rfl, h2⟩ | ⟨j, m, h0, _⟩ <;> first | omega | simp [pd, PyData.eqv]
    · rcases nice_bad hy with rfl | ⟨j, rfl⟩ | ⟨m, rfl, h2⟩ | ⟨j, m, h0, _⟩ <;> first | omega | simp [pd, PyData.eqv]
    · rcases nice_bad hy with rfl | ⟨j, rfl⟩ | ⟨m, rfl, h2⟩ | ⟨j, m, h0, _⟩ <;> first | omega | simp [pd, PyData.eqv]
    · omega
  | succ k ih =>
    intro x y hx hy
    rcases nice_bad hx with rfl | ⟨i, rfl⟩ | ⟨l, rfl, h1⟩ | ⟨j, l, h0, h1, rfl | rfl⟩
    · rcases nice_bad hy with rfl | ⟨j, rfl⟩ | ⟨m, rfl, h2⟩ | ⟨j, m, h0, _, rfl | rfl⟩ <;> simp [pd, PyData.eqv]
    · rcases nice_bad hy with rfl | ⟨j, rfl⟩ | ⟨m, rfl, h2⟩ | ⟨j, m, h0, _, rfl | rfl⟩ <;> simp [pd, PyData.eqv]
    · rcases nice_bad hy with rfl | ⟨j, rfl⟩ | ⟨m, rfl, h2⟩ | ⟨j, m, h0, _, rfl | rfl⟩ <;> simp [pd, PyData.eqv]
    · obtain rfl : j = k := by omega
      rcases nice_bad hy with rfl | ⟨j, rfl⟩ | ⟨m, rfl, h2⟩ | ⟨j2, m, h0, h2, rfl | rfl⟩
      · simp [pd, PyData.eqv]
      · simp [pd, PyData.eqv]
      · simp [pd, PyData.eqv]
      · obtain rfl : j2 = j := by omega
        simp only [pd, PyData.eqv, Dat.tup.injEq]
        exact eqvAll_of ih l m h1 h2
      · simp [pd, PyData.eqv]
    · obtain rfl : j = k := by omega
      rcases nice_bad hy with rfl | ⟨j, rfl⟩ | ⟨m, rfl, h2⟩ | ⟨j2, m, h0, h2, rfl | rfl⟩
      · simp [pd, PyData.eqv]
      · simp [pd, PyData.eqv]
      · simp [pd, PyData.eqv]
      · simp [pd, PyData.eqv]
      · obtain rfl : j2 = j := by omega
        simp only [pd, PyData.eqv, Dat.lst.injEq]
        exact eqvAll_of ih l m h1 h2
theorem eqD_yes {k : Nat} {x y : Dat} (hx : nice k x = true) (hy : nice k y = true) (h : x = y) : eqD x y = true := (eqv_nice k x y hx hy).mpr h
theorem eqD_no {k : Nat} {x y : Dat} (hx : nice k x = true) (hy : nice k y = true) (h : x ≠ y) : eqD x y = false := by
  rw [Bool.eq_false_iff]
  exact fun e => h ((eqv_nice k x y hx hy).mp e)
theorem okStr_ok {l : List Nat} (h : okStr l = true) : PyData.canLay0 (.str ⟨l.toArray⟩) = true := by
  simp only [PyData.canLay0, PyData.strOk]
  simpa [okStr] using h
theorem canLay_nice : ∀ (k : Nat) (x : Dat), nice k x = true → (pd x).canLay0 = true ∧ (pd x).depth ≤ k ∧ plain x = true := by
  intro k
  induction k with
  | zero =>
    intro x hx
    rcases nice_bad hx with rfl | ⟨i, rfl⟩ | ⟨l, rfl, h1⟩ | ⟨j, l, h0, _⟩
    · simp [pd, PyData.canLay0, PyData.depth, plain]
    · simp [pd, PyData.canLay0, PyData.depth, plain]
    · exact ⟨okStr_ok h1, by simp [pd, PyData.depth], by simp [plain]⟩
    · omega
  | succ k ih =>
    have lists : ∀ l : List Dat, l.all (nice k) = true → PyData.canLayAll0 (pds l) = true ∧ PyData.depthAll (pds l) ≤ k ∧ plains l = true := by
      intro l
      induction l with
      | nil => intro _; simp [pds, PyData.canLayAll0, PyData.depthAll, plains]
      | cons a l ih2 =>
        intro h
        rw [List.all_cons, Bool.and_eq_true] at h
        obtain ⟨a1, a2, a3⟩ := ih a h.1
        obtain ⟨b1, b2, b3⟩ := ih2 h.2
        simp only [pds, PyData.canLayAll0, PyData.depthAll, plains, a1, b1, a3, b3]
        exact ⟨rfl, by omega, rfl⟩
    intro x hx
    rcases nice_bad hx with rfl | ⟨i, rfl⟩ | ⟨l, rfl, h1⟩ | ⟨j, l, h0, h1, h2⟩
    · simp [pd, PyData.canLay0, PyData.depth, plain]
    · simp [pd, PyData.canLay0, PyData.depth, plain]
    · exact ⟨okStr_ok h1, by simp [pd, PyData.depth], by simp [plain]⟩
    · obtain rfl : j = k := by omega
      obtain ⟨b1, b2, b3⟩ := lists l h1
      rcases h2 with rfl | rfl
      · simp only [pd, PyData.canLay0, PyData.depth, plain]
        exact ⟨b1, by omega, b3⟩
      · simp only [pd, PyData.canLay0, PyData.depth, plain]
        exact ⟨b1, by omega, b3⟩
theorem cmpOk_nice {k : Nat} {x : Dat} (hx : nice k x = true) (hk : k ≤ 64 := by decide) : cmpOk x := by
  obtain ⟨h1, h2, h3⟩ := canLay_nice k x hx
  refine ⟨h3, ?_⟩
  unfold SeqAt.shaped
  rw [h1, decide_eq_true (show (pd x).depth ≤ 64 by omega)]
  rfl
theorem eqdT {k : Nat} {x y : Dat} {A B : Prop} (hx : nice k x = true) (hy : nice k y = true) (h : x = y) (a : A) : if eqD x y = true then A else B := by
  rw [if_pos (eqD_yes hx hy h)]
  exact a
theorem eqdN {k : Nat} {x y : Dat} {A B : Prop} (hx : nice k x = true) (hy : nice k y = true) (h : x ≠ y) (b : B) : if eqD x y = true then A else B := by
  rw [eqD_no hx hy h, if_neg Bool.false_ne_true]
  exact b
theorem nedT {k : Nat} {x y : Dat} {A B : Prop} (hx : nice k x = true) (hy : nice k y = true) (h : x ≠ y) (a : A) : if (!eqD x y) = true then A else B := by
  rw [eqD_no hx hy h]
  exact a
theorem nedN {k : Nat} {x y : Dat} {A B : Prop} (hx : nice k x = true) (hy : nice k y = true) (h : x = y) (b : B) : if (!eqD x y) = true then A else B := by
  rw [eqD_yes hx hy h]
  exact b
end Dl
-- part D1
set_option Elab.async false
set_option linter.all false
set_option maxRecDepth 100000
set_option maxHeartbeats 4000000
namespace Dl
open PySem PySem.Spec PyProof.Rows L2 Evl RZ
/-! is, is not: None or a bool on the right -/
section
variable {X : Cx}
def rIsB (neg : Bool) : R2 := fun x y H Q => ∃ b, y = .bl b ∧ ((∃ a, x = .bl a ∧ Q (.bl (if neg then !decide (a = b) else decide (a = b))) H) ∨ (x = .non ∧ Q (.bl neg) H))
theorem same_bl {M : Model} {A : Around} {E : Value → Shared → Prop} {s : Shared} {a b : Bool} {R : Bool → Shared → Prop} (q : R (decide (a = b)) s) : wpAny M A (isSame (.bool a) (.bool b)) R E s := by
  refine wpAny_isSame_plain rfl ?_
  rw [show (Value.bool a == Value.bool b) = decide (a = b) by cases a <;> cases b <;> rfl]
  exact q
theorem same_nb {M : Model} {A : Around} {E : Value → Shared → Prop} {s : Shared} {b : Bool} {R : Bool → Shared → Prop} (q : R false s) : wpAny M A (isSame .none (.bool b)) R E s := by
  refine wpAny_isSame_plain rfl ?_
  rw [show (Value.none == Value.bool b) = false by rfl]
  exact q
theorem op_isB : OpR X (compareOp .Is) (rIsB false) := by
  intro pins s σ H x y v u Q I rx ry h
  obtain ⟨b, rfl, h⟩ := h
  cases ry
  rcases h with ⟨a, rfl, q⟩ | ⟨rfl, q⟩
  · cases rx
    show wpAny _ _ ((isSame (Value.bool a) (Value.bool b)) >>= fun z => pure (Value.bool z)) _ _ s
    exact wpAny_bind (same_bl (wpAny_pure (fin_bl I q rfl)))
  · cases rx
    show wpAny _ _ ((isSame Value.none (Value.bool b)) >>= fun z => pure (Value.bool z)) _ _ s
    exact wpAny_bind (same_nb (wpAny_pure (fin_bl I q rfl)))
theorem op_isNotB : OpR X (compareOp .IsNot) (rIsB true) := by
  intro pins s σ H x y v u Q I rx ry h
  obtain ⟨b, rfl, h⟩ := h
  cases ry
  rcases h with ⟨a, rfl, q⟩ | ⟨rfl, q⟩
  · cases rx
    show wpAny _ _ ((isSame (Value.bool a) (Value.bool b)) >>= fun z => pure (Value.bool (!z))) _ _ s
    exact wpAny_bind (same_bl (wpAny_pure (fin_bl I q rfl)))
  · cases rx
    show wpAny _ _ ((isSame Value.none (Value.bool b)) >>= fun z => pure (Value.bool (!z))) _ _ s
    exact wpAny_bind (same_nb (wpAny_pure (fin_bl I q rfl)))
def rIsW : R2 := fun x y H Q => rIsN x y H Q ∨ rIsB false x y H Q
def rIsNotW : R2 := fun x y H Q => rIsNotN x y H Q ∨ rIsB true x y H Q
theorem op_isW : OpR X (compareOp .Is) rIsW := op_isNG.or op_isB
theorem op_isNotW : OpR X (compareOp .IsNot) rIsNotW := op_isNotNG.or op_isNotB
end
def isW (a b : Dat) (k : Bool → Prop) : Prop :=
  match b with
  | .non => k (isN a)
  | .bl b => (match a with | .bl a => k (decide (a = b)) | .non => k false | _ => False)
  | _ => False
def aIsW : OpD := fun a b Q => isW a b fun k => Q (.bl k)
def aIsNotW : OpD := fun a b Q => isW a b fun k => Q (.bl (!k))
section
variable {x : Dat} {b c : Bool} {KB : Bool → Prop}
theorem isW_n : isW x .non KB = KB (isN x) := rfl
theorem isW_bb : isW (.bl b) (.bl c) KB = KB (decide (b = c)) := rfl
theorem isW_nb : isW .non (.bl c) KB = KB false := rfl
end
section
variable {K : PySem.W.Frag}
instance : OV K rIsW aIsW := .pure fun {p F H QD x y a b Q'} e ra rb hf k => by
  cases b with
  | non => cases rb; exact .inl ⟨rfl, k _ _ (by rw [isN_of ra]; exact .bl _) hf⟩
  | bl b =>
    rw [rb.bl_of]
    cases a with
    | bl a => rw [ra.bl_of]; exact .inr ⟨b, rfl, .inl ⟨a, rfl, k _ _ (.bl _) hf⟩⟩
    | non => cases ra; exact .inr ⟨b, rfl, .inr ⟨rfl, k _ _ (.bl _) hf⟩⟩
    | _ => exact (show False from hf).elim
  | _ => exact (show False from hf).elim
instance : OV K rIsNotW aIsNotW := .pure fun {p F H QD x y a b Q'} e ra rb hf k => by
  cases b with
  | non => cases rb; exact .inl ⟨rfl, k _ _ (by rw [isN_of ra]; exact .bl _) hf⟩
  | bl b =>
    rw [rb.bl_of]
    cases a with
    | bl a => rw [ra.bl_of]; exact .inr ⟨b, rfl, .inl ⟨a, rfl, k _ _ (.bl _) hf⟩⟩
    | non => cases ra; exact .inr ⟨b, rfl, .inr ⟨rfl, k _ _ (.bl _) hf⟩⟩
    | _ => exact (show False from hf).elim
  | _ => exact (show False from hf).elim
end
/-! text[::-1] -/
theorem filterMap_of {α β : Type} (f : α → Option β) : ∀ (l : List α) (r : List β), l.map f = r.map some → l.filterMap f = r
  | [], [], _ => rfl
  | [], _ :: _, h => nomatch h
  | _ :: _, [], h => nomatch h
  | a :: l, b :: r, h => by
    rw [List.map_cons, List.map_cons, List.cons.injEq] at h
    rw [List.filterMap_cons, h.1, filterMap_of f l r h.2]
theorem rev_picked (z : Array Nat) : ((Builtin.Str.strSliceIndices none none (-1) z.size).filterMap (z[·]?)) = z.toList.reverse := by
  refine filterMap_of _ _ _ ?_
  have e : Builtin.Str.strSliceIndices none none (-1) z.size = (List.range z.size).map fun k => z.size - 1 - k := by
    show sliceRange ((z.size : Int) - 1) (-1) (-1) = _
    unfold sliceRange
    rw [if_neg (by decide)]
    have e2 : (if (z.size : Int) - 1 > -1 then ((z.size : Int) - 1 - -1 - -1 - 1) / - -1 else 0) = (z.size : Int) := by
      rw [show ((z.size : Int) - 1 - -1 - -1 - 1) / - -1 = (z.size : Int) by rw [show (- -1 : Int) = 1 from rfl, Int.ediv_one]; omega]
      split <;> omega
    rw [e2]
    show (List.range (z.size : Int).toNat).map _ = _
    rw [Int.toNat_natCast]
    exact List.map_congr_left fun k _ => by omega
  rw [e, List.map_map]
  refine List.ext_getElem? fun i => ?_
  rw [List.getElem?_map, List.getElem?_map]
  by_cases hi : i < z.size
  · rw [List.getElem?_range hi, List.getElem?_reverse (by simpa using hi)]
    show some (z[z.size - 1 - i]?) = _
    rw [Array.length_toList, Array.getElem?_toList, Array.getElem?_eq_getElem (by omega)]
    rfl
  · rw [List.getElem?_eq_none (by simpa using hi), List.getElem?_eq_none (by simpa using hi)]
    rfl
section
variable {X : Cx} {e st : Expr} {te ts : TE} {pos p2 : Pos}
def tRevS (te ts : TE) : TE := fun σ H Q => te σ H fun x H1 => ts σ H1 fun y H2 => y = .int (-1) ∧ ∃ z : Str, x = .str z ∧ z.length ≤ sizeLine ∧ Q (.str ⟨z.cps.toList.reverse.toArray⟩) H2
theorem pe_revS (he : PE X e te) (hs : PE X st ts) : PE X (.Subscript e (.Slice none none (some st) p2) pos) (tRevS te ts) := by
  refine ⟨fun pins s σ H Q I h => ?_⟩
  refine Subscript_ (thn (he.run pins s σ H _ I h) fun v s1 ⟨x, H1, I1, r1, q1⟩ => ?_)
  refine wpAny_Slice ?_
  rw [evalPart_none]
  refine wpAny_pure (wpAny_pure ?_)
  rw [evalPart_some]
  refine thn (hs.run pins s1 σ H1 _ I1 q1) fun vs s3 ⟨y, H3, I3, ry, hy, z, hz, hl, q3⟩ => ?_
  subst hy
  subst hz
  obtain ⟨t2, rfl⟩ := ry
  obtain ⟨t, rfl⟩ := r1
  have I4 : Inv X pins σ H3 { s3 with heap := s3.heap.push { cls := .type "slice", data := .fields #[.none, .none, .int (-1) t2] } } := I3.kept (t' := s3.toks) fun b ob q => Heap.get?_push_of_some _ q
  show wpAny (model X.prog X.w) X.A (subscriptTail e (.Slice none none (some st) p2) (.str z t) (.ref s3.heap.objs.size)) (EP X pins σ Q) X.xe { s3 with heap := s3.heap.push { cls := .type "slice", data := .fields #[.none, .none, .int (-1) t2] } }
  refine tail_any (T := "str") (ops := [.ref s3.heap.objs.size, .str z t]) (typeIs_str _ _ _) F.slot_str_getitem.lookup ?_ (by with_unfolding_all rfl)
  refine wpAny_getItem_str_slice (l := none) (u := none) (st := some (-1, t2)) ⟨_, Heap.get?_push_size _ rfl, rfl, rfl⟩ rfl ?_
  show Made.post (if ((-1 : Int) == 1 && (Builtin.Str.strSliceIndices none none (-1) z.length).length == z.length) = true then Made.val (.str z t)
    else Made.str ⟨((Builtin.Str.strSliceIndices none none (-1) z.cps.size).filterMap (z.cps[·]?)).toArray⟩) (EP X pins σ Q) _
  rw [if_neg (by simp), rev_picked]
  exact ⟨by show (z.cps.toList.reverse.toArray).size ≤ _; simpa [Str.length] using hl, .str _, H3, I4.tok _, ⟨_, rfl⟩, q3⟩
end
def wRevS (we ws : WE) : WE := fun S Q => we S fun x S1 => ws S1 fun y S2 => match y, x with | .int i, .str z => i = -1 ∧ z.length ≤ 1000000 ∧ Q (.str z.reverse) S2 | _, _ => False
instance {K : PySem.W.Frag} {te ts : TE} {we ws : WE} [a : EV K te we] [b : EV K ts ws] : EV K (tRevS te ts) (wRevS we ws) := ⟨fun ok hw k =>
  a.run ok hw fun x F1 H1 S1 d1 ok1 e1 r1 q1 => b.run ok1 q1 fun y F2 H2 S2 d2 ok2 e2 r2 q2 => by
    cases d2 with
    | int i =>
      cases d1 with
      | str z =>
        obtain ⟨rfl, h2, h3⟩ : i = -1 ∧ z.length ≤ 1000000 ∧ _ := q2
        rw [r2.int_of, r1.str_of]
        exact ⟨rfl, _, rfl, by rw [str_len]; exact line_of h2, k _ F2 H2 S2 (.str z.reverse) ok2 (e1.trans e2) (by simpa using Rep.str (K := K) (⟨z.reverse.toArray⟩ : Str)) h3⟩
      | _ => exact (show False from q2).elim
    | _ => exact (show False from q2).elim⟩
end Dl
-- part D2
set_option Elab.async false
set_option linter.all false
set_option maxRecDepth 100000
set_option maxHeartbeats 4000000
namespace Dl
open PySem PySem.Spec PyProof.Rows L2 Evl RZ
/-! a dict of the top's: text keys, values that stay -/
inductive KRows (K : PySem.W.Frag) : List DictEntry → List (List Nat × Dat) → Prop
  | nil : KRows K [] []
  | cons {h : Int} {s : Str} {t : Tok} {u : Value} {z : List Nat} {v : V} {d : Dat} {es : List DictEntry} {rs : List (List Nat × Dat)} : s.cps.toList = z → RelV v u → (∀ p F, Rep K p F v d) → KRows K es rs → KRows K (⟨h, .str s t, u⟩ :: es) ((z, d) :: rs)
def tabAt (rs : List (List Nat × Dat)) (z : List Nat) : Option Dat := (rs.find? fun r => decide (r.1 = z)).map (·.2)
theorem str_eq_of {s : Str} {z : List Nat} (h : s.cps.toList = z) : s = ⟨z.toArray⟩ := by
  subst h
  cases s
  simp
theorem isStr_mk {s : Str} {t : Tok} {z a : List Nat} (h : s.cps.toList = a) : (Value.str s t).isStr ⟨z.toArray⟩ = decide (a = z) := by
  rw [str_eq_of h]
  show ((⟨a.toArray⟩ : Str) == ⟨z.toArray⟩) = _
  rw [Bool.eq_iff_iff]
  simp
theorem KRows.at {K : PySem.W.Frag} (z : List Nat) : ∀ {es : List DictEntry} {rs : List (List Nat × Dat)}, KRows K es rs → es.any (·.refKey) = false ∧
    ((∃ e d v, es.find? (·.key.isStr ⟨z.toArray⟩) = some e ∧ tabAt rs z = some d ∧ RelV v e.val ∧ ∀ p F, Rep K p F v d) ∨ (es.find? (·.key.isStr ⟨z.toArray⟩) = none ∧ tabAt rs z = none))
  | _, _, .nil => ⟨rfl, .inr ⟨rfl, rfl⟩⟩
  | _, _, .cons (z := a) (d := d) (v := v) h1 h2 h3 r => by
    obtain ⟨r1, r2⟩ := r.at z
    refine ⟨by rw [List.any_cons, r1]; rfl, ?_⟩
    unfold tabAt
    rw [List.find?_cons, List.find?_cons]
    by_cases e : a = z
    · rw [isStr_mk h1, decide_eq_true e]
      exact .inl ⟨_, d, v, rfl, rfl, h2, h3⟩
    · rw [isStr_mk h1, decide_eq_false e]
      exact r2
class KTab (K : PySem.W.Frag) (w : World) (a : Addr) (rs : outParam (List (List Nat × Dat))) : Prop where
  dict : ∃ es n, KDict K w a es n ∧ KRows K es.toList rs
theorem nsIn_dict {K : PySem.W.Frag} {a : Addr} {c : Value} {o : Option Addr} {es : Array DictEntry} {n : Nat} {sl : Array (Option Value)} (l : K.lookup a = some ⟨c, o, .dict es n, sl⟩) (z : Str) :
    PySem.W.nsIn K a z = match es.toList.find? (·.key.isStr z) with | some e => some (some e.val) | none => if es.toList.any (·.refKey) then none else some none := by
  unfold PySem.W.nsIn
  rw [l]
  rfl
theorem KTab.at {K : PySem.W.Frag} {w : World} {a : Addr} {rs : List (List Nat × Dat)} (T : KTab K w a rs) (z : List Nat) : ∃ es n, KDict K w a es n ∧
    ((∃ d v u, tabAt rs z = some d ∧ PySem.W.nsIn K a ⟨z.toArray⟩ = some (some u) ∧ RelV v u ∧ ∀ p F, Rep K p F v d) ∨ (tabAt rs z = none ∧ PySem.W.nsIn K a ⟨z.toArray⟩ = some none)) := by
  obtain ⟨es, n, D, R⟩ := T.dict
  obtain ⟨r1, r2⟩ := R.at z
  refine ⟨es, n, D, ?_⟩
  rw [nsIn_dict D.at_]
  rcases r2 with ⟨e, d, v, q1, q2, q3, q4⟩ | ⟨q1, q2⟩
  · rw [q1]
    exact .inl ⟨d, v, e.val, q2, rfl, q3, q4⟩
  · rw [q1, r1]
    exact .inr ⟨q2, rfl⟩
section
variable {X : Cx} {K : PySem.W.Frag} {w : World} {a : Addr} {rs : List (List Nat × Dat)}
/-- d[e], e in d -/
def rKIx (K : PySem.W.Frag) (w : World) (a : Addr) : R2 := fun x y H Q => x = .ref a ∧ rIxD K w x y H Q
def rKIn (K : PySem.W.Frag) (w : World) (a : Addr) (neg : Bool) : R2 := fun x y H Q => ∃ es n, KDict K w a es n ∧ ∃ (z : Str) (r : Option Value), x = .str z ∧ y = .ref a ∧ PySem.W.nsIn K a z = some r ∧ Q (.bl (if neg then !r.isSome else r.isSome)) H
theorem ixD_K (K : PySem.W.Frag) (w : World) (a : Addr) (h : X.K = K := by rfl) (h2 : X.w = w := by rfl) : IxR X (rKIx K w a) := by
  subst h
  subst h2
  intro value slice pins s σ H x y v u Q I rx ry q hs
  exact ix_kdict value slice pins s σ H x y v u Q I rx ry q.2 hs
theorem inD_K (K : PySem.W.Frag) (w : World) (a : Addr) (h : X.K = K := by rfl) (h2 : X.w = w := by rfl) : OpR X (compareOp .In) (rKIn K w a false) := by
  subst h
  subst h2
  intro pins s σ H x y v u Q I rx ry q
  obtain ⟨es, n, D, q⟩ := q
  exact op_in_kd D pins s σ H x y v u Q I rx ry q
theorem notInD_K (K : PySem.W.Frag) (w : World) (a : Addr) (h : X.K = K := by rfl) (h2 : X.w = w := by rfl) : OpR X (compareOp .NotIn) (rKIn K w a true) := by
  subst h
  subst h2
  intro pins s σ H x y v u Q I rx ry q
  obtain ⟨es, n, D, q⟩ := q
  exact op_notIn_kd D pins s σ H x y v u Q I rx ry q
end
/-- the table itself, as it is written -/
def wKIx (rs : List (List Nat × Dat)) (we : WE) : WE := fun S Q => we S fun d S1 => match d with | .str z => ∃ r, tabAt rs z = some r ∧ Q r S1 | _ => False
def wKIn (neg : Bool) (rs : List (List Nat × Dat)) (we : WE) : WE := fun S Q => we S fun d S1 => match d with | .str z => Q (.bl (if neg then !(tabAt rs z).isSome else (tabAt rs z).isSome)) S1 | _ => False
instance ev_kix {K : PySem.W.Frag} {w : World} {a : Addr} {rs : List (List Nat × Dat)} {te : TE} {we : WE} [T : KTab K w a rs] [e : EV K te we] : EV K (tOp (rKIx K w a) (tC (.ref a)) te) (wKIx rs we) := ⟨fun {p H0 F0 F H σ S T2 Q Q'} ok hw k => by
  show te σ H fun y H2 => rKIx K w a (.ref a) y H2 Q'
  refine e.run ok hw fun v F1 H1 S1 d ok1 e1 r1 q1 => ?_
  cases d with
  | str z =>
    obtain ⟨r, q2, q3⟩ : ∃ r, tabAt rs z = some r ∧ Q r S1 := q1
    obtain ⟨es, n, D, h⟩ := T.at z
    rcases h with ⟨d, v2, u, h1, h2, h3, h4⟩ | ⟨h1, _⟩
    · rw [q2] at h1
      cases h1
      rw [r1.str_of]
      exact ⟨rfl, a, _, v2, rfl, rfl, ⟨es, n, u, D.at_, D.lit, h2, h3⟩, k _ F1 H1 S1 _ ok1 e1 (h4 _ _) q3⟩
    · rw [q2] at h1
      cases h1
  | _ => exact (show False from q1).elim⟩
instance ev_kin {K : PySem.W.Frag} {w : World} {a : Addr} {neg : Bool} {rs : List (List Nat × Dat)} {te : TE} {we : WE} [T : KTab K w a rs] [e : EV K te we] : EV K (tOp (rKIn K w a neg) te (tC (.ref a))) (wKIn neg rs we) := ⟨fun {p H0 F0 F H σ S T2 Q Q'} ok hw k => by
  show te σ H fun y H2 => rKIn K w a neg y (.ref a) H2 Q'
  refine e.run ok hw fun v F1 H1 S1 d ok1 e1 r1 q1 => ?_
  cases d with
  | str z =>
    have q2 : Q (.bl (if neg then !(tabAt rs z).isSome else (tabAt rs z).isSome)) S1 := q1
    obtain ⟨es, n, D, h⟩ := T.at z
    rw [r1.str_of]
    rcases h with ⟨d, v2, u, h1, h2, h3, h4⟩ | ⟨h1, h2⟩
    · rw [h1] at q2
      exact ⟨es, n, D, _, _, rfl, rfl, h2, k _ F1 H1 S1 _ ok1 e1 (.bl _) q2⟩
    · rw [h1] at q2
      exact ⟨es, n, D, _, _, rfl, rfl, h2, k _ F1 H1 S1 _ ok1 e1 (.bl _) q2⟩
  | _ => exact (show False from q1).elim⟩
theorem ktab_mk {K : PySem.W.Frag} {w : World} {a : Addr} {es : List DictEntry} {n : Nat} {rs : List (List Nat × Dat)} (l : K.lookup a = some ⟨.type "dict", none, .dict es.toArray n, #[]⟩) (lit : PySem.W.KeysLit w.params es) (low : (a == sysModules) = false) (R : KRows K es rs) : KTab K w a rs :=
  ⟨es.toArray, n, ⟨l, lit, low⟩, R⟩
end Dl
-- part D3
set_option Elab.async false
set_option linter.all false
set_option maxRecDepth 100000
set_option maxHeartbeats 4000000
namespace Dl
open PySem PySem.Spec PyProof.Rows L2 Evl RZ
/-! tuple[::-1] -/
theorem rev_places (n : Nat) : Builtin.Slice.sliceAdjust none none (-1) (n : Int) = ((n : Int) - 1, -1) ∧ Builtin.Slice.slicePlaces ((n : Int) - 1) (-1) (-1) = n := by
  constructor
  · unfold Builtin.Slice.sliceAdjust
    simp
  · unfold Builtin.Slice.slicePlaces
    rw [if_neg (by decide)]
    simp only [show (- -1 : Int) = 1 from rfl, Int.ediv_one]
    split <;> omega
theorem rev_pick (xs : Array Value) : ((List.range xs.size).filterMap fun (m : Nat) => xs[(((xs.size : Int) - 1) + (m : Int) * -1).toNat]?) = xs.toList.reverse := by
  refine filterMap_of _ _ _ ?_
  refine List.ext_getElem? fun i => ?_
  rw [List.getElem?_map, List.getElem?_map]
  by_cases hi : i < xs.size
  · rw [List.getElem?_range hi, List.getElem?_reverse (by simpa using hi)]
    show some (xs[(((xs.size : Int) - 1) + (i : Int) * -1).toNat]?) = _
    rw [show (((xs.size : Int) - 1) + (i : Int) * -1).toNat = xs.size - 1 - i by omega]
    rw [Array.length_toList, Array.getElem?_toList, Array.getElem?_eq_getElem (by omega)]
    rfl
  · rw [List.getElem?_eq_none (by simpa using hi), List.getElem?_eq_none (by simpa using hi)]
    rfl
section
variable {prog : Program} {w : World} {A : Around} {E : Value → Shared → Prop} {s : Shared}
theorem rev_applied {sl : Addr} {t2 : Tok} {n : Nat} {Q : Int × Int × Nat → Shared → Prop} (hs : s.heap.IsSliceOf sl .none .none (.int (-1) t2)) (h : Q ((n : Int) - 1, -1, n) s) :
    wpAny (model prog w) A (Builtin.Slice.sliceApplied (.ref sl) (pure (n : Int))) Q E s := by
  obtain ⟨ob, h1, h2, h3⟩ := id hs
  obtain ⟨a1, a2⟩ := rev_places n
  unfold Builtin.Slice.sliceApplied Builtin.Slice.sliceFields
  refine wpAny_bind (wpAny_bind (wpAny_field h1 h3 (x := .none) rfl (wpAny_bind (wpAny_field h1 h3 (x := .none) rfl (wpAny_bind (wpAny_field h1 h3 (x := .int (-1) t2) rfl (wpAny_pure ?_)))))))
  refine wpAny_bind (HT.slicePart_ (.int (-1) t2) ?_)
  show wpAny _ _ (if ((-1 : Int) == 0) = true then _ else _) _ _ s
  rw [if_neg (by decide)]
  refine wpAny_bind (HT.slicePart_ .none (wpAny_bind (HT.slicePart_ .none (wpAny_bind (wpAny_pure ?_)))))
  show wpAny _ _ (match Builtin.Slice.sliceAdjust none none (-1) (n : Int) with | (lo, hi) => pure (lo, (-1 : Int), Builtin.Slice.slicePlaces lo hi (-1))) _ _ s
  rw [a1]
  show wpAny _ _ (pure ((n : Int) - 1, (-1 : Int), Builtin.Slice.slicePlaces ((n : Int) - 1) (-1) (-1))) _ _ s
  rw [a2]
  exact wpAny_pure h
theorem rev_tuple {t sl : Addr} {its : Array Value} {t2 : Tok} {Q : Value → Shared → Prop} (tt : IsTup s.heap t its) (hs : s.heap.IsSliceOf sl .none .none (.int (-1) t2))
    (h : Q (.ref s.heap.objs.size) { s with heap := s.heap.push { cls := .type "tuple", data := .seq its.toList.reverse.toArray } }) (hz : its.size ≤ sizeLine) : wpAny (model prog w) A (getItem (.ref t) (.ref sl)) Q E s := by
  have hok : sizeOk (.seq its.toList.reverse.toArray) := by
    show its.toList.reverse.toArray.size ≤ sizeLine
    simpa using hz
  obtain ⟨ob, h1, h2, h3⟩ := id hs
  have ts : s.TypeIs (.ref sl) "slice" := ⟨ob, h1, h2⟩
  unfold getItem
  try with_reducible refine wpAny_holding ?_
  first | refine wpAny_bind (wpAny_pure ?_) | skip
  refine wpAny_bind (wpAny_sequenceKey tt.typeIs (by decide) ?_)
  refine wpAny_bind (wpAny_callSpecial?_slot (name := Str.ofString "__getitem__") tt.typeIs PyProof.Rows.slot_tuple_getitem
    (wpAny_call_entry PyProof.Rows.slot_tuple_getitem tt.typeIs entry_tuple_getitem ?_ (args_tuple_getitem _ _)))
  show wpAny _ _ (Builtin.Tuple.tupleItemsOf (.ref t) >>= _) _ _ s
  refine wpAny_bind (tupleItemsOf_ tt ?_)
  refine wpAny_bind (wpAny_typeOf ts ?_)
  rw [if_pos (by decide)]
  refine wpAny_bind (rev_applied (n := its.size) hs ?_)
  have hno : ¬ ((((its.size : Int) - 1) == 0 && (-1 : Int) == 1 && its.size == its.size) = true) := by simp
  show wpAny _ _ (if (((its.size : Int) - 1) == 0 && (-1 : Int) == 1 && its.size == its.size) = true then _ else _) _ _ s
  rw [if_neg hno, rev_pick]
  first
    | exact wpAny_bind (m := Builtin.Tuple.tupleExact _) (wpAny_newObj_type (wpAny_pure ⟨_, rfl, wpAny_pure h⟩) hok)
    | exact wpAny_bind (m := Builtin.Tuple.tupleExact _) (wpAny_newObj_type (wpAny_bind (wpAny_pure (wpAny_pure ⟨_, rfl, wpAny_pure h⟩))) hok)
    | exact wpAny_bind (wpAny_bind (m := Builtin.Tuple.tupleExact _) (wpAny_newObj_type (wpAny_pure (wpAny_pure ⟨_, rfl, wpAny_pure h⟩)) hok))
    | exact wpAny_bind (wpAny_bind (m := Builtin.Tuple.tupleExact _) (wpAny_newObj_type (wpAny_pure ⟨_, rfl, wpAny_pure h⟩) hok))
end
theorem vals_reverse {vs : List V} {us : List Value} (h : Vals vs us) : Vals vs.reverse us.reverse := by
  induction h with
  | nil => exact .nil
  | cons r _ ih =>
    rw [List.reverse_cons, List.reverse_cons]
    exact ih.append (.cons r .nil)
theorem reps_app {K : PySem.W.Frag} {p : Option Addr} {F : Hp} : ∀ {vs ws : List V} {ds es : List Dat}, Reps K p F vs ds → Reps K p F ws es → Reps K p F (vs ++ ws) (ds ++ es)
  | _, _, _, _, .nil, r => r
  | _, _, _, _, .cons r1 r2, r => .cons r1 (reps_app r2 r)
theorem reps_reverse {K : PySem.W.Frag} {p : Option Addr} {F : Hp} : ∀ {vs : List V} {ds : List Dat}, Reps K p F vs ds → Reps K p F vs.reverse ds.reverse
  | _, _, .nil => .nil
  | _, _, .cons r1 r2 => by
    rw [List.reverse_cons, List.reverse_cons]
    exact reps_app (reps_reverse r2) (.cons r1 .nil)
section
variable {X : Cx} {e st : Expr} {te ts : TE} {pos p2 : Pos}
def tRevT (K : PySem.W.Frag) (te ts : TE) : TE := fun σ H Q => te σ H fun x H1 => ts σ H1 fun y H2 => y = .int (-1) ∧ ∃ (a : Addr) (xs : List V), x = .ref a ∧ SqT K H2 a xs ∧ ∀ p, H2 p = none → Q (.ref p) (upd H2 p (.tup xs.reverse))
theorem pe_revT (K : PySem.W.Frag) (he : PE X e te) (hs : PE X st ts) (hK : X.K = K := by rfl) : PE X (.Subscript e (.Slice none none (some st) p2) pos) (tRevT K te ts) := by
  subst hK
  refine ⟨fun pins s σ H Q I h => ?_⟩
  refine Subscript_ (thn (he.run pins s σ H _ I h) fun v s1 ⟨x, H1, I1, r1, q1⟩ => ?_)
  refine wpAny_Slice ?_
  rw [evalPart_none]
  refine wpAny_pure (wpAny_pure ?_)
  rw [evalPart_some]
  refine thn (hs.run pins s1 σ H1 _ I1 q1) fun vs s3 ⟨y, H3, I3, ry, hy, a, xs, hz, hx, q3⟩ => ?_
  subst hy
  subst hz
  obtain ⟨t2, rfl⟩ := ry
  cases r1
  have I4 : Inv X pins σ H3 { s3 with heap := s3.heap.push { cls := .type "slice", data := .fields #[.none, .none, .int (-1) t2] } } := I3.kept (t' := s3.toks) fun b ob q => Heap.get?_push_of_some _ q
  show wpAny (model X.prog X.w) X.A (subscriptTail e (.Slice none none (some st) p2) (.ref a) (.ref s3.heap.objs.size)) (EP X pins σ Q) X.xe { s3 with heap := s3.heap.push { cls := .type "slice", data := .fields #[.none, .none, .int (-1) t2] } }
  obtain ⟨its, rv, ht, hl⟩ := I4.tuple hx
  refine tail_any (T := "tuple") (ops := [.ref a, .ref s3.heap.objs.size]) ht.typeIs PyProof.Rows.slot_tuple_getitem.lookup ?_ (by with_unfolding_all rfl)
  have hlen : its.toArray.size = xs.length := by rw [List.size_toArray]; exact rv.length.symm
  refine rev_tuple (t2 := t2) ht (Heap.IsSliceOf.new ..) ?_ (by rw [hlen]; exact hl)
  refine ⟨.ref _, _, I4.laid (t' := s3.toks) (o := .tup xs.reverse) (fun b ob q => Heap.get?_push_of_some _ q) (Nat.le_refl _) ?_, rfl, q3 _ (I4.hok.fresh (Nat.le_refl _))⟩
  refine ⟨by rw [List.length_reverse]; exact hl, its.reverse, vals_reverse rv, ?_⟩
  exact IsTup.new _ _
end
def wRevT (we ws : WE) : WE := fun S Q => we S fun x S1 => ws S1 fun y S2 => match y, x with | .int i, .tup z => i = -1 ∧ Q (.tup z.reverse) S2 | _, _ => False
instance {K : PySem.W.Frag} {te ts : TE} {we ws : WE} [a : EV K te we] [b : EV K ts ws] : EV K (tRevT K te ts) (wRevT we ws) := ⟨fun ok hw k =>
  a.run ok hw fun x F1 H1 S1 d1 ok1 e1 r1 q1 => b.run ok1 q1 fun y F2 H2 S2 d2 ok2 e2 r2 q2 => by
    cases d2 with
    | int i =>
      cases d1 with
      | tup z =>
        obtain ⟨rfl, h3⟩ : i = -1 ∧ _ := q2
        obtain ⟨c, vs, rfl, g1, g2⟩ := (r1.mono e2).tup_of
        rw [r2.int_of]
        refine ⟨rfl, c, vs, rfl, ex_t ok2.hp.fh g1, fun q hq => ?_⟩
        have e := Ex.new (o := HO.tup vs.reverse) (ok2.hp.freeF hq)
        exact k _ _ _ _ _ (ok2.lay hq) ((e1.trans e2).trans e) (.tup (.inl (.inl upd_same)) ((reps_reverse g2).mono e)) h3
      | _ => exact (show False from q2).elim
    | _ => exact (show False from q2).elim⟩
end Dl
-- part D4
set_option Elab.async false
set_option linter.all false
set_option maxRecDepth 100000
set_option maxHeartbeats 4000000
namespace Dl
open PySem PySem.Spec PyProof.Rows L2 Evl RZ
section
variable {K : PySem.W.Frag}
/-- x, y = e, [..]: the second a list of one's own -/
def tParO (i j : Nat) (te tf : TE) : TS := tPar i j (tCons te (tCons tf tNil))
def wParO (i j : Nat) (we : WE) (wf : WF) : WS := fun D S => we S fun d S1 => wf S1 fun ds S2 => D.nx ⟨(S2.sl.set i (.im d)).set j (.ow ds), S2.n⟩
instance sv_parO {i j : Nat} {te tf : TE} {we : WE} {wf : WF} [a : EV K te we] [b : EF K tf wf] : SV K (tParO i j te tf) (wParO i j we wf) := ⟨fun ok hw c =>
  a.run ok hw fun v F1 H1 S1 d ok1 e1 r1 q1 => b.run ok1 q1 fun l vs F2 H2 S2 ds ok2 e2 r2 q2 => ⟨_, _, rfl, c.nx _ _ _ _ ((ok2.setIm (r1.mono e2)).setOw r2) q2⟩⟩
/-- both lists of one's own -/
def tParOO (i j : Nat) (te tf : TE) : TS := tPar i j (tCons te (tCons tf tNil))
theorem ps_parO {X : Cx} {i j : Nat} {te tf : TE} {st : Stmt} (h : PS X st (tPar i j (tCons te (tCons tf tNil)))) : PS X st (tParO i j te tf) := h
end
theorem lcW_nil {vs : List Nat} {wg : WG} {wt : WT} {we : WE} {acc : List Dat} {S : Sx} {Q : List Dat → Sx → Prop} : lcW vs wg wt we [] acc S Q = Q acc S := rfl
theorem lcW_cons {vs : List Nat} {wg : WG} {wt : WT} {we : WE} {d : Dat} {ds acc : List Dat} {S : Sx} {Q : List Dat → Sx → Prop} : lcW vs wg wt we (d :: ds) acc S Q = wg d S fun S1 => wt S1 fun b S2 =>
    if b = true then we S2 fun x S3 => acc.length < 100000 ∧ lcW vs wg wt we ds (acc ++ [x]) ⟨wipeL S3.sl vs, S3.n⟩ Q
    else lcW vs wg wt we ds acc ⟨wipeL S2.sl vs, S2.n⟩ Q := rfl
end Dl
-- part D5
set_option Elab.async false
set_option linter.all false
set_option maxRecDepth 100000
set_option maxHeartbeats 4000000
namespace Dl
open PySem PySem.Spec PyProof.Rows L2 Evl RZ
section
variable {K : PySem.W.Frag}
/-! ### enumerate -/
def enumD (k : Nat) : List Dat → List Dat
  | [] => []
  | d :: l => .tup [.int (k : Nat), d] :: enumD (k + 1) l
theorem enumD_len : ∀ (l : List Dat) (k : Nat), (enumD k l).length = l.length
  | [], _ => rfl
  | _ :: l, k => by rw [enumD, List.length_cons, List.length_cons, enumD_len l]
theorem enumD_get : ∀ {l : List Dat} {k i : Nat} {d : Dat}, (enumD k l)[i]? = some d → ∃ x, l[i]? = some x ∧ d = .tup [.int ((k + i : Nat) : Int), x]
  | [], _, _, _, h => by simp [enumD] at h
  | a :: l, k, 0, d, h => by
    simp [enumD] at h
    exact ⟨a, rfl, h.symm⟩
  | a :: l, k, i + 1, d, h => by
    have h' : (enumD (k + 1) l)[i]? = some d := by simpa [enumD] using h
    obtain ⟨x, h1, h2⟩ := enumD_get h'
    exact ⟨x, by simpa using h1, by rw [h2, Nat.add_assoc, Nat.add_comm 1 i]⟩
def wEnum (wa : WF) : WF := fun S Q => wa S fun ds S1 => as1 ds fun a => listD a fun l => Q (enumD 0 l) S1
theorem ite_ok {p : Option Addr} {F : Hp} {a : Addr} {vs : List V} {l : List Dat} (ha : SqL K F a vs) (r1 : Reps K p F vs l) : ItOk K p F (Ite K a) (enumD 0 l) := fun F' H' e e' => by
  have sa : SqL K H' a vs := ex_l e' (ex_l e ha)
  refine ⟨fun i d hd => ?_, fun i hi => ⟨vs, sa, ?_⟩⟩
  · obtain ⟨x, h1, rfl⟩ := enumD_get hd
    obtain ⟨v, h3, h4⟩ := r1.getD h1
    refine ⟨⟨vs, v, sa, h3⟩, fun z H'' hy => ?_⟩
    obtain ⟨T, x1, q1, q2, q3, q4⟩ := hy
    have g1 := q4 vs sa
    rw [h3] at g1
    cases g1
    rw [Nat.zero_add]
    exact .inr ⟨T, _, _, q2, q3, q1, rfl, .cons (.int _) (.one (h4.mono e))⟩
  · rw [enumD_len] at hi
    rw [r1.length]
    exact hi
instance iv_enum {ta : TA} {wa : WF} [a : AV K ta wa] : IV K (iEnum K ta) (wEnum wa) := ⟨fun {p H0 F0 F H σ S T Q R} ok hw k =>
  a.run ok hw fun vs F1 H1 S1 ds ok1 e1 r1 q1 => by
    obtain ⟨x, rfl, f1⟩ := as1_of q1
    obtain ⟨v, rfl, rv⟩ := r1.one_of
    obtain ⟨l, hl, q⟩ := listD_of f1
    obtain ⟨b, xs, rfl, g1, g2⟩ := rv.list_of hl
    exact ⟨b, xs, rfl, ex_l ok1.hp.fh g1, k _ F1 H1 S1 _ ok1 e1 (ite_ok g1 g2) q⟩⟩
/-! ### a star in a display -/
def wStar (we : WE) (wr : WF) : WF := fun S Q => we S fun d S1 => partsD d fun l => wr S1 fun ds S2 => Q (l ++ ds) S2
instance av_star {te : TE} {t : TA} {we : WE} {wr : WF} [a : EV K te we] [b : AV K t wr] : AV K (StX.tStar K te t) (wStar we wr) := ⟨fun ok hw k =>
  a.run ok hw fun v F1 H1 S1 d ok1 e1 r1 q1 => by
    obtain ⟨l, hl, q⟩ := partsD_of q1
    obtain ⟨c, xs, rfl, g1, g2⟩ := r1.parts_of hl
    refine ⟨c, xs, rfl, ?_, b.run ok1 q fun vs F2 H2 S2 ds ok2 e2 r2 q2 => k _ F2 H2 S2 _ ok2 (e1.trans e2) ((g2.mono e2).append r2) q2⟩
    rcases g1 with g1 | g1
    · exact .inr (ex_l ok1.hp.fh g1)
    · exact .inl (ex_t ok1.hp.fh g1)⟩
/-! ### a list taken apart -/
def wgLst (n : Nat) (ws : List Dat → Sx → (Sx → Prop) → Prop) : WG := fun d S Q => listD d fun ds => ds.length = n ∧ ws ds S Q
instance gv_unl {n : Nat} {gs : TGs} {ix : List Nat} {ws : List Dat → Sx → (Sx → Prop) → Prop} [b : GsV K gs ix ws] : GV K (gUnl K n gs) ix (wgLst n ws) := ⟨fun {_ _ _ F H σ S _ _ _ v d} ok r hw k => by
  obtain ⟨l, hl, hn, q⟩ := listD_of hw
  obtain ⟨c, xs, rfl, g1, g2⟩ := r.list_of hl
  exact ⟨c, xs, rfl, ex_l ok.hp.fh g1, g2.length.trans hn, b.run ok g2 q k⟩⟩
/-! ### x, y = [..], [..] and three at once -/
def wParOO (i j : Nat) (we wf : WF) : WS := fun D S => (i == j) = false ∧ we S fun es S1 => wf S1 fun ds S2 => D.nx ⟨(S2.sl.set i (.ow es)).set j (.ow ds), S2.n⟩
theorem Ok.swapT {p : Option Addr} {H0 F0 F H : Hp} {σ : L2.St} {S : Sx} {T : List (Addr × List V)} {a b : Addr × List V} (h : Ok K p H0 F0 F H σ S (a :: b :: T)) : Ok K p H0 F0 F H σ S (b :: a :: T) := by
  refine ⟨h.hp, h.len, h.sl, h.own, fun c vs hm => h.tm c vs ?_, fun i ds c vs h1 h2 hm => h.ot i ds c vs h1 h2 ?_, ?_⟩
  · simp only [List.mem_cons] at hm ⊢
    rcases hm with e | e | e
    · exact .inr (.inl e)
    · exact .inl e
    · exact .inr (.inr e)
  · simp only [List.mem_cons] at hm ⊢
    rcases hm with e | e | e
    · exact .inr (.inl e)
    · exact .inl e
    · exact .inr (.inr e)
  · have := h.td
    simp only [List.map_cons, List.nodup_cons, List.mem_cons, not_or] at this ⊢
    exact ⟨⟨fun e => this.1.1 e.symm, this.2.1⟩, this.1.2, this.2.2⟩
instance sv_parOO {i j : Nat} {te tf : TE} {we wf : WF} [a : EF K te we] [b : EF K tf wf] : SV K (tParOO i j te tf) (wParOO i j we wf) := ⟨fun ok hw c =>
  a.run ok hw.2 fun l vs F1 H1 S1 ds ok1 e1 r1 q1 => b.run ok1 q1 fun l2 ws F2 H2 S2 es ok2 e2 r2 q2 => ⟨_, _, rfl, c.nx _ _ _ _ ((ok2.swapT.setOw (r1.mono e2)).setOw r2) q2⟩⟩
theorem ps_parOO {X : Cx} {i j : Nat} {te tf : TE} {st : Stmt} (h : PS X st (tPar i j (tCons te (tCons tf tNil)))) : PS X st (tParOO i j te tf) := h
def tP3 (i j l : Nat) (te tf : TE) (tg : TE) : TS := tPar3 i j l (tCons te (tCons tf (tCons tg tNil)))
def wP3 (i j l : Nat) (we wf wg : WE) : WS := fun D S => we S fun d S1 => wf S1 fun e S2 => wg S2 fun f S3 => D.nx ⟨((S3.sl.set i (.im d)).set j (.im e)).set l (.im f), S3.n⟩
instance sv_p3 {i j l : Nat} {te tf tg : TE} {we wf wg : WE} [a : EV K te we] [b : EV K tf wf] [g : EV K tg wg] : SV K (tP3 i j l te tf tg) (wP3 i j l we wf wg) := ⟨fun ok hw c =>
  a.run ok hw fun v F1 H1 S1 d ok1 e1 r1 q1 => b.run ok1 q1 fun u F2 H2 S2 e ok2 e2 r2 q2 => g.run ok2 q2 fun x F3 H3 S3 f ok3 e3 r3 q3 =>
    ⟨_, _, _, rfl, c.nx _ _ _ _ (((ok3.setIm (r1.mono (e2.trans e3))).setIm (r2.mono e3)).setIm r3) q3⟩⟩
def tP3O (i j l : Nat) (te tf : TE) (tg : TE) : TS := tPar3 i j l (tCons te (tCons tf (tCons tg tNil)))
def wP3O (i j l : Nat) (we wf : WE) (wg : WF) : WS := fun D S => we S fun d S1 => wf S1 fun e S2 => wg S2 fun f S3 => D.nx ⟨((S3.sl.set i (.im d)).set j (.im e)).set l (.ow f), S3.n⟩
instance sv_p3O {i j l : Nat} {te tf tg : TE} {we wf : WE} {wg : WF} [a : EV K te we] [b : EV K tf wf] [g : EF K tg wg] : SV K (tP3O i j l te tf tg) (wP3O i j l we wf wg) := ⟨fun ok hw c =>
  a.run ok hw fun v F1 H1 S1 d ok1 e1 r1 q1 => b.run ok1 q1 fun u F2 H2 S2 e ok2 e2 r2 q2 => g.run ok2 q2 fun x ws F3 H3 S3 f ok3 e3 r3 q3 =>
    ⟨_, _, _, rfl, c.nx _ _ _ _ (((ok3.setIm (r1.mono (e2.trans e3))).setIm (r2.mono e3)).setOw r3) q3⟩⟩
theorem ps_p3 {X : Cx} {i j l : Nat} {te tf tg : TE} {st : Stmt} (h : PS X st (tPar3 i j l (tCons te (tCons tf (tCons tg tNil))))) : PS X st (tP3 i j l te tf tg) := h
theorem ps_p3O {X : Cx} {i j l : Nat} {te tf tg : TE} {st : Stmt} (h : PS X st (tPar3 i j l (tCons te (tCons tf (tCons tg tNil))))) : PS X st (tP3O i j l te tf tg) := h
/-! ### {'a': 1, ..}[k] -/
inductive KC (K : PySem.W.Frag) : List (L2.Key × V) → List (List Nat × Dat) → Prop
  | nil : KC K [] []
  | cons {s : Str} {v : V} {d : Dat} {r : List (L2.Key × V)} {rs : List (List Nat × Dat)} : (∀ p F, Rep K p F v d) → KC K r rs → KC K ((.inr s, v) :: r) ((s.cps.toList, d) :: rs)
theorem KC.len {r : List (L2.Key × V)} {rs : List (List Nat × Dat)} (h : KC K r rs) : r.length = rs.length := by
  induction h with
  | nil => rfl
  | cons _ _ ih => rw [List.length_cons, List.length_cons, ih]
class DC (K : PySem.W.Frag) (trs : List (TE × TE)) (rs : outParam (List (List Nat × Dat))) : Prop where
  run : ∃ kvs, KC K kvs rs ∧ ∀ (σ : L2.St) (H : Hp) (Q : List (V × V) → Hp → Prop), Q (kvs.map fun kv => (kV kv.1, kv.2)) H → tPairs trs σ H Q
instance : DC K [] [] := ⟨[], .nil, fun _ _ _ h => h⟩
instance {s : Str} {v : V} {d : Dat} {trs : List (TE × TE)} {rs : List (List Nat × Dat)} [c : CV K v d] [t : DC K trs rs] : DC K ((tC (.str s), tC v) :: trs) ((s.cps.toList, d) :: rs) := by
  obtain ⟨kvs, h1, h2⟩ := t.run
  exact ⟨(.inr s, v) :: kvs, .cons c.rep h1, fun σ H Q h => h2 σ H _ h⟩
def lastAt (z : List Nat) : List (List Nat × Dat) → Option Dat → Option Dat
  | [], o => o
  | r :: rs, o => lastAt z rs (if r.1 = z then some r.2 else o)
theorem KC.val {p : Option Addr} {F : Hp} {z : List Nat} {kvs : List (L2.Key × V)} {rs : List (List Nat × Dat)} (h : KC K kvs rs) : ∀ (acc : List (L2.Key × V)) (o : Option Dat) (r : Dat),
    (∀ d, o = some d → ∃ v, valV acc (.inr ⟨z.toArray⟩) = some v ∧ Rep K p F v d) → lastAt z rs o = some r → ∃ v, valV (mergeK acc kvs) (.inr ⟨z.toArray⟩) = some v ∧ Rep K p F v r := by
  induction h with
  | nil => intro acc o r ho hr; exact ho r hr
  | @cons s v d kvs rs hv _ ih =>
    intro acc o r ho hr
    refine ih (putK acc (.inr s) v) _ r (fun d' hd => ?_) hr
    rw [valV_put]
    by_cases hs : s.cps.toList = z
    · rw [if_pos hs] at hd
      cases hd
      rw [if_pos (by rw [str_eq_of hs])]
      exact ⟨v, rfl, hv p F⟩
    · rw [if_neg hs] at hd
      rw [if_neg (fun e => hs (by have := Sum.inr.inj e; rw [← this]))]
      exact ho d' hd
def wDC (rs : List (List Nat × Dat)) (wk : WE) : WE := fun S Q => rs.length ≤ 15 ∧ wk S fun d S1 => match d with | .str z => ∃ r, lastAt z rs none = some r ∧ Q r S1 | _ => False
instance ev_dc {trs : List (TE × TE)} {rs : List (List Nat × Dat)} {te : TE} {we : WE} [t : DC K trs rs] [e : EV K te we] : EV K (tDGet (tDisp trs) te) (wDC rs we) := ⟨fun {p H0 F0 F H σ S T Q Q'} ok hw k => by
  obtain ⟨kvs, h1, h2⟩ := t.run
  show ∀ a, H a = none → tPairs trs σ (upd H a (.dK [])) _
  intro a ha
  refine h2 σ _ _ ⟨upd_same, kvs, rfl, by rw [h1.len]; exact hw.1, ?_⟩
  rw [upd_upd]
  have ok1 := ok.lay (o := .dK (mergeK [] kvs)) ha
  have e0 : Ex F (upd F a (.dK (mergeK [] kvs))) := Ex.new (ok.hp.freeF ha)
  refine e.run ok1 hw.2 fun v F1 H1 S1 d ok2 e2 r2 q2 => ?_
  cases d with
  | str z =>
    obtain ⟨r, hr, q⟩ := q2
    obtain ⟨u, hu, ru⟩ := h1.val (p := p) (F := F1) (z := z) [] none r (fun _ h => nomatch h) hr
    have hd : H1 a = some (.dK (mergeK [] kvs)) := ok2.hp.fh _ _ (e2 _ _ upd_same)
    have ev := r2.str_of
    subst ev
    exact ⟨a, u, rfl, by rw [← hu]; exact DGet.k (k := .inr ⟨z.toArray⟩) hd, k u F1 H1 S1 r ok2 (e0.trans e2) ru q⟩
  | _ => exact q2.elim⟩
end
/-! ### x in (..), data of any depth -/
section
variable {X : Cx}
def rInDp (K : PySem.W.Frag) (neg : Bool) : R2 := fun x y H Q => ∃ d ds, Dp K H x d ∧ (Dp K H y (.list ds) ∨ Dp K H y (.tuple ds)) ∧ SeqAt.shaped d = true ∧ SeqAt.shaped (.list ds) = true ∧ Q (.bl (if neg then !(ds.any fun z => PyData.eqv z d) else ds.any fun z => PyData.eqv z d)) H
theorem inDpK (K : PySem.W.Frag) (hu : X.A.units + 65 < cLine) (hK : X.K = K := by rfl) : OpR X (compareOp .In) (rInDp K false) := by
  subst hK
  intro pins s σ H x y v u Q I rx ry h
  obtain ⟨d, ds, hd, he, sd, se, q⟩ := h
  obtain ⟨as, r1⟩ := Dp.reads I d x v hd rx
  have e1 := SeqAt.canLay_of_shaped se
  have e2 := SeqAt.canLay_of_shaped sd
  have e3 := room_in_shaped (xs := ds) sd hu
  rcases he with he | he
  · obtain ⟨bs, r2⟩ := Dp.reads I (.list ds) y u he ry
    exact SeqAt.in_list_reads r2 r1 e1 e2 e3 ⟨.bl _, H, I, rfl, q⟩
  · obtain ⟨bs, r2⟩ := Dp.reads I (.tuple ds) y u he ry
    exact SeqAt.in_tuple_reads r2 r1 e1 e2 e3 ⟨.bl _, H, I, rfl, q⟩
theorem notInDpK (K : PySem.W.Frag) (hu : X.A.units + 65 < cLine) (hK : X.K = K := by rfl) : OpR X (compareOp .NotIn) (rInDp K true) := by
  subst hK
  intro pins s σ H x y v u Q I rx ry h
  obtain ⟨d, ds, hd, he, sd, se, q⟩ := h
  obtain ⟨as, r1⟩ := Dp.reads I d x v hd rx
  have e1 := SeqAt.canLay_of_shaped se
  have e2 := SeqAt.canLay_of_shaped sd
  have e3 := room_in_shaped (xs := ds) sd hu
  rcases he with he | he
  · obtain ⟨bs, r2⟩ := Dp.reads I (.list ds) y u he ry
    exact SeqAt.notIn_list_reads r2 r1 e1 e2 e3 ⟨.bl _, H, I, rfl, q⟩
  · obtain ⟨bs, r2⟩ := Dp.reads I (.tuple ds) y u he ry
    exact SeqAt.notIn_tuple_reads r2 r1 e1 e2 e3 ⟨.bl _, H, I, rfl, q⟩
end
section
variable {K : PySem.W.Frag}
theorem pds_any (a : Dat) : ∀ l : List Dat, ((pds l).any fun z => PyData.eqv z (pd a)) = l.any fun y => eqD y a
  | [] => by simp [pds]
  | x :: l => by simp only [pds, List.any_cons, pds_any a l, eqD]
def inDp (a b : Dat) (k : Bool → Prop) : Prop := itemsD b fun l => cmpOk a ∧ cmpOk (.lst l) ∧ k (l.any fun y => eqD y a)
def aInDp : OpD := fun a b Q => inDp a b fun k => Q (.bl k)
def aNotInDp : OpD := fun a b Q => inDp a b fun k => Q (.bl (!k))
theorem inDp_ok {neg : Bool} {p : Option Addr} {F H : Hp} {x y : V} {a b : Dat} {k : Bool → Prop} {Q' : VK} (e : Ex F H) (ra : Rep K p F x a) (rb : Rep K p F y b) (h : inDp a b k) (hq : ∀ c, k c → Q' (.bl (if neg then !c else c)) H) : rInDp K neg x y H Q' := by
  obtain ⟨l, hl, ⟨h1, h2⟩, ⟨h3, h4⟩, h5⟩ := itemsD_of h
  have q := hq _ h5
  rw [← pds_any] at q
  refine ⟨pd a, pds l, dp_of e ra h1, ?_, h2, by simpa only [pd] using h4, q⟩
  rcases hl with rfl | rfl
  · exact .inl (by simpa only [pd] using dp_of e rb h3)
  · exact .inr (by simpa only [pd] using dp_of e rb (by simpa only [plain] using h3))
instance : OV K (rInDp K false) aInDp := .pure fun e ra rb hf k => inDp_ok e ra rb hf fun _ h => k _ _ (.bl _) h
instance : OV K (rInDp K true) aNotInDp := .pure fun e ra rb hf k => inDp_ok e ra rb hf fun _ h => k _ _ (.bl _) h
end
/-! ### rules by K -/
section
variable {X : Cx}
theorem enumK (K : PySem.W.Frag) {e : Expr} {ta : TA} {p pos tpos : Pos} {elts : List Expr} {kk : Nat} (hg : Gl X "enumerate") (hm : X.mg "enumerate" = none) (a : PA X [e] ta)
    (h1 : starEach [e] X.env = [(false, eval e X.env)] := by rfl) (h : X.K = K := by rfl) : PI X (.Tuple elts kk tpos) (.Call (.Name "enumerate" p) [e] [] pos) (iEnum K ta) := h ▸ pi_enum hg hm a h1
theorem starK (K : PySem.W.Frag) {e : Expr} {es : List Expr} {te : TE} {t : TA} {p : Pos} (he : PE X e te) (hr : PA X es t) (hs : starEach (.Starred e p :: es) X.env = (true, eval e X.env) :: starEach es X.env := by rfl) (h : X.K = K := by rfl) :
    PA X (.Starred e p :: es) (StX.tStar K te t) := h ▸ StX.pa_star he hr hs
theorem unlK (K : PySem.W.Frag) {pos : Pos} {es : List Expr} {k : Nat} {t : TGs} (n : Nat) (hc : X.calm = true) (a : PGs X es t) (h1 : (assignEach es X.env).length = n := by rfl)
    (h2 : (assignEach es X.env).findIdx? (·.1) = none := by rfl) (h : X.K = K := by rfl) : PG X (.Tuple es k pos) (gUnl K n t) := h ▸ pg_unl hc a h1 h2
end
theorem _root_.L2.Room.units1 {k : Nat} {A : Around} (r : L2.Room k A) : A.units + 1 < cLine := by have := r.un; omega
theorem _root_.L2.Room.units65 {k : Nat} {A : Around} (r : L2.Room k A) : A.units + 65 < cLine := by have := r.un; omega
/-! ### xs.extend(..), xs one's own -/
section
variable {K : PySem.W.Frag}
def tExt (K : PySem.W.Frag) (i : Nat) (te : TE) : TS := tDrop (tBM K "list" rExtend (tVar i) (tCons te tNil))
def wExt (i : Nat) (we : WE) : WS := fun D S =>
  match S.sl[i]? with
  | some (.ow _) => we S fun d S1 => listL d fun es => match S1.sl[i]? with
    | some (.ow ds) => ds.length + es.length ≤ 100000 ∧ D.nx ⟨S1.sl.set i (.ow (ds ++ es)), S1.n⟩
    | _ => False
  | _ => False
where listL (d : Dat) (Q : List Dat → Prop) : Prop := match d with | .lst l => Q l | _ => False
instance sv_ext {i : Nat} {te : TE} {we : WE} [a : EV K te we] : SV K (tExt K i te) (wExt i we) := ⟨fun {p H0 F0 F H σ S D D'} ok hw c => by
  unfold wExt at hw
  split at hw
  · rename_i ds0 hd
    obtain ⟨l, vs, h1, h2, h3, h4, h5⟩ := ok.sl i _ hd
    show tDrop (tBM K "list" rExtend (tVar i) (tCons te tNil)) D' σ H
    refine ⟨_, h1, .inl ⟨rfl, vs, sq_of h4⟩, a.run ok hw fun v F1 H1 S1 d ok1 e1 r1 q1 => ?_⟩
    cases d with
    | lst es =>
      have q1' : match S1.sl[i]? with | some (.ow ds) => ds.length + es.length ≤ 100000 ∧ D.nx ⟨S1.sl.set i (.ow (ds ++ es)), S1.n⟩ | _ => False := q1
      split at q1'
      · rename_i ds hd1
        obtain ⟨l', ws, g1, g2, g3, g4⟩ := ok1.updS hd1
        rw [h1] at g1
        cases g1
        obtain ⟨b, zs, rfl, b1, b2⟩ := r1.lst_of
        exact ⟨l, b, ws, zs, rfl, rfl, g2, ok1.hp.fh _ _ b1, sz_of (by have := g3.length; have := b2.length; omega), c.nx _ _ _ _ (g4 _ _ (g3.append b2)) q1'.2⟩
      · exact q1'.elim
    | _ => exact (show False from q1).elim
  · exact hw.elim⟩
theorem ps_ext {X : Cx} {i : Nat} {te : TE} {st : Stmt} (h : PS X st (tDrop (tBM X.K "list" rExtend (tVar i) (tCons te tNil)))) : PS X st (tExt X.K i te) := h
end
end Dl
-- part D6
set_option Elab.async false
set_option linter.all false
set_option maxRecDepth 100000
set_option maxHeartbeats 4000000
namespace Dl
open PySem PySem.Spec PyProof.Rows L2 Evl RZ
/-! ### sorted(xs, key=f), f a def that tells whole numbers -/
section
variable {X : Cx} {pins : List (Addr × Obj)} {σ : L2.St} {H : Hp} {s : Shared} {k : Nat} {f : Addr} {fd : FuncData} {ps : List Str} {sp : Sp} {E : XK}
/-- a def is called by what stands two calls of the machine further in -/
theorem run_in2 {Q : VK} {u : Value} {v : V} {E2 : Value → Shared → Prop} (F : FnOk X.prog X.w X.K X.mg X.base CX0 k f fd ps sp) (hr : Room (k + 2) X.A) (hb : Binds X.K fd ps []) (I : Inv X pins σ H s) (r : RelV v u) (h : sp [v] H Q E) :
    wpAny (model X.prog X.w) X.A.in1.in1 (call (.ref f) [u]) (EP X pins σ Q) E2 s := by
  have r2 : Vals [v] [u] := .cons r .nil
  refine wpAny_call (codeAny_mono (F.run X.A.in1.in1 X.stack s H ⟨[u], []⟩ [u] [v] Q E hr.in1.in1 I.env0.in1.in1 (hb s [u] I.kIn (F.len _ _ _ _ h)) r2 h) fun r s' hq => ?_)
  cases r with
  | error e => exact False.elim hq
  | ok fl =>
    cases fl with
    | ret u => exact I.after hq
    | next => exact False.elim hq
    | brk => exact False.elim hq
    | cont => exact False.elim hq
/-- how ys comes of xs: by the keys ks -/
def ByKeys {α : Type} (ks : List Int) (xs ys : List α) : Prop := ∃ qs : List (Int × α), qs.Perm (ks.zip xs) ∧ ys = qs.map Prod.snd ∧ qs.Pairwise fun p q => p.1 ≤ q.1
theorem perm_lift {α β : Type} (g : α → β) : ∀ {l m : List β}, l.Perm m → ∀ {zs : List α}, m = zs.map g → ∃ zs' : List α, zs'.Perm zs ∧ l = zs'.map g := by
  intro l m h
  induction h with
  | nil => intro zs e; exact ⟨zs, .refl _, e⟩
  | cons x _ ih =>
    intro zs e
    cases zs with
    | nil => cases e
    | cons z zs =>
      rw [List.map_cons] at e
      injection e with e1 e2
      obtain ⟨zs', h1, h2⟩ := ih e2
      exact ⟨z :: zs', h1.cons z, by rw [List.map_cons, ← h2, e1]⟩
  | swap x y l =>
    intro zs e
    match zs, e with
    | a :: b :: zs, e =>
      rw [List.map_cons, List.map_cons] at e
      injection e with e1 e2
      injection e2 with e2 e3
      exact ⟨b :: a :: zs, .swap a b zs, by rw [List.map_cons, List.map_cons, e1, e2, e3]⟩
  | trans _ _ ih1 ih2 =>
    intro zs e
    obtain ⟨z2, h1, h2⟩ := ih2 e
    obtain ⟨z3, h3, h4⟩ := ih1 h2
    exact ⟨z3, h3.trans h1, h4⟩
/-- the keys' own end: the items, the wish at each, the new list -/
def rSortK (K : PySem.W.Frag) (sp : Sp) (E : XK) (f : Addr) : List V → List V → Hp → VK → Prop := fun vs zs H Q => ∃ (a : Addr) (xs : List V), vs = [V.ref a] ∧ zs = [V.ref f] ∧ SqL K H a xs ∧ ∃ (j : Nat → Hp → Prop) (kz : List Int), kz.length = xs.length ∧ j 0 H ∧
  (∀ i x k H1, xs[i]? = some x → kz[i]? = some k → j i H1 → sp [x] H1 (fun v H2 => v = .int k ∧ j (i + 1) H2) E) ∧ ∀ H1 p ys, j xs.length H1 → ByKeys kz xs ys → H1 p = none → (∀ b, H b ≠ none → b ≠ p) → Q (.ref p) (upd H1 p (.lst ys))
theorem vals_perm {ks : List Int} {xs : List V} {its out : List Value} (r : Vals xs its) (h : KskOut false ks its out) (hl : ks.length = xs.length) : ∃ ys, Vals ys out ∧ ByKeys ks xs ys := by
  obtain ⟨qs, h1, h2, h3⟩ := h
  have hv : ∀ {xs : List V} {its : List Value}, Vals xs its → its = (xs.zip its).map (·.2) ∧ xs = (xs.zip its).map (·.1) ∧ ∀ z ∈ xs.zip its, RelV z.1 z.2 := by
    intro xs its r
    induction r with
    | nil => exact ⟨rfl, rfl, fun z hz => nomatch hz⟩
    | cons r _ ih =>
      obtain ⟨i1, i2, i3⟩ := ih
      refine ⟨by rw [List.zip_cons_cons, List.map_cons, ← i1], by rw [List.zip_cons_cons, List.map_cons, ← i2], fun z hz => ?_⟩
      rw [List.zip_cons_cons] at hz
      rcases List.mem_cons.mp hz with rfl | hz
      · exact r
      · exact i3 z hz
  obtain ⟨e1, e2, e3⟩ := hv r
  have e4 : ks.zip its = (ks.zip (xs.zip its)).map fun z => (z.1, z.2.2) := by
    conv => lhs; rw [e1, List.zip_map_right]
    rfl
  have e5 : ks.zip xs = (ks.zip (xs.zip its)).map fun z => (z.1, z.2.1) := by
    conv => lhs; rw [e2, List.zip_map_right]
    rfl
  obtain ⟨zs, z1, z2⟩ := perm_lift (fun z : Int × V × Value => (z.1, z.2.2)) h1 e4
  have z3 : ∀ z ∈ zs, RelV z.2.1 z.2.2 := fun z hz => e3 _ (List.of_mem_zip (z1.mem_iff.mp hz)).2
  refine ⟨zs.map fun z => z.2.1, ?_, (zs.map fun z => (z.1, z.2.1)), ?_, by rw [List.map_map]; rfl, ?_⟩
  · rw [h2, z2, List.map_map]
    clear z1 z2
    induction zs with
    | nil => exact .nil
    | cons z zs ih => exact .cons (z3 z List.mem_cons_self) (ih fun y hy => z3 y (List.mem_cons_of_mem _ hy))
  · rw [e5]
    exact z1.map _
  · rw [z2, List.pairwise_map] at h3
    rw [List.pairwise_map]
    exact h3
theorem apart_of {a : Addr} (I : Inv X pins σ H s) (h : s.heap.objs.size ≤ a) : X.s_0.heap.objs.size ≤ a ∧ a ≠ X.env.locals ∧ a ∉ X.fs ∧ (∀ x c, X.env.cells.lookup x = some c → c ≠ a) ∧ (∀ p ∈ X.pn ++ pins, p.1 ≠ a) ∧ H a = none := by
  refine ⟨Nat.le_trans I.sz h, Nat.ne_of_gt (Nat.lt_of_lt_of_le I.lt h), I.nofs h, fun x c e z => ?_, fun p hp z => ?_, I.hok.fresh h⟩
  · obtain ⟨v, o, ho, _⟩ := I.cell x c e
    exact absurd (Nat.lt_of_lt_of_le (z ▸ Heap.lt_size ho) h) (Nat.lt_irrefl _)
  · have := (I.pin p hp).1
    exact absurd (Nat.lt_of_lt_of_le (z ▸ Heap.lt_size this) h) (Nat.lt_irrefl _)
theorem Inv.more {pins2 : List (Addr × Obj)} (I : Inv X pins σ H s) (h : ∀ p ∈ pins2, s.heap.get? p.1 = some p.2 ∧ H p.1 = none ∧ p.1 ≠ X.env.locals ∧ p.1 ∉ X.fs ∧ ∀ v, p.2.data ≠ .cell v) : Inv X (pins2 ++ pins) σ H s :=
  I.pins_of fun p hp => (List.mem_append.mp hp).elim (h p) fun z => I.pin p (List.mem_append_right _ z)
theorem Inv.less {pins2 : List (Addr × Obj)} (I : Inv X (pins2 ++ pins) σ H s) : Inv X pins σ H s := I.pins_of fun p hp => I.pin p (List.mem_append_right _ (List.mem_append_right _ hp))
theorem cr_sortK (F : FnOk X.prog X.w X.K X.mg X.base CX0 k f fd ps sp) (hr : Room (k + 2) X.A) (hb : Binds X.K fd ps []) : CallRK X (.builtin "sorted") [Str.ofString "key"] (rSortK X.K sp E f) := by
  intro pins s σ H vs zs us ws Q I r rz h
  obtain ⟨l, xs, rfl, rfl, hs, j, kz, hkl, hj0, hturn, q⟩ := h
  obtain rfl := Vals.ref1 r
  obtain ⟨w1, rfl, e1⟩ := vals1 rz
  obtain rfl : w1 = Value.ref f := e1
  obtain ⟨its, rv, hl, hz⟩ := I.list hs
  have hz' : its.length ≤ sizeLine := by rw [← rv.length]; exact hz
  refine call_function_entry_kw kind_sorted plain_sorted entry_sorted (PyProof.Rows.ksk_s1 _ _) ?_
  unfold Builtin.«sorted»
  refine wpAny_bind (m := checkCount "sorted" 1 1 _) (wpAny_pure ?_)
  refine wpAny_bind (collect_list hl.isList ?_ hz')
  refine wpAny_bind (wpAny_newList ?_ hz')
  have hsz : ((s.heap.push (seqObj "list" #[] 0)).update s.heap.objs.size (Obj.mapSeq (· ++ its.toArray))).objs.size = s.heap.objs.size + 1 := by
    rw [Heap.size_update, size_push']
  have hoL : (((s.heap.push (seqObj "list" #[] 0)).update s.heap.objs.size (Obj.mapSeq (· ++ its.toArray))).push (seqObj "list" its.toArray 0)).get? (s.heap.objs.size + 1) = some (seqObj "list" its.toArray 0) := by
    rw [← hsz]; exact Heap.get?_push_size _ rfl
  have keep : ∀ b o, s.heap.get? b = some o → (((s.heap.push (seqObj "list" #[] 0)).update s.heap.objs.size (Obj.mapSeq (· ++ its.toArray))).push (seqObj "list" its.toArray 0)).get? b = some o := fun b o q => by
    have hlt : b < s.heap.objs.size := Heap.lt_size q
    refine Heap.get?_push_of_some _ ?_
    rw [Heap.get?_update_ne _ _ _ _ (Nat.ne_of_lt hlt)]
    exact Heap.get?_push_of_some _ q
  show wpAny _ _ _ _ _ { s with heap := ((s.heap.push (seqObj "list" #[] 0)).update s.heap.objs.size (Obj.mapSeq (· ++ its.toArray))).push (seqObj "list" its.toArray 0) }
  rw [hsz]
  generalize hh1 : ((s.heap.push (seqObj "list" #[] 0)).update s.heap.objs.size (Obj.mapSeq (· ++ its.toArray))).push (seqObj "list" its.toArray 0) = g1 at hoL keep
  have hg1 : g1.objs.size = s.heap.objs.size + 2 := by rw [← hh1, size_push', hsz]
  obtain ⟨a1, a2, a3, a4, a5, a6⟩ := apart_of I (a := s.heap.objs.size + 1) (Nat.le_succ _)
  refine wpAny_bind (wpAny_holding (wpAny_call_entry_kw slot_list_sort ⟨_, hoL, rfl⟩ entry_list_sort ?body (PyProof.Rows.ksk_l1 _ _)))
  case body =>
    show wpAny (model X.prog X.w) X.A.in1.in1 (Builtin.«list.sort» ⟨[.ref (s.heap.objs.size + 1)], [(Str.ofString "key", .ref f)]⟩) _ _ _
    rw [PyProof.Rows.ksk_t1]
    unfold ksk_tree
    generalize hA : s.heap.objs.size + 1 = A at hoL a1 a2 a3 a4 a5 a6
    have hlt : A < g1.objs.size := Heap.lt_size hoL
    obtain ⟨e1, ho1⟩ : ∃ e1, (g1.update A (Obj.mapSeq fun _ => (#[] : Array Value))).get? A = some (seqObj "list" #[] e1) := ⟨_, get?_update_seq hoL fun _ => #[]⟩
    refine wpAny_bind (listItems_at hoL rfl ?_)
    refine wpAny_bind (listUpdate_at hoL rfl ?_ (by rw [List.size_toArray]; exact hz') (Nat.zero_le _))
    refine wpAny_bind (seqEpoch_at ho1 rfl ?_)
    refine wpAny_bind (wpAny_newTuple ?_ (by show its.length ≤ _; exact hz'))
    refine wpAny_bind (wpAny_newList ?_ (Nat.zero_le _))
    refine wpAny_holding ?_
    have hkS : ((g1.update A (Obj.mapSeq fun _ => (#[] : Array Value))).push (seqObj "tuple" its.toArray 0)).objs.size = g1.objs.size + 1 := by rw [size_push', Heap.size_update]
    show wpAny (model X.prog X.w) X.A.in1.in1 (ksk_rest A (.ref f) false its.toArray e1 (.ref ((g1.update A (Obj.mapSeq fun _ => (#[] : Array Value))).push (seqObj "tuple" its.toArray 0)).objs.size)) _ _ { s with heap := ((g1.update A (Obj.mapSeq fun _ => (#[] : Array Value))).push (seqObj "tuple" its.toArray 0)).push (seqObj "list" #[] 0) }
    have hoK : (((g1.update A (Obj.mapSeq fun _ => (#[] : Array Value))).push (seqObj "tuple" its.toArray 0)).push (seqObj "list" #[] 0)).get? ((g1.update A (Obj.mapSeq fun _ => (#[] : Array Value))).push (seqObj "tuple" its.toArray 0)).objs.size = some (seqObj "list" #[] 0) := Heap.get?_push_size _ rfl
    have hoA : (((g1.update A (Obj.mapSeq fun _ => (#[] : Array Value))).push (seqObj "tuple" its.toArray 0)).push (seqObj "list" #[] 0)).get? A = some (seqObj "list" #[] e1) := Heap.get?_push_of_some _ (Heap.get?_push_of_some _ ho1)
    have keep2 : ∀ b o, s.heap.get? b = some o → (((g1.update A (Obj.mapSeq fun _ => (#[] : Array Value))).push (seqObj "tuple" its.toArray 0)).push (seqObj "list" #[] 0)).get? b = some o := fun b o q => by
      have hb : b ≠ A := Nat.ne_of_lt (Nat.lt_of_lt_of_le (Heap.lt_size q) (by rw [← hA]; exact Nat.le_succ _))
      refine Heap.get?_push_of_some _ (Heap.get?_push_of_some _ ?_)
      rw [Heap.get?_update_ne _ _ _ _ hb]
      exact keep b o q
    rw [hkS] at hoK ⊢
    generalize hB : g1.objs.size + 1 = B at hoK
    generalize ((g1.update A (Obj.mapSeq fun _ => (#[] : Array Value))).push (seqObj "tuple" its.toArray 0)).push (seqObj "list" #[] 0) = g2 at hoK hoA keep2
    obtain ⟨b1, b2, b3, b4, b5, b6⟩ := apart_of I (a := B) (by omega)
    have hAB : B ≠ A := by omega
    have I2 : Inv X pins σ H { s with heap := g2, toks := s.toks } := I.kept keep2
    have I3 : Inv X ([(A, seqObj "list" #[] e1), (B, seqObj "list" #[] 0)] ++ pins) σ H { s with heap := g2, toks := s.toks } := Inv.more I2 fun p hp => by
      rcases List.mem_cons.mp hp with rfl | hp
      · exact ⟨hoA, a6, a2, a3, fun v z => by cases z⟩
      · rw [List.mem_singleton.mp hp]
        exact ⟨hoK, b6, b2, b3, fun v z => by cases z⟩
    unfold ksk_rest
    refine wpAny_bind (wpAny_rule ?_)
    first
      | rw [List.forIn_toArray]
      | (rw [← Array.forIn_toList]; simp only [List.toList_toArray])
      | rw [← Array.forIn_toList]
    refine wpAny_bind (ksk_fold (fun i s' => ∃ H1 kA e, Inv X ([(A, seqObj "list" #[] e1), (B, seqObj "list" kA e)] ++ pins) σ H1 s' ∧ s'.os = s.os ∧ j i H1 ∧ IntsAre kA.toList (kz.take i)) its 0 _
      ⟨H, #[], 0, I3, rfl, hj0, by simpa using IntsAre.nil⟩ ?step ?done)
    case step =>
      rintro i x s' hx ⟨H1, kA, e, J, ho, hj, hk⟩
      simp only [Nat.zero_add] at hj hk ⊢
      have hi : i < its.length := (List.getElem?_eq_some_iff.mp hx).1
      have hi2 : i < xs.length := by rw [rv.length]; exact hi
      obtain ⟨k2, hk2⟩ : ∃ k2, kz[i]? = some k2 := ⟨_, List.getElem?_eq_getElem (by omega)⟩
      obtain ⟨y, hy⟩ : ∃ y, xs[i]? = some y := ⟨_, List.getElem?_eq_getElem hi2⟩
      have hxy : RelV y x := by
        obtain ⟨u, h1, h2⟩ := rv.get (i := i) hy
        rw [hx] at h1
        cases h1
        exact h2
      have hzk : kA.size ≤ its.length := by
        have h1 := hk.length
        rw [Array.length_toList, List.length_take] at h1
        omega
      refine wpAny_bind (wpAny_attempt (wpAny_mono (run_in2 (E2 := fun _ _ => False) F hr hb J hxy (hturn i y k2 H1 hy hk2 hj)) (fun v s'' he => ?_) fun _ _ hF => hF.elim))
      obtain ⟨v2, H2, J2, r2, rfl, hj2⟩ := he
      obtain ⟨t2, rfl⟩ : ∃ t2, v = .int k2 t2 := r2
      try dsimp only
      have nk := (J2.pin (B, seqObj "list" kA e) (List.mem_append_right _ (List.mem_append_left _ (.tail _ (.head _)))))
      have na := (J2.pin (A, seqObj "list" #[] e1) (List.mem_append_right _ (List.mem_append_left _ (.head _))))
      obtain ⟨c2, hc2⟩ : ∃ c2, (s''.heap.update B (Obj.mapSeq (·.push (.int k2 t2)))).get? B = some (seqObj "list" (kA.push (.int k2 t2)) c2) := ⟨_, get?_update_seq nk.1 (·.push (.int k2 t2))⟩
      have ek : kz.take (i + 1) = kz.take i ++ [k2] := by rw [List.take_add_one, hk2]; simp
      have ea : (kA.push (Value.int k2 t2)).toList = kA.toList ++ [Value.int k2 t2] := by simp
      have hSL : sizeLine = 16777216 := sizeLine_eq
      refine wpAny_bind (listUpdate_at nk.1 rfl ?_ (by rw [sizeLine_eq] at hz' ⊢; omega) (Nat.le_trans (Nat.le_of_eq (Array.size_push ..)) (by rw [sizeLine_eq] at hz' ⊢; omega)))
      refine wpAny_pure ⟨rfl, H2, kA.push (.int k2 t2), c2, ?_, ?_, hj2, by rw [ea, ek]; exact ksk_snoc hk⟩
      · have J3 : Inv X pins σ H2 s'' := Inv.less J2
        have J4 : Inv X pins σ H2 { s'' with heap := s''.heap.update B (Obj.mapSeq (·.push (.int k2 t2))), toks := s''.toks } := J3.turned (it := B) (fun b o hb q => by rw [Heap.get?_update_ne _ _ _ _ hb]; exact q) nk.2.1 b2 (.inr b1) b4 b5
        refine Inv.more J4 fun p hp => ?_
        rcases List.mem_cons.mp hp with rfl | hp
        · refine ⟨?_, na.2.1, a2, a3, fun v z => by cases z⟩
          show (s''.heap.update B _).get? A = _
          rw [Heap.get?_update_ne _ _ _ _ hAB.symm]
          exact na.1
        · rw [List.mem_singleton.mp hp]
          exact ⟨hc2, nk.2.1, b2, b3, fun v z => by cases z⟩
      · exact J2.os.trans I.os.symm
    case done =>
      rintro s' ⟨H1, kA, e, J, ho, hj, hk⟩
      have hk' : IntsAre kA.toList kz := by
        have e3 : kz.take (0 + its.length) = kz := List.take_of_length_le (by rw [Nat.zero_add, ← rv.length]; omega)
        rw [e3] at hk
        exact hk
      rw [Nat.zero_add, ← rv.length] at hj
      have nk := (J.pin (B, seqObj "list" kA e) (List.mem_append_right _ (List.mem_append_left _ (.tail _ (.head _)))))
      have na := (J.pin (A, seqObj "list" #[] e1) (List.mem_append_right _ (List.mem_append_left _ (.head _))))
      have J3 : Inv X pins σ H1 s' := Inv.less J
      have gA : X.base.get? A = none := Heap.get?_none_of_le (Nat.le_trans I.ok.bsz a1)
      have gB : X.base.get? B = none := Heap.get?_none_of_le (Nat.le_trans I.ok.bsz b1)
      obtain ⟨m, Fm⟩ := J3.fr
      try dsimp only
      refine wpAny_bind (listItems_at nk.1 rfl ?_)
      refine ksk_end_Any (e := e) (news := (rest X.base s'.heap X.env.locals A).filter fun p => decide (p.1 ≠ B)) Fm (fun p hp => ?_) hAB (fun p hp => of_decide_eq_true (List.mem_filter.mp hp).2) (fun p hp => rest_ne p (List.mem_filter.mp hp).1) hk' (by rw [hkl, rv.length]) hz' fun h3 tk3 out c F3 N3 k3 => ⟨_, rfl, ?_⟩
      · rcases List.mem_append.mp hp with hp | hp
        · exact news_all p (List.mem_filter.mp (List.mem_filter.mp hp).1).1
        · rcases List.mem_cons.mp hp with rfl | hp
          · exact ⟨nk.1, b2, gB⟩
          · rw [List.mem_singleton.mp hp]
            exact ⟨na.1, a2, gA⟩
      · obtain ⟨ys, rv2, hby⟩ := vals_perm rv k3 hkl
        have hA3 : h3.get? A = some (seqObj "list" out c) := (N3 _ (.head _)).1
        have kp : ∀ b o, b ≠ X.env.locals → b ≠ A → b ≠ B → s'.heap.get? b = some o → h3.get? b = some o := fun b o h1 h2 h4 e => by
          cases q : X.base.get? b with
          | some u =>
            have := J3.bk b u q
            rw [e] at this; cases this
            exact F3.keep b _ q
          | none => exact (N3 (b, o) (.tail _ (List.mem_filter.mpr ⟨mem_rest h1 q e h2, decide_eq_true h4⟩))).1
        have hlen : ys.length ≤ sizeLine := by
          obtain ⟨qs, z1, z2, _⟩ := hby
          rw [z2, List.length_map, z1.length_eq, List.length_zip]
          omega
        have J5 : Inv X pins σ (upd H1 A (.lst ys)) { s' with heap := h3, gens := s'.gens, drawn := s'.drawn, toks := tk3 } := by
          refine J3.step (ch := [A, B]) (fun b hb => ?_) (fun b o h1 h2 h4 e n => kp b o h1 (fun z => h4 (by rw [z]; exact .head _)) (fun z => h4 (by rw [z]; exact .tail _ (.head _))) e) (fun b o h1 h2 h4 e n => ⟨o.slots, kp b o h1 (fun z => h4 (by rw [z]; exact .head _)) (fun z => h4 (by rw [z]; exact .tail _ (.head _))) e⟩)
            (fun b o h4 e n => ?_) (fun b o h4 e => ?_) (fun b us e => ?_) (fun b o u e => ?_) (fun b us e => ⟨#[], ?_⟩) (fun m2 hm => ?_) (fun b o e => ?_) J3.bare
          · rcases List.mem_cons.mp hb with rfl | hb
            · exact ⟨.inr a1, a2, a4, a5⟩
            · rw [List.mem_singleton.mp hb]
              exact ⟨.inr b1, b2, b4, b5⟩
          · rw [upd_ne (fun z => h4 (by rw [z]; exact .head _))]
            exact n
          · by_cases hb : b = X.env.locals
            · subst hb
              obtain ⟨o2, _, _, ho2, _⟩ := F3.ns
              exact ⟨o2, ho2⟩
            · exact ⟨o, kp b o hb (fun z => h4 (by rw [z]; exact .head _)) (fun z => h4 (by rw [z]; exact .tail _ (.head _))) e⟩
          · rw [upd_ne (ne_of_none e na.2.1)]; exact e
          · rw [upd_ne (ne_of_none e na.2.1)]; exact e
          · rw [upd_ne (ne_of_none e na.2.1), e]; simp
          · have : m2 = m := funext fun x => hm.agree Fm.ns x
            subst this
            exact F3.ns
          · by_cases hb : b = A
            · subst hb
              rw [upd_same] at e
              cases e
              exact ⟨hlen, out.toList, c, rv2, by rw [Array.toArray_toList]; exact hA3⟩
            · rw [upd_ne hb] at e
              refine (J3.hok b o e).stay (fun d u hd q => kp d u ?_ ?_ ?_ q) (fun d q => by rw [upd_ne (ne_of_none q na.2.1)]; exact q) fun d us q => by rw [upd_ne (ne_of_none q na.2.1)]; exact q
              · rcases hd with rfl | hd
                · exact ne_of_none e J3.free
                · exact ne_of_none hd J3.free
              · rcases hd with rfl | hd
                · exact hb
                · exact ne_of_none hd na.2.1
              · rcases hd with rfl | hd
                · exact ne_of_none e nk.2.1
                · exact ne_of_none hd nk.2.1
        refine wpAny_pure ⟨_, rfl, .ref A, _, J5, rfl, q H1 A ys hj hby na.2.1 fun b hb z => ?_⟩
        rw [z] at hb
        exact hb a6
end
/-! ### by content -/
section
variable {K : PySem.W.Frag} {p : Option Addr} {F : Hp}
theorem reps_perm {ks : List Int} {xs ys : List V} {ds : List Dat} (r : Reps K p F xs ds) (h : ByKeys ks xs ys) : ∃ es, Reps K p F ys es ∧ ByKeys ks ds es := by
  obtain ⟨qs, h1, h2, h3⟩ := h
  have hv : ∀ {xs : List V} {ds : List Dat}, Reps K p F xs ds → ds = (xs.zip ds).map (·.2) ∧ xs = (xs.zip ds).map (·.1) ∧ ∀ z ∈ xs.zip ds, Rep K p F z.1 z.2 := by
    intro xs
    induction xs with
    | nil => intro ds r; cases r; exact ⟨rfl, rfl, fun z hz => nomatch hz⟩
    | cons x xs ih =>
      intro ds r
      cases r with
      | cons r r' =>
        obtain ⟨i1, i2, i3⟩ := ih r'
        refine ⟨by rw [List.zip_cons_cons, List.map_cons, ← i1], by rw [List.zip_cons_cons, List.map_cons, ← i2], fun z hz => ?_⟩
        rw [List.zip_cons_cons] at hz
        rcases List.mem_cons.mp hz with rfl | hz
        · exact r
        · exact i3 z hz
  obtain ⟨e1, e2, e3⟩ := hv r
  have e4 : ks.zip ds = (ks.zip (xs.zip ds)).map fun z => (z.1, z.2.2) := by
    conv => lhs; rw [e1, List.zip_map_right]
    rfl
  have e5 : ks.zip xs = (ks.zip (xs.zip ds)).map fun z => (z.1, z.2.1) := by
    conv => lhs; rw [e2, List.zip_map_right]
    rfl
  obtain ⟨zs, z1, z2⟩ := perm_lift (fun z : Int × V × Dat => (z.1, z.2.1)) h1 e5
  have z3 : ∀ z ∈ zs, Rep K p F z.2.1 z.2.2 := fun z hz => e3 _ (List.of_mem_zip (z1.mem_iff.mp hz)).2
  refine ⟨zs.map fun z => z.2.2, ?_, (zs.map fun z => (z.1, z.2.2)), ?_, by rw [List.map_map]; rfl, ?_⟩
  · rw [h2, z2, List.map_map]
    clear z1 z2
    induction zs with
    | nil => exact .nil
    | cons z zs ih => exact .cons (z3 z List.mem_cons_self) (ih fun y hy => z3 y (List.mem_cons_of_mem _ hy))
  · rw [e4]
    exact z1.map _
  · rw [z2, List.pairwise_map] at h3
    rw [List.pairwise_map]
    exact h3
/-- sorted(xs, key=g) -/
def tSortK (K : PySem.W.Frag) (g : Fn) (f : Addr) (E : XK) (te : TE) : TE := tCKw (rSortK K (spF K g) E f) (tCons te tNil) (tCons (tC (.ref f)) tNil)
def wSortK (g : Fn) (we : WE) : WF := fun S Q => we S fun d S1 => match d with
  | .lst l => ∃ ks : List Int, ks.length = l.length ∧ (∀ (i : Nat) (d : Dat) (k : Int), l[i]? = some d → ks[i]? = some k → ∀ QD : Dat → Nat → Prop, QD (.int k) S1.n → g [d] S1.n QD) ∧ ∀ l', ByKeys ks l l' → Q l' S1
  | _ => False
instance ef_sortK {g : Fn} {f : Addr} {E : XK} {te : TE} {we : WE} [a : EV K te we] : EF K (tSortK K g f E te) (wSortK g we) := ⟨fun {p H0 F0 F H σ S T Q Q'} ok hw k => by
  refine a.run ok hw fun v F1 H1 S1 d ok1 e1 r1 q1 => ?_
  cases d with
  | lst l =>
    cases r1 with
    | @lst b xs _ hb hr =>
      obtain ⟨ks, hk, hg, hQ⟩ : ∃ ks : List Int, ks.length = l.length ∧ (∀ (i : Nat) (d : Dat) (k : Int), l[i]? = some d → ks[i]? = some k → ∀ QD : Dat → Nat → Prop, QD (.int k) S1.n → g [d] S1.n QD) ∧ ∀ l', ByKeys ks l l' → Q l' S1 := q1
      refine ⟨b, xs, rfl, rfl, .of (ok1.hp.fh _ _ hb), fun _ H2 => ∃ F2, HpOk p H1 F1 F2 H2 S1.n, ks, hk.trans hr.length.symm, ⟨F1, ok1.hp.self⟩, fun i x k H2 hx hk2 hj => ?_, fun H2 c ys hj hy hc hn => ?_⟩
      · obtain ⟨F2, g2⟩ := hj
        obtain ⟨d, hd, hr2⟩ := hr.get hx
        refine ⟨p, F2, [d], S1.n, fun d n => d = .int k ∧ n = S1.n, g2.self, .one (hr2.mono g2.f0), hg i d k hd hk2 _ ⟨rfl, rfl⟩, fun v F3 H3 d3 n3 g3 r3 q3 => ?_⟩
        obtain ⟨rfl, rfl⟩ := q3
        exact ⟨r3.int_of, F3, g2.trans g3⟩
      · obtain ⟨F2, g2⟩ := hj
        obtain ⟨es, re, he⟩ := reps_perm hr hy
        have ok2 := ok1.call g2
        exact k c ys F2 _ S1 es (ok2.layT hc) (e1.trans g2.f0) (re.mono g2.f0) (hQ es he)
  | _ => exact (show False from q1).elim⟩
end
section
variable {X : Cx} {x y : Str} {p p2 pos kpos : Pos} {e : Expr} {g : Fn} {E : XK} {te : TE} {k : Nat} {f : Addr} {fd : FuncData} {ps : List Str}
theorem pe_sortK (F : FnOk X.prog X.w X.K X.mg X.base CX0 k f fd ps (spF X.K g)) (hr : Room (k + 2) X.A) (hb : Binds X.K fd ps []) (hg : Gl X "sorted") (hm : X.mg "sorted" = none) (hgy : Gl X y) (hmy : X.mg y = some (.ref f)) (ha : PE X e te) (hd : (y == ("__debug__" : Str)) = false := by decide)
    (hs : starEach [e] X.env = (false, eval e X.env) :: starEach [] X.env := by rfl) (he : backTo pos (starEach [e] X.env) = (false, eval e X.env) :: backTo pos (starEach [] X.env) := by rfl) (hpl : (backTo pos (starEach [e] X.env)).any (·.1) = false := by rfl)
    (hall : (backToKw pos (keywordEach [⟨some "key", .Name y p2, kpos⟩] X.env)).all (·.1.isSome) = true := by rfl) (hnone : (backToKw pos (keywordEach [⟨some "key", .Name y p2, kpos⟩] X.env)).any (·.1.isNone) = false := by rfl) (hks : (backToKw pos (keywordEach [⟨some "key", .Name y p2, kpos⟩] X.env)).filterMap (·.1) = [Str.ofString "key"] := by rfl) :
    PE X (.Call (.Name "sorted" p) [e] [⟨some "key", .Name y p2, kpos⟩] pos) (tSortK X.K g f E te) :=
  pe_callBK (cr_sortK F hr hb) hg hm (by rfl) (pa_cons ha pa_nil hs) (pk_cons (pe_glob hgy hmy rfl hd) pk_nil) (he := he) (hpl := hpl) (hall := hall) (hnone := hnone) (hks := hks)
end
end Dl
-- part Ea
set_option Elab.async false
set_option linter.all false
set_option maxRecDepth 100000
set_option maxHeartbeats 4000000
namespace Dl
open PySem PySem.Spec PyProof.Rows L2 Evl

local macro_rules | `(tactic| walk_at "w") => `(tactic| (simp (maxSteps := 3000000) only [↓e_var0, ↓e_var0o, ↓e_varS, ↓e_anyIt, ↓e_par, ↓e_zip, ↓aAdd_i, ↓aAdd_s, ↓aAdd_t, ↓aAdd_l, ↓aMul_i, ↓aMul_s, ↓aMul_l, ↓eqS_i, ↓eqS_s, ↓eqS_b, ↓eqS_nn, ↓eqS_ni, ↓eqS_ns, ↓eqS_nt, ↓eqS_in, ↓eqS_sn, ↓eqS_is, ↓eqS_si, ↓eqS_t, ↓eqS_l, ↓inS_s, ↓inS_t, ↓inS_l, ↓lenD_s, ↓lenD_t, ↓lenD_l, ↓lenD_z, ↓ixD_t, ↓ixD_l, ↓ixD_z, ↓ixD_s, ↓ixD_0, ↓ixD_1, ↓ixD_2, ↓cutDd_s, ↓cutDd_l, ↓cutDd_z, ↓cutDd_t, ↓listD_l, ↓listD_z, ↓itemsD_l, ↓itemsD_t, ↓itemsQ_s, ↓itemsQ_l, ↓itemsQ_z, ↓itemsQ_t, ↓aInt_i, ↓aInt_b, ↓aTupOf_l, ↓aTupOf_t, ↓anyD_l, ↓anyD_z, ↓anyD_t, ↓anyD_s, ↓joinD_l, ↓joinD_t, ↓zipQ_t, ↓zipQ_l, ↓asB_bl, ↓asI_int, ↓as1_one, ↓as2_two, par2,
  bodyW, bodyF, bodyP, start0, wSeq, wAsg, wOwn, wIfS, wRet, wRetF, wRetO, wRetN, wDrop, wApp, wSet, setW, slotSet, wInc, wNext, wBreak, wContinue, wNever, wC, wOp, wUn, wIf, wTest, wAnd, wOr, wNot, wYes, wAndV, wOrV, wNotV, wChain, wNil, wCons, wTup, wLst, wFz, wCall, wCallF, wCallK, wCallN, wCB, wCBF, wBM, wBM0, tStr, wNone, wPart, wSl, wgN, wgNil, wgCons, wgTup, wFor, wWhile, wLc, wRng1, wRng2, wListRg, wPot, wipeL, restL, keepIm,
  aI0, aII, aNeg, aEq, aNe, aIn, aNotIn, aIsN, aIsNotN, isN, aIsW, aIsNotW, ↓isW_n, ↓isW_bb, ↓isW_nb, wRevS, aAbs, aMax, aMin, aMin1, aMax1, ↓partsD_l, ↓partsD_z, ↓partsD_t, aLen, aSum, aAll, aAny, aIsi, isi, goodTy, aIx, aListOf, idxS,
  List.map_cons, List.map_nil, List.cons_append, List.nil_append, List.length_cons, List.length_nil, List.replicate_succ, List.replicate_zero, Nat.reduceAdd, Nat.reduceSub, List.getElem?_cons_zero, List.getElem?_cons_succ, List.set_cons_zero, List.set_cons_succ, reduceCtorEq, if_true, if_false, Bool.false_eq_true,
  decide_eq_true_eq, kinds, List.contains_cons, List.contains_nil, String.reduceBEq, Bool.or_true, Bool.true_or, Bool.or_false, Bool.false_or, Bool.not_true, Bool.not_false, Bool.not_eq_true, decide_true, decide_false, true_and, and_true, Int.reduceLT, Int.reduceLE, Int.reduceNeg, Nat.reduceLeDiff, cmuL, cmuR, cfdS, cpwS, atI_pos, Int.reduceToNat, isBls_nil, isBls_bl, Option.map_some, Option.some.injEq, exists_eq_left', List.all_cons, List.all_nil, id_eq, Bool.and_true, Bool.true_and, beq_self_eq_true]))


theorem lit_f : ("f" : Str).cps.toList = [102] := by decide +kernel
theorem lit_n : ("n" : Str).cps.toList = [110] := by decide +kernel
theorem lit_s : ("s" : Str).cps.toList = [115] := by decide +kernel
theorem lit_nfs : ("nfs" : Str).cps.toList = [110, 102, 115] := by decide +kernel
theorem lit_ : ("" : Str).cps.toList = [] := by decide +kernel
abbrev Lets (z : List Nat) : Prop := ∀ c ∈ z, c = 110 ∨ c = 102 ∨ c = 115
theorem letsB {z : List Nat} (h : (z.all fun c => decide (c = 110 ∨ c = 102 ∨ c = 115)) = true) : Lets z := fun c hc => of_decide_eq_true (List.all_eq_true.mp h c hc)
/-- data that the law compares part by part: no bools -/
def sim : Nat → Dat → Prop
  | 0, _ => False
  | d + 1, x => match x with
    | .int _ => True
    | .str _ => True
    | .non => True
    | .tup l => l.length ≤ 10000 ∧ ∀ y ∈ l, sim d y
    | _ => False
def G_is (d : Nat) : Fn := fun ds n Q => ∃ x, ds = [x, x] ∧ sim d x ∧ Q (.bl true) n
theorem G_is_zero {ds : List Dat} {n : Nat} {QD : Dat → Nat → Prop} (h : G_is 0 ds n QD) : False := by
  obtain ⟨x, _, h, _⟩ := h
  exact h
def L_is (d : Nat) : WS := (wSeq (wIfS (wTest (wCB aIsi (wCons (wVar 1) (wCons (wC (.ty "tuple")) wNil)))) (wSeq (wAsg (wAndV (wCB aIsi (wCons (wVar 0) (wCons (wC (.ty "tuple")) wNil))) (wOp aEq (wCB aLen (wCons (wVar 0) wNil)) (wCB aLen (wCons (wVar 1) wNil)))) (wgN 2))
  (wRet (wAndV (wVar 2) (wCB aAll (wCons (wFz (wLc (wZip (wCons (wVar 0) (wCons (wVar 1) wNil))) [3, 4] (wgTup 2 (wgCons (wgN 3) (wgCons (wgN 4) wgNil))) wYes (wCall (G_is d) (wCons (wVar 3) (wCons (wVar 4) wNil))))) wNil))))) wNext)
  (wSeq (wIfS (wTest (wCB aIsi (wCons (wVar 1) (wCons (wC (.ty "int")) wNil)))) (wRet (wAndV (wCB aIsi (wCons (wVar 0) (wCons (wC (.ty "int")) wNil))) (wAndV (wNotV (wCB aIsi (wCons (wVar 0) (wCons (wC (.ty "bool")) wNil)))) (wOp aEq (wVar 0) (wVar 1))))) wNext)
  (wRet (wIf (wTest (wCB aIsi (wCons (wVar 1) (wCons (wC (.ty "str")) wNil)))) (wAndV (wCB aIsi (wCons (wVar 0) (wCons (wC (.ty "str")) wNil))) (wOp aEq (wVar 0) (wVar 1))) (wOp aIsW (wVar 0) (wC .non))))))
theorem zip_self {l : List Dat} {d : Dat} (h : d ∈ zipD l l) : ∃ x ∈ l, d = .tup [x, x] := by
  obtain ⟨i, hi⟩ := List.getElem?_of_mem h
  obtain ⟨a, b, h1, h2, h3⟩ := zipD_get hi
  rw [h1] at h2
  cases h2
  exact ⟨a, List.mem_of_getElem? h1, h3⟩
theorem B_is {d : Nat} {ds : List Dat} {n : Nat} {QD : Dat → Nat → Prop} (h : G_is (d + 1) ds n QD) : bodyW 5 (L_is d) ds n QD := by
  obtain ⟨x, rfl, h1, h⟩ := h
  unfold L_is
  cases x with
  | int i =>
    walk_at "w"
    exact h
  | str i =>
    walk_at "w"
    exact h
  | non =>
    walk_at "w"
    exact h
  | tup l =>
    obtain ⟨hl, hs⟩ : l.length ≤ 10000 ∧ ∀ y ∈ l, sim d y := h1
    walk_at "w"
    refine lcW_map (fun _ => .bl true) _ _ (by rw [zipD_len]; omega) (fun e he R R0 hR => ?_) ?_
    · obtain ⟨x, hx, rfl⟩ := zip_self he
      walk_at "w"
      exact ⟨x, rfl, hs x hx, hR⟩
    · obtain ⟨bs, b1, b2⟩ := isBls_all (l := (zipD l l).map fun _ => .bl true) (by simp)
      exact ⟨bs, b1, by rw [b2]; exact h⟩
  | _ => exact h1.elim
def L_is_int : WS := (wRet (wAndV (wCB aIsi (wCons (wVar 0) (wCons (wC (.ty "int")) wNil))) (wAndV (wNotV (wCB aIsi (wCons (wVar 0) (wCons (wC (.ty "bool")) wNil)))) (wChain aLe aLe (wVar 1) (wVar 0) (wVar 2)))))
def G_is_int : Fn := fun ds n Q => ∃ i lo hi, ds = [.int i, .int lo, .int hi] ∧ Q (.bl (decide (lo ≤ i ∧ i ≤ hi))) n
theorem B_is_int {ds : List Dat} {n : Nat} {QD : Dat → Nat → Prop} (h : G_is_int ds n QD) : bodyW 3 L_is_int ds n QD := by
  obtain ⟨i, lo, hi, rfl, h⟩ := h
  unfold L_is_int
  walk_at "w"
  by_cases h1 : lo ≤ i
  · rw [if_pos h1]
    simpa [h1] using h
  · rw [if_neg h1]
    simpa [h1] using h
def L_power : WS := (wSeq (wAsg (wC (.int 1)) (wgN 1))
  (wSeq (wFor (wRng1 (wCons (wVar 0) wNil)) (wgN 2) (wAsg (wOp aMul (wC (.int 3)) (wVar 1)) (wgN 1)))
  (wRet (wVar 1))))
def G_power : Fn := fun ds n Q => ∃ k : Nat, ds = [.int k] ∧ k ≤ 1000000 ∧ Q (.int (3 ^ k)) n
theorem B_power {ds : List Dat} {n : Nat} {QD : Dat → Nat → Prop} (h : G_power ds n QD) : bodyW 3 L_power ds n QD := by
  obtain ⟨k, rfl, hk, h⟩ := h
  unfold L_power
  walk_at "w"
  refine ⟨by omega, by omega, ?_⟩
  refine forW_fold (fun (a : Int) S => ∃ s2, S = ⟨[.im (.int k), .im (.int a), s2], n⟩) (fun a _ => 3 * a) _ 1 _ _ ?_ ⟨_, rfl⟩ ?_
  · rintro d hd a S D ⟨s2, rfl⟩ hk
    walk_at "w"
    exact hk _ ⟨_, rfl⟩
  · rintro S ⟨s2, rfl⟩
    walk_at "w"
    have e : ∀ (l : List Dat) (a : Int), List.foldl (fun (a : Int) (_ : Dat) => 3 * a) a l = a * 3 ^ l.length := by
      intro l
      induction l with
      | nil => intro a; simp
      | cons c z ih =>
        intro a
        rw [List.foldl_cons, ih, List.length_cons, Int.pow_succ, ← Int.mul_assoc, Int.mul_right_comm a, Int.mul_comm 3 a, Int.mul_right_comm]
    rw [e]
    simpa [intsD] using h
def L_cells : WS := (wRet (wFz (wListRg (wCB aMax (wCons (wC (.int 1)) (wCons (wCB aMin (wCons (wVar 1) (wCons (wCB aLen (wCons (wVar 0) wNil)) wNil))) wNil))))))
def G_cells : Fn := fun ds n Q => ∃ (l : List Dat) (m : Int), ds = [.fz l, .int m] ∧ l.length ≤ 63 ∧ 1 ≤ m ∧ m ≤ 63 ∧ ∀ k : Nat, k ≤ 63 → Q (.lst (intsD 0 k)) n
theorem B_cells {ds : List Dat} {n : Nat} {QD : Dat → Nat → Prop} (h : G_cells ds n QD) : bodyW 2 L_cells ds n QD := by
  obtain ⟨l, m, rfl, h1, h2, h3, h⟩ := h
  unfold L_cells
  walk_at "w"
  refine ⟨?_, h _ ?_⟩
  · split <;> split <;> omega
  · split <;> split <;> omega
def L_pot (a b c d e : Int) : WS := (wSeq (wAsg (wIf (wTest (wOp aLt (wVar 1) (wCB aLen (wCons (wVar 0) wNil)))) (wOp aIx (wVar 0) (wVar 1)) (wOp aAdd (wOp aAdd (wOp aMod (wCB aSum (wCons (wSl cutDd (wVar 0) wNone (wPart (wC (.int 1)))) wNil)) (wC (.int 1000003))) (wOp aMul (wC (.int a)) (wVar 1))) (wC (.int b)))) (wgN 2))
  (wSeq (wAsg (wOp aMul (wOp aMod (wCB aInt (wCons (wCB aAbs (wCons (wVar 2) wNil)) wNil)) (wOp aPow (wOp aPow (wC (.int 10)) (wC (.int 60))) (wC (.int 5)))) (wCB aInt (wCons (wOp aGe (wCB aAbs (wCons (wVar 2) wNil)) (wOp aPow (wC (.int 10)) (wC (.int 18)))) wNil))) (wgN 3))
  (wSeq (wAsg (wOp aMod (wCB aInt (wCons (wVar 2) wNil)) (wC (.int 2305843009213693951))) (wgN 4))
  (wRetF (wLst (wCons (wVar 3) (wCons (wOp aMod (wCB aInt (wCons (wOp aAdd (wOp aAdd (wOp aMul (wVar 4) (wC (.int c))) (wOp aMul (wOp aMul (wC (.int d)) (wVar 1)) (wVar 1))) (wC (.int e))) wNil)) (wC (.int 2305843009213693921))) (wCons (wC (.int 0)) wNil))))))))
def G_pot : FnF := fun ds n Q => ∃ (l : List Int) (at_ : Nat), ds = [.fz (l.map Dat.int), .int at_] ∧ at_ ≤ 63 ∧ ∀ x y : Int, 0 ≤ x → 0 ≤ y → y < 2305843009213693952 → Q [.int x, .int y, .int 0] n

theorem isInts_take (l : List Int) : isInts (cutN (l.map Dat.int) none (some 1)) = some (l.take 1) := by
  cases l with
  | nil => rfl
  | cons x l =>
    rw [cutN_hi (by decide)]
    rfl
theorem B_pot {a b c d e : Int} (hc : -1000000 ≤ a ∧ a ≤ 1000000 ∧ -1000000 ≤ c ∧ c ≤ 1000000 ∧ -1000000 ≤ d ∧ d ≤ 1000000) {ds : List Dat} {n : Nat} {QD : List Dat → Nat → Prop} (h : G_pot ds n QD) : bodyF 5 (L_pot a b c d e) ds n QD := by
  obtain ⟨l, k, rfl, hk, h⟩ := h
  have c1 : CPw 10 60 := cpwS (by decide)
  have c2 : CPw (10 ^ (60 : Int).toNat) 5 := cpwW (by decide +kernel)
  have c3 : CPw 10 18 := cpwS (by decide)
  have p2 : (0 : Int) < (10 ^ (60 : Int).toNat) ^ (5 : Int).toNat := by decide +kernel
  have fin : ∀ cc : Int, (wSeq (wAsg (wOp aMul (wOp aMod (wCB aInt (wCons (wCB aAbs (wCons (wVar 2) wNil)) wNil)) (wOp aPow (wOp aPow (wC (.int 10)) (wC (.int 60))) (wC (.int 5)))) (wCB aInt (wCons (wOp aGe (wCB aAbs (wCons (wVar 2) wNil)) (wOp aPow (wC (.int 10)) (wC (.int 18)))) wNil))) (wgN 3))
  (wSeq (wAsg (wOp aMod (wCB aInt (wCons (wVar 2) wNil)) (wC (.int 2305843009213693951))) (wgN 4))
  (wRetF (wLst (wCons (wVar 3) (wCons (wOp aMod (wCB aInt (wCons (wOp aAdd (wOp aAdd (wOp aMul (wVar 4) (wC (.int c))) (wOp aMul (wOp aMul (wC (.int d)) (wVar 1)) (wVar 1))) (wC (.int e))) wNil)) (wC (.int 2305843009213693921))) (wCons (wC (.int 0)) wNil)))))))
      ({ nx := fun _ => False, rt := fun _ _ => False, rf := QD } : Dx) ⟨[.im (.fz (l.map Dat.int)), .im (.int k), .im (.int cc), .un, .un], n⟩ := by
    intro cc
    simp only [wSeq, wAsg, wOp, wCB, wCons, wNil, wVar, wC, aInt, aAbs, as1, asI, aPow, aMod, aII, aI0, List.getElem?_cons_zero, List.getElem?_cons_succ]
    refine ⟨c1, c2, p2, c3, ?_, ?_⟩
    · refine cmuR ?_
      (repeat' split) <;> decide
    · refine ⟨by decide, ?_⟩
      simp only [wRetF, wLst, wCons, wNil, wVar, wC, wOp, wCB, wgN, aMul, aAdd, aInt, aMod, aII, as1, asI, aI0, List.set_cons_succ, List.set_cons_zero, List.getElem?_cons_zero, List.getElem?_cons_succ]
      refine ⟨cmuR (by omega), cmuL (by omega), cmuR (by omega), by decide, by simp, ?_⟩
      refine h _ _ ?_ (Int.emod_nonneg _ (by decide)) (Int.lt_of_lt_of_le (Int.emod_lt_of_pos _ (by decide)) (by decide))
      refine Int.mul_nonneg (Int.emod_nonneg _ (by omega)) ?_
      (repeat' split) <;> decide
  unfold L_pot
  by_cases hl : (k : Int) < (l.map Dat.int).length
  · have hl' : k < l.length := by simpa using hl
    have e : atI (l.map Dat.int) (k : Int) = some (.int l[k]) := by
      rw [atI_pos (by omega)]
      simp [hl']
    have := fin l[k]
    unfold wSeq
    simp only [bodyF, start0, wAsg, wIf, wTest, wOp, wCB, wCons, wNil, wVar, aLt, aI0, aLen, as1, lenD, asI, asB, wgN, aIx, ixD, List.map_cons, List.map_nil, List.length_cons, List.length_nil, Nat.reduceAdd, Nat.reduceSub, List.replicate_succ, List.replicate_zero, List.cons_append, List.nil_append, List.getElem?_cons_zero, List.getElem?_cons_succ, List.set_cons_zero, List.set_cons_succ, decide_eq_true_eq]
    rw [if_pos hl]
    exact ⟨_, e, this⟩
  · unfold wSeq
    simp only [bodyF, start0, wAsg, wIf, wTest, wOp, wCB, wCons, wNil, wVar, wC, aLt, aI0, aLen, as1, lenD, asI, asB, wgN, aIx, ixD, aAdd, aMul, aMod, aII, aSum, wSl, wNone, wPart, cutDd, listD, List.map_cons, List.map_nil, List.length_cons, List.length_nil, Nat.reduceAdd, Nat.reduceSub, List.replicate_succ, List.replicate_zero, List.cons_append, List.nil_append, List.getElem?_cons_zero, List.getElem?_cons_succ, List.set_cons_zero, List.set_cons_succ, decide_eq_true_eq]
    rw [if_neg hl]
    exact ⟨_, isInts_take l, by decide, cmuL (by omega), fin _⟩

def G_take : Fn := fun ds n Q => ∃ u : Int, ds = [.pot, .int u] ∧ 0 < u ∧ u ≤ 1000000 ∧ n + 1 ≤ 1000000 ∧ ∀ r : Int, 0 ≤ r → r < u → Q (.int r) (n + 1)
def L_take (a b c d e : Int) : WS := (wSeq (wIfS (wTest (wOp aGt (wOp aIx (wVar 0) (wC (.int 0))) (wC (.int 0)))) (wSeq (wAsg (wOp aMod (wCB aInt (wCons (wOp aIx (wVar 0) (wC (.int 0))) wNil)) (wVar 1)) (wgN 2))
  (wSeq (wSet 0 (wOp aFd (wOp aIx (wVar 0) (wC (.int 0))) (wVar 1)) (wC (.int 0)))
  (wRet (wVar 2)))) wNext)
  (wSeq (wInc 0)
  (wSeq (wAsg (wOp aIx (wFz (wLst (wCons (wC (.int 2147483647)) (wCons (wC (.int 2147483629)) (wCons (wC (.int 2147483587)) (wCons (wC (.int 2147483579)) (wCons (wC (.int 2147483563)) wNil))))))) (wOp aMod (wCB aInt (wCons (wOp aIx (wVar 0) (wC (.int 2))) wNil)) (wC (.int 5)))) (wgN 3))
  (wSeq (wAsg (wOp aMod (wCB aInt (wCons (wOp aPow (wCB aInt (wCons (wOp aAdd (wOp aAdd (wOp aIx (wVar 0) (wC (.int 1))) (wOp aMul (wOp aMul (wC (.int a)) (wOp aIx (wVar 0) (wC (.int 2)))) (wOp aIx (wVar 0) (wC (.int 2))))) (wC (.int b))) wNil)) (wC (.int 3))) wNil)) (wVar 3)) (wgN 4))
  (wSeq (wAsg (wOp aMod (wCB aInt (wCons (wOp aMul (wVar 4) (wOp aAdd (wOp aMod (wCB aInt (wCons (wVar 4) wNil)) (wC (.int c))) (wOp aMul (wC (.int d)) (wOp aIx (wVar 0) (wC (.int 2)))))) wNil)) (wC (.int 2305843009213693907))) (wgN 4))
  (wRet (wOp aMod (wCB aInt (wCons (wOp aFd (wVar 4) (wC (.int e))) wNil)) (wVar 1))))))))
theorem prime_at (i : Int) (hi : 0 ≤ i ∧ i < 5) : ∃ q : Int, atI [Dat.int 2147483647, .int 2147483629, .int 2147483587, .int 2147483579, .int 2147483563] i = some (.int q) ∧ 0 < q ∧ q ≤ 2147483647 := by
  have : i = 0 ∨ i = 1 ∨ i = 2 ∨ i = 3 ∨ i = 4 := by omega
  rcases this with rfl | rfl | rfl | rfl | rfl
  · exact ⟨2147483647, by rw [atI_pos (by decide)]; rfl, by decide, by decide⟩
  · exact ⟨2147483629, by rw [atI_pos (by decide)]; rfl, by decide, by decide⟩
  · exact ⟨2147483587, by rw [atI_pos (by decide)]; rfl, by decide, by decide⟩
  · exact ⟨2147483579, by rw [atI_pos (by decide)]; rfl, by decide, by decide⟩
  · exact ⟨2147483563, by rw [atI_pos (by decide)]; rfl, by decide, by decide⟩
theorem B_take {a b c d e : Int} (hc : 0 ≤ a ∧ a ≤ 1000000 ∧ 0 ≤ b ∧ b ≤ 1000000 ∧ 0 < c ∧ c ≤ 1000000 ∧ 0 ≤ d ∧ d ≤ 1000000 ∧ 0 < e ∧ e ≤ 1000000) {ds : List Dat} {n : Nat} {QD : Dat → Nat → Prop} (h : G_take ds n QD) : bodyP 5 (L_take a b c d e) ds n QD := by
  obtain ⟨u, rfl, h0, h1, h2, h⟩ := h
  unfold L_take
  walk_at "w"
  intro x hx
  split
  · intro y hy
    refine ⟨h0, fun z hz => ⟨cfdS (by omega), Int.ediv_nonneg hz (by omega), n + 1, by omega, h2, h _ (Int.emod_nonneg _ (by omega)) (Int.emod_lt_of_pos _ h0)⟩⟩
  · refine ⟨by omega, fun z hz1 hz2 => ?_⟩
    obtain ⟨q, e1, e2, e3⟩ := prime_at (z % 5) ⟨Int.emod_nonneg _ (by decide), Int.emod_lt_of_pos _ (by decide)⟩
    refine ⟨_, e1, fun y hy1 hy2 i hi1 hi2 => ⟨cmuR (by omega), fun x2 hx1 hx2 => ?_⟩⟩
    have b0 : a * i ≤ 1000000 * 1000000 := Int.mul_le_mul hc.2.1 hi2 hi1 (by decide)
    have b1 : 0 ≤ a * i := Int.mul_nonneg hc.1 hi1
    have b2 : a * i * x2 ≤ 1000000 * 1000000 * 1000000 := Int.mul_le_mul b0 hx2 hx1 (by decide)
    have b3 : 0 ≤ a * i * x2 := Int.mul_nonneg b1 hx1
    refine ⟨cmuR (by omega), cpwS (by omega), ?_⟩
    walk_at "w"
    refine ⟨e2, by omega, fun x3 hz3 hz4 => ⟨cmuR (by omega), cmuL ?_, cfdS (by omega), h0, n + 1, by omega, by omega, h _ (Int.emod_nonneg _ (by omega)) (Int.emod_lt_of_pos _ h0)⟩⟩
    have m1 := Int.emod_nonneg ((y + a * i * x2 + b) ^ 3) (show q ≠ 0 by omega)
    have m2 := Int.emod_lt_of_pos ((y + a * i * x2 + b) ^ 3) e2
    omega
def L_of : WS := (wRet (wOp aIx (wVar 1) (wCall G_take (wCons (wVar 0) (wCons (wCB aLen (wCons (wVar 1) wNil)) wNil)))))
def lenOf : Dat → Option (List Dat)
  | .tup l => some l
  | .lst l => some l
  | _ => none
def G_of : Fn := fun ds n Q => ∃ x l, ds = [.pot, x] ∧ lenOf x = some l ∧ 0 < l.length ∧ l.length ≤ 1000000 ∧ n + 1 ≤ 1000000 ∧ ∀ d ∈ l, Q d (n + 1)
theorem B_of {ds : List Dat} {n : Nat} {QD : Dat → Nat → Prop} (h : G_of ds n QD) : bodyP 2 L_of ds n QD := by
  obtain ⟨x, l, rfl, hx, h0, h1, h2, h⟩ := h
  have fin : ∀ r : Int, 0 ≤ r → r < l.length → ∃ d, atI l r = some d ∧ ∃ m, n + 1 ≤ m ∧ m ≤ 1000000 ∧ QD d m := fun r r0 r1 => by
    have hr : r.toNat < l.length := by omega
    refine ⟨l[r.toNat], ?_, n + 1, by omega, by omega, h _ (List.getElem_mem hr)⟩
    rw [atI_pos r0, List.getElem?_eq_getElem hr]
  unfold L_of
  cases x with
  | tup m =>
    cases hx
    walk_at "w"
    exact ⟨_, rfl, by omega, by omega, by omega, fin⟩
  | lst m =>
    cases hx
    walk_at "w"
    exact ⟨_, rfl, by omega, by omega, by omega, fin⟩
  | _ => exact nomatch hx
theorem of_letters {n : Nat} {K : Dat → Nat → Prop} (hn : n + 1 ≤ 1000000) (h : ∀ c : Nat, (c = 110 ∨ c = 102 ∨ c = 115) → K (.str [c]) (n + 1)) : G_of [.pot, .lst (signsD [110, 102, 115])] n K := by
  refine ⟨_, _, rfl, rfl, by decide, by decide, hn, fun d hd => ?_⟩
  simp only [signsD, List.map_cons, List.map_nil, List.mem_cons, List.not_mem_nil, or_false] at hd
  rcases hd with rfl | rfl | rfl
  · exact h _ (.inl rfl)
  · exact h _ (.inr (.inl rfl))
  · exact h _ (.inr (.inr rfl))
theorem joinN_flat : ∀ ys : List (List Nat), joinN [] ys = ys.flatten
  | [] => rfl
  | [a] => by simp [joinN]
  | a :: b :: r => by
    show a ++ ([] ++ joinN [] (b :: r)) = _
    rw [joinN_flat (b :: r)]
    rfl
theorem letters_of {xs : List Dat} (h : ∀ x ∈ xs, ∃ c : Nat, (c = 110 ∨ c = 102 ∨ c = 115) ∧ x = .str [c]) : ∃ z : List Nat, Lets z ∧ z.length = xs.length ∧ isStrs xs = some (z.map fun c => [c]) := by
  induction xs with
  | nil => exact ⟨[], (fun _ h => nomatch h), rfl, rfl⟩
  | cons x xs ih =>
    obtain ⟨z, h1, h2, h3⟩ := ih fun y hy => h y (List.mem_cons_of_mem _ hy)
    obtain ⟨c, hc, rfl⟩ := h x List.mem_cons_self
    refine ⟨c :: z, ?_, by rw [List.length_cons, List.length_cons, h2], ?_⟩
    · intro d hd
      rcases List.mem_cons.mp hd with rfl | hd
      · exact hc
      · exact h1 d hd
    · show (isStrs xs).map ([c] :: ·) = _
      rw [h3]
      rfl
theorem lets_rep {z : List Nat} (h : Lets z) (k : Nat) : Lets (repL z k) := fun c hc => by
  unfold repL at hc
  obtain ⟨l, h1, h2⟩ := List.mem_flatten.mp hc
  rw [(List.mem_replicate.mp h1).2] at h2
  exact h c h2
theorem rep_length {z : List Nat} (k : Nat) : (repL z k).length = z.length * k := flat_len z k
theorem flat_ones (z : List Nat) : (z.map fun c => [c]).flatten = z := by
  induction z with
  | nil => rfl
  | cons c z ih => rw [List.map_cons, List.flatten_cons, ih]; rfl
theorem sum_ones (z : List Nat) : ((z.map fun c => [c]).map (·.length)).sum = z.length := by
  induction z with
  | nil => rfl
  | cons c z ih => simp only [List.map_cons, List.sum_cons, ih, List.length_cons, List.length_nil]; omega
end Dl
-- part Eb
set_option Elab.async false
set_option linter.all false
set_option maxRecDepth 100000
set_option maxHeartbeats 4000000
namespace Dl
open PySem PySem.Spec PyProof.Rows L2 Evl

local macro_rules | `(tactic| walk_at "w") => `(tactic| (simp (maxSteps := 3000000) only [↓e_var0, ↓e_var0o, ↓e_varS, ↓e_anyIt, ↓e_par, ↓e_zip, ↓aAdd_i, ↓aAdd_s, ↓aAdd_t, ↓aAdd_l, ↓aMul_i, ↓aMul_s, ↓aMul_l, ↓eqS_i, ↓eqS_s, ↓eqS_b, ↓eqS_nn, ↓eqS_ni, ↓eqS_ns, ↓eqS_nt, ↓eqS_in, ↓eqS_sn, ↓eqS_is, ↓eqS_si, ↓eqS_t, ↓eqS_l, ↓inS_s, ↓inS_t, ↓inS_l, ↓lenD_s, ↓lenD_t, ↓lenD_l, ↓lenD_z, ↓ixD_t, ↓ixD_l, ↓ixD_z, ↓ixD_s, ↓ixD_0, ↓ixD_1, ↓ixD_2, ↓cutDd_s, ↓cutDd_l, ↓cutDd_z, ↓cutDd_t, ↓listD_l, ↓listD_z, ↓itemsD_l, ↓itemsD_t, ↓itemsQ_s, ↓itemsQ_l, ↓itemsQ_z, ↓itemsQ_t, ↓aInt_i, ↓aInt_b, ↓aTupOf_l, ↓aTupOf_t, ↓anyD_l, ↓anyD_z, ↓anyD_t, ↓anyD_s, ↓joinD_l, ↓joinD_t, ↓zipQ_t, ↓zipQ_l, ↓asB_bl, ↓asI_int, ↓as1_one, ↓as2_two, par2,
  bodyW, bodyF, bodyP, start0, wSeq, wAsg, wOwn, wIfS, wRet, wRetF, wRetO, wRetN, wDrop, wApp, wSet, setW, slotSet, wInc, wNext, wBreak, wContinue, wNever, wC, wOp, wUn, wIf, wTest, wAnd, wOr, wNot, wYes, wAndV, wOrV, wNotV, wChain, wNil, wCons, wTup, wLst, wFz, wCall, wCallF, wCallK, wCallN, wCB, wCBF, wBM, wBM0, tStr, wNone, wPart, wSl, wgN, wgNil, wgCons, wgTup, wFor, wWhile, wLc, wRng1, wRng2, wListRg, wPot, wipeL, restL, keepIm,
  aI0, aII, aNeg, aEq, aNe, aIn, aNotIn, aIsN, aIsNotN, isN, aIsW, aIsNotW, ↓isW_n, ↓isW_bb, ↓isW_nb, wRevS, aAbs, aMax, aMin, aMin1, aMax1, ↓partsD_l, ↓partsD_z, ↓partsD_t, aLen, aSum, aAll, aAny, aIsi, isi, goodTy, aIx, aListOf, idxS,
  List.map_cons, List.map_nil, List.cons_append, List.nil_append, List.length_cons, List.length_nil, List.replicate_succ, List.replicate_zero, Nat.reduceAdd, Nat.reduceSub, List.getElem?_cons_zero, List.getElem?_cons_succ, List.set_cons_zero, List.set_cons_succ, reduceCtorEq, if_true, if_false, Bool.false_eq_true,
  decide_eq_true_eq, kinds, List.contains_cons, List.contains_nil, String.reduceBEq, Bool.or_true, Bool.true_or, Bool.or_false, Bool.false_or, Bool.not_true, Bool.not_false, Bool.not_eq_true, decide_true, decide_false, true_and, and_true, Int.reduceLT, Int.reduceLE, Int.reduceNeg, Nat.reduceLeDiff, cmuL, cmuR, cfdS, cpwS, atI_pos, Int.reduceToNat, isBls_nil, isBls_bl, Option.map_some, Option.some.injEq, exists_eq_left', List.all_cons, List.all_nil, id_eq, Bool.and_true, Bool.true_and, beq_self_eq_true]))

def d_BACK : Dat := .tup [.str [115, 110, 102], .str [102, 110, 115]]
def L_letters : WS := (wRet (wAndV (wCB aIsi (wCons (wVar 0) (wCons (wC (.ty "str")) wNil))) (wAndV (wChain aLe aLe (wVar 1) (wCB aLen (wCons (wVar 0) wNil)) (wVar 2)) (wCB aAll (wCons (wFz (wLc (wAnyIt (wVar 0)) [3] (wgN 3) wYes (wOp aIn (wVar 3) (wC (.str ("nfs" : Str).cps.toList))))) wNil)))))
def G_letters : Fn := fun ds n Q => ∃ z lo hi, ds = [.str z, .int lo, .int hi] ∧ Lets z ∧ lo ≤ z.length ∧ z.length ≤ hi ∧ hi ≤ 1000 ∧ Q (.bl true) n
theorem B_letters {ds : List Dat} {n : Nat} {QD : Dat → Nat → Prop} (h : G_letters ds n QD) : bodyW 4 L_letters ds n QD := by
  obtain ⟨z, lo, hi, rfl, h1, h2, h3, h4, h⟩ := h
  unfold L_letters
  walk_at "w"
  refine ⟨by omega, ?_⟩
  rw [if_pos h2, if_pos h3]
  refine lcW_map (fun _ => .bl true) _ _ (by simp [signsD]; omega) (fun d hd R R0 hR => ?_) ?_
  · obtain ⟨c, hc, rfl⟩ := List.mem_map.mp hd
    walk_at "w"
    rw [lit_nfs]
    have e : decide (c ∈ [110, 102, 115]) = true := by rcases h1 c hc with rfl | rfl | rfl <;> decide
    rw [e]
    exact hR
  · obtain ⟨bs, b1, b2⟩ := isBls_all (l := (signsD z).map fun _ => .bl true) (by simp)
    exact ⟨bs, b1, by rw [b2]; exact h⟩
def L_is_word : WS := (wRet (wCall G_letters (wCons (wVar 0) (wCons (wC (.int 0)) (wCons (wC (.int 200)) wNil)))))
def G_is_word : Fn := fun ds n Q => ∃ z, ds = [.str z] ∧ Lets z ∧ z.length ≤ 200 ∧ Q (.bl true) n
theorem B_is_word {ds : List Dat} {n : Nat} {QD : Dat → Nat → Prop} (h : G_is_word ds n QD) : bodyW 1 L_is_word ds n QD := by
  obtain ⟨z, rfl, h1, h2, h⟩ := h
  unfold L_is_word
  walk_at "w"
  exact ⟨z, 0, 200, rfl, h1, by omega, by omega, by omega, h⟩
def L_check_word : WS := (wIfS (wNot (wTest (wCall G_is_word (wCons (wVar 0) wNil)))) wNever wNext)
def G_check_word : Fn := fun ds n Q => ∃ z, ds = [.str z] ∧ Lets z ∧ z.length ≤ 200 ∧ Q .non n
theorem B_check_word {ds : List Dat} {n : Nat} {QD : Dat → Nat → Prop} (h : G_check_word ds n QD) : bodyW 1 L_check_word ds n QD := by
  obtain ⟨z, rfl, h1, h2, h⟩ := h
  unfold L_check_word
  walk_at "w"
  exact ⟨z, rfl, h1, h2, h⟩
def L_numbers_at : WS := (wRet (wIf (wTest (wOp aEq (wOp aMod (wVar 0) (wC (.int 2))) (wC (.int 0)))) (wTup (wCons (wVar 0) (wCons (wOp aAdd (wVar 0) (wC (.int 1))) wNil))) (wTup (wCons (wOp aAdd (wVar 0) (wC (.int 1))) (wCons (wVar 0) wNil)))))
def numbersAt (i : Int) : Int × Int := if i % 2 = 0 then (i, i + 1) else (i + 1, i)
def G_numbers_at : Fn := fun ds n Q => ∃ i, ds = [.int i] ∧ Q (.tup [.int (numbersAt i).1, .int (numbersAt i).2]) n
theorem B_numbers_at {ds : List Dat} {n : Nat} {QD : Dat → Nat → Prop} (h : G_numbers_at ds n QD) : bodyW 1 L_numbers_at ds n QD := by
  obtain ⟨i, rfl, h⟩ := h
  unfold L_numbers_at
  unfold numbersAt at h
  walk_at "w"
  split <;> simp_all
/-! places -/
def bk (p : Int) (c : Nat) : Int := if p % 2 = 0 then (if c = 115 then 0 else if c = 110 then 1 else 2) else (if c = 102 then 0 else if c = 110 then 1 else 2)
def plc (p : Int) (z : List Nat) : Int := z.foldl (fun a c => 3 * a + bk a c) p
def L_place_of : WS := (wSeq (wAsg (wC (.int 0)) (wgN 1))
  (wSeq (wFor (wAnyIt (wVar 0)) (wgN 2) (wAsg (wOp aAdd (wOp aMul (wC (.int 3)) (wVar 1)) (wBM tStr idxS (wOp aIx (wC d_BACK) (wOp aMod (wVar 1) (wC (.int 2)))) (wCons (wVar 2) wNil))) (wgN 1)))
  (wRet (wVar 1))))
def G_place_of : Fn := fun ds n Q => ∃ z, ds = [.str z] ∧ Lets z ∧ Q (.int (plc 0 z)) n
theorem idx_back (p : Int) (c : Nat) (h : c = 110 ∨ c = 102 ∨ c = 115) : ∃ l, atI [Dat.str [115, 110, 102], Dat.str [102, 110, 115]] (p % 2) = some (.str l) ∧ ∃ k, Txt.index0 ⟨l.toArray⟩ ⟨[c].toArray⟩ = some k ∧ (k : Int) = bk p c := by
  have hp : p % 2 = 0 ∨ p % 2 = 1 := by omega
  have h0 : ∀ c ∈ [110, 102, 115], Txt.index0 ⟨#[115, 110, 102]⟩ ⟨#[c]⟩ = some (if c = 115 then 0 else if c = 110 then 1 else 2) := by decide +kernel
  have h1 : ∀ c ∈ [110, 102, 115], Txt.index0 ⟨#[102, 110, 115]⟩ ⟨#[c]⟩ = some (if c = 102 then 0 else if c = 110 then 1 else 2) := by decide +kernel
  have hc : c ∈ [110, 102, 115] := by rcases h with rfl | rfl | rfl <;> decide
  rcases hp with hp | hp
  · refine ⟨[115, 110, 102], by rw [hp, atI_pos (by decide)]; rfl, _, h0 c hc, ?_⟩
    unfold bk
    rw [if_pos hp]
    rcases h with rfl | rfl | rfl <;> rfl
  · refine ⟨[102, 110, 115], by rw [hp, atI_pos (by decide)]; rfl, _, h1 c hc, ?_⟩
    unfold bk
    rw [if_neg (show ¬ p % 2 = 0 by omega)]
    rcases h with rfl | rfl | rfl <;> rfl
theorem B_place_of {ds : List Dat} {n : Nat} {QD : Dat → Nat → Prop} (h : G_place_of ds n QD) : bodyW 3 L_place_of ds n QD := by
  obtain ⟨z, rfl, h1, h⟩ := h
  unfold L_place_of
  walk_at "w"
  refine forW_fold (fun (a : Int) S => ∃ s2, S = ⟨[.im (.str z), .im (.int a), s2], n⟩) (fun a d => match d with | .str [c] => 3 * a + bk a c | _ => a) _ 0 _ _ ?_ ⟨_, rfl⟩ ?_
  · rintro d hd a S D ⟨s2, rfl⟩ hk
    obtain ⟨c, hc, rfl⟩ := List.mem_map.mp hd
    obtain ⟨l, e1, k, e2, e3⟩ := idx_back a c (h1 c hc)
    unfold d_BACK
    walk_at "w"
    refine ⟨.str l, e1, trivial, k, e2, hk _ ⟨.im (.str [c]), ?_⟩⟩
    rw [e3]
  · rintro S ⟨s2, rfl⟩
    walk_at "w"
    have e : ∀ (z : List Nat) (a : Int), List.foldl (fun (a : Int) (d : Dat) => match d with | .str [c] => 3 * a + bk a c | _ => a) a (signsD z) = plc a z := by
      intro z
      induction z with
      | nil => intro a; rfl
      | cons c z ih => intro a; exact ih _
    rw [e]
    exact h
/-! the mathematics of numbers -/
def step2 (a : Int × Int) (c : Nat) : Int × Int := (if c = 115 then 3 * a.1 else a.1 + 2 * a.2, if c = 102 then 3 * a.2 else a.2 + 2 * a.1)
def heard (a : Int × Int) (z : List Nat) : Int × Int := z.foldl step2 a
theorem step2_at (a : Int) (c : Nat) (h : c = 110 ∨ c = 102 ∨ c = 115) : step2 (numbersAt a) c = numbersAt (3 * a + bk a c) := by
  unfold step2 numbersAt bk
  by_cases ha : a % 2 = 0
  · rw [if_pos ha, if_pos ha]
    rcases h with rfl | rfl | rfl
    · rw [if_neg (show ¬ (3 * a + (if (110 : Nat) = 115 then 0 else if (110 : Nat) = 110 then 1 else 2)) % 2 = 0 by simp; omega)]
      simp; omega
    · rw [if_pos (show (3 * a + (if (102 : Nat) = 115 then 0 else if (102 : Nat) = 110 then 1 else 2)) % 2 = 0 by simp; omega)]
      simp; omega
    · rw [if_pos (show (3 * a + (if (115 : Nat) = 115 then 0 else if (115 : Nat) = 110 then 1 else 2)) % 2 = 0 by simp; omega)]
      simp; omega
  · rw [if_neg ha, if_neg ha]
    rcases h with rfl | rfl | rfl
    · rw [if_pos (show (3 * a + (if (110 : Nat) = 102 then 0 else if (110 : Nat) = 110 then 1 else 2)) % 2 = 0 by simp; omega)]
      simp; omega
    · rw [if_neg (show ¬ (3 * a + (if (102 : Nat) = 102 then 0 else if (102 : Nat) = 110 then 1 else 2)) % 2 = 0 by simp; omega)]
      simp; omega
    · rw [if_neg (show ¬ (3 * a + (if (115 : Nat) = 102 then 0 else if (115 : Nat) = 110 then 1 else 2)) % 2 = 0 by simp; omega)]
      simp; omega
theorem heard_at : ∀ (z : List Nat) (a : Int), Lets z → heard (numbersAt a) z = numbersAt (plc a z)
  | [], _, _ => rfl
  | c :: z, a, h => by
    show heard (step2 (numbersAt a) c) z = numbersAt (plc (3 * a + bk a c) z)
    rw [step2_at a c (h c (by simp)), heard_at z _ fun d hd => h d (by simp [hd])]
theorem bk_range (a : Int) (c : Nat) : 0 ≤ bk a c ∧ bk a c ≤ 2 := by
  unfold bk
  split <;> split <;> (try split) <;> omega
theorem plc_zero : ∀ (z : List Nat) (a : Int), 0 ≤ a → Lets z → 0 ≤ plc a z ∧ (plc a z = 0 ↔ a = 0 ∧ ∀ c ∈ z, c = 115)
  | [], a, h, _ => ⟨h, by simp [plc]⟩
  | c :: z, a, h, hl => by
    have hb := bk_range a c
    obtain ⟨h1, h2⟩ := plc_zero z (3 * a + bk a c) (by omega) fun d hd => hl d (by simp [hd])
    refine ⟨h1, ?_⟩
    show plc (3 * a + bk a c) z = 0 ↔ _
    rw [h2]
    have hc := hl c (by simp)
    constructor
    · rintro ⟨q1, q2⟩
      have ha : a = 0 := by omega
      have hz : bk a c = 0 := by omega
      subst ha
      refine ⟨rfl, fun d hd => ?_⟩
      rcases List.mem_cons.mp hd with rfl | hd
      · rcases hc with rfl | rfl | rfl
        · exact absurd hz (by decide)
        · exact absurd hz (by decide)
        · rfl
      · exact q2 d hd
    · rintro ⟨rfl, q2⟩
      have : c = 115 := q2 c (by simp)
      subst this
      exact ⟨by decide, fun d hd => q2 d (by simp [hd])⟩
theorem plc_top : ∀ (z : List Nat) (a m : Int), 0 ≤ a → a < m → m % 2 = 1 → Lets z → plc a z < m * 3 ^ z.length ∧ (plc a z = m * 3 ^ z.length - 1 ↔ a = m - 1 ∧ ∀ c ∈ z, c = 102)
  | [], a, m, h0, h, _, _ => by
    simp [plc]
    omega
  | c :: z, a, m, h0, h, ho, hl => by
    have hb := bk_range a c
    obtain ⟨h1, h2⟩ := plc_top z (3 * a + bk a c) (3 * m) (by omega) (by omega) (by omega) fun d hd => hl d (by simp [hd])
    have e : m * 3 ^ (c :: z).length = 3 * m * 3 ^ z.length := by
      rw [List.length_cons, Int.pow_succ, ← Int.mul_assoc, Int.mul_comm _ 3, ← Int.mul_assoc]
    rw [e]
    refine ⟨h1, ?_⟩
    show plc (3 * a + bk a c) z = _ ↔ _
    rw [h2]
    have hc := hl c (by simp)
    constructor
    · rintro ⟨q1, q2⟩
      have ha : a = m - 1 := by omega
      have hz : bk a c = 2 := by omega
      refine ⟨ha, fun d hd => ?_⟩
      rcases List.mem_cons.mp hd with rfl | hd
      · unfold bk at hz
        rw [if_pos (show a % 2 = 0 by omega)] at hz
        rcases hc with rfl | rfl | rfl
        · exact absurd hz (by decide)
        · rfl
        · exact absurd hz (by decide)
      · exact q2 d hd
    · rintro ⟨ha, q2⟩
      have : c = 102 := q2 c (by simp)
      subst this
      refine ⟨?_, fun d hd => q2 d (by simp [hd])⟩
      unfold bk
      rw [if_pos (show a % 2 = 0 by omega)]
      simp
      omega
theorem pow3_odd : ∀ n : Nat, (3 : Int) ^ n % 2 = 1 ∧ 0 < (3 : Int) ^ n
  | 0 => by decide
  | n + 1 => by
    obtain ⟨h1, h2⟩ := pow3_odd n
    rw [Int.pow_succ]
    omega
theorem repL_one (c n : Nat) : repL [c] n = List.replicate n c := by
  unfold repL
  induction n with
  | zero => rfl
  | succ n ih => rw [List.replicate_succ, List.flatten_cons, ih]; rfl
theorem all_rep (z : List Nat) (c : Nat) : z = repL [c] z.length ↔ ∀ d ∈ z, d = c := by
  rw [repL_one, List.eq_replicate_iff]
  simp

def L_heard_numbers : WS := (wSeq (wAsg (wTup (wCons (wC (.int 0)) (wCons (wC (.int 1)) wNil))) (wgTup 2 (wgCons (wgN 1) (wgCons (wgN 2) wgNil))))
  (wSeq (wFor (wAnyIt (wVar 0)) (wgN 3) (wSeq (wAsg (wTup (wCons (wVar 1) (wCons (wVar 2) wNil))) (wgN 4))
  (wSeq (wAsg (wIf (wTest (wOp aEq (wVar 3) (wC (.str ("s" : Str).cps.toList)))) (wOp aMul (wC (.int 3)) (wVar 1)) (wOp aAdd (wVar 1) (wOp aMul (wC (.int 2)) (wOp aIx (wVar 4) (wC (.int 1)))))) (wgN 1))
  (wAsg (wIf (wTest (wOp aEq (wVar 3) (wC (.str ("f" : Str).cps.toList)))) (wOp aMul (wC (.int 3)) (wVar 2)) (wOp aAdd (wVar 2) (wOp aMul (wC (.int 2)) (wOp aIx (wVar 4) (wC (.int 0)))))) (wgN 2)))))
  (wRet (wTup (wCons (wVar 1) (wCons (wVar 2) wNil))))))
def G_heard_numbers : Fn := fun ds n Q => ∃ z, ds = [.str z] ∧ Lets z ∧ Q (.tup [.int (heard (0, 1) z).1, .int (heard (0, 1) z).2]) n
theorem B_heard_numbers {ds : List Dat} {n : Nat} {QD : Dat → Nat → Prop} (h : G_heard_numbers ds n QD) : bodyW 5 L_heard_numbers ds n QD := by
  obtain ⟨z, rfl, h1, h⟩ := h
  unfold L_heard_numbers
  walk_at "w"
  refine forW_fold (fun (a : Int × Int) S => ∃ s3 s4, S = ⟨[.im (.str z), .im (.int a.1), .im (.int a.2), s3, s4], n⟩) (fun a d => match d with | .str [c] => step2 a c | _ => a) _ (0, 1) _ _ ?_ ⟨_, _, rfl⟩ ?_
  · rintro d hd a S D ⟨s3, s4, rfl⟩ hk
    obtain ⟨c, hc, rfl⟩ := List.mem_map.mp hd
    have key := fun s4 => hk ⟨[.im (.str z), .im (.int (step2 a c).1), .im (.int (step2 a c).2), .im (.str [c]), s4], n⟩ ⟨_, _, rfl⟩
    walk_at "w"
    rw [lit_s, lit_f]
    unfold step2 at key
    have key := key (.im (.tup [.int a.1, .int a.2]))
    by_cases c1 : c = 115
    · subst c1
      walk_at "w"
      simpa using key
    · by_cases c2 : c = 102
      · subst c2
        simp only [show ¬ ([102] : List Nat) = [115] by decide, if_false]
        walk_at "w"
        simpa using key
      · simp only [show ¬ ([c] : List Nat) = [115] by simpa using c1, show ¬ ([c] : List Nat) = [102] by simpa using c2, if_false]
        rw [if_neg c1, if_neg c2] at key
        exact key
  · rintro S ⟨s3, s4, rfl⟩
    walk_at "w"
    have e : ∀ (z : List Nat) (a : Int × Int), List.foldl (fun (a : Int × Int) (d : Dat) => match d with | .str [c] => step2 a c | _ => a) a (signsD z) = heard a z := by
      intro z
      induction z with
      | nil => intro a; rfl
      | cons c z ih => intro a; exact ih _
    rw [e]
    exact h
def L_numbers : WS := (wSeq (wDrop (wCall G_check_word (wCons (wVar 0) wNil)))
  (wRet (wCall G_numbers_at (wCons (wCall G_place_of (wCons (wVar 0) wNil)) wNil))))
def G_numbers : Fn := fun ds n Q => ∃ z, ds = [.str z] ∧ Lets z ∧ z.length ≤ 200 ∧ Q (.tup [.int (numbersAt (plc 0 z)).1, .int (numbersAt (plc 0 z)).2]) n
theorem B_numbers {ds : List Dat} {n : Nat} {QD : Dat → Nat → Prop} (h : G_numbers ds n QD) : bodyW 1 L_numbers ds n QD := by
  obtain ⟨z, rfl, h1, h2, h⟩ := h
  unfold L_numbers
  walk_at "w"
  exact ⟨z, rfl, h1, h2, z, rfl, h1, _, rfl, h⟩
def L_place : WS := (wSeq (wDrop (wCall G_check_word (wCons (wVar 0) wNil)))
  (wRet (wCall G_place_of (wCons (wVar 0) wNil))))
def G_place : Fn := fun ds n Q => ∃ z, ds = [.str z] ∧ Lets z ∧ z.length ≤ 200 ∧ Q (.int (plc 0 z)) n
theorem B_place {ds : List Dat} {n : Nat} {QD : Dat → Nat → Prop} (h : G_place ds n QD) : bodyW 1 L_place ds n QD := by
  obtain ⟨z, rfl, h1, h2, h⟩ := h
  unfold L_place
  walk_at "w"
  exact ⟨z, rfl, h1, h2, z, rfl, h1, h⟩


/-! the checks of whole numbers and tuples, the power of three -/
def L_whole : WS := (wRet (wAndV (wCB aIsi (wCons (wVar 0) (wCons (wC (.ty "int")) wNil))) (wNotV (wCB aIsi (wCons (wVar 0) (wCons (wC (.ty "bool")) wNil))))))
def G_whole : Fn := fun ds n Q => ∃ i, ds = [.int i] ∧ Q (.bl true) n
theorem B_whole {ds : List Dat} {n : Nat} {QD : Dat → Nat → Prop} (h : G_whole ds n QD) : bodyW 1 L_whole ds n QD := by
  obtain ⟨i, rfl, h⟩ := h
  unfold L_whole
  walk_at "w"
  exact h
def L_integer : WS := (wRet (wAndV (wCall G_whole (wCons (wVar 0) wNil)) (wChain aLe aLe (wVar 1) (wVar 0) (wVar 2))))
def G_integer : Fn := fun ds n Q => ∃ i lo hi, ds = [.int i, .int lo, .int hi] ∧ lo ≤ i ∧ i ≤ hi ∧ Q (.bl true) n
theorem B_integer {ds : List Dat} {n : Nat} {QD : Dat → Nat → Prop} (h : G_integer ds n QD) : bodyW 3 L_integer ds n QD := by
  obtain ⟨i, lo, hi, rfl, h1, h2, h⟩ := h
  unfold L_integer
  walk_at "w"
  refine ⟨i, rfl, ?_⟩
  walk_at "w"
  rw [if_pos h1, decide_eq_true h2]
  exact h
def L_tuple : WS := (wRet (wAndV (wCB aIsi (wCons (wVar 0) (wCons (wC (.ty "tuple")) wNil))) (wChain aLe aLe (wVar 1) (wCB aLen (wCons (wVar 0) wNil)) (wVar 2))))
def G_tuple : Fn := fun ds n Q => ∃ l lo hi, ds = [.tup l, .int lo, .int hi] ∧ lo ≤ l.length ∧ l.length ≤ hi ∧ hi ≤ 1000 ∧ Q (.bl true) n
theorem B_tuple {ds : List Dat} {n : Nat} {QD : Dat → Nat → Prop} (h : G_tuple ds n QD) : bodyW 3 L_tuple ds n QD := by
  obtain ⟨l, lo, hi, rfl, h1, h2, h3, h⟩ := h
  unfold L_tuple
  walk_at "w"
  rw [if_pos h1, decide_eq_true h2]
  exact h
def L_rounds : WS := (wIfS (wNot (wTest (wCall G_integer (wCons (wVar 0) (wCons (wC (.int 0)) (wCons (wVar 1) wNil)))))) wNever wNext)
def G_rounds : Fn := fun ds n Q => ∃ i hi, ds = [.int i, .int hi] ∧ 0 ≤ i ∧ i ≤ hi ∧ Q .non n
theorem B_rounds {ds : List Dat} {n : Nat} {QD : Dat → Nat → Prop} (h : G_rounds ds n QD) : bodyW 2 L_rounds ds n QD := by
  obtain ⟨i, hi, rfl, h1, h2, h⟩ := h
  unfold L_rounds
  walk_at "w"
  refine ⟨i, 0, hi, rfl, h1, h2, ?_⟩
  walk_at "w"
  exact h
/-! the letters of a loss -/
def pick (c : List Nat) (i : Nat) : Nat := if c = [] then 0 else c.getD (i % c.length) 0
end Dl
-- part Ec
set_option Elab.async false
set_option linter.all false
set_option maxRecDepth 100000
set_option maxHeartbeats 4000000
namespace Dl
/-! losses: a head, then a round again and again -/
def lt (h c : List Nat) (i : Nat) : Nat := if i < h.length then h.getD i 0 else c.getD ((i - h.length) % c.length) 0
def lts (h c : List Nat) (m : Nat) : List Nat := (List.range m).map (lt h c)
def Per (w : Nat → Nat) (a b : Nat) : Prop := 0 < b ∧ ∀ i, a ≤ i → w (i + b) = w i
structure Least (w : Nat → Nat) (a b : Nat) : Prop where
  per : Per w a b
  a_le : ∀ x y, Per w x y → a ≤ x
  b_le : ∀ y, Per w a y → b ≤ y
theorem c_pos {c : List Nat} (hc : c ≠ []) : 0 < c.length := List.length_pos_iff.mpr hc
theorem lt_per (h : List Nat) {c : List Nat} (hc : c ≠ []) : Per (lt h c) h.length c.length := by
  refine ⟨c_pos hc, fun i hi => ?_⟩
  unfold lt
  rw [if_neg (by omega), if_neg (by omega), show i + c.length - h.length = (i - h.length) + c.length by omega, Nat.add_mod_right]
theorem Per.mul {w : Nat → Nat} {a b : Nat} (p : Per w a b) : ∀ k i, a ≤ i → w (i + k * b) = w i
  | 0, i, _ => by rw [Nat.zero_mul, Nat.add_zero]
  | k + 1, i, hi => by
    rw [Nat.succ_mul, ← Nat.add_assoc, p.2 _ (by omega), Per.mul p k i hi]
theorem Per.mono {w : Nat → Nat} {a b x : Nat} (p : Per w a b) (h : a ≤ x) : Per w x b := ⟨p.1, fun i hi => p.2 i (by omega)⟩
theorem Per.swap {w : Nat → Nat} {a b x y : Nat} (p : Per w a b) (q : Per w x y) : Per w a y := by
  refine ⟨q.1, fun i hi => ?_⟩
  have h1 : x ≤ x * b := Nat.le_mul_of_pos_right x p.1
  rw [← p.mul x (i + y) (by omega), ← p.mul x i hi, show i + y + x * b = i + x * b + y by omega]
  exact q.2 _ (by omega)
theorem Per.mod {w : Nat → Nat} {a b y : Nat} (p : Per w a b) (q : Per w a y) (h : 0 < y % b) : Per w a (y % b) := by
  refine ⟨h, fun i hi => ?_⟩
  rw [← p.mul (y / b) (i + y % b) (by omega), show i + y % b + y / b * b = i + y by rw [Nat.add_assoc, Nat.mul_comm, Nat.mod_add_div]]
  exact q.2 i hi
theorem exists_min {P : Nat → Prop} (h : ∃ n, P n) : ∃ n, P n ∧ ∀ m, P m → n ≤ m := by
  obtain ⟨n, hn⟩ := h
  induction n using Nat.strongRecOn with
  | _ n ih =>
    by_cases hm : ∃ m, m < n ∧ P m
    · obtain ⟨m, h1, h2⟩ := hm
      exact ih m h1 h2
    · exact ⟨n, hn, fun m hp => Nat.le_of_not_lt fun hl => hm ⟨m, hl, hp⟩⟩
theorem least_exists {w : Nat → Nat} {a b : Nat} (p : Per w a b) : ∃ x y, Least w x y ∧ x ≤ a ∧ y ≤ b := by
  obtain ⟨x, ⟨y0, hx⟩, hmin⟩ := exists_min (P := fun x => ∃ y, Per w x y) ⟨a, b, p⟩
  obtain ⟨y, hy, hymin⟩ := exists_min (P := fun y => Per w x y) ⟨y0, hx⟩
  exact ⟨x, y, ⟨hy, fun x' y' h => hmin x' ⟨y', h⟩, hymin⟩, hmin a ⟨b, p⟩, hymin b (hx.swap p)⟩
theorem Least.uniq {w : Nat → Nat} {a b x y : Nat} (p : Least w a b) (q : Least w x y) : a = x ∧ b = y := by
  have e : a = x := Nat.le_antisymm (p.a_le _ _ q.per) (q.a_le _ _ p.per)
  subst e
  exact ⟨rfl, Nat.le_antisymm (p.b_le _ q.per) (q.b_le _ p.per)⟩
theorem Least.dvd {w : Nat → Nat} {a b y : Nat} (p : Least w a b) (q : Per w a y) : y % b = 0 := by
  have := p.per.1
  have h2 := Nat.mod_lt y this
  by_cases h : 0 < y % b
  · have := p.b_le _ (p.per.mod q h)
    omega
  · omega
/-- two rows alike for long enough are alike -/
theorem alike_of {w v : Nat → Nat} {m p q : Nat} (hw : Per w m p) (hv : Per v m q) (h : ∀ i, i < m + p + q → w i = v i) : w = v := by
  funext i
  induction i using Nat.strongRecOn with
  | _ i ih =>
    by_cases hi : i < m + p + q
    · exact h i hi
    · have p1 := hw.1
      have q1 := hv.1
      have e1 : w i = w (i - p) := by rw [← hw.2 (i - p) (by omega), show i - p + p = i by omega]
      have e2 : v i = v (i - q) := by rw [← hv.2 (i - q) (by omega), show i - q + q = i by omega]
      have e3 : v (i - p) = v (i - p - q) := by rw [← hv.2 (i - p - q) (by omega), show i - p - q + q = i - p by omega]
      have e4 : w (i - q) = w (i - p - q) := by rw [← hw.2 (i - p - q) (by omega), show i - p - q + p = i - q by omega]
      rw [e1, e2, ih (i - p) (by omega), e3, ← ih (i - p - q) (by omega), ← e4, ih (i - q) (by omega)]
/-- the row folded at a and b -/
def fold (w : Nat → Nat) (a b i : Nat) : Nat := if i < a then w i else w (a + (i - a) % b)
theorem fold_of {w : Nat → Nat} {a b : Nat} (p : Per w a b) (i : Nat) : fold w a b i = w i := by
  unfold fold
  by_cases hi : i < a
  · rw [if_pos hi]
  · rw [if_neg hi, ← p.mul ((i - a) / b) _ (by omega)]
    congr 1
    have := Nat.mod_add_div (i - a) b
    rw [Nat.mul_comm] at this
    omega
theorem per_of_fold {w : Nat → Nat} {a b m p N : Nat} (q : Per w m p) (ha : a ≤ m) (h0 : 0 < b) (hb : b ≤ p) (hN : m + 2 * p ≤ N) (h : ∀ i, i < N → fold w a b i = w i) : Per w a b := by
  have step : ∀ i, a ≤ i → i + b < N → w (i + b) = w i := fun i hi hl => by
    rw [← h (i + b) hl, ← h i (by omega)]
    unfold fold
    rw [if_neg (by omega), if_neg (by omega), show i + b - a = (i - a) + b by omega, Nat.add_mod_right]
  refine ⟨h0, fun i hi => ?_⟩
  by_cases hl : i + b < N
  · exact step i hi hl
  · have p1 := q.1
    have l1 := Nat.mod_lt (i - m) p1
    have l2 := Nat.mod_add_div (i - m) p
    rw [Nat.mul_comm] at l2
    have e1 : w i = w (m + (i - m) % p) := by
      rw [← q.mul ((i - m) / p) (m + (i - m) % p) (by omega)]
      congr 1
      omega
    have e2 : w (i + b) = w (m + (i - m) % p + b) := by
      rw [← q.mul ((i - m) / p) (m + (i - m) % p + b) (by omega)]
      congr 1
      omega
    rw [e1, e2]
    exact step _ (by omega) (by omega)
/-! as texts -/
theorem repL_succ (c : List Nat) (k : Nat) : repL c (k + 1) = c ++ repL c k := by
  unfold repL
  rw [List.replicate_succ, List.flatten_cons]
theorem repL_get (c : List Nat) : ∀ (k i : Nat), i < c.length * k → (repL c k)[i]? = c[i % c.length]?
  | 0, i, h => by omega
  | k + 1, i, h => by
    rw [repL_succ]
    by_cases hi : i < c.length
    · rw [List.getElem?_append_left hi, Nat.mod_eq_of_lt hi]
    · rw [List.getElem?_append_right (by omega), repL_get c k (i - c.length) (by rw [Nat.mul_succ] at h; omega)]
      congr 1
      rw [← Nat.mod_eq_sub_mod (by omega)]
theorem repL_len (c : List Nat) (k : Nat) : (repL c k).length = c.length * k := flat_len c k
theorem lts_eq (h : List Nat) {c : List Nat} (hc : c ≠ []) (m : Nat) : (h ++ repL c (m / c.length + 1)).take m = lts h c m := by
  have p := c_pos hc
  have hm : m < c.length * (m / c.length + 1) := by
    have := Nat.mod_add_div m c.length
    have := Nat.mod_lt m p
    rw [Nat.mul_succ]
    omega
  refine List.ext_getElem? fun i => ?_
  rw [List.getElem?_take]
  unfold lts
  by_cases hi : i < m
  · rw [if_pos hi, List.getElem?_map, List.getElem?_range hi]
    show _ = some (lt h c i)
    unfold lt
    by_cases hh : i < h.length
    · rw [if_pos hh, List.getElem?_append_left hh, List.getD_eq_getElem?_getD, List.getElem?_eq_getElem hh]
      rfl
    · have l := Nat.mod_lt (i - h.length) p
      rw [if_neg hh, List.getElem?_append_right (by omega), repL_get c _ _ (by omega), List.getD_eq_getElem?_getD, List.getElem?_eq_getElem l]
      rfl
  · rw [if_neg hi, List.getElem?_eq_none]
    simp
    omega
theorem lts_len (h c : List Nat) (m : Nat) : (lts h c m).length = m := by simp [lts]
def pre (w : Nat → Nat) (a : Nat) : List Nat := (List.range a).map w
def seg (w : Nat → Nat) (a b : Nat) : List Nat := (List.range b).map fun i => w (a + i)
theorem pre_len (w : Nat → Nat) (a : Nat) : (pre w a).length = a := by simp [pre]
theorem seg_len (w : Nat → Nat) (a b : Nat) : (seg w a b).length = b := by simp [seg]
theorem pre_get (w : Nat → Nat) {a i : Nat} (h : i < a) : (pre w a)[i]? = some (w i) := by simp [pre, h]
theorem seg_get (w : Nat → Nat) {a b i : Nat} (h : i < b) : (seg w a b)[i]? = some (w (a + i)) := by simp [seg, h]
theorem pre_take (w : Nat → Nat) {a m : Nat} (h : a ≤ m) : (pre w m).take a = pre w a := by
  unfold pre
  rw [← List.map_take, List.take_range, Nat.min_eq_left h]
theorem pre_seg (w : Nat → Nat) {a b m : Nat} (h : a + b ≤ m) : ((pre w m).drop a).take b = seg w a b := by
  refine List.ext_getElem? fun i => ?_
  rw [List.getElem?_take, List.getElem?_drop]
  by_cases hi : i < b
  · rw [if_pos hi, pre_get w (by omega), seg_get w hi]
  · rw [if_neg hi, List.getElem?_eq_none (by rw [seg_len]; omega)]
theorem lt_pre_seg (w : Nat → Nat) {a b : Nat} (hb : 0 < b) (i : Nat) : lt (pre w a) (seg w a b) i = fold w a b i := by
  unfold lt fold
  rw [pre_len, seg_len]
  by_cases hi : i < a
  · rw [if_pos hi, if_pos hi, List.getD_eq_getElem?_getD, pre_get w hi]
    rfl
  · rw [if_neg hi, if_neg hi, List.getD_eq_getElem?_getD, seg_get w (Nat.mod_lt _ hb)]
    rfl
theorem pre_inj {w v : Nat → Nat} {a : Nat} : pre w a = pre v a ↔ ∀ i, i < a → w i = v i := by
  unfold pre
  rw [List.map_inj_left]
  simp
theorem pre_self (h : List Nat) (c : List Nat) : pre (lt h c) h.length = h := by
  refine List.ext_getElem? fun i => ?_
  by_cases hi : i < h.length
  · rw [pre_get _ hi, List.getElem?_eq_getElem hi]
    unfold lt
    rw [if_pos hi, List.getD_eq_getElem?_getD, List.getElem?_eq_getElem hi]
    rfl
  · rw [List.getElem?_eq_none (by rw [pre_len]; omega), List.getElem?_eq_none (by omega)]
/-- the least form as a value -/
def leastD (w : Nat → Nat) (a b : Nat) : Dat := .tup [.str (pre w a), .str (seg w a b)]
theorem fold_ext {w v : Nat → Nat} {a b : Nat} (h1 : pre w a = pre v a) (h2 : seg w a b = seg v a b) (hb : 0 < b) (i : Nat) : fold w a b i = fold v a b i := by
  rw [← lt_pre_seg w hb, ← lt_pre_seg v hb, h1, h2]
theorem leastD_inj {w v : Nat → Nat} {a b x y : Nat} (p : Per w a b) (q : Per v x y) (h : leastD w a b = leastD v x y) : w = v := by
  unfold leastD at h
  simp only [Dat.tup.injEq, List.cons.injEq, Dat.str.injEq, and_true] at h
  obtain ⟨h1, h2⟩ := h
  have e1 : a = x := by rw [← pre_len w a, h1, pre_len]
  have e2 : b = y := by rw [← seg_len w a b, h2, seg_len]
  subst e1
  subst e2
  funext i
  rw [← fold_of p i, ← fold_of q i, fold_ext h1 h2 p.1]
end Dl
-- part Ee
set_option Elab.async false
set_option linter.all false
set_option maxRecDepth 100000
set_option maxHeartbeats 4000000
namespace Dl
open PySem PySem.Spec PyProof.Rows L2 Evl

local macro_rules | `(tactic| walk_at "w") => `(tactic| (simp (maxSteps := 3000000) only [↓e_var0, ↓e_var0o, ↓e_varS, ↓e_anyIt, ↓e_par, ↓e_zip, ↓aAdd_i, ↓aAdd_s, ↓aAdd_t, ↓aAdd_l, ↓aMul_i, ↓aMul_s, ↓aMul_l, ↓eqS_i, ↓eqS_s, ↓eqS_b, ↓eqS_nn, ↓eqS_ni, ↓eqS_ns, ↓eqS_nt, ↓eqS_in, ↓eqS_sn, ↓eqS_is, ↓eqS_si, ↓eqS_t, ↓eqS_l, ↓inS_s, ↓inS_t, ↓inS_l, ↓lenD_s, ↓lenD_t, ↓lenD_l, ↓lenD_z, ↓ixD_t, ↓ixD_l, ↓ixD_z, ↓ixD_s, ↓ixD_0, ↓ixD_1, ↓ixD_2, ↓cutDd_s, ↓cutDd_l, ↓cutDd_z, ↓cutDd_t, ↓listD_l, ↓listD_z, ↓itemsD_l, ↓itemsD_t, ↓itemsQ_s, ↓itemsQ_l, ↓itemsQ_z, ↓itemsQ_t, ↓aInt_i, ↓aInt_b, ↓aTupOf_l, ↓aTupOf_t, ↓anyD_l, ↓anyD_z, ↓anyD_t, ↓anyD_s, ↓joinD_l, ↓joinD_t, ↓zipQ_t, ↓zipQ_l, ↓asB_bl, ↓asI_int, ↓as1_one, ↓as2_two, par2,
  bodyW, bodyF, bodyP, start0, wSeq, wAsg, wOwn, wIfS, wRet, wRetF, wRetO, wRetN, wDrop, wApp, wSet, setW, slotSet, wInc, wNext, wBreak, wContinue, wNever, wC, wOp, wUn, wIf, wTest, wAnd, wOr, wNot, wYes, wAndV, wOrV, wNotV, wChain, wNil, wCons, wTup, wLst, wFz, wCall, wCallF, wCallK, wCallN, wCB, wCBF, wBM, wBM0, tStr, wNone, wPart, wSl, wgN, wgNil, wgCons, wgTup, wFor, wWhile, wLc, wRng1, wRng2, wListRg, wPot, wipeL, restL, keepIm,
  aI0, aII, aNeg, aEq, aNe, aIn, aNotIn, aIsN, aIsNotN, isN, aIsW, aIsNotW, ↓isW_n, ↓isW_bb, ↓isW_nb, wRevS, aAbs, aMax, aMin, aMin1, aMax1, ↓partsD_l, ↓partsD_z, ↓partsD_t, aLen, aSum, aAll, aAny, aIsi, isi, goodTy, aIx, aListOf, idxS,
  List.map_cons, List.map_nil, List.cons_append, List.nil_append, List.length_cons, List.length_nil, List.replicate_succ, List.replicate_zero, Nat.reduceAdd, Nat.reduceSub, List.getElem?_cons_zero, List.getElem?_cons_succ, List.set_cons_zero, List.set_cons_succ, reduceCtorEq, if_true, if_false, Bool.false_eq_true,
  decide_eq_true_eq, kinds, List.contains_cons, List.contains_nil, String.reduceBEq, Bool.or_true, Bool.true_or, Bool.or_false, Bool.false_or, Bool.not_true, Bool.not_false, Bool.not_eq_true, decide_true, decide_false, true_and, and_true, Int.reduceLT, Int.reduceLE, Int.reduceNeg, Nat.reduceLeDiff, cmuL, cmuR, cfdS, cpwS, atI_pos, Int.reduceToNat, isBls_nil, isBls_bl, Option.map_some, Option.some.injEq, exists_eq_left', List.all_cons, List.all_nil, id_eq, Bool.and_true, Bool.true_and, beq_self_eq_true]))


/-! losses as values -/
def lossD (h c : List Nat) : Dat := .tup [.str h, .str c]
def L_first : WS := (wSeq (wAsg (wVar 0) (wgTup 2 (wgCons (wgN 2) (wgCons (wgN 3) wgNil))))
  (wRet (wSl cutDd (wOp aAdd (wVar 2) (wOp aMul (wVar 3) (wOp aAdd (wOp aFd (wVar 1) (wCB aLen (wCons (wVar 3) wNil))) (wC (.int 1))))) wNone (wPart (wVar 1)))))
def G_first : Fn := fun ds n Q => ∃ h c m, ds = [lossD h c, .int (m : Nat)] ∧ c ≠ [] ∧ h.length + c.length + m ≤ 500000 ∧ Q (.str (lts h c m)) n
theorem B_first {ds : List Dat} {n : Nat} {QD : Dat → Nat → Prop} (h : G_first ds n QD) : bodyW 4 L_first ds n QD := by
  obtain ⟨x, c, m, rfl, hc, hl, h⟩ := h
  have p := c_pos hc
  have hd : (m : Int) / (c.length : Int) = ((m / c.length : Nat) : Int) := (Int.natCast_ediv _ _).symm
  have hle := lts_eq x hc m
  have hm := Nat.mod_add_div m c.length
  have hm2 := Nat.div_le_self m c.length
  generalize m / c.length = k at hd hm hm2 hle
  have b : c.length * (k + 1) ≤ m + c.length := by
    rw [Nat.mul_succ]
    omega
  have e : ((k : Int) + 1).toNat = k + 1 := by omega
  unfold L_first lossD
  walk_at "w"
  rw [hd, e]
  rw [cutN_hi (by omega), Int.toNat_natCast, hle]
  refine ⟨by omega, cfdS (by omega), ⟨by omega, by omega, by omega⟩, ?_⟩
  rw [List.length_append, repL_len]
  exact ⟨by omega, by omega, h⟩
def L_is_loss : WS := (wSeq (wIfS (wNot (wTest (wCall G_tuple (wCons (wVar 0) (wCons (wC (.int 2)) (wCons (wC (.int 2)) wNil)))))) (wRet (wC (.bl false))) wNext)
  (wRet (wAndV (wCall G_letters (wCons (wOp aIx (wVar 0) (wC (.int 0))) (wCons (wC (.int 0)) (wCons (wC (.int 200)) wNil)))) (wCall G_letters (wCons (wOp aIx (wVar 0) (wC (.int 1))) (wCons (wC (.int 1)) (wCons (wC (.int 200)) wNil)))))))
structure Loss (h c : List Nat) : Prop where
  hh : Lets h
  hc : Lets c
  lh : h.length ≤ 200
  lc : c.length ≤ 200
  ne : c ≠ []
def G_is_loss : Fn := fun ds n Q => ∃ h c, ds = [lossD h c] ∧ Loss h c ∧ Q (.bl true) n
theorem B_is_loss {ds : List Dat} {n : Nat} {QD : Dat → Nat → Prop} (h : G_is_loss ds n QD) : bodyW 1 L_is_loss ds n QD := by
  obtain ⟨x, c, rfl, hl, h⟩ := h
  have p := c_pos hl.ne
  unfold L_is_loss lossD
  walk_at "w"
  refine ⟨_, 2, 2, rfl, by simp, by simp, by decide, ?_⟩
  walk_at "w"
  refine ⟨x, 0, 200, rfl, hl.hh, by omega, by have := hl.lh; omega, by decide, ?_⟩
  walk_at "w"
  exact ⟨c, 1, 200, rfl, hl.hc, by omega, by have := hl.lc; omega, by decide, h⟩
def L_check_loss : WS := (wIfS (wNot (wTest (wCall G_is_loss (wCons (wVar 0) wNil)))) wNever wNext)
def G_check_loss : Fn := fun ds n Q => ∃ h c, ds = [lossD h c] ∧ Loss h c ∧ Q .non n
theorem B_check_loss {ds : List Dat} {n : Nat} {QD : Dat → Nat → Prop} (h : G_check_loss ds n QD) : bodyW 1 L_check_loss ds n QD := by
  obtain ⟨x, c, rfl, hl, h⟩ := h
  unfold L_check_loss
  walk_at "w"
  exact ⟨x, c, rfl, hl, h⟩
def L_letters_of : WS := (wSeq (wDrop (wCall G_check_loss (wCons (wVar 0) wNil)))
  (wSeq (wIfS (wNot (wTest (wCall G_integer (wCons (wVar 1) (wCons (wC (.int 0)) (wCons (wC (.int 200)) wNil)))))) wNever wNext)
  (wRet (wCall G_first (wCons (wVar 0) (wCons (wVar 1) wNil))))))
def G_letters_of : Fn := fun ds n Q => ∃ h c m, ds = [lossD h c, .int (m : Nat)] ∧ Loss h c ∧ m ≤ 200 ∧ Q (.str (lts h c m)) n
theorem B_letters_of {ds : List Dat} {n : Nat} {QD : Dat → Nat → Prop} (h : G_letters_of ds n QD) : bodyW 2 L_letters_of ds n QD := by
  obtain ⟨x, c, m, rfl, hl, hm, h⟩ := h
  unfold L_letters_of
  walk_at "w"
  refine ⟨x, c, rfl, hl, _, 0, 200, rfl, by omega, by omega, ?_⟩
  walk_at "w"
  exact ⟨x, c, m, rfl, hl.ne, by have := hl.lh; have := hl.lc; omega, h⟩
/-! the law's own least form: the first pair that tells the same letters -/
theorem sIx_nat (n i : Nat) (d : Nat) : HT.sIx n d (some (i : Int)) = min i n := by
  rw [sIx_pos (by omega)]
  rfl
theorem cutN_lh {α : Type} {l : List α} {lo hi : Int} {i k : Nat} (h1 : lo = i) (h2 : hi = i + k) : cutN l (some lo) (some hi) = (l.drop i).take k := by
  subst h1
  have e : hi = ((i + k : Nat) : Int) := by omega
  subst e
  unfold cutN
  rw [sIx_nat, sIx_nat]
  by_cases hl : i ≤ l.length
  · rw [Nat.min_eq_left hl]
    by_cases h2 : i + k ≤ l.length
    · rw [Nat.min_eq_left h2]
      congr 1
      omega
    · rw [Nat.min_eq_right (by omega), List.take_of_length_le (by rw [List.length_drop]; omega), List.take_of_length_le (by rw [List.length_drop]; omega)]
  · rw [List.drop_of_length_le (by rw [Nat.min_eq_right (by omega)]; omega), List.drop_of_length_le (by omega), List.take_nil, List.take_nil]
theorem lts_fold {w : Nat → Nat} {a b N : Nat} (hb : 0 < b) : lts (pre w a) (seg w a b) N = pre w N ↔ ∀ k, k < N → fold w a b k = w k := by
  show pre (lt (pre w a) (seg w a b)) N = pre w N ↔ _
  rw [pre_inj]
  constructor
  · intro h k hk
    rw [← lt_pre_seg w hb]
    exact h k hk
  · intro h k hk
    rw [lt_pre_seg w hb]
    exact h k hk
def L_least : WS := (wSeq (wAsg (wOp aAdd (wCB aLen (wCons (wOp aIx (wVar 0) (wC (.int 0))) wNil)) (wOp aMul (wC (.int 2)) (wCB aLen (wCons (wOp aIx (wVar 0) (wC (.int 1))) wNil)))) (wgN 1))
  (wSeq (wAsg (wCall G_first (wCons (wVar 0) (wCons (wOp aMul (wC (.int 2)) (wVar 1)) wNil))) (wgN 2))
  (wSeq (wFor (wRng1 (wCons (wOp aAdd (wCB aLen (wCons (wOp aIx (wVar 0) (wC (.int 0))) wNil)) (wC (.int 1))) wNil)) (wgN 3) (wFor (wRng2 (wCons (wC (.int 1)) (wCons (wOp aAdd (wCB aLen (wCons (wOp aIx (wVar 0) (wC (.int 1))) wNil)) (wC (.int 1))) wNil))) (wgN 4) (wIfS (wTest (wOp aEq (wCall G_first (wCons (wTup (wCons (wSl cutDd (wVar 2) wNone (wPart (wVar 3))) (wCons (wSl cutDd (wVar 2) (wPart (wVar 3)) (wPart (wOp aAdd (wVar 3) (wVar 4)))) wNil))) (wCons (wOp aMul (wC (.int 2)) (wVar 1)) wNil))) (wVar 2))) (wRet (wTup (wCons (wSl cutDd (wVar 2) wNone (wPart (wVar 3))) (wCons (wSl cutDd (wVar 2) (wPart (wVar 3)) (wPart (wOp aAdd (wVar 3) (wVar 4)))) wNil)))) wNext)))
  (wRet (wVar 0)))))
def G_least : Fn := fun ds n Q => ∃ h c, ds = [lossD h c] ∧ c ≠ [] ∧ h.length ≤ 2000 ∧ c.length ≤ 2000 ∧ ∀ a b, Least (lt h c) a b → a ≤ h.length → b ≤ c.length → Q (leastD (lt h c) a b) n
theorem B_least {ds : List Dat} {n : Nat} {QD : Dat → Nat → Prop} (h : G_least ds n QD) : bodyW 5 L_least ds n QD := by
  obtain ⟨x, c, rfl, hc, l1, l2, h⟩ := h
  have p := c_pos hc
  have q := lt_per x hc
  unfold L_least lossD
  walk_at "w"
  refine ⟨by omega, by omega, x, c, 2 * (x.length + 2 * c.length), ?_, hc, by omega, ?_⟩
  · unfold lossD
    simp
  walk_at "w"
  refine ⟨by omega, by omega, by omega, ?_⟩
  refine forW_at _ (fun i S => ∃ s3 s4, S = ⟨[.im (lossD x c), .im (.int (↑x.length + 2 * ↑c.length)), .im (.str (lts x c (2 * (x.length + 2 * c.length)))), s3, s4], n⟩ ∧ ∀ a, a < i → ∀ b, b ≤ c.length → ¬ Per (lt x c) a b) _ ?_ ⟨_, _, rfl, fun a ha => by omega⟩ ?_
  · rintro i d S hd ⟨s3, s4, rfl, no⟩ N hN
    obtain ⟨hi, rfl⟩ := intsD_get hd
    have hi : i ≤ x.length := by omega
    unfold lossD
    walk_at "w"
    refine ⟨by omega, ⟨by omega, by omega⟩, ?_⟩
    refine forW_at _ (fun j S => ∃ s4, S = ⟨[.im (lossD x c), .im (.int (↑x.length + 2 * ↑c.length)), .im (.str (lts x c (2 * (x.length + 2 * c.length)))), .im (.int (0 + (i : Int))), s4], n⟩ ∧ ∀ b, b ≤ j → ¬ Per (lt x c) i b) _ ?_ ⟨_, rfl, fun b hb h => by have := h.1; omega⟩ ?_
    · rintro j d S hd ⟨s4, rfl, no2⟩ N2 hN2
      obtain ⟨hj, rfl⟩ := intsD_get hd
      have hj : j + 1 ≤ c.length := by omega
      have r1 : cutN (lts x c (2 * (x.length + 2 * c.length))) none (some (0 + (i : Int))) = pre (lt x c) i := by
        rw [cutN_hi (by omega), show (0 + (i : Int)).toNat = i by omega]
        exact pre_take _ (by omega)
      have r2 : cutN (lts x c (2 * (x.length + 2 * c.length))) (some (0 + (i : Int))) (some (0 + (i : Int) + (1 + (j : Int)))) = seg (lt x c) i (j + 1) := by
        rw [cutN_lh (i := i) (k := j + 1) (by omega) (by omega)]
        exact pre_seg _ (by omega)
      unfold lossD
      walk_at "w"
      rw [r1, r2]
      have hll : (lts x c (2 * (x.length + 2 * c.length))).length = 2 * (x.length + 2 * c.length) := lts_len _ _ _
      refine ⟨by omega, by omega, pre (lt x c) i, seg (lt x c) i (j + 1), 2 * (x.length + 2 * c.length), ?_, fun e => ?_, ?_, ?_⟩
      · unfold lossD
        simp
      · have := seg_len (lt x c) i (j + 1)
        rw [e] at this
        simp at this
      · rw [pre_len, seg_len]
        omega
      walk_at "w"
      have key : lts (pre (lt x c) i) (seg (lt x c) i (j + 1)) (2 * (x.length + 2 * c.length)) = lts x c (2 * (x.length + 2 * c.length)) ↔ _ := lts_fold (w := lt x c) (a := i) (b := j + 1) (N := 2 * (x.length + 2 * c.length)) (by omega)
      split
      · rename_i e
        have per : Per (lt x c) i (j + 1) := per_of_fold q hi (by omega) hj (by omega) (key.mp (by simpa using e))
        refine ⟨by omega, by omega, h i (j + 1) ⟨per, fun a b ha => ?_, fun b hb => ?_⟩ hi hj⟩
        · exact Nat.le_of_not_lt fun hl => no a hl _ (Nat.le_refl _) (ha.swap q)
        · exact Nat.le_of_not_lt fun hl => no2 b (by omega) hb
      · rename_i e
        refine hN2 _ ⟨_, rfl, fun b hb hp => ?_⟩
        by_cases eb : b = j + 1
        · subst eb
          exact e (by simpa using key.mpr fun k _ => fold_of hp k)
        · exact no2 b (by omega) hp
    · rintro S ⟨s4, rfl, no2⟩
      refine hN _ ⟨_, _, rfl, fun a ha b hb => ?_⟩
      by_cases e : a = i
      · subst e
        exact no2 b (by simpa [intsD] using hb)
      · exact no a (by omega) b hb
  · rintro S ⟨s3, s4, rfl, no⟩
    exact absurd q (no _ (by simp [intsD]) _ (Nat.le_refl _))
end Dl
-- part Ef
set_option Elab.async false
set_option linter.all false
set_option maxRecDepth 100000
set_option maxHeartbeats 4000000
namespace Dl
/-! places along rows without end -/
def pl (w : Nat → Nat) (m : Nat) : Int := plc 0 (pre w m)
abbrev LetW (w : Nat → Nat) : Prop := ∀ i, w i = 110 ∨ w i = 102 ∨ w i = 115
theorem pre_succ (w : Nat → Nat) (m : Nat) : pre w (m + 1) = pre w m ++ [w m] := by
  unfold pre
  rw [List.range_succ, List.map_append]
  rfl
theorem pl_succ (w : Nat → Nat) (m : Nat) : pl w (m + 1) = 3 * pl w m + bk (pl w m) (w m) := by
  unfold pl
  rw [pre_succ]
  unfold plc
  rw [List.foldl_append]
  rfl
theorem lt_lets {h c : List Nat} (hh : Lets h) (hc : Lets c) (ne : c ≠ []) : LetW (lt h c) := fun i => by
  unfold lt
  by_cases hi : i < h.length
  · rw [if_pos hi, List.getD_eq_getElem?_getD, List.getElem?_eq_getElem hi]
    exact hh _ (List.getElem_mem hi)
  · have l := Nat.mod_lt (i - h.length) (c_pos ne)
    rw [if_neg hi, List.getD_eq_getElem?_getD, List.getElem?_eq_getElem l]
    exact hc _ (List.getElem_mem l)
theorem pre_lets {w : Nat → Nat} (hw : LetW w) (m : Nat) : Lets (pre w m) := fun c hc => by
  unfold pre at hc
  obtain ⟨i, _, rfl⟩ := List.mem_map.mp hc
  exact hw i
theorem seg_lets {w : Nat → Nat} (hw : LetW w) (a b : Nat) : Lets (seg w a b) := fun c hc => by
  unfold seg at hc
  obtain ⟨i, _, rfl⟩ := List.mem_map.mp hc
  exact hw _
theorem pl_range {w : Nat → Nat} (hw : LetW w) (m : Nat) : 0 ≤ pl w m ∧ pl w m < 3 ^ m := by
  obtain ⟨h1, _⟩ := plc_zero (pre w m) 0 (by decide) (pre_lets hw m)
  obtain ⟨h2, _⟩ := plc_top (pre w m) 0 1 (by decide) (by decide) (by decide) (pre_lets hw m)
  rw [pre_len, Int.one_mul] at h2
  exact ⟨h1, h2⟩
def tw (p : Int) : Nat := if p % 2 = 0 then 102 else 115
theorem bk_inj {p : Int} {a b : Nat} (ha : a = 110 ∨ a = 102 ∨ a = 115) (hb : b = 110 ∨ b = 102 ∨ b = 115) (h : bk p a = bk p b) : a = b := by
  unfold bk at h
  rcases ha with rfl | rfl | rfl <;> rcases hb with rfl | rfl | rfl <;> first | rfl | (split at h <;> simp at h)
theorem bk_two {p : Int} {a : Nat} (ha : a = 110 ∨ a = 102 ∨ a = 115) : bk p a = 2 ↔ a = tw p := by
  unfold bk tw
  rcases ha with rfl | rfl | rfl <;> split <;> simp
theorem bk_nil {p : Int} {a : Nat} (ha : a = 110 ∨ a = 102 ∨ a = 115) : bk (p + 1) a = 0 ↔ a = tw p := by
  unfold bk tw
  by_cases hp : p % 2 = 0
  · rw [if_neg (show ¬ (p + 1) % 2 = 0 by omega), if_pos hp]
    rcases ha with rfl | rfl | rfl <;> simp
  · rw [if_pos (show (p + 1) % 2 = 0 by omega), if_neg hp]
    rcases ha with rfl | rfl | rfl <;> simp
theorem near_step {p : Int} {a b : Nat} (ha : a = 110 ∨ a = 102 ∨ a = 115) (hb : b = 110 ∨ b = 102 ∨ b = 115) (h : 3 * (p + 1) + bk (p + 1) b - (3 * p + bk p a) ≤ 1) : a = tw p ∧ b = tw p := by
  obtain ⟨h1, h2⟩ := bk_range p a
  obtain ⟨h3, h4⟩ := bk_range (p + 1) b
  exact ⟨(bk_two ha).mp (by omega), (bk_nil hb).mp (by omega)⟩
theorem tw_par {p q : Int} (h : p % 2 = q % 2) : tw p = tw q := by
  unfold tw
  rw [h]
theorem near_low {w v : Nat → Nat} (hw : LetW w) (hv : LetW v) {i M : Nat} (h0 : pl v (i + 1) = pl w (i + 1) + 1) (h : ∀ m, m ≤ M → pl v m - pl w m ≤ 1) :
    ∀ k, i + 1 + k ≤ M → (pl v (i + 1 + k) = pl w (i + 1 + k) + 1 ∧ pl w (i + 1 + k) % 2 = pl w (i + 1) % 2) ∧ (i + 1 + k < M → w (i + 1 + k) = tw (pl w (i + 1)) ∧ v (i + 1 + k) = tw (pl w (i + 1))) := by
  have letter : ∀ k, i + 1 + k < M → pl v (i + 1 + k) = pl w (i + 1 + k) + 1 → w (i + 1 + k) = tw (pl w (i + 1 + k)) ∧ v (i + 1 + k) = tw (pl w (i + 1 + k)) := fun k hk e => by
    have := h (i + 1 + k + 1) (by omega)
    rw [pl_succ, pl_succ, e] at this
    exact near_step (hw _) (hv _) this
  intro k
  induction k with
  | zero =>
    intro hk
    exact ⟨⟨h0, rfl⟩, fun hl => letter 0 hl h0⟩
  | succ k ih =>
    intro hk
    obtain ⟨⟨e1, e2⟩, e3⟩ := ih (by omega)
    obtain ⟨l1, l2⟩ := letter k (by omega) e1
    have n1 : pl v (i + 1 + (k + 1)) = pl w (i + 1 + (k + 1)) + 1 ∧ pl w (i + 1 + (k + 1)) % 2 = pl w (i + 1) % 2 := by
      rw [show i + 1 + (k + 1) = i + 1 + k + 1 by omega, pl_succ, pl_succ, e1, (bk_two (hw _)).mpr l1, (bk_nil (hv _)).mpr l2]
      omega
    refine ⟨n1, fun hl => ?_⟩
    obtain ⟨m1, m2⟩ := letter (k + 1) hl n1.1
    rw [m1, m2, tw_par n1.2]
    exact ⟨rfl, rfl⟩
theorem near_first {P : Int} {y z : Nat} (hy : y = 110 ∨ y = 102 ∨ y = 115) (hz : z = 110 ∨ z = 102 ∨ z = 115) (h : bk P z = bk P y + 1) : y ≠ tw (3 * P + bk P y) ∧ z ≠ tw (3 * P + bk P y) := by
  unfold tw
  unfold bk at h ⊢
  by_cases hp : P % 2 = 0
  · rw [if_pos hp] at h ⊢
    rw [if_pos hp] at h
    rcases hy with rfl | rfl | rfl <;> rcases hz with rfl | rfl | rfl <;> simp at h ⊢ <;> (split <;> first | omega | decide)
  · rw [if_neg hp] at h ⊢
    rw [if_neg hp] at h
    rcases hy with rfl | rfl | rfl <;> rcases hz with rfl | rfl | rfl <;> simp at h ⊢ <;> (split <;> first | omega | decide)
theorem pl_same {w v : Nat → Nat} {i : Nat} (h : ∀ k, k < i → w k = v k) : pl w i = pl v i := by
  unfold pl
  rw [pre_inj.mpr h]
theorem tw_two (p : Int) : tw p = 102 ∨ tw p = 115 := by
  unfold tw
  split
  · exact .inl rfl
  · exact .inr rfl
theorem near_or {w v : Nat → Nat} (hw : LetW w) (hv : LetW v) {i M : Nat} (hd : w i ≠ v i) (ag : ∀ k, k < i → w k = v k) (hM : i < M) (h : ∀ m, m ≤ M → pl v m - pl w m ≤ 1 ∧ pl w m - pl v m ≤ 1) :
    ∃ x, (x = 102 ∨ x = 115) ∧ w i ≠ x ∧ v i ≠ x ∧ ∀ k, i < k → k < M → w k = x ∧ v k = x := by
  have e := pl_same ag
  have hb : bk (pl w i) (w i) ≠ bk (pl w i) (v i) := fun q => hd (bk_inj (hw _) (hv _) q)
  have s1 := pl_succ w i
  have s2 := pl_succ v i
  rw [← e] at s2
  obtain ⟨h1, h2⟩ := h (i + 1) (by omega)
  by_cases c : pl v (i + 1) = pl w (i + 1) + 1
  · obtain ⟨n1, n2⟩ := near_first (hw i) (hv i) (P := pl w i) (by omega)
    rw [← s1] at n1 n2
    refine ⟨tw (pl w (i + 1)), tw_two _, n1, n2, fun k k1 k2 => ?_⟩
    have := (near_low hw hv c (fun m hm => (h m hm).1) (k - (i + 1)) (by omega)).2 (by omega)
    rw [show i + 1 + (k - (i + 1)) = k by omega] at this
    exact this
  · have c' : pl w (i + 1) = pl v (i + 1) + 1 := by omega
    obtain ⟨n1, n2⟩ := near_first (hv i) (hw i) (P := pl w i) (by omega)
    rw [← s2] at n1 n2
    refine ⟨tw (pl v (i + 1)), tw_two _, n2, n1, fun k k1 k2 => ?_⟩
    have := (near_low hv hw c' (fun m hm => (h m hm).2) (k - (i + 1)) (by omega)).2 (by omega)
    rw [show i + 1 + (k - (i + 1)) = k by omega] at this
    exact ⟨this.2, this.1⟩
theorem tail_ext {w : Nat → Nat} {a b i M x : Nat} (p : Per w a b) (hx : ∀ k, i < k → k < M → w k = x) (h1 : i + 1 + b ≤ M) (h2 : a + b ≤ M) : ∀ k, i < k → w k = x := by
  intro k
  induction k using Nat.strongRecOn with
  | _ k ih =>
    intro hk
    by_cases hl : k < M
    · exact hx k hk hl
    · have := p.1
      rw [← ih (k - b) (by omega) (by omega), ← p.2 (k - b) (by omega), show k - b + b = k by omega]
theorem least_tail {w : Nat → Nat} {i x : Nat} (h0 : w i ≠ x) (h : ∀ k, i < k → w k = x) : Least w (i + 1) 1 := by
  refine ⟨⟨by decide, fun k hk => by rw [h k (by omega), h (k + 1) (by omega)]⟩, fun a b p => ?_, fun b p => p.1⟩
  refine Nat.le_of_not_lt fun hl => ?_
  have := p.2 i (by omega)
  have := p.1
  rw [h (i + b) (by omega)] at *
  omega
/-- rows that stay near are alike, or twins -/
structure Twins (w v : Nat → Nat) (i x : Nat) : Prop where
  x_fs : x = 102 ∨ x = 115
  same : ∀ k, k < i → w k = v k
  ne : w i ≠ v i
  w_x : w i ≠ x
  v_x : v i ≠ x
  tail : ∀ k, i < k → w k = x ∧ v k = x
theorem near_all {w v : Nat → Nat} (hw : LetW w) (hv : LetW v) {a b p q M : Nat} (pw : Per w a p) (pv : Per v b q) (h1 : max a b + p + q + p ≤ M) (h2 : max a b + p + q + q ≤ M)
    (h : ∀ m, m ≤ M → pl v m - pl w m ≤ 1 ∧ pl w m - pl v m ≤ 1) : w = v ∨ ∃ i x, Twins w v i x ∧ i < max a b + p + q := by
  by_cases hd : ∃ i, i < max a b + p + q ∧ w i ≠ v i
  · obtain ⟨i, ⟨hi, hne⟩, hmin⟩ := exists_min hd
    have ag : ∀ k, k < i → w k = v k := fun k hk => by
      by_cases e : w k = v k
      · exact e
      · have := hmin k ⟨by omega, e⟩
        omega
    obtain ⟨x, x1, x2, x3, x4⟩ := near_or hw hv hne ag (by omega) h
    refine .inr ⟨i, x, ⟨x1, ag, hne, x2, x3, fun k hk => ⟨?_, ?_⟩⟩, hi⟩
    · exact tail_ext pw (fun k k1 k2 => (x4 k k1 k2).1) (by omega) (by omega) k hk
    · exact tail_ext pv (fun k k1 k2 => (x4 k k1 k2).2) (by omega) (by omega) k hk
  · refine .inl (alike_of (pw.mono (Nat.le_max_left a b)) (pv.mono (Nat.le_max_right a b)) fun i hi => ?_)
    by_cases e : w i = v i
    · exact e
    · exact (hd ⟨i, hi, e⟩).elim
/-- twins stay near -/
theorem Twins.key {w v : Nat → Nat} (hw : LetW w) (hv : LetW v) {i x : Nat} (t : Twins w v i x) : ∀ k, ∃ p, tw p = x ∧ ((pl w (i + 1 + k) = p ∧ pl v (i + 1 + k) = p + 1) ∨ (pl v (i + 1 + k) = p ∧ pl w (i + 1 + k) = p + 1)) := by
    intro k
    induction k with
    | zero =>
      have e := pl_same t.same
      have s1 := pl_succ w i
      have s2 := pl_succ v i
      rw [← e] at s2
      rw [Nat.add_zero]
      have l1 := hw i
      have l2 := hv i
      have hx := t.x_fs
      have d0 := t.ne
      have d1 := t.w_x
      have d2 := t.v_x
      rw [s1, s2]
      generalize w i = y at *
      generalize v i = z at *
      generalize pl w i = P at *
      unfold bk tw
      by_cases hp : P % 2 = 0
      · rw [if_pos hp, if_pos hp]
        rcases hx with rfl | rfl <;> rcases l1 with rfl | rfl | rfl <;> rcases l2 with rfl | rfl | rfl <;> first | omega | skip
        · exact ⟨3 * P, by rw [if_pos (by omega)], .inr ⟨by simp, by simp⟩⟩
        · exact ⟨3 * P, by rw [if_pos (by omega)], .inl ⟨by simp, by simp⟩⟩
        · exact ⟨3 * P + 1, by rw [if_neg (by omega)], .inl ⟨by simp, by simp; omega⟩⟩
        · exact ⟨3 * P + 1, by rw [if_neg (by omega)], .inr ⟨by simp, by simp; omega⟩⟩
      · rw [if_neg hp, if_neg hp]
        rcases hx with rfl | rfl <;> rcases l1 with rfl | rfl | rfl <;> rcases l2 with rfl | rfl | rfl <;> first | omega | skip
        · exact ⟨3 * P + 1, by rw [if_pos (by omega)], .inl ⟨by simp, by simp; omega⟩⟩
        · exact ⟨3 * P + 1, by rw [if_pos (by omega)], .inr ⟨by simp, by simp; omega⟩⟩
        · exact ⟨3 * P, by rw [if_neg (by omega)], .inr ⟨by simp, by simp⟩⟩
        · exact ⟨3 * P, by rw [if_neg (by omega)], .inl ⟨by simp, by simp⟩⟩
    | succ k ih =>
      obtain ⟨p, hp, h⟩ := ih
      obtain ⟨t1, t2⟩ := t.tail (i + 1 + k) (by omega)
      rw [show i + 1 + (k + 1) = i + 1 + k + 1 by omega, pl_succ, pl_succ, t1, t2]
      have b2 : bk p x = 2 := (bk_two (hp ▸ .inr (tw_two p))).mpr hp.symm
      have b0 : bk (p + 1) x = 0 := (bk_nil (hp ▸ .inr (tw_two p))).mpr hp.symm
      refine ⟨3 * p + 2, by rw [← hp]; exact tw_par (by omega), ?_⟩
      rcases h with ⟨h1, h2⟩ | ⟨h1, h2⟩
      · exact .inl ⟨by rw [h1, b2], by rw [h2, b0]; omega⟩
      · exact .inr ⟨by rw [h1, b2], by rw [h2, b0]; omega⟩
theorem Twins.near {w v : Nat → Nat} (hw : LetW w) (hv : LetW v) {i x : Nat} (t : Twins w v i x) : ∀ m, pl v m - pl w m ≤ 1 ∧ pl w m - pl v m ≤ 1 := by
  intro m
  by_cases hm : m ≤ i
  · have := pl_same (w := w) (v := v) (i := m) fun k hk => t.same k (by omega)
    omega
  · obtain ⟨p, _, h⟩ := t.key hw hv (m - (i + 1))
    rw [show i + 1 + (m - (i + 1)) = m by omega] at h
    omega
end Dl
-- part Eg
set_option Elab.async false
set_option linter.all false
set_option maxRecDepth 100000
set_option maxHeartbeats 4000000
namespace Dl
open PySem PySem.Spec PyProof.Rows L2 Evl

local macro_rules | `(tactic| walk_at "w") => `(tactic| (simp (maxSteps := 3000000) only [↓e_var0, ↓e_var0o, ↓e_varS, ↓e_anyIt, ↓e_par, ↓e_zip, ↓aAdd_i, ↓aAdd_s, ↓aAdd_t, ↓aAdd_l, ↓aMul_i, ↓aMul_s, ↓aMul_l, ↓eqS_i, ↓eqS_s, ↓eqS_b, ↓eqS_nn, ↓eqS_ni, ↓eqS_ns, ↓eqS_nt, ↓eqS_in, ↓eqS_sn, ↓eqS_is, ↓eqS_si, ↓eqS_t, ↓eqS_l, ↓inS_s, ↓inS_t, ↓inS_l, ↓lenD_s, ↓lenD_t, ↓lenD_l, ↓lenD_z, ↓ixD_t, ↓ixD_l, ↓ixD_z, ↓ixD_s, ↓ixD_0, ↓ixD_1, ↓ixD_2, ↓cutDd_s, ↓cutDd_l, ↓cutDd_z, ↓cutDd_t, ↓listD_l, ↓listD_z, ↓itemsD_l, ↓itemsD_t, ↓itemsQ_s, ↓itemsQ_l, ↓itemsQ_z, ↓itemsQ_t, ↓aInt_i, ↓aInt_b, ↓aTupOf_l, ↓aTupOf_t, ↓anyD_l, ↓anyD_z, ↓anyD_t, ↓anyD_s, ↓joinD_l, ↓joinD_t, ↓zipQ_t, ↓zipQ_l, ↓asB_bl, ↓asI_int, ↓as1_one, ↓as2_two, par2,
  bodyW, bodyF, bodyP, start0, wSeq, wAsg, wOwn, wIfS, wRet, wRetF, wRetO, wRetN, wDrop, wApp, wSet, setW, slotSet, wInc, wNext, wBreak, wContinue, wNever, wC, wOp, wUn, wIf, wTest, wAnd, wOr, wNot, wYes, wAndV, wOrV, wNotV, wChain, wNil, wCons, wTup, wLst, wFz, wCall, wCallF, wCallK, wCallN, wCB, wCBF, wBM, wBM0, tStr, wNone, wPart, wSl, wgN, wgNil, wgCons, wgTup, wFor, wWhile, wLc, wRng1, wRng2, wListRg, wPot, wipeL, restL, keepIm,
  aI0, aII, aNeg, aEq, aNe, aIn, aNotIn, aIsN, aIsNotN, isN, aIsW, aIsNotW, ↓isW_n, ↓isW_bb, ↓isW_nb, wRevS, aAbs, aMax, aMin, aMin1, aMax1, ↓partsD_l, ↓partsD_z, ↓partsD_t, aLen, aSum, aAll, aAny, aIsi, isi, goodTy, aIx, aListOf, idxS,
  List.map_cons, List.map_nil, List.cons_append, List.nil_append, List.length_cons, List.length_nil, List.replicate_succ, List.replicate_zero, Nat.reduceAdd, Nat.reduceSub, List.getElem?_cons_zero, List.getElem?_cons_succ, List.set_cons_zero, List.set_cons_succ, reduceCtorEq, if_true, if_false, Bool.false_eq_true,
  decide_eq_true_eq, kinds, List.contains_cons, List.contains_nil, String.reduceBEq, Bool.or_true, Bool.true_or, Bool.or_false, Bool.false_or, Bool.not_true, Bool.not_false, Bool.not_eq_true, decide_true, decide_false, true_and, and_true, Int.reduceLT, Int.reduceLE, Int.reduceNeg, Nat.reduceLeDiff, cmuL, cmuR, cfdS, cpwS, atI_pos, Int.reduceToNat, isBls_nil, isBls_bl, Option.map_some, Option.some.injEq, exists_eq_left', List.all_cons, List.all_nil, id_eq, Bool.and_true, Bool.true_and, beq_self_eq_true]))


def L_min_place : WS := (wRet (wCB aMin1 (wCons (wCall G_heard_numbers (wCons (wVar 0) wNil)) wNil)))
def G_min_place : Fn := fun ds n Q => ∃ z, ds = [.str z] ∧ Lets z ∧ Q (.int (plc 0 z)) n
theorem min_numbers (p : Int) {m : Int} (h1 : m = (numbersAt p).1 ∨ m = (numbersAt p).2) (h2 : m ≤ (numbersAt p).1) (h3 : m ≤ (numbersAt p).2) : m = p := by
  unfold numbersAt at *
  split at h1 <;> rename_i e <;> simp only [e, if_true, if_false] at * <;> omega
theorem B_min_place {ds : List Dat} {n : Nat} {QD : Dat → Nat → Prop} (h : G_min_place ds n QD) : bodyW 1 L_min_place ds n QD := by
  obtain ⟨z, rfl, hz, h⟩ := h
  unfold L_min_place
  walk_at "w"
  refine ⟨z, rfl, hz, ?_⟩
  rw [show heard (0, 1) z = numbersAt (plc 0 z) from heard_at z 0 hz]
  walk_at "w"
  refine ⟨[(numbersAt (plc 0 z)).1, (numbersAt (plc 0 z)).2], rfl, by simp, fun m h1 h2 => ?_⟩
  rw [min_numbers (plc 0 z) (by simpa using h1) (h2 _ (by simp)) (h2 _ (by simp))]
  exact h
/-! drawn words -/
def L_word_drawn : WS := (wRet (wBM tStr joinD (wC (.str ("" : Str).cps.toList)) (wCons (wFz (wLc (wRng1 (wCons (wCall G_take (wCons (wVar 0) (wCons (wOp aAdd (wVar 1) (wC (.int 1))) wNil))) wNil)) [2] (wgN 2) wYes (wCall G_of (wCons (wVar 0) (wCons (wFz (wCBF aListOf (wCons (wC (.str ("nfs" : Str).cps.toList)) wNil))) wNil))))) wNil)))
def G_word_drawn : Fn := fun ds n Q => ∃ m : Nat, ds = [.pot, .int m] ∧ m ≤ 1000 ∧ n + m + 1 ≤ 1000000 ∧ ∀ z, Lets z → z.length ≤ m → Q (.str z) (n + m + 1)
theorem B_word_drawn {ds : List Dat} {n : Nat} {QD : Dat → Nat → Prop} (h : G_word_drawn ds n QD) : bodyP 3 L_word_drawn ds n QD := by
  obtain ⟨m, rfl, hm, hn, h⟩ := h
  unfold L_word_drawn
  walk_at "w"
  rw [lit_nfs, lit_]
  refine ⟨(m : Int) + 1, rfl, by omega, by omega, by omega, fun r r0 r1 => ?_⟩
  obtain ⟨k, rfl⟩ : ∃ k : Nat, r = k := ⟨r.toNat, by omega⟩
  walk_at "w"
  refine ⟨by omega, by omega, ?_⟩
  refine lcW_draw (fun x => ∃ c : Nat, (c = 110 ∨ c = 102 ∨ c = 115) ∧ x = .str [c]) 1 _ _ _ _ (by simp [intsD]; omega) (by simp [intsD]; omega) (fun d hd n R R0 hn hR => ?_) (fun xs hl hx => ?_)
  · walk_at "w"
    exact of_letters hn fun c hc => hR _ ⟨c, hc, rfl⟩
  · obtain ⟨w, w1, w2, w3⟩ := letters_of hx
    have hw : w.length = k := by rw [w2, hl]; simp [intsD]
    refine ⟨_, w3, ?_, ?_⟩
    · rw [sum_ones]
      simp
      omega
    · rw [joinN_flat, flat_ones]
      exact ⟨n + m + 1, by simp [intsD]; omega, by omega, h _ w1 (by omega)⟩
/-! the law's own twin -/
def flip2 (x y : Nat) : Nat := if x = 115 then (if y = 102 then 110 else 102) else (if y = 115 then 110 else 115)
def twinD (w : Nat → Nat) (a b : Nat) : Dat :=
  if b = 1 ∧ 0 < a ∧ (w a = 115 ∨ w a = 102) ∧ w (a - 1) ≠ w a then .tup [.str (pre w (a - 1) ++ [flip2 (w a) (w (a - 1))]), .str [w a]] else .non
theorem sIx_m1 (n d : Nat) : HT.sIx n d (some (-1)) = n - 1 := by
  show (if (-1 : Int) < 0 then (-1 + (n : Int)).toNat else min (-1 : Int).toNat n) = n - 1
  rw [if_pos (by decide)]
  omega
theorem cutN_last {α : Type} (l : List α) : cutN l (some (-1)) none = l.drop (l.length - 1) := by
  unfold cutN
  rw [sIx_m1, HT.sIx_none, List.take_of_length_le]
  rw [List.length_drop]
  exact Nat.le_refl _
theorem cutN_butlast {α : Type} (l : List α) : cutN l none (some (-1)) = l.take (l.length - 1) := by
  unfold cutN
  rw [sIx_m1, HT.sIx_none, List.drop_zero, Nat.sub_zero]
theorem pre_last (w : Nat → Nat) (a : Nat) : cutN (pre w (a + 1)) (some (-1)) none = [w a] := by
  rw [cutN_last, pre_len, pre_succ, Nat.add_sub_cancel]
  rw [List.drop_append_of_le_length (by rw [pre_len]; exact Nat.le_refl _), List.drop_of_length_le (by rw [pre_len]; exact Nat.le_refl _)]
  rfl
theorem pre_butlast (w : Nat → Nat) (a : Nat) : cutN (pre w (a + 1)) none (some (-1)) = pre w a := by
  rw [cutN_butlast, pre_len, Nat.add_sub_cancel, pre_take w (Nat.le_succ a)]
def L_twin : WS := (wSeq (wAsg (wCall G_least (wCons (wVar 0) wNil)) (wgTup 2 (wgCons (wgN 1) (wgCons (wgN 2) wgNil))))
  (wSeq (wIfS (wAnd (wTest (wOp aEq (wVar 2) (wC (.str ("s" : Str).cps.toList)))) (wTest (wOp aIn (wSl cutDd (wVar 1) (wPart (wUn aNeg (wC (.int 1)))) wNone) (wTup (wCons (wC (.str ("f" : Str).cps.toList)) (wCons (wC (.str ("n" : Str).cps.toList)) wNil)))))) (wRet (wTup (wCons (wOp aAdd (wSl cutDd (wVar 1) wNone (wPart (wUn aNeg (wC (.int 1))))) (wIf (wTest (wOp aEq (wOp aIx (wVar 1) (wUn aNeg (wC (.int 1)))) (wC (.str ("f" : Str).cps.toList)))) (wC (.str ("n" : Str).cps.toList)) (wC (.str ("f" : Str).cps.toList)))) (wCons (wC (.str ("s" : Str).cps.toList)) wNil)))) wNext)
  (wSeq (wIfS (wAnd (wTest (wOp aEq (wVar 2) (wC (.str ("f" : Str).cps.toList)))) (wTest (wOp aIn (wSl cutDd (wVar 1) (wPart (wUn aNeg (wC (.int 1)))) wNone) (wTup (wCons (wC (.str ("s" : Str).cps.toList)) (wCons (wC (.str ("n" : Str).cps.toList)) wNil)))))) (wRet (wTup (wCons (wOp aAdd (wSl cutDd (wVar 1) wNone (wPart (wUn aNeg (wC (.int 1))))) (wIf (wTest (wOp aEq (wOp aIx (wVar 1) (wUn aNeg (wC (.int 1)))) (wC (.str ("s" : Str).cps.toList)))) (wC (.str ("n" : Str).cps.toList)) (wC (.str ("s" : Str).cps.toList)))) (wCons (wC (.str ("f" : Str).cps.toList)) wNil)))) wNext)
  (wRet (wC .non)))))

def G_twin : Fn := fun ds n Q => ∃ h c, ds = [lossD h c] ∧ LetW (lt h c) ∧ c ≠ [] ∧ h.length ≤ 2000 ∧ c.length ≤ 2000 ∧ ∀ a b, Least (lt h c) a b → a ≤ h.length → b ≤ c.length → Q (twinD (lt h c) a b) n
theorem B_twin {ds : List Dat} {n : Nat} {QD : Dat → Nat → Prop} (h : G_twin ds n QD) : bodyW 3 L_twin ds n QD := by
  obtain ⟨x, c, rfl, hw, hc, l1, l2, h⟩ := h
  unfold L_twin
  walk_at "w"
  rw [lit_s, lit_f, lit_n]
  refine ⟨x, c, rfl, hc, l1, l2, fun a b hl ha hb => ?_⟩
  have key := h a b hl ha hb
  unfold leastD
  cases a with
  | zero =>
    have k2 : QD .non n := by
      unfold twinD at key
      rw [if_neg (by omega)] at key
      exact key
    walk_at "w"
    rw [show cutN (pre (lt x c) 0) (some (-1)) none = [] from rfl]
    have f1 : flat (.str []) = true := rfl
    have f2 : ∀ p q : Nat, inF (.str []) [.str [p], .str [q]] = false := fun p q => by simp [inF, eqF]
    simp only [f1, f2, Bool.false_eq_true, if_false, flat, Bool.and_self, true_and, k2, show (pre (lt x c) 0).length = 0 from rfl, Nat.zero_le, and_self, ite_self]
  | succ a =>
    walk_at "w"
    rw [pre_last, pre_butlast]
    have la : (pre (lt x c) (a + 1)).length ≤ 1000000 := by rw [pre_len]; omega
    have lb : (pre (lt x c) a).length ≤ 999999 := by rw [pre_len]; omega
    have lc : atI (pre (lt x c) (a + 1)) (-1) = some (lt x c a) := by
      rw [atI_neg1, pre_len, Nat.add_sub_cancel, pre_get _ (Nat.lt_succ_self a)]
    by_cases hb1 : b = 1
    · subst hb1
      rw [show seg (lt x c) (a + 1) 1 = [lt x c (a + 1)] from rfl]
      unfold twinD at key
      simp only [la, lb, lc, true_and, Option.some.injEq, exists_eq_left', Nat.add_sub_cancel, Nat.succ_pos] at key ⊢
      rcases hw (a + 1) with e | e | e <;> rcases hw a with e2 | e2 | e2 <;> rw [e, e2] at key ⊢ <;> simp [flip2, flat, inF] at key ⊢ <;> exact key
    · have s1 : ∀ y, seg (lt x c) (a + 1) b ≠ [y] := fun y e => hb1 (by rw [← seg_len (lt x c) (a + 1) b, e]; rfl)
      rw [if_neg (s1 _), if_neg (s1 _)]
      unfold twinD at key
      rw [if_neg (fun e => hb1 e.1)] at key
      exact key
theorem Per.one {w : Nat → Nat} {a : Nat} (p : Per w a 1) : ∀ k, a ≤ k → w k = w a := fun k hk => by
  have := p.mul (k - a) a (Nat.le_refl _)
  rw [Nat.mul_one, show a + (k - a) = k by omega] at this
  exact this
theorem flip2_of {x y z : Nat} (hx : x = 102 ∨ x = 115) (hy : y = 110 ∨ y = 102 ∨ y = 115) (hz : z = 110 ∨ z = 102 ∨ z = 115) (h1 : y ≠ x) (h2 : z ≠ x) (h3 : y ≠ z) : flip2 x y = z := by
  unfold flip2
  rcases hx with rfl | rfl <;> rcases hy with rfl | rfl | rfl <;> rcases hz with rfl | rfl | rfl <;> first | omega | rfl
theorem flip2_ne {x y : Nat} (hx : x = 102 ∨ x = 115) (hy : y = 110 ∨ y = 102 ∨ y = 115) (h1 : y ≠ x) : flip2 x y ≠ x ∧ flip2 x y ≠ y ∧ (flip2 x y = 110 ∨ flip2 x y = 102 ∨ flip2 x y = 115) := by
  unfold flip2
  rcases hx with rfl | rfl <;> rcases hy with rfl | rfl | rfl <;> first | omega | simp
theorem Twins.leasts {w v : Nat → Nat} {i x : Nat} (t : Twins w v i x) : Least w (i + 1) 1 ∧ Least v (i + 1) 1 :=
  ⟨least_tail t.w_x fun k hk => (t.tail k hk).1, least_tail t.v_x fun k hk => (t.tail k hk).2⟩
theorem seg_one (w : Nat → Nat) (a : Nat) : seg w a 1 = [w a] := rfl
theorem Twins.twinD {w v : Nat → Nat} (hw : LetW w) (hv : LetW v) {i x : Nat} (t : Twins w v i x) : Dl.twinD w (i + 1) 1 = leastD v (i + 1) 1 := by
  obtain ⟨e1, e2⟩ := t.tail (i + 1) (by omega)
  have hx := t.x_fs
  unfold Dl.twinD leastD
  rw [e1, if_pos ⟨rfl, by omega, by omega, by rw [Nat.add_sub_cancel]; exact t.w_x⟩, Nat.add_sub_cancel, flip2_of hx (hw i) (hv i) t.w_x t.v_x t.ne, pre_succ, seg_one, e2, pre_inj.mpr t.same]
theorem twins_of {w v : Nat → Nat} (hw : LetW w) {a b c d : Nat} (pw : Least w a b) (pv : Least v c d) (h : twinD w a b = leastD v c d) : Twins w v (a - 1) (w a) := by
  unfold twinD leastD at h
  by_cases hc : b = 1 ∧ 0 < a ∧ (w a = 115 ∨ w a = 102) ∧ w (a - 1) ≠ w a
  · rw [if_pos hc] at h
    obtain ⟨hb, ha, hx, hne⟩ := hc
    subst hb
    have hx : w a = 102 ∨ w a = 115 := by omega
    simp only [Dat.tup.injEq, List.cons.injEq, Dat.str.injEq, and_true] at h
    obtain ⟨h1, h2⟩ := h
    have ed : d = 1 := by rw [← seg_len v c d, ← h2]; rfl
    subst ed
    have ec : c = a := by
      have := pre_len v c
      rw [← h1, List.length_append, pre_len] at this
      simp at this
      omega
    subst ec
    obtain ⟨e, rfl⟩ : ∃ e, c = e + 1 := ⟨c - 1, by omega⟩
    rw [Nat.add_sub_cancel] at *
    rw [pre_succ] at h1
    obtain ⟨h3, h4⟩ := List.append_inj h1 (by rw [pre_len, pre_len])
    obtain ⟨f1, f2, _⟩ := flip2_ne hx (hw e) hne
    have h4 : flip2 (w (e + 1)) (w e) = v e := by simpa using h4
    have h5 : w (e + 1) = v (e + 1) := by rw [seg_one] at h2; simpa using h2
    rw [h4] at f1 f2
    exact ⟨hx, pre_inj.mp h3, fun q => f2 q.symm, hne, f1, fun k hk => ⟨pw.per.one k hk, by rw [h5]; exact pv.per.one k hk⟩⟩
  · rw [if_neg hc] at h
    cases h
theorem okStr_lets {z : List Nat} (h : Lets z) : okStr z = true := by
  unfold okStr
  rw [List.all_eq_true]
  intro c hc
  rcases h c hc with rfl | rfl | rfl <;> decide
theorem nice_loss {h c : List Nat} (hh : Lets h) (hc : Lets c) : nice 1 (lossD h c) = true := by
  unfold lossD
  rw [nice_tup]
  simp [nice_str, okStr_lets hh, okStr_lets hc]
theorem nice_least {w : Nat → Nat} (hw : LetW w) (a b : Nat) : nice 1 (leastD w a b) = true := nice_loss (pre_lets hw a) (seg_lets hw a b)
theorem lets_one {x : Nat} (h : x = 110 ∨ x = 102 ∨ x = 115) : Lets [x] := fun c hc => by
  have : c = x := by simpa using hc
  exact this ▸ h
theorem lets_app {a b : List Nat} (h1 : Lets a) (h2 : Lets b) : Lets (a ++ b) := fun c hc => by
  rcases List.mem_append.mp hc with hc | hc
  · exact h1 c hc
  · exact h2 c hc
/-- the twin as a loss, or none -/
theorem twinD_cases {w : Nat → Nat} (hw : LetW w) (a b : Nat) : twinD w a b = .non ∨ ∃ h c, twinD w a b = lossD h c ∧ Lets h ∧ Lets c ∧ h.length = a ∧ c.length = 1 := by
  unfold twinD
  by_cases hc : b = 1 ∧ 0 < a ∧ (w a = 115 ∨ w a = 102) ∧ w (a - 1) ≠ w a
  · rw [if_pos hc]
    obtain ⟨hb, ha, hx, hne⟩ := hc
    obtain ⟨_, _, f3⟩ := flip2_ne (x := w a) (by omega) (hw (a - 1)) hne
    exact .inr ⟨_, _, rfl, lets_app (pre_lets hw _) (lets_one f3), lets_one (hw a), by rw [List.length_append, pre_len]; simp; omega, rfl⟩
  · rw [if_neg hc]
    exact .inl rfl
theorem nice_twin {w : Nat → Nat} (hw : LetW w) (a b : Nat) : nice 1 (twinD w a b) = true := by
  rcases twinD_cases hw a b with h | ⟨h, c, e, l1, l2, _⟩
  · rw [h, nice_non]
  · rw [e]
    exact nice_loss l1 l2
def dist (w v : Nat → Nat) (m : Nat) : Int := if pl w m - pl v m < 0 then -(pl w m - pl v m) else pl w m - pl v m
theorem dist_le {w v : Nat → Nat} {m : Nat} : dist w v m ≤ 1 ↔ pl v m - pl w m ≤ 1 ∧ pl w m - pl v m ≤ 1 := by
  unfold dist
  split <;> omega
theorem dist_nonneg (w v : Nat → Nat) (m : Nat) : 0 ≤ dist w v m := by
  unfold dist
  split <;> omega
theorem dist_self (w : Nat → Nat) (m : Nat) : dist w w m = 0 := by
  unfold dist
  split <;> omega
theorem dist_grow {w v : Nat → Nat} {m : Nat} (h : 1 < dist w v m) : ¬ 2 * dist w v (m + 1) < 3 * dist w v m := by
  unfold dist at *
  rw [pl_succ, pl_succ]
  obtain ⟨a1, a2⟩ := bk_range (pl w m) (w m)
  obtain ⟨b1, b2⟩ := bk_range (pl v m) (v m)
  repeat' split <;> omega
theorem pow3_le {m k : Nat} (h : m ≤ k) : (3 : Int) ^ m ≤ 3 ^ k := by
  have := Nat.pow_le_pow_right (show 0 < 3 by decide) h
  have e : ∀ j : Nat, ((3 ^ j : Nat) : Int) = (3 : Int) ^ j := fun j => by rw [Int.natCast_pow]; rfl
  rw [← e, ← e]
  exact Int.ofNat_le.mpr this
theorem dist_lt {w v : Nat → Nat} (hw : LetW w) (hv : LetW v) {m k : Nat} (h : m ≤ k) : dist w v m ≤ 3 ^ k := by
  obtain ⟨a1, a2⟩ := pl_range hw m
  obtain ⟨b1, b2⟩ := pl_range hv m
  have := pow3_le h
  unfold dist
  split <;> omega
end Dl
-- part Er
set_option Elab.async false
set_option linter.all false
set_option maxRecDepth 100000
set_option maxHeartbeats 4000000
namespace Dl
open PySem PySem.Spec PyProof.Rows L2 Evl

local macro_rules | `(tactic| walk_at "w") => `(tactic| (simp (maxSteps := 3000000) only [↓e_var0, ↓e_var0o, ↓e_varS, ↓e_anyIt, ↓e_par, ↓e_zip, ↓aAdd_i, ↓aAdd_s, ↓aAdd_t, ↓aAdd_l, ↓aMul_i, ↓aMul_s, ↓aMul_l, ↓eqS_i, ↓eqS_s, ↓eqS_b, ↓eqS_nn, ↓eqS_ni, ↓eqS_ns, ↓eqS_nt, ↓eqS_in, ↓eqS_sn, ↓eqS_is, ↓eqS_si, ↓eqS_t, ↓eqS_l, ↓inS_s, ↓inS_t, ↓inS_l, ↓lenD_s, ↓lenD_t, ↓lenD_l, ↓lenD_z, ↓ixD_t, ↓ixD_l, ↓ixD_z, ↓ixD_s, ↓ixD_0, ↓ixD_1, ↓ixD_2, ↓cutDd_s, ↓cutDd_l, ↓cutDd_z, ↓cutDd_t, ↓listD_l, ↓listD_z, ↓itemsD_l, ↓itemsD_t, ↓itemsQ_s, ↓itemsQ_l, ↓itemsQ_z, ↓itemsQ_t, ↓aInt_i, ↓aInt_b, ↓aTupOf_l, ↓aTupOf_t, ↓anyD_l, ↓anyD_z, ↓anyD_t, ↓anyD_s, ↓joinD_l, ↓joinD_t, ↓zipQ_t, ↓zipQ_l, ↓asB_bl, ↓asI_int, ↓as1_one, ↓as2_two, par2,
  bodyW, bodyF, bodyP, start0, wSeq, wAsg, wOwn, wIfS, wRet, wRetF, wRetO, wRetN, wDrop, wApp, wSet, setW, slotSet, wInc, wNext, wBreak, wContinue, wNever, wC, wOp, wUn, wIf, wTest, wAnd, wOr, wNot, wYes, wAndV, wOrV, wNotV, wChain, wNil, wCons, wTup, wLst, wFz, wCall, wCallF, wCallK, wCallN, wCB, wCBF, wBM, wBM0, tStr, wNone, wPart, wSl, wgN, wgNil, wgCons, wgTup, wFor, wWhile, wLc, wRng1, wRng2, wListRg, wPot, wipeL, restL, keepIm,
  aI0, aII, aNeg, aEq, aNe, aIn, aNotIn, aIsN, aIsNotN, isN, aIsW, aIsNotW, ↓isW_n, ↓isW_bb, ↓isW_nb, wRevS, wRevT, wParO, lcW_nil, lcW_cons, wKIx, wKIn, aAbs, aMax, aMin, aMin1, aMax1, ↓partsD_l, ↓partsD_z, ↓partsD_t, aLen, aSum, aAll, aAny, aIsi, isi, goodTy, aIx, aListOf, idxS,
  List.map_cons, List.map_nil, List.cons_append, List.nil_append, List.length_cons, List.length_nil, List.replicate_succ, List.replicate_zero, Nat.reduceAdd, Nat.reduceSub, List.getElem?_cons_zero, List.getElem?_cons_succ, List.set_cons_zero, List.set_cons_succ, reduceCtorEq, if_true, if_false, Bool.false_eq_true,
  decide_eq_true_eq, kinds, List.contains_cons, List.contains_nil, String.reduceBEq, Bool.or_true, Bool.true_or, Bool.or_false, Bool.false_or, Bool.not_true, Bool.not_false, Bool.not_eq_true, decide_true, decide_false, true_and, and_true, Int.reduceLT, Int.reduceLE, Int.reduceNeg, Nat.reduceLeDiff, cmuL, cmuR, cfdS, cpwS, atI_pos, Int.reduceToNat, isBls_nil, isBls_bl, Option.map_some, Option.some.injEq, exists_eq_left', List.all_cons, List.all_nil, id_eq, Bool.and_true, Bool.true_and, beq_self_eq_true]))


/-! ratios -/
theorem cfdB {i j : Int} (h : 0 < j ∧ j < 1152921504606846976) : CFd i j := by
  refine ⟨h.1, ?_⟩
  have h1 : j.natAbs < 2 ^ 60 := by omega
  have : j.natAbs.log2 < 60 := by
    rw [Nat.log2_lt (by omega)]
    exact h1
  omega
def ratD (q : Rat) : Dat := .tup [.int q.num, .int q.den]
def L_common : WS := (wSeq (wPar 0 1 (wCons (wCB aAbs (wCons (wVar 0) wNil)) (wCons (wCB aAbs (wCons (wVar 1) wNil)) wNil)))
  (wSeq (wWhile (wTest (wOp aGt (wVar 1) (wC (.int 0)))) (wPar 0 1 (wCons (wVar 1) (wCons (wOp aMod (wVar 0) (wVar 1)) wNil))))
  (wRet (wVar 0))))
def L_common2 : WS := (wSeq (wPar 0 1 (wCons (wCB aAbs (wCons (wVar 0) wNil)) (wCons (wCB aAbs (wCons (wVar 1) wNil)) wNil)))
  (wSeq (wWhile (wTest (wOp aGt (wVar 1) (wC (.int 0)))) (wPar 0 1 (wCons (wVar 1) (wCons (wOp aMod (wCB aInt (wCons (wVar 0) wNil)) (wVar 1)) wNil))))
  (wRet (wVar 0))))
def G_common : Fn := fun ds n Q => ∃ i j, ds = [.int i, .int j] ∧ Q (.int (Int.gcd i j)) n
theorem abs_if (i : Int) : (if i < 0 then -i else i) = (i.natAbs : Int) := by
  split <;> omega
theorem B_common {ds : List Dat} {n : Nat} {QD : Dat → Nat → Prop} (h : G_common ds n QD) : bodyW 2 L_common ds n QD := by
  obtain ⟨i, j, rfl, h⟩ := h
  unfold L_common
  walk_at "w"
  rw [abs_if, abs_if]
  refine wWhile_at (fun S => ∃ x y : Nat, S = ⟨[.im (.int x), .im (.int y)], n⟩ ∧ Nat.gcd x y = Int.gcd i j) (fun S => match S.sl with | _ :: .im (.int y) :: _ => y.toNat | _ => 0) ?_ ⟨_, _, rfl, rfl⟩
  rintro S ⟨x, y, rfl, e⟩ N hN
  walk_at "w"
  split
  · rename_i hy
    refine ⟨hy, hN _ ⟨y, x % y, by rw [Int.natCast_emod], by rw [← e, Nat.gcd_comm x y, Nat.gcd_rec y x, Nat.gcd_comm]⟩ ?_⟩
    show ((x : Int) % (y : Int)).toNat < (y : Int).toNat
    have := Int.emod_lt_of_pos (x : Int) hy
    have := Int.emod_nonneg (x : Int) (show (y : Int) ≠ 0 by omega)
    omega
  · have : y = 0 := by omega
    subst this
    rw [Nat.gcd_zero_right] at e
    rw [e]
    exact h
theorem B_common2 {ds : List Dat} {n : Nat} {QD : Dat → Nat → Prop} (h : G_common ds n QD) : bodyW 2 L_common2 ds n QD := by
  obtain ⟨i, j, rfl, h⟩ := h
  unfold L_common2
  walk_at "w"
  rw [abs_if, abs_if]
  refine wWhile_at (fun S => ∃ x y : Nat, S = ⟨[.im (.int x), .im (.int y)], n⟩ ∧ Nat.gcd x y = Int.gcd i j) (fun S => match S.sl with | _ :: .im (.int y) :: _ => y.toNat | _ => 0) ?_ ⟨_, _, rfl, rfl⟩
  rintro S ⟨x, y, rfl, e⟩ N hN
  walk_at "w"
  split
  · rename_i hy
    refine ⟨hy, hN _ ⟨y, x % y, by rw [Int.natCast_emod], by rw [← e, Nat.gcd_comm x y, Nat.gcd_rec y x, Nat.gcd_comm]⟩ ?_⟩
    show ((x : Int) % (y : Int)).toNat < (y : Int).toNat
    have := Int.emod_lt_of_pos (x : Int) hy
    have := Int.emod_nonneg (x : Int) (show (y : Int) ≠ 0 by omega)
    omega
  · have : y = 0 := by omega
    subst this
    rw [Nat.gcd_zero_right] at e
    rw [e]
    exact h
def L_ratio : WS := (wSeq (wAsg (wCall G_common (wCons (wVar 0) (wCons (wVar 1) wNil))) (wgN 2))
  (wSeq (wAsg (wIf (wTest (wOp aGt (wVar 1) (wC (.int 0)))) (wVar 2) (wOp aSub (wC (.int 0)) (wVar 2))) (wgN 2))
  (wRet (wTup (wCons (wOp aFd (wVar 0) (wVar 2)) (wCons (wOp aFd (wVar 1) (wVar 2)) wNil))))))
def L_frac : WS := (wSeq (wAsg (wCall G_common (wCons (wVar 0) (wCons (wVar 1) wNil))) (wgN 2))
  (wSeq (wAsg (wIf (wTest (wOp aGt (wVar 1) (wC (.int 0)))) (wVar 2) (wUn aNeg (wVar 2))) (wgN 2))
  (wRet (wTup (wCons (wOp aFd (wVar 0) (wVar 2)) (wCons (wOp aFd (wVar 1) (wVar 2)) wNil))))))
def G_ratio : Fn := fun ds n Q => ∃ (t : Int) (b : Nat), ds = [.int t, .int b] ∧ 0 < b ∧ b < 1152921504606846976 ∧ Q (ratD (mkRat t b)) n
theorem mk_num (t : Int) {b : Nat} (hb : 0 < b) : (mkRat t b).num = t / (Int.gcd t b : Nat) ∧ ((mkRat t b).den : Int) = (b : Int) / (Int.gcd t b : Nat) := by
  have e : Int.gcd t b = b.gcd t.natAbs := by
    unfold Int.gcd
    rw [Int.natAbs_natCast, Nat.gcd_comm]
  constructor
  · rw [Rat.num_mkRat, if_neg (by omega), e]
  · rw [Rat.den_mkRat, if_neg (by omega), e, Int.natCast_ediv]
theorem B_ratio {ds : List Dat} {n : Nat} {QD : Dat → Nat → Prop} (h : G_ratio ds n QD) : bodyW 3 L_ratio ds n QD := by
  obtain ⟨t, b, rfl, hb, hb2, h⟩ := h
  have g0 : 0 < Int.gcd t b := Int.gcd_pos_of_ne_zero_right _ (by omega)
  have g1 : Int.gcd t b ≤ b := Nat.le_of_dvd hb (by unfold Int.gcd; rw [Int.natAbs_natCast]; exact Nat.gcd_dvd_right _ _)
  obtain ⟨e1, e2⟩ := mk_num t hb
  unfold ratD at h
  rw [e1, e2] at h
  unfold L_ratio
  walk_at "w"
  refine ⟨t, b, rfl, ?_⟩
  walk_at "w"
  rw [if_pos (by omega)]
  exact ⟨cfdB (by omega), cfdB (by omega), h⟩
theorem B_frac {ds : List Dat} {n : Nat} {QD : Dat → Nat → Prop} (h : G_ratio ds n QD) : bodyW 3 L_frac ds n QD := by
  obtain ⟨t, b, rfl, hb, hb2, h⟩ := h
  have g0 : 0 < Int.gcd t b := Int.gcd_pos_of_ne_zero_right _ (by omega)
  have g1 : Int.gcd t b ≤ b := Nat.le_of_dvd hb (by unfold Int.gcd; rw [Int.natAbs_natCast]; exact Nat.gcd_dvd_right _ _)
  obtain ⟨e1, e2⟩ := mk_num t hb
  unfold ratD at h
  rw [e1, e2] at h
  unfold L_frac
  walk_at "w"
  refine ⟨t, b, rfl, ?_⟩
  walk_at "w"
  rw [if_pos (by omega)]
  exact ⟨cfdB (by omega), cfdB (by omega), h⟩
def L_plus : WS := (wRet (wCall G_ratio (wCons (wOp aAdd (wOp aMul (wOp aIx (wVar 0) (wC (.int 0))) (wOp aIx (wVar 1) (wC (.int 1)))) (wOp aMul (wOp aIx (wVar 1) (wC (.int 0))) (wOp aIx (wVar 0) (wC (.int 1))))) (wCons (wOp aMul (wOp aIx (wVar 0) (wC (.int 1))) (wOp aIx (wVar 1) (wC (.int 1)))) wNil))))

def G_plus : Fn := fun ds n Q => ∃ a b : Rat, ds = [ratD a, ratD b] ∧ a.den * b.den < 1152921504606846976 ∧ Q (ratD (a + b)) n
theorem B_plus {ds : List Dat} {n : Nat} {QD : Dat → Nat → Prop} (h : G_plus ds n QD) : bodyW 2 L_plus ds n QD := by
  obtain ⟨a, b, rfl, hd, h⟩ := h
  have pa := a.den_pos
  have pb := b.den_pos
  have qa : a.den < 1152921504606846976 := Nat.lt_of_le_of_lt (Nat.le_mul_of_pos_right _ pb) hd
  have qb : b.den < 1152921504606846976 := Nat.lt_of_le_of_lt (Nat.le_mul_of_pos_left _ pa) hd
  have p := Nat.mul_pos pa pb
  rw [Rat.add_def'] at h
  unfold L_plus ratD
  walk_at "w"
  refine ⟨cmuR (by omega), cmuR (by omega), cmuR (by omega), _, a.den * b.den, ?_, p, hd, h⟩
  rw [Int.natCast_mul]
def L_less : WS := (wRet (wCall G_ratio (wCons (wOp aSub (wOp aMul (wOp aIx (wVar 0) (wC (.int 0))) (wOp aIx (wVar 1) (wC (.int 1)))) (wOp aMul (wOp aIx (wVar 1) (wC (.int 0))) (wOp aIx (wVar 0) (wC (.int 1))))) (wCons (wOp aMul (wOp aIx (wVar 0) (wC (.int 1))) (wOp aIx (wVar 1) (wC (.int 1)))) wNil))))

def G_less : Fn := fun ds n Q => ∃ a b : Rat, ds = [ratD a, ratD b] ∧ a.den * b.den < 1152921504606846976 ∧ Q (ratD (a - b)) n
theorem B_less {ds : List Dat} {n : Nat} {QD : Dat → Nat → Prop} (h : G_less ds n QD) : bodyW 2 L_less ds n QD := by
  obtain ⟨a, b, rfl, hd, h⟩ := h
  have pa := a.den_pos
  have pb := b.den_pos
  have qa : a.den < 1152921504606846976 := Nat.lt_of_le_of_lt (Nat.le_mul_of_pos_right _ pb) hd
  have qb : b.den < 1152921504606846976 := Nat.lt_of_le_of_lt (Nat.le_mul_of_pos_left _ pa) hd
  have p := Nat.mul_pos pa pb
  rw [Rat.sub_def'] at h
  unfold L_less ratD
  walk_at "w"
  refine ⟨cmuR (by omega), cmuR (by omega), cmuR (by omega), _, a.den * b.den, ?_, p, hd, h⟩
  rw [Int.natCast_mul]
def L_times : WS := (wRet (wCall G_ratio (wCons (wOp aMul (wOp aIx (wVar 0) (wC (.int 0))) (wOp aIx (wVar 1) (wC (.int 0)))) (wCons (wOp aMul (wOp aIx (wVar 0) (wC (.int 1))) (wOp aIx (wVar 1) (wC (.int 1)))) wNil))))

def G_times : Fn := fun ds n Q => ∃ a b : Rat, ds = [ratD a, ratD b] ∧ a.den * b.den < 1152921504606846976 ∧ (-1000000000000000 < b.num ∧ b.num < 1000000000000000) ∧ Q (ratD (a * b)) n
theorem B_times {ds : List Dat} {n : Nat} {QD : Dat → Nat → Prop} (h : G_times ds n QD) : bodyW 2 L_times ds n QD := by
  obtain ⟨a, b, rfl, hd, h2, h⟩ := h
  have pa := a.den_pos
  have pb := b.den_pos
  have qa : a.den < 1152921504606846976 := Nat.lt_of_le_of_lt (Nat.le_mul_of_pos_right _ pb) hd
  have qb : b.den < 1152921504606846976 := Nat.lt_of_le_of_lt (Nat.le_mul_of_pos_left _ pa) hd
  have p := Nat.mul_pos pa pb
  rw [Rat.mul_def'] at h
  unfold L_times ratD
  walk_at "w"
  refine ⟨cmuR (by omega), cmuR (by omega), _, a.den * b.den, ?_, p, hd, h⟩
  rw [Int.natCast_mul]
def L_below : WS := (wRet (wOp aLt (wOp aMul (wOp aIx (wVar 0) (wC (.int 0))) (wOp aIx (wVar 1) (wC (.int 1)))) (wOp aMul (wOp aIx (wVar 1) (wC (.int 0))) (wOp aIx (wVar 0) (wC (.int 1))))))

def G_below : Fn := fun ds n Q => ∃ a b : Rat, ds = [ratD a, ratD b] ∧ a.den < 1152921504606846976 ∧ b.den < 1152921504606846976 ∧ Q (.bl (decide (a < b))) n
theorem B_below {ds : List Dat} {n : Nat} {QD : Dat → Nat → Prop} (h : G_below ds n QD) : bodyW 2 L_below ds n QD := by
  obtain ⟨a, b, rfl, h1, h2, h⟩ := h
  unfold L_below ratD
  walk_at "w"
  refine ⟨cmuR (by omega), cmuR (by omega), ?_⟩
  rw [show decide (a < b) = decide (a.num * (b.den : Int) < b.num * (a.den : Int)) from decide_eq_decide.mpr (Rat.lt_iff a b)] at h
  exact h
def L_over : WS := (wRet (wCall G_ratio (wCons (wOp aMul (wOp aIx (wVar 0) (wC (.int 0))) (wOp aIx (wVar 1) (wC (.int 1)))) (wCons (wOp aMul (wOp aIx (wVar 0) (wC (.int 1))) (wOp aIx (wVar 1) (wC (.int 0)))) wNil))))

def G_over : Fn := fun ds n Q => ∃ (a b : Rat), ds = [ratD a, ratD b] ∧ 0 < b ∧ a.den * b.num.toNat < 1152921504606846976 ∧ b.den < 1152921504606846976 ∧ Q (ratD (a / b)) n
theorem B_over {ds : List Dat} {n : Nat} {QD : Dat → Nat → Prop} (h : G_over ds n QD) : bodyW 2 L_over ds n QD := by
  obtain ⟨a, b, rfl, hb, hd, h2, h⟩ := h
  have pa := a.den_pos
  have nb : 0 < b.num := by have := (Rat.lt_iff 0 b).mp hb; simpa using this
  have en : ((b.num.toNat : Nat) : Int) = b.num := Int.toNat_of_nonneg (by omega)
  have p := Nat.mul_pos pa (show 0 < b.num.toNat by omega)
  have q1 : b.num.toNat < 1152921504606846976 := Nat.lt_of_le_of_lt (Nat.le_mul_of_pos_left _ pa) hd
  have e : a / b = mkRat (a.num * b.den) (a.den * b.num.toNat) := by
    have i : b⁻¹ = mkRat b.den b.num.toNat := by
      rw [Rat.inv_def, ← Rat.divInt_ofNat, en]
    rw [Rat.div_def, i, ← Rat.mkRat_mul_mkRat, Rat.mkRat_self]
  rw [e] at h
  unfold L_over ratD
  walk_at "w"
  refine ⟨cmuR (by omega), cmuR (by omega), _, a.den * b.num.toNat, ?_, p, hd, h⟩
  rw [Int.natCast_mul, en]
end Dl
-- part Ew
set_option Elab.async false
set_option linter.all false
set_option maxRecDepth 100000
set_option maxHeartbeats 4000000
namespace Dl
open PySem PySem.Spec PyProof.Rows L2 Evl

local macro_rules | `(tactic| walk_at "w") => `(tactic| (simp (maxSteps := 3000000) only [↓e_var0, ↓e_var0o, ↓e_varS, ↓e_anyIt, ↓e_par, ↓e_zip, ↓aAdd_i, ↓aAdd_s, ↓aAdd_t, ↓aAdd_l, ↓aMul_i, ↓aMul_s, ↓aMul_l, ↓eqS_i, ↓eqS_s, ↓eqS_b, ↓eqS_nn, ↓eqS_ni, ↓eqS_ns, ↓eqS_nt, ↓eqS_in, ↓eqS_sn, ↓eqS_is, ↓eqS_si, ↓eqS_t, ↓eqS_l, ↓inS_s, ↓inS_t, ↓inS_l, ↓lenD_s, ↓lenD_t, ↓lenD_l, ↓lenD_z, ↓ixD_t, ↓ixD_l, ↓ixD_z, ↓ixD_s, ↓ixD_0, ↓ixD_1, ↓ixD_2, ↓cutDd_s, ↓cutDd_l, ↓cutDd_z, ↓cutDd_t, ↓listD_l, ↓listD_z, ↓itemsD_l, ↓itemsD_t, ↓itemsQ_s, ↓itemsQ_l, ↓itemsQ_z, ↓itemsQ_t, ↓aInt_i, ↓aInt_b, ↓aTupOf_l, ↓aTupOf_t, ↓anyD_l, ↓anyD_z, ↓anyD_t, ↓anyD_s, ↓joinD_l, ↓joinD_t, ↓zipQ_t, ↓zipQ_l, ↓asB_bl, ↓asI_int, ↓as1_one, ↓as2_two, par2,
  bodyW, bodyF, bodyP, start0, wSeq, wAsg, wOwn, wIfS, wRet, wRetF, wRetO, wRetN, wDrop, wApp, wSet, setW, slotSet, wInc, wNext, wBreak, wContinue, wNever, wC, wOp, wUn, wIf, wTest, wAnd, wOr, wNot, wYes, wAndV, wOrV, wNotV, wChain, wNil, wCons, wTup, wLst, wFz, wCall, wCallF, wCallK, wCallN, wCB, wCBF, wBM, wBM0, tStr, wNone, wPart, wSl, wgN, wgNil, wgCons, wgTup, wFor, wWhile, wLc, wRng1, wRng2, wListRg, wPot, wipeL, restL, keepIm,
  aI0, aII, aNeg, aEq, aNe, aIn, aNotIn, aIsN, aIsNotN, isN, aIsW, aIsNotW, ↓isW_n, ↓isW_bb, ↓isW_nb, wRevS, wRevT, wParO, lcW_nil, lcW_cons, wKIx, wKIn, aAbs, aMax, aMin, aMin1, aMax1, ↓partsD_l, ↓partsD_z, ↓partsD_t, aLen, aSum, aAll, aAny, aIsi, isi, goodTy, aIx, aListOf, idxS, wParOO, wP3, wP3O, wStar, wEnum, wDC, lastAt, wgLst, wExt, wExt.listL, aInDp, aNotInDp, inDp, Nat.reduceBEq,
  List.map_cons, List.map_nil, List.cons_append, List.nil_append, List.length_cons, List.length_nil, List.replicate_succ, List.replicate_zero, Nat.reduceAdd, Nat.reduceSub, List.getElem?_cons_zero, List.getElem?_cons_succ, List.set_cons_zero, List.set_cons_succ, reduceCtorEq, if_true, if_false, Bool.false_eq_true,
  decide_eq_true_eq, kinds, List.contains_cons, List.contains_nil, String.reduceBEq, Bool.or_true, Bool.true_or, Bool.or_false, Bool.false_or, Bool.not_true, Bool.not_false, Bool.not_eq_true, decide_true, decide_false, true_and, and_true, Int.reduceLT, Int.reduceLE, Int.reduceNeg, Nat.reduceLeDiff, cmuL, cmuR, cfdS, cpwS, atI_pos, Int.reduceToNat, isBls_nil, isBls_bl, Option.map_some, Option.some.injEq, exists_eq_left', List.all_cons, List.all_nil, id_eq, Bool.and_true, Bool.true_and, beq_self_eq_true]))


theorem lit_empty : ("" : Str).cps.toList = [] := by decide +kernel
/-! words by their places -/
def wLet (p r : Int) : Nat := if p % 2 = 0 then (if r = 0 then 115 else if r = 1 then 110 else 102) else (if r = 0 then 102 else if r = 1 then 110 else 115)
def wordOf : Nat → Int → List Nat
  | 0, _ => []
  | m + 1, k => wordOf m (k / 3) ++ [wLet (k / 3) (k % 3)]
theorem wordOf_len : ∀ (m : Nat) (k : Int), (wordOf m k).length = m
  | 0, _ => rfl
  | m + 1, k => by rw [wordOf, List.length_append, wordOf_len m]; rfl
theorem wLet_let (p r : Int) : wLet p r = 110 ∨ wLet p r = 102 ∨ wLet p r = 115 := by
  unfold wLet
  split <;> split <;> (try split) <;> simp
theorem wordOf_lets : ∀ (m : Nat) (k : Int), Lets (wordOf m k)
  | 0, _ => fun c hc => nomatch hc
  | m + 1, k => lets_app (wordOf_lets m _) (lets_one (wLet_let _ _))
theorem plc_snoc (a : Int) (z : List Nat) (c : Nat) : plc a (z ++ [c]) = 3 * plc a z + bk (plc a z) c := by
  unfold plc
  rw [List.foldl_append]
  rfl
theorem bk_wLet (p r : Int) (h0 : 0 ≤ r) (h3 : r < 3) : bk p (wLet p r) = r := by
  have : r = 0 ∨ r = 1 ∨ r = 2 := by omega
  unfold bk wLet
  by_cases hp : p % 2 = 0
  · rw [if_pos hp, if_pos hp]
    rcases this with rfl | rfl | rfl <;> simp
  · rw [if_neg hp, if_neg hp]
    rcases this with rfl | rfl | rfl <;> simp
theorem wLet_bk (p : Int) (c : Nat) (h : c = 110 ∨ c = 102 ∨ c = 115) : wLet p (bk p c) = c := by
  unfold bk wLet
  by_cases hp : p % 2 = 0
  · rw [if_pos hp, if_pos hp]
    rcases h with rfl | rfl | rfl <;> simp
  · rw [if_neg hp, if_neg hp]
    rcases h with rfl | rfl | rfl <;> simp
theorem bk_lt (p : Int) (c : Nat) : 0 ≤ bk p c ∧ bk p c < 3 := by
  unfold bk
  split <;> split <;> (try split) <;> omega
theorem plc_wordOf : ∀ (m : Nat) (k : Int), 0 ≤ k → k < 3 ^ m → plc 0 (wordOf m k) = k
  | 0, k, h0, h1 => by
    have : k = 0 := by simp at h1; omega
    subst this
    rfl
  | m + 1, k, h0, h1 => by
    have e : (3 : Int) ^ (m + 1) = 3 * 3 ^ m := by rw [Int.pow_succ, Int.mul_comm]
    rw [wordOf, plc_snoc, plc_wordOf m (k / 3) (by omega) (by omega), bk_wLet _ _ (by omega) (by omega)]
    omega
theorem wordOf_plc : ∀ (m : Nat) (z : List Nat), z.length = m → Lets z → wordOf m (plc 0 z) = z
  | 0, z, h, _ => by
    have := List.eq_nil_of_length_eq_zero h
    subst this
    rfl
  | m + 1, z, h, hz => by
    rcases List.eq_nil_or_concat z with rfl | ⟨y, c, rfl⟩
    · cases h
    · rw [List.concat_eq_append] at h hz ⊢
      have hl : y.length = m := by rw [List.length_append] at h; exact Nat.succ.inj h
      have hy : Lets y := fun d hd => hz d (List.mem_append_left _ hd)
      have hc : c = 110 ∨ c = 102 ∨ c = 115 := hz c (List.mem_append_right _ (List.mem_singleton.mpr rfl))
      obtain ⟨b0, b1⟩ := bk_lt (plc 0 y) c
      rw [plc_snoc, wordOf, show (3 * plc 0 y + bk (plc 0 y) c) / 3 = plc 0 y by omega, show (3 * plc 0 y + bk (plc 0 y) c) % 3 = bk (plc 0 y) c by omega, wLet_bk _ _ hc, wordOf_plc m y hl hy]
theorem back_let (p r : Int) (h0 : 0 ≤ r) (h3 : r < 3) : ∃ l, atI [Dat.str [115, 110, 102], Dat.str [102, 110, 115]] (p % 2) = some (.str l) ∧ l.length ≤ 1000000 ∧ atI l r = some (wLet p r) := by
  have hp : p % 2 = 0 ∨ p % 2 = 1 := by omega
  have hr : r = 0 ∨ r = 1 ∨ r = 2 := by omega
  rcases hp with hp | hp
  · refine ⟨[115, 110, 102], by rw [hp, atI_pos (by decide)]; rfl, by decide, ?_⟩
    unfold wLet
    rw [if_pos hp]
    rcases hr with rfl | rfl | rfl <;> rfl
  · refine ⟨[102, 110, 115], by rw [hp, atI_pos (by decide)]; rfl, by decide, ?_⟩
    unfold wLet
    rw [if_neg (show ¬ p % 2 = 0 by omega)]
    rcases hr with rfl | rfl | rfl <;> rfl
def L_word_of : WS := (wSeq (wAsg (wC (.str ("" : Str).cps.toList)) (wgN 2))
  (wSeq (wFor (wRng1 (wCons (wVar 0) wNil)) (wgN 3) (wSeq (wAsg (wOp aFd (wVar 1) (wC (.int 3))) (wgN 4))
  (wSeq (wAsg (wOp aAdd (wOp aIx (wOp aIx (wC d_BACK) (wOp aMod (wVar 4) (wC (.int 2)))) (wOp aMod (wVar 1) (wC (.int 3)))) (wVar 2)) (wgN 2))
  (wAsg (wVar 4) (wgN 1)))))
  (wRet (wVar 2))))
def G_word_of : Fn := fun ds n Q => ∃ (m : Nat) (k : Int), ds = [.int m, .int k] ∧ m ≤ 1000 ∧ 0 ≤ k ∧ Q (.str (wordOf m k)) n
theorem B_word_of {ds : List Dat} {n : Nat} {QD : Dat → Nat → Prop} (h : G_word_of ds n QD) : bodyW 5 L_word_of ds n QD := by
  obtain ⟨m, k, rfl, hm, hk, h⟩ := h
  unfold L_word_of
  simp only [lit_empty]
  walk_at "w"
  refine ⟨by omega, by omega, ?_⟩
  refine forW_at _ (fun i S => i ≤ m ∧ ∃ z k2 s3 s4, 0 ≤ k2 ∧ z.length = i ∧ wordOf m k = wordOf (m - i) k2 ++ z ∧ S = ⟨[.im (.int m), .im (.int k2), .im (.str z), s3, s4], n⟩) _ ?_ ⟨by omega, [], k, _, _, hk, rfl, by simp, rfl⟩ ?_
  · rintro i d S hd ⟨hi, z, k2, s3, s4, h0, hl, he, rfl⟩ N hN
    obtain ⟨hi2, rfl⟩ := intsD_get hd
    rw [Int.toNat_natCast] at hi2
    obtain ⟨l, e1, e2, e3⟩ := back_let (k2 / 3) (k2 % 3) (by omega) (by omega)
    unfold d_BACK
    walk_at "w"
    refine ⟨_, e1, e2, _, e3, ?_, hN _ ⟨hi2, _, k2 / 3, _, _, by omega, ?_, ?_, rfl⟩⟩
    · rw [List.length_singleton, hl]; omega
    · rw [List.length_append, hl]; simp; omega
    · rw [he, show m - i = (m - (i + 1)) + 1 by omega, wordOf, List.append_assoc]
  · rintro S ⟨hi, z, k2, s3, s4, h0, hl, he, rfl⟩
    walk_at "w"
    have : (intsD 0 (m : Int).toNat).length = m := by simp [intsD]
    rw [this] at he hl
    rw [Nat.sub_self] at he
    rw [show z = wordOf m k from by rw [he]; rfl]
    exact h
/-! all words of so many letters -/
def ext3 (w : List Nat) : List (List Nat) := [w ++ [110], w ++ [102], w ++ [115]]
def allW : Nat → List (List Nat)
  | 0 => [[]]
  | m + 1 => (allW m).flatMap ext3
theorem allW_len : ∀ m, (allW m).length = 3 ^ m
  | 0 => rfl
  | m + 1 => by
    have : ∀ l : List (List Nat), (l.flatMap ext3).length = 3 * l.length := fun l => by
      induction l with
      | nil => rfl
      | cons a l ih => rw [List.flatMap_cons, List.length_append, ih]; simp [ext3]; omega
    rw [allW, this, allW_len m, Nat.pow_succ, Nat.mul_comm]
theorem allW_mem : ∀ (m : Nat) (z : List Nat), z ∈ allW m → Lets z ∧ z.length = m
  | 0, z, h => by
    rw [allW, List.mem_singleton] at h
    subst h
    exact ⟨(fun c hc => nomatch hc), rfl⟩
  | m + 1, z, h => by
    rw [allW, List.mem_flatMap] at h
    obtain ⟨w, hw, hz⟩ := h
    obtain ⟨h1, h2⟩ := allW_mem m w hw
    simp only [ext3, List.mem_cons, List.not_mem_nil, or_false] at hz
    rcases hz with rfl | rfl | rfl
    · exact ⟨lets_app h1 (lets_one (by simp)), by rw [List.length_append, h2]; rfl⟩
    · exact ⟨lets_app h1 (lets_one (by simp)), by rw [List.length_append, h2]; rfl⟩
    · exact ⟨lets_app h1 (lets_one (by simp)), by rw [List.length_append, h2]; rfl⟩
def natsZ (m : Nat) : List Int := (List.range m).map fun (i : Nat) => (i : Int)
theorem natsZ_trip : ∀ m : Nat, natsZ (3 * m) = (natsZ m).flatMap fun k => [3 * k, 3 * k + 1, 3 * k + 2]
  | 0 => rfl
  | m + 1 => by
    have e : natsZ (m + 1) = natsZ m ++ [(m : Int)] := by unfold natsZ; rw [List.range_succ, List.map_append]; rfl
    have e3 : natsZ (3 * (m + 1)) = natsZ (3 * m) ++ [3 * (m : Int), 3 * m + 1, 3 * m + 2] := by
      unfold natsZ
      rw [show 3 * (m + 1) = 3 * m + 1 + 1 + 1 by omega, List.range_succ, List.range_succ, List.range_succ, List.map_append, List.map_append, List.map_append]
      simp
    rw [e3, e, List.flatMap_append, natsZ_trip m]
    rfl
theorem ext3_plc (w : List Nat) : List.Perm ((ext3 w).map (plc 0)) [3 * plc 0 w, 3 * plc 0 w + 1, 3 * plc 0 w + 2] := by
  simp only [ext3, List.map_cons, List.map_nil, plc_snoc]
  unfold bk
  by_cases h : plc 0 w % 2 = 0
  · rw [if_pos h, if_pos h, if_pos h]
    simp only [if_pos, if_neg, show ¬ (110 = 115) by decide, show ¬ (102 = 115) by decide, show ¬ (102 = 110) by decide, Int.add_zero]
    exact List.Perm.trans (l₂ := [3 * plc 0 w + 1, 3 * plc 0 w, 3 * plc 0 w + 2]) (.cons _ (.swap _ _ _)) (.swap _ _ _)
  · rw [if_neg h, if_neg h, if_neg h]
    simp only [if_pos, if_neg, show ¬ (110 = 102) by decide, show ¬ (115 = 102) by decide, show ¬ (115 = 110) by decide, Int.add_zero]
    exact .swap _ _ _
theorem perm_flat {α β : Type} {f g : α → List β} : ∀ (l : List α), (∀ a ∈ l, (f a).Perm (g a)) → (l.flatMap f).Perm (l.flatMap g)
  | [], _ => .refl _
  | a :: l, h => by
    rw [List.flatMap_cons, List.flatMap_cons]
    exact (h a List.mem_cons_self).append (perm_flat l fun b hb => h b (List.mem_cons_of_mem _ hb))
theorem allW_plc : ∀ m, List.Perm ((allW m).map (plc 0)) (natsZ (3 ^ m))
  | 0 => .refl _
  | m + 1 => by
    have e : (allW (m + 1)).map (plc 0) = (allW m).flatMap fun w => (ext3 w).map (plc 0) := by rw [allW, List.map_flatMap]
    rw [e, Nat.pow_succ, Nat.mul_comm, natsZ_trip]
    refine (perm_flat _ fun w _ => ext3_plc w).trans ?_
    have : ((allW m).flatMap fun w => [3 * plc 0 w, 3 * plc 0 w + 1, 3 * plc 0 w + 2]) = ((allW m).map (plc 0)).flatMap fun k => [3 * k, 3 * k + 1, 3 * k + 2] := by rw [List.flatMap_map]
    rw [this]
    exact (allW_plc m).flatMap_right _
theorem natsZ_sorted (m : Nat) : (natsZ m).Pairwise (· ≤ ·) := by
  unfold natsZ
  rw [List.pairwise_map]
  exact (List.pairwise_lt_range (n := m)).imp fun h => by omega
def wordsBy (m : Nat) : List Dat := (natsZ (3 ^ m)).map fun k => .str (wordOf m k)
/-- sorted by their places, they are known -/
theorem sorted_words {m : Nat} {l : List Dat} (h : ByKeys ((allW m).map (plc 0)) ((allW m).map Dat.str) l) : l = wordsBy m := by
  obtain ⟨qs, h1, h2, h3⟩ := h
  have e : ((allW m).map (plc 0)).zip ((allW m).map Dat.str) = (allW m).map fun z => (plc 0 z, Dat.str z) := by
    rw [List.zip_map', ]
  obtain ⟨zs, z1, z2⟩ := perm_lift (fun z : List Nat => (plc 0 z, Dat.str z)) h1 e
  have z3 : zs.map (plc 0) = natsZ (3 ^ m) := by
    refine List.Perm.eq_of_pairwise (le := (· ≤ ·)) (fun a b _ _ h1 h2 => Int.le_antisymm h1 h2) ?_ (natsZ_sorted _) ((z1.map _).trans (allW_plc m))
    rw [z2, List.pairwise_map] at h3
    rw [List.pairwise_map]
    exact h3
  have z4 : zs = (zs.map (plc 0)).map (wordOf m) := by
    rw [List.map_map]
    conv => lhs; rw [← List.map_id zs]
    refine List.map_congr_left fun z hz => ?_
    obtain ⟨y1, y2⟩ := allW_mem m z (z1.mem_iff.mp hz)
    exact (wordOf_plc m z y2 y1).symm
  rw [h2, z2, List.map_map, wordsBy, ← z3, List.map_map]
  refine List.map_congr_left fun z hz => ?_
  obtain ⟨y1, y2⟩ := allW_mem m z (z1.mem_iff.mp hz)
  show Dat.str z = Dat.str (wordOf m (plc 0 z))
  rw [wordOf_plc m z y2 y1]
def L_words : WS := (wSeq (wAsg (wFz (wLst (wCons (wC (.str ("" : Str).cps.toList)) wNil))) (wgN 1))
  (wSeq (wFor (wRng1 (wCons (wVar 0) wNil)) (wgN 2) (wSeq (wOwn (wLst wNil) 3)
  (wSeq (wFor (wAnyIt (wVar 1)) (wgN 4) (wExt 3 (wFz (wLc (wAnyIt (wC (.str ("nfs" : Str).cps.toList))) [5] (wgN 5) wYes (wOp aAdd (wVar 4) (wVar 5))))))
  (wAsg (wVar 3) (wgN 1)))))
  (wRet (wVar 1))))
def G_words : Fn := fun ds n Q => ∃ m : Nat, ds = [.int m] ∧ m ≤ 6 ∧ Q (.lst ((allW m).map Dat.str)) n
theorem nfs_ext (w : List Nat) : (signsD [110, 102, 115]).map (fun d => match d with | .str c => Dat.str (w ++ c) | _ => .non) = (ext3 w).map Dat.str := rfl
theorem pow6 {m : Nat} (h : m ≤ 6) : 3 ^ m ≤ 729 := Nat.pow_le_pow_right (by decide) h
/-- the words so far -/
def soFar (m i : Nat) : List (List Nat) := ((allW m).take i).flatMap ext3
theorem soFar_len (m i : Nat) : (soFar m i).length ≤ 3 * i := by
  have : ∀ l : List (List Nat), (l.flatMap ext3).length = 3 * l.length := fun l => by
    induction l with
    | nil => rfl
    | cons a l ih => rw [List.flatMap_cons, List.length_append, ih]; simp [ext3]; omega
  rw [soFar, this, List.length_take]
  omega
theorem soFar_next {m i : Nat} {w : List Nat} (h : (allW m)[i]? = some w) : soFar m (i + 1) = soFar m i ++ ext3 w := by
  rw [soFar, List.take_add_one, h, List.flatMap_append]
  simp [soFar]
theorem soFar_all (m : Nat) : soFar m (allW m).length = allW (m + 1) := by rw [soFar, List.take_length, allW]
theorem str_get {l : List (List Nat)} {i : Nat} {d : Dat} (h : (l.map Dat.str)[i]? = some d) : ∃ w, l[i]? = some w ∧ d = .str w := by
  rw [List.getElem?_map] at h
  cases q : l[i]? with
  | none => rw [q] at h; cases h
  | some w => rw [q] at h; exact ⟨w, rfl, (Option.some.inj h).symm⟩
theorem B_words {ds : List Dat} {n : Nat} {QD : Dat → Nat → Prop} (h : G_words ds n QD) : bodyW 6 L_words ds n QD := by
  obtain ⟨m, rfl, hm, h⟩ := h
  unfold L_words
  simp only [lit_empty, lit_nfs]
  walk_at "w"
  refine ⟨by omega, by omega, ?_⟩
  refine forW_at _ (fun i S => i ≤ m ∧ ∃ s2 s3 s4, S = ⟨[.im (.int m), .im (.lst ((allW i).map Dat.str)), s2, s3, s4, .un], n⟩) _ ?_ ⟨by omega, _, _, _, rfl⟩ ?_
  · rintro i d S hd ⟨hi, s2, s3, s4, rfl⟩ N hN
    obtain ⟨hi2, rfl⟩ := intsD_get hd
    rw [Int.toNat_natCast] at hi2
    walk_at "w"
    have l3 := allW_len i
    have l4 := pow6 (show i ≤ 6 by omega)
    refine forW_at _ (fun j S => j ≤ 3 ^ i ∧ ∃ s4, S = ⟨[.im (.int m), .im (.lst ((allW i).map Dat.str)), .im (.int (0 + i)), .ow ((soFar i j).map Dat.str), s4, .un], n⟩) _ ?_ ⟨by omega, _, rfl⟩ ?_
    · rintro j d S hd ⟨hj, s4, rfl⟩ N2 hN2
      obtain ⟨w, hw, rfl⟩ := str_get hd
      have hj2 : j < 3 ^ i := by rw [← l3]; exact (List.getElem?_eq_some_iff.mp hw).1
      obtain ⟨_, lw⟩ := allW_mem i w (List.mem_of_getElem? hw)
      walk_at "w"
      refine lcW_map (fun d => match d with | .str c => .str (w ++ c) | _ => .non) _ _ (by simp [signsD]) (fun d hd R R0 hR => ?_) ?_
      · obtain ⟨c, hc, rfl⟩ := List.mem_map.mp hd
        walk_at "w"
        exact ⟨by omega, hR⟩
      rw [nfs_ext]
      walk_at "w"
      have l5 := soFar_len i j
      refine ⟨by simp [ext3]; omega, ?_⟩
      have e := soFar_next hw
      rw [← List.map_append, ← e]
      exact hN2 _ ⟨hj2, _, rfl⟩
    · rintro S ⟨_, s4, rfl⟩
      rw [List.length_map, soFar_all]
      walk_at "w"
      exact hN _ ⟨hi2, _, _, _, rfl⟩
  · rintro S ⟨_, s2, s3, s4, rfl⟩
    walk_at "w"
    have : (intsD 0 (m : Int).toNat).length = m := by simp [intsD]
    rw [this]
    exact h
def L_longer : WS := (wSeq (wOwn (wLst wNil) 1)
  (wSeq (wFor (wAnyIt (wVar 0)) (wgN 2) (wExt 1 (wFz (wLc (wAnyIt (wC (.str ("nfs" : Str).cps.toList))) [3] (wgN 3) wYes (wOp aAdd (wVar 2) (wVar 3))))))
  (wRet (wVar 1))))
def G_longer : Fn := fun ds n Q => ∃ m : Nat, ds = [.lst ((allW m).map Dat.str)] ∧ m ≤ 6 ∧ Q (.lst ((allW (m + 1)).map Dat.str)) n
theorem B_longer {ds : List Dat} {n : Nat} {QD : Dat → Nat → Prop} (h : G_longer ds n QD) : bodyW 4 L_longer ds n QD := by
  obtain ⟨i, rfl, hm, h⟩ := h
  have l3 := allW_len i
  have l4 := pow6 hm
  unfold L_longer
  simp only [lit_nfs]
  walk_at "w"
  refine forW_at _ (fun j S => j ≤ 3 ^ i ∧ ∃ s2, S = ⟨[.im (.lst ((allW i).map Dat.str)), .ow ((soFar i j).map Dat.str), s2, .un], n⟩) _ ?_ ⟨by omega, _, rfl⟩ ?_
  · rintro j d S hd ⟨hj, s4, rfl⟩ N2 hN2
    obtain ⟨w, hw, rfl⟩ := str_get hd
    have hj2 : j < 3 ^ i := by rw [← l3]; exact (List.getElem?_eq_some_iff.mp hw).1
    obtain ⟨_, lw⟩ := allW_mem i w (List.mem_of_getElem? hw)
    walk_at "w"
    refine lcW_map (fun d => match d with | .str c => .str (w ++ c) | _ => .non) _ _ (by simp [signsD]) (fun d hd R R0 hR => ?_) ?_
    · obtain ⟨c, hc, rfl⟩ := List.mem_map.mp hd
      walk_at "w"
      exact ⟨by omega, hR⟩
    rw [nfs_ext]
    walk_at "w"
    have l5 := soFar_len i j
    refine ⟨by simp [ext3]; omega, ?_⟩
    have e := soFar_next hw
    rw [← List.map_append, ← e]
    exact hN2 _ ⟨hj2, _, rfl⟩
  · rintro S ⟨_, s4, rfl⟩
    rw [List.length_map, soFar_all]
    walk_at "w"
    exact h
def L_neighbours : WS := (wSeq (wDrop (wCall G_check_word (wCons (wVar 0) wNil)))
  (wSeq (wPar 1 2 (wCons (wCB aLen (wCons (wVar 0) wNil)) (wCons (wCall G_place_of (wCons (wVar 0) wNil)) wNil)))
  (wSeq (wAsg (wIf (wTest (wOp aGt (wVar 2) (wC (.int 0)))) (wCall G_word_of (wCons (wVar 1) (wCons (wOp aSub (wVar 2) (wC (.int 1))) wNil))) (wC .non)) (wgN 3))
  (wRet (wTup (wCons (wVar 3) (wCons (wIf (wTest (wOp aLt (wOp aAdd (wVar 2) (wC (.int 1))) (wCall G_power (wCons (wVar 1) wNil)))) (wCall G_word_of (wCons (wVar 1) (wCons (wOp aAdd (wVar 2) (wC (.int 1))) wNil))) (wC .non)) wNil)))))))
def nbD (z : List Nat) : Dat := .tup [if plc 0 z > 0 then .str (wordOf z.length (plc 0 z - 1)) else .non, if plc 0 z + 1 < 3 ^ z.length then .str (wordOf z.length (plc 0 z + 1)) else .non]
def G_neighbours : Fn := fun ds n Q => ∃ z, ds = [.str z] ∧ Lets z ∧ z.length ≤ 200 ∧ Q (nbD z) n
theorem B_neighbours {ds : List Dat} {n : Nat} {QD : Dat → Nat → Prop} (h : G_neighbours ds n QD) : bodyW 4 L_neighbours ds n QD := by
  obtain ⟨z, rfl, hz, hl, h⟩ := h
  obtain ⟨p0, _⟩ := plc_zero z 0 (by decide) hz
  unfold nbD at h
  unfold L_neighbours
  walk_at "w"
  refine ⟨z, rfl, hz, hl, ?_⟩
  walk_at "w"
  refine ⟨by omega, z, rfl, hz, ?_⟩
  walk_at "w"
  simp only [gt_iff_lt] at h
  have fin : ∀ d : Dat, QD (.tup [d, if plc 0 z + 1 < 3 ^ z.length then .str (wordOf z.length (plc 0 z + 1)) else .non]) n → (G_power [Dat.int z.length] n fun d_1 n' => asI d_1 fun j => if plc 0 z + 1 < j then G_word_of [Dat.int z.length, Dat.int (plc 0 z + 1)] n' fun d_2 n' => QD (Dat.tup [d, d_2]) n' else QD (Dat.tup [d, Dat.non]) n') := fun d hd => by
    refine ⟨z.length, rfl, by omega, ?_⟩
    show if plc 0 z + 1 < 3 ^ z.length then _ else _
    split
    · rename_i c
      rw [if_pos c] at hd
      exact ⟨_, _, rfl, by omega, by omega, hd⟩
    · rename_i c
      rw [if_neg c] at hd
      exact hd
  split
  · rename_i c
    rw [if_pos c] at h
    exact ⟨_, _, rfl, by omega, by omega, fin _ h⟩
  · rename_i c
    rw [if_neg c] at h
    exact fin _ h
def L_word_at : WS := (wSeq (wDrop (wCall G_rounds (wCons (wVar 0) (wCons (wC (.int 200)) wNil))))
  (wSeq (wIfS (wNot (wTest (wCall G_integer (wCons (wVar 1) (wCons (wC (.int 0)) (wCons (wOp aSub (wCall G_power (wCons (wVar 0) wNil)) (wC (.int 1))) wNil)))))) wNever wNext)
  (wRet (wCall G_word_of (wCons (wVar 0) (wCons (wVar 1) wNil))))))
def G_word_at : Fn := fun ds n Q => ∃ (m : Nat) (k : Int), ds = [.int m, .int k] ∧ m ≤ 200 ∧ 0 ≤ k ∧ k < 3 ^ m ∧ Q (.str (wordOf m k)) n
theorem B_word_at {ds : List Dat} {n : Nat} {QD : Dat → Nat → Prop} (h : G_word_at ds n QD) : bodyW 2 L_word_at ds n QD := by
  obtain ⟨m, k, rfl, hm, h0, h1, h⟩ := h
  unfold L_word_at
  walk_at "w"
  refine ⟨_, _, rfl, by omega, by omega, ?_⟩
  walk_at "w"
  refine ⟨m, rfl, by omega, ?_⟩
  walk_at "w"
  refine ⟨_, _, _, rfl, h0, by omega, ?_⟩
  walk_at "w"
  exact ⟨m, _, rfl, by omega, h0, h⟩
def L_whole_row : WS := (wSeq (wDrop (wCall G_rounds (wCons (wVar 0) (wCons (wC (.int 6)) wNil))))
  (wRet (wCB aTupOf (wCons (wFz (wLc (wRng1 (wCons (wCall G_power (wCons (wVar 0) wNil)) wNil)) [1] (wgN 1) wYes (wCall G_word_of (wCons (wVar 0) (wCons (wVar 1) wNil))))) wNil))))
def G_whole_row : Fn := fun ds n Q => ∃ m : Nat, ds = [.int m] ∧ m ≤ 6 ∧ Q (.tup (wordsBy m)) n
theorem B_whole_row {ds : List Dat} {n : Nat} {QD : Dat → Nat → Prop} (h : G_whole_row ds n QD) : bodyW 2 L_whole_row ds n QD := by
  obtain ⟨m, rfl, hm, h⟩ := h
  unfold L_whole_row
  walk_at "w"
  refine ⟨_, _, rfl, by omega, by omega, ?_⟩
  walk_at "w"
  have l4 := pow6 hm
  have m2 : (3 : Int) ^ m = ((3 ^ m : Nat) : Int) := by rw [Int.natCast_pow]; rfl
  refine ⟨m, rfl, by omega, ?_⟩
  rw [m2]
  generalize hN : 3 ^ m = N at l4
  walk_at "w"
  refine ⟨by omega, by omega, ?_⟩
  rw [Int.toNat_natCast]
  refine lcW_map (fun d => match d with | .int k => .str (wordOf m k) | _ => .non) _ _ (by simp [intsD]; omega) (fun d hd R R0 hR => ?_) ?_
  · obtain ⟨i, hi, rfl⟩ := List.mem_map.mp hd
    walk_at "w"
    exact ⟨m, _, rfl, by omega, by omega, hR⟩
  have e : (intsD 0 N).map (fun d => match d with | .int k => .str (wordOf m k) | _ => .non) = wordsBy m := by
    unfold wordsBy natsZ intsD
    rw [hN]
    rw [List.map_map, List.map_map]
    refine List.map_congr_left fun i _ => ?_
    show Dat.str (wordOf m (0 + (i : Int))) = Dat.str (wordOf m i)
    rw [Int.zero_add]
  rw [e]
  exact h

end Dl
-- part M34
set_option Elab.async false
set_option linter.all false
set_option maxRecDepth 100000
set_option maxHeartbeats 4000000
namespace K34
open PySem PySem.Spec PyProof.Rows L2 Evl Dl

local macro_rules | `(tactic| walk_at "w") => `(tactic| (simp (maxSteps := 3000000) only [↓e_var0, ↓e_var0o, ↓e_varS, ↓e_anyIt, ↓e_par, ↓e_zip, ↓aAdd_i, ↓aAdd_s, ↓aAdd_t, ↓aAdd_l, ↓aMul_i, ↓aMul_s, ↓aMul_l, ↓eqS_i, ↓eqS_s, ↓eqS_b, ↓eqS_nn, ↓eqS_ni, ↓eqS_ns, ↓eqS_nt, ↓eqS_in, ↓eqS_sn, ↓eqS_is, ↓eqS_si, ↓eqS_t, ↓eqS_l, ↓inS_s, ↓inS_t, ↓inS_l, ↓lenD_s, ↓lenD_t, ↓lenD_l, ↓lenD_z, ↓ixD_t, ↓ixD_l, ↓ixD_z, ↓ixD_s, ↓ixD_0, ↓ixD_1, ↓ixD_2, ↓cutDd_s, ↓cutDd_l, ↓cutDd_z, ↓cutDd_t, ↓listD_l, ↓listD_z, ↓itemsD_l, ↓itemsD_t, ↓itemsQ_s, ↓itemsQ_l, ↓itemsQ_z, ↓itemsQ_t, ↓aInt_i, ↓aInt_b, ↓aTupOf_l, ↓aTupOf_t, ↓anyD_l, ↓anyD_z, ↓anyD_t, ↓anyD_s, ↓joinD_l, ↓joinD_t, ↓zipQ_t, ↓zipQ_l, ↓asB_bl, ↓asI_int, ↓as1_one, ↓as2_two, par2,
  bodyW, bodyF, bodyP, start0, wSeq, wAsg, wOwn, wIfS, wRet, wRetF, wRetO, wRetN, wDrop, wApp, wSet, setW, slotSet, wInc, wNext, wBreak, wContinue, wNever, wC, wOp, wUn, wIf, wTest, wAnd, wOr, wNot, wYes, wAndV, wOrV, wNotV, wChain, wNil, wCons, wTup, wLst, wFz, wCall, wCallF, wCallK, wCallN, wCB, wCBF, wBM, wBM0, tStr, wNone, wPart, wSl, wgN, wgNil, wgCons, wgTup, wFor, wWhile, wLc, wRng1, wRng2, wListRg, wPot, wipeL, restL, keepIm,
  aI0, aII, aNeg, aEq, aNe, aIn, aNotIn, aIsN, aIsNotN, isN, aIsW, aIsNotW, ↓isW_n, ↓isW_bb, ↓isW_nb, wRevS, wRevT, wParO, wSortK, lcW_nil, lcW_cons, wKIx, wKIn, aAbs, aMax, aMin, aMin1, aMax1, ↓partsD_l, ↓partsD_z, ↓partsD_t, aLen, aSum, aAll, aAny, aIsi, isi, goodTy, aIx, aListOf, idxS, wParOO, wP3, wP3O, wStar, wEnum, wDC, lastAt, wgLst, wExt, wExt.listL, aInDp, aNotInDp, inDp, Nat.reduceBEq,
  List.map_cons, List.map_nil, List.cons_append, List.nil_append, List.length_cons, List.length_nil, List.replicate_succ, List.replicate_zero, Nat.reduceAdd, Nat.reduceSub, List.getElem?_cons_zero, List.getElem?_cons_succ, List.set_cons_zero, List.set_cons_succ, reduceCtorEq, if_true, if_false, Bool.false_eq_true,
  decide_eq_true_eq, kinds, List.contains_cons, List.contains_nil, String.reduceBEq, Bool.or_true, Bool.true_or, Bool.or_false, Bool.false_or, Bool.not_true, Bool.not_false, Bool.not_eq_true, decide_true, decide_false, true_and, and_true, Int.reduceLT, Int.reduceLE, Int.reduceNeg, Nat.reduceLeDiff, cmuL, cmuR, cfdS, cpwS, atI_pos, Int.reduceToNat, isBls_nil, isBls_bl, Option.map_some, Option.some.injEq, exists_eq_left', List.all_cons, List.all_nil, id_eq, Bool.and_true, Bool.true_and, beq_self_eq_true]))


theorem lit0 : ("" : Str).cps.toList = [] := by decide +kernel
theorem lit1 : ("f" : Str).cps.toList = [102] := by decide +kernel
theorem lit2 : ("fns" : Str).cps.toList = [102, 110, 115] := by decide +kernel
theorem lit3 : ("nfs" : Str).cps.toList = [110, 102, 115] := by decide +kernel
theorem lit4 : ("s" : Str).cps.toList = [115] := by decide +kernel
theorem lit5 : ("snf" : Str).cps.toList = [115, 110, 102] := by decide +kernel
local macro_rules | `(tactic| walk_at "lit") => `(tactic| (simp only [lit0, lit1, lit2, lit3, lit4, lit5]))
/-! bounds of reduced ratios -/
theorem den_mk (t : Int) {b : Nat} (hb : 0 < b) : (mkRat t b).den ≤ b := by
  rw [Rat.den_mkRat, if_neg (by omega)]
  exact Nat.div_le_self _ _
theorem num_mk (t : Int) {b : Nat} (hb : 0 < b) : (mkRat t b).num.natAbs ≤ t.natAbs := by
  rw [Rat.num_mkRat, if_neg (by omega)]
  have d : ((b.gcd t.natAbs : Nat) : Int) ∣ t := Int.ofNat_dvd_left.mpr (Nat.gcd_dvd_right _ _)
  rw [Int.natAbs_ediv_of_dvd d, Int.natAbs_natCast]
  exact Nat.div_le_self _ _
theorem den_add (a b : Rat) : (a + b).den ≤ a.den * b.den := by
  rw [Rat.add_def']
  exact den_mk _ (Nat.mul_pos a.den_pos b.den_pos)
theorem den_sub (a b : Rat) : (a - b).den ≤ a.den * b.den := by
  rw [Rat.sub_def']
  exact den_mk _ (Nat.mul_pos a.den_pos b.den_pos)
theorem den_mul (a b : Rat) : (a * b).den ≤ a.den * b.den := by
  rw [Rat.mul_def']
  exact den_mk _ (Nat.mul_pos a.den_pos b.den_pos)
structure Wr (q : Rat) : Prop where
  den : q.den ≤ 5
  num : q.num.natAbs ≤ 25
def wD (a b : Rat) : Dat := .tup [ratD a, ratD b]
def endR (a b : Rat) (k : Int) (m : Nat) : Rat := a + (b - a) * mkRat k (3 ^ m)
theorem num_lt {t : Int} {b : Nat} (hb : 0 < b) (h : -1000000000 < t ∧ t < 1000000000) : -1000000000000000 < (mkRat t b).num ∧ (mkRat t b).num < 1000000000000000 := by
  have := num_mk t hb
  omega
theorem pow8 {m : Nat} (h : m ≤ 8) : 0 < 3 ^ m ∧ 3 ^ m ≤ 6561 := ⟨Nat.pow_pos (by decide), Nat.pow_le_pow_right (by decide) h⟩
def absR (x : Rat) : Rat := if x < 0 then -x else x
theorem absR_num (x : Rat) : ratD (absR x) = .tup [.int (if x.num < 0 then -x.num else x.num), .int x.den] := by
  unfold absR ratD
  by_cases h : x < 0
  · have hn : x.num < 0 := by have := (Rat.lt_iff x 0).mp h; simpa using this
    rw [if_pos h, if_pos hn]
    rfl
  · have hn : ¬ x.num < 0 := fun q => h ((Rat.lt_iff x 0).mpr (by simpa using q))
    rw [if_neg h, if_neg hn]
theorem absR_den (x : Rat) : (absR x).den = x.den := by
  unfold absR
  split <;> rfl
theorem inv3 {m : Nat} (h : 0 < 3 ^ m) : ratD (mkRat 1 (3 ^ m)) = .tup [.int 1, .int ((3 ^ m : Nat) : Int)] := by
  obtain ⟨e1, e2⟩ := mk_num 1 h
  have g : Int.gcd 1 ((3 ^ m : Nat) : Int) = 1 := by
    unfold Int.gcd
    exact Nat.gcd_one_left _
  unfold ratD
  rw [e1, e2, g]
  simp
def gapR (a b : Rat) (m : Nat) : Rat := absR (a - b) * mkRat 1 (3 ^ m)
theorem apart_abs (a b : Rat) : (if a < b then b - a else a - b) = absR (a - b) := by
  unfold absR
  by_cases h : a < b
  · rw [if_pos h, if_pos (by grind)]
    grind
  · rw [if_neg h, if_neg (by grind)]
theorem mk_mul (k : Int) (m : Nat) : mkRat k (3 ^ m) = (k : Rat) * mkRat 1 (3 ^ m) := by
  rw [Rat.mkRat_eq_div, Rat.mkRat_eq_div, Rat.div_def, Rat.div_def]
  grind
theorem third_pos (m : Nat) : 0 < mkRat 1 (3 ^ m) := by
  have p : (0 : Rat) < ((3 ^ m : Nat) : Rat) := by
    have : 0 < 3 ^ m := Nat.pow_pos (by decide)
    exact_mod_cast this
  have hi : 0 < (((3 ^ m : Nat) : Rat))⁻¹ := Rat.inv_pos.mpr p
  rw [Rat.mkRat_eq_div, Rat.div_def]
  grind
theorem absR_mul {x t : Rat} (h : 0 < t) : absR (x * t) = absR x * t := by
  unfold absR
  by_cases c : x < 0
  · have : 0 < (-x) * t := Rat.mul_pos (by grind) h
    rw [if_pos c, if_pos (by grind)]
    grind
  · have : 0 ≤ x * t := Rat.mul_nonneg (by grind) (by grind)
    rw [if_neg c, if_neg (by grind)]
theorem absR_neg (x : Rat) : absR (-x) = absR x := by
  unfold absR
  split <;> split <;> grind
theorem ends_apart (a b : Rat) (p : Int) (m : Nat) : absR (endR a b (numbersAt p).1 m - endR a b (numbersAt p).2 m) = gapR a b m := by
  have t := third_pos m
  unfold endR gapR
  rw [mk_mul (numbersAt p).1, mk_mul (numbersAt p).2]
  have e : (a + (b - a) * (((numbersAt p).1 : Rat) * mkRat 1 (3 ^ m)) - (a + (b - a) * (((numbersAt p).2 : Rat) * mkRat 1 (3 ^ m)))) = (((numbersAt p).1 : Rat) - ((numbersAt p).2 : Rat)) * (b - a) * mkRat 1 (3 ^ m) := by grind
  rw [e]
  unfold numbersAt
  split
  · simp only [Rat.intCast_add]
    rw [show (((p : Rat) - ((p : Rat) + ((1 : Int) : Rat))) * (b - a)) = a - b by grind]
    exact absR_mul t
  · simp only [Rat.intCast_add]
    rw [show ((((p : Rat) + ((1 : Int) : Rat)) - (p : Rat)) * (b - a)) = -(a - b) by grind, absR_mul t, absR_neg]
theorem ratD_inj {p q : Rat} (h : ratD p = ratD q) : p = q := by
  unfold ratD at h
  simp only [Dat.tup.injEq, List.cons.injEq, Dat.int.injEq, and_true] at h
  exact Rat.ext h.1 (by omega)
theorem sgn_bls (z : List Nat) (x : Nat) : isBls ((signsD z).map fun d => match d with | .str c => Dat.bl (decide (c = [x])) | _ => .non) = some (z.map fun c => decide (c = x)) := by
  induction z with
  | nil => rfl
  | cons c z ih =>
    show (isBls ((signsD z).map _)).map (decide ([c] = [x]) :: ·) = _
    rw [ih]
    simp
theorem nice_rat (q : Rat) (k : Nat) : nice (k + 1) (ratD q) = true := by
  unfold ratD
  rw [nice_tup]
  simp [nice_int]
theorem sim_rat (q : Rat) (k : Nat) : sim (k + 2) (ratD q) := by
  unfold ratD
  refine ⟨by simp, fun y hy => ?_⟩
  rcases List.mem_cons.mp hy with rfl | hy
  · exact trivial
  · rcases List.mem_cons.mp hy with rfl | hy
    · exact trivial
    · cases hy

theorem pow11 {m : Nat} (h : m ≤ 11) : 0 < 3 ^ m ∧ 3 ^ m ≤ 177147 := ⟨Nat.pow_pos (by decide), Nat.pow_le_pow_right (by decide) h⟩
theorem absR_nn (x : Rat) : 0 ≤ absR x := by
  unfold absR
  split <;> grind
theorem absR_add (x y : Rat) : absR (x + y) ≤ absR x + absR y := by
  unfold absR
  split <;> split <;> split <;> grind
theorem third (x : Rat) (i : Nat) : x * mkRat 1 (3 ^ i) / 3 = x * mkRat 1 (3 ^ (i + 1)) := by
  have p : (3 ^ i : Nat) ≠ 0 := Nat.pos_iff_ne_zero.mp (Nat.pow_pos (by decide))
  have e : mkRat 1 (3 ^ (i + 1)) = mkRat 1 (3 ^ i) / 3 := by
    rw [Rat.mkRat_eq_div, Rat.mkRat_eq_div, Nat.pow_succ]
    rw [Rat.natCast_mul]
    have q : ((3 ^ i : Nat) : Rat) ≠ 0 := by
      intro z
      exact p (by exact_mod_cast z)
    grind
  rw [e]
  grind
def dif (xs : List Rat) (i : Nat) : Rat := absR (xs.getD i 0 - xs.getD (i + 1) 0)
/-- the first of the greatest -/
structure FirstMax (d : Nat → Rat) (N k : Nat) (M : Rat) : Prop where
  lt : k < N
  at_ : M = d k
  le : ∀ j, j < N → d j ≤ M
  first : ∀ j, j < k → d j < M
theorem FirstMax.one (d : Nat → Rat) : FirstMax d 1 0 (d 0) := ⟨by decide, rfl, fun j hj => by
  have : j = 0 := by omega
  subst this
  exact Rat.le_refl, fun j hj => by omega⟩
theorem FirstMax.keep {d : Nat → Rat} {N k : Nat} {M : Rat} (h : FirstMax d N k M) (c : ¬ M < d N) : FirstMax d (N + 1) k M :=
  ⟨by have := h.lt; omega, h.at_, fun j hj => by
    by_cases q : j = N
    · subst q; grind
    · exact h.le j (by omega), h.first⟩
theorem FirstMax.new {d : Nat → Rat} {N k : Nat} {M : Rat} (h : FirstMax d N k M) (c : M < d N) : FirstMax d (N + 1) N (d N) :=
  ⟨by omega, rfl, fun j hj => by
    by_cases q : j = N
    · subst q; exact Rat.le_refl
    · have := h.le j (by omega)
      grind, fun j hj => by
    have := h.le j hj
    grind⟩
def maxTo (d : Nat → Rat) : Nat → Rat
  | 0 => 0
  | i + 1 => if maxTo d i < d i then d i else maxTo d i
theorem maxTo_le {d : Nat → Rat} {M : Rat} (h0 : 0 ≤ M) : ∀ N, (∀ j, j < N → d j ≤ M) → maxTo d N ≤ M
  | 0, _ => h0
  | N + 1, h => by
    have ih := maxTo_le h0 N fun j hj => h j (by omega)
    have h1 := h N (by omega)
    rw [maxTo]
    split
    · exact h1
    · exact ih
theorem le_maxTo {d : Nat → Rat} : ∀ (N j : Nat), j < N → d j ≤ maxTo d N
  | N + 1, j, h => by
    rw [maxTo]
    by_cases q : j = N
    · subst q
      split
      · exact Rat.le_refl
      · grind
    · have ih := le_maxTo (d := d) N j (by omega)
      split
      · grind
      · exact ih
theorem FirstMax.max {d : Nat → Rat} {N k : Nat} {M : Rat} (h : FirstMax d N k M) (nn : ∀ j, 0 ≤ d j) : maxTo d N = M := by
  have h1 := maxTo_le (d := d) (M := M) (by rw [h.at_]; exact nn k) N h.le
  have h2 := le_maxTo (d := d) N k h.lt
  rw [← h.at_] at h2
  exact Rat.le_antisymm h1 h2
theorem tele {xs : List Rat} {M : Rat} (hM : 0 ≤ M) : ∀ i : Nat, (∀ j, j < i → dif xs j ≤ M) → absR (xs.getD 0 0 - xs.getD i 0) ≤ (i : Rat) * M
  | 0, _ => by
    rw [Rat.sub_self]
    show absR 0 ≤ ((0 : Nat) : Rat) * M
    have : absR 0 = 0 := rfl
    rw [this]
    simp
  | i + 1, h => by
    have ih := tele hM i fun j hj => h j (by omega)
    have h1 := h i (by omega)
    unfold dif at h1
    have e : xs.getD 0 0 - xs.getD (i + 1) 0 = (xs.getD 0 0 - xs.getD i 0) + (xs.getD i 0 - xs.getD (i + 1) 0) := by grind
    have h2 := absR_add (xs.getD 0 0 - xs.getD i 0) (xs.getD i 0 - xs.getD (i + 1) 0)
    rw [e]
    have e2 : ((i + 1 : Nat) : Rat) * M = (i : Rat) * M + M := by
      rw [Rat.natCast_add]
      grind
    rw [e2]
    grind
theorem gap_le {xs : List Rat} {m : Nat} {M : Rat} (hM : 0 ≤ M) (h : ∀ j, j < 3 ^ m → dif xs j ≤ M) : gapR (xs.getD 0 0) (xs.getD (3 ^ m) 0) m ≤ M := by
  have h1 := tele hM (3 ^ m) h
  have t := third_pos m
  have e : ((3 ^ m : Nat) : Rat) * mkRat 1 (3 ^ m) = 1 := by
    rw [Rat.mkRat_eq_div]
    have q : ((3 ^ m : Nat) : Rat) ≠ 0 := by
      have : (3 ^ m : Nat) ≠ 0 := Nat.pos_iff_ne_zero.mp (Nat.pow_pos (by decide))
      intro z
      exact this (by exact_mod_cast z)
    grind
  unfold gapR
  have h2 : 0 ≤ (((3 ^ m : Nat) : Rat) * M - absR (xs.getD 0 0 - xs.getD (3 ^ m) 0)) * mkRat 1 (3 ^ m) := Rat.mul_nonneg (by grind) (by grind)
  generalize absR (xs.getD 0 0 - xs.getD (3 ^ m) 0) = A at *
  have h3 : ((3 ^ m : Nat) : Rat) * M * mkRat 1 (3 ^ m) = M := by
    calc ((3 ^ m : Nat) : Rat) * M * mkRat 1 (3 ^ m) = M * (((3 ^ m : Nat) : Rat) * mkRat 1 (3 ^ m)) := by grind
      _ = M := by rw [e]; grind
  grind
def endsL (a b : Rat) (m : Nat) : List Rat := (List.range (3 ^ m + 1)).map fun (k : Nat) => endR a b k m
theorem endsL_get {a b : Rat} {m k : Nat} (h : k ≤ 3 ^ m) : (endsL a b m).getD k 0 = endR a b k m := by
  unfold endsL
  rw [List.getD_eq_getElem?_getD, List.getElem?_map, List.getElem?_range (by omega)]
  rfl
theorem endsL_dif {a b : Rat} {m k : Nat} (h : k < 3 ^ m) : dif (endsL a b m) k = gapR a b m := by
  unfold dif
  rw [endsL_get (by omega), endsL_get (by omega)]
  have := ends_apart a b (k : Int) m
  unfold numbersAt at this
  split at this
  · exact this
  · rw [← absR_neg]
    have e : -(endR a b (k : Int) m - endR a b ((k + 1 : Nat) : Int) m) = endR a b ((k : Int) + 1) m - endR a b k m := by
      rw [show ((k + 1 : Nat) : Int) = (k : Int) + 1 by omega]
      grind
    rw [e]
    exact this
theorem getD_den {xs : List Rat} {B : Nat} (hx : ∀ q ∈ xs, q.den ≤ B) (hB : 1 ≤ B) (i : Nat) : (xs.getD i 0).den ≤ B := by
  rw [List.getD_eq_getElem?_getD]
  cases h : xs[i]? with
  | none => exact hB
  | some q => exact hx q (List.mem_of_getElem? h)
theorem dif_den {xs : List Rat} (hx : ∀ q ∈ xs, q.den ≤ 1000000) (i : Nat) : (dif xs i).den ≤ 1000000000000 := by
  unfold dif
  rw [absR_den]
  exact Nat.le_trans (den_sub _ _) (Nat.mul_le_mul (getD_den hx (by decide) i) (getD_den hx (by decide) (i + 1)))
theorem maxTo_den {d : Nat → Rat} {B : Nat} (h : ∀ j, (d j).den ≤ B) (hB : 1 ≤ B) : ∀ N, (maxTo d N).den ≤ B
  | 0 => hB
  | N + 1 => by
    rw [maxTo]
    split
    · exact h N
    · exact maxTo_den h hB N
theorem rat_get {xs : List Rat} {i : Nat} (h : i < xs.length) : (xs.map ratD)[i]? = some (ratD (xs.getD i 0)) := by
  rw [List.getElem?_map, List.getD_eq_getElem?_getD, List.getElem?_eq_getElem h]
  rfl
theorem zipD_two : ∀ (l m : List Dat) (i : Nat) (d : Dat), (zipD l m)[i]? = some d → ∃ x y, l[i]? = some x ∧ m[i]? = some y ∧ d = .tup [x, y]
  | [], m, i, d, h => by simp [zipD] at h
  | a :: l, [], i, d, h => by simp [zipD] at h
  | a :: l, b :: m, 0, d, h => by
    simp [zipD] at h
    exact ⟨a, b, rfl, rfl, h.symm⟩
  | a :: l, b :: m, i + 1, d, h => by
    have h' : (zipD l m)[i]? = some d := by simpa [zipD] using h
    obtain ⟨x, y, h1, h2, h3⟩ := zipD_two l m i d h'
    exact ⟨x, y, by simpa using h1, by simpa using h2, h3⟩
theorem pairs_get {xs : List Rat} {i : Nat} {d : Dat} (h : (zipD (xs.map ratD) ((xs.map ratD).drop 1))[i]? = some d) : i + 1 < xs.length ∧ d = .tup [ratD (xs.getD i 0), ratD (xs.getD (i + 1) 0)] := by
  obtain ⟨x, y, h1, h2, rfl⟩ := zipD_two _ _ _ _ h
  rw [List.getElem?_drop, Nat.add_comm 1 i] at h2
  have l2 : i + 1 < xs.length := by
    have := (List.getElem?_eq_some_iff.mp h2).1
    rwa [List.length_map] at this
  rw [rat_get (by omega)] at h1
  rw [rat_get l2] at h2
  cases h1
  cases h2
  exact ⟨l2, rfl⟩
theorem nice_ratE {p q : Rat} {A B : Prop} (a : p = q → A) (b : p ≠ q → B) : if eqD (ratD p) (ratD q) = true then A else B := by
  by_cases h : p = q
  · exact eqdT (nice_rat p 0) (nice_rat q 0) (by rw [h]) (a h)
  · exact eqdN (nice_rat p 0) (nice_rat q 0) (fun z => h (ratD_inj z)) (b h)
def d_BACK : Dat := .tup [.str [115, 110, 102], .str [102, 110, 115]]
def d_THIRD : Dat := .tup [.int (1), .int (3)]
abbrev G__law_cells : Fn := Dl.G_cells
def W__law_cells : WS := (wRet (wFz (wListRg (wCB aMax (wCons (wC (.int 1)) (wCons (wCB aMin (wCons (wVar 1) (wCons (wCB aLen (wCons (wVar 0) wNil)) wNil))) wNil))))))
theorem body__law_cells {ds : List Dat} {n : Nat} {QD : Dat → Nat → Prop} (h : G__law_cells ds n QD) : bodyW 2 W__law_cells ds n QD := Dl.B_cells h
abbrev G__law_pot : FnF := Dl.G_pot
def W__law_pot : WS := (wSeq (wAsg (wIf (wTest (wOp aLt (wVar 1) (wCB aLen (wCons (wVar 0) wNil)))) (wOp aIx (wVar 0) (wVar 1)) (wOp aAdd (wOp aAdd (wOp aMod (wCB aSum (wCons (wSl cutDd (wVar 0) wNone (wPart (wC (.int 1)))) wNil)) (wC (.int 1000003))) (wOp aMul (wC (.int 4469)) (wVar 1))) (wC (.int 2923)))) (wgN 2))
  (wSeq (wAsg (wOp aMul (wOp aMod (wCB aInt (wCons (wCB aAbs (wCons (wVar 2) wNil)) wNil)) (wOp aPow (wOp aPow (wC (.int 10)) (wC (.int 60))) (wC (.int 5)))) (wCB aInt (wCons (wOp aGe (wCB aAbs (wCons (wVar 2) wNil)) (wOp aPow (wC (.int 10)) (wC (.int 18)))) wNil))) (wgN 3))
  (wSeq (wAsg (wOp aMod (wCB aInt (wCons (wVar 2) wNil)) (wC (.int 2305843009213693951))) (wgN 4))
  (wRetF (wLst (wCons (wVar 3) (wCons (wOp aMod (wCB aInt (wCons (wOp aAdd (wOp aAdd (wOp aMul (wVar 4) (wC (.int 94953))) (wOp aMul (wOp aMul (wC (.int 16421)) (wVar 1)) (wVar 1))) (wC (.int 3219))) wNil)) (wC (.int 2305843009213693921))) (wCons (wC (.int 0)) wNil))))))))
theorem body__law_pot {ds : List Dat} {n : Nat} {QD : List Dat → Nat → Prop} (h : G__law_pot ds n QD) : bodyF 5 W__law_pot ds n QD := Dl.B_pot (by omega) h
abbrev G__law_frac_common : Fn := Dl.G_common
def W__law_frac_common : WS := (wSeq (wPar 0 1 (wCons (wCB aAbs (wCons (wVar 0) wNil)) (wCons (wCB aAbs (wCons (wVar 1) wNil)) wNil)))
  (wSeq (wWhile (wTest (wOp aGt (wVar 1) (wC (.int 0)))) (wPar 0 1 (wCons (wVar 1) (wCons (wOp aMod (wCB aInt (wCons (wVar 0) wNil)) (wVar 1)) wNil))))
  (wRet (wVar 0))))
theorem body__law_frac_common {ds : List Dat} {n : Nat} {QD : Dat → Nat → Prop} (h : G__law_frac_common ds n QD) : bodyW 2 W__law_frac_common ds n QD := Dl.B_common2 h
abbrev G__law_frac : Fn := Dl.G_ratio
def W__law_frac : WS := (wSeq (wAsg (wCall G__law_frac_common (wCons (wVar 0) (wCons (wVar 1) wNil))) (wgN 2))
  (wSeq (wAsg (wIf (wTest (wOp aGt (wVar 1) (wC (.int 0)))) (wVar 2) (wUn aNeg (wVar 2))) (wgN 2))
  (wRet (wTup (wCons (wOp aFd (wVar 0) (wVar 2)) (wCons (wOp aFd (wVar 1) (wVar 2)) wNil))))))
theorem body__law_frac {ds : List Dat} {n : Nat} {QD : Dat → Nat → Prop} (h : G__law_frac ds n QD) : bodyW 3 W__law_frac ds n QD := Dl.B_frac h
abbrev G__law_take : Fn := Dl.G_take
def W__law_take : WS := (wSeq (wIfS (wTest (wOp aGt (wOp aIx (wVar 0) (wC (.int 0))) (wC (.int 0)))) (wSeq (wAsg (wOp aMod (wCB aInt (wCons (wOp aIx (wVar 0) (wC (.int 0))) wNil)) (wVar 1)) (wgN 2))
  (wSeq (wSet 0 (wOp aFd (wOp aIx (wVar 0) (wC (.int 0))) (wVar 1)) (wC (.int 0)))
  (wRet (wVar 2)))) wNext)
  (wSeq (wInc 0)
  (wSeq (wAsg (wOp aIx (wFz (wLst (wCons (wC (.int 2147483647)) (wCons (wC (.int 2147483629)) (wCons (wC (.int 2147483587)) (wCons (wC (.int 2147483579)) (wCons (wC (.int 2147483563)) wNil))))))) (wOp aMod (wCB aInt (wCons (wOp aIx (wVar 0) (wC (.int 2))) wNil)) (wC (.int 5)))) (wgN 3))
  (wSeq (wAsg (wOp aMod (wCB aInt (wCons (wOp aPow (wCB aInt (wCons (wOp aAdd (wOp aAdd (wOp aIx (wVar 0) (wC (.int 1))) (wOp aMul (wOp aMul (wC (.int 114555)) (wOp aIx (wVar 0) (wC (.int 2)))) (wOp aIx (wVar 0) (wC (.int 2))))) (wC (.int 4101))) wNil)) (wC (.int 3))) wNil)) (wVar 3)) (wgN 4))
  (wSeq (wAsg (wOp aMod (wCB aInt (wCons (wOp aMul (wVar 4) (wOp aAdd (wOp aMod (wCB aInt (wCons (wVar 4) wNil)) (wC (.int 15501))) (wOp aMul (wC (.int 2169)) (wOp aIx (wVar 0) (wC (.int 2)))))) wNil)) (wC (.int 2305843009213693907))) (wgN 4))
  (wRet (wOp aMod (wCB aInt (wCons (wOp aFd (wVar 4) (wC (.int 167))) wNil)) (wVar 1))))))))
theorem body__law_take {ds : List Dat} {n : Nat} {QD : Dat → Nat → Prop} (h : G__law_take ds n QD) : bodyP 5 W__law_take ds n QD := Dl.B_take (by omega) h
abbrev G__law_of : Fn := Dl.G_of
def W__law_of : WS := (wRet (wOp aIx (wVar 1) (wCall G__law_take (wCons (wVar 0) (wCons (wCB aLen (wCons (wVar 1) wNil)) wNil)))))
theorem body__law_of {ds : List Dat} {n : Nat} {QD : Dat → Nat → Prop} (h : G__law_of ds n QD) : bodyP 2 W__law_of ds n QD := Dl.B_of h
-- _law_frac_drawn names ['pot', 'low', 'high', 'bottom']
def W__law_frac_drawn : WS := (wSeq (wAsg (wCall G__law_of (wCons (wVar 0) (wCons (wFz (wLst (wCons (wC (.int 1)) (wCons (wC (.int 1)) (wCons (wC (.int 1)) (wCons (wC (.int 2)) (wCons (wC (.int 3)) (wCons (wC (.int 5)) wNil)))))))) wNil))) (wgN 3))
  (wRet (wCall G__law_frac (wCons (wOp aAdd (wOp aMul (wVar 1) (wVar 3)) (wCall G__law_take (wCons (wVar 0) (wCons (wOp aAdd (wOp aMul (wOp aSub (wVar 2) (wVar 1)) (wVar 3)) (wC (.int 1))) wNil)))) (wCons (wVar 3) wNil)))))
def G__law_frac_drawn : Fn := fun ds n Q => ∃ lo hi : Int, ds = [.pot, .int lo, .int hi] ∧ (lo = -5 ∧ hi = 5 ∨ lo = -3 ∧ hi = 3) ∧ n + 2 ≤ 1000000 ∧ ∀ q : Rat, Wr q → Q (ratD q) (n + 2)
theorem body__law_frac_drawn {ds : List Dat} {n : Nat} {QD : Dat → Nat → Prop} (h : G__law_frac_drawn ds n QD) : bodyP 4 W__law_frac_drawn ds n QD := by
  obtain ⟨lo, hi, rfl, hlh, hn, h⟩ := h
  unfold W__law_frac_drawn
  walk_at "w"
  refine ⟨_, _, rfl, rfl, by decide, by decide, by omega, fun d hd => ?_⟩
  have key : ∃ b : Nat, d = .int b ∧ 0 < b ∧ b ≤ 5 := by
    simp only [List.mem_cons, List.not_mem_nil, or_false] at hd
    rcases hd with rfl | rfl | rfl | rfl | rfl | rfl
    · exact ⟨1, rfl, by decide, by decide⟩
    · exact ⟨1, rfl, by decide, by decide⟩
    · exact ⟨1, rfl, by decide, by decide⟩
    · exact ⟨2, rfl, by decide, by decide⟩
    · exact ⟨3, rfl, by decide, by decide⟩
    · exact ⟨5, rfl, by decide, by decide⟩
  obtain ⟨b, rfl, b1, b2⟩ := key
  rcases hlh with ⟨rfl, rfl⟩ | ⟨rfl, rfl⟩
  · walk_at "w"
    refine ⟨cmuR (by omega), _, rfl, by omega, by omega, by omega, fun r r0 r1 => ?_⟩
    walk_at "w"
    refine ⟨_, b, rfl, b1, by omega, n + 2, by omega, hn, h _ ⟨Nat.le_trans (den_mk _ b1) b2, Nat.le_trans (num_mk _ b1) ?_⟩⟩
    omega
  · walk_at "w"
    refine ⟨cmuR (by omega), _, rfl, by omega, by omega, by omega, fun r r0 r1 => ?_⟩
    walk_at "w"
    refine ⟨_, b, rfl, b1, by omega, n + 2, by omega, hn, h _ ⟨Nat.le_trans (den_mk _ b1) b2, Nat.le_trans (num_mk _ b1) ?_⟩⟩
    omega
abbrev G__law_frac_is_less : Fn := Dl.G_below
def W__law_frac_is_less : WS := (wRet (wOp aLt (wOp aMul (wOp aIx (wVar 0) (wC (.int 0))) (wOp aIx (wVar 1) (wC (.int 1)))) (wOp aMul (wOp aIx (wVar 1) (wC (.int 0))) (wOp aIx (wVar 0) (wC (.int 1))))))
theorem body__law_frac_is_less {ds : List Dat} {n : Nat} {QD : Dat → Nat → Prop} (h : G__law_frac_is_less ds n QD) : bodyW 2 W__law_frac_is_less ds n QD := Dl.B_below h
abbrev G__law_frac_less : Fn := Dl.G_less
def W__law_frac_less : WS := (wRet (wCall G__law_frac (wCons (wOp aSub (wOp aMul (wOp aIx (wVar 0) (wC (.int 0))) (wOp aIx (wVar 1) (wC (.int 1)))) (wOp aMul (wOp aIx (wVar 1) (wC (.int 0))) (wOp aIx (wVar 0) (wC (.int 1))))) (wCons (wOp aMul (wOp aIx (wVar 0) (wC (.int 1))) (wOp aIx (wVar 1) (wC (.int 1)))) wNil))))
theorem body__law_frac_less {ds : List Dat} {n : Nat} {QD : Dat → Nat → Prop} (h : G__law_frac_less ds n QD) : bodyW 2 W__law_frac_less ds n QD := Dl.B_less h
-- _law_apart names ['one', 'other', 'found']
def W__law_apart : WS := (wSeq (wAsg (wCall G__law_frac_less (wCons (wVar 0) (wCons (wVar 1) wNil))) (wgN 2))
  (wRet (wTup (wCons (wCB aAbs (wCons (wOp aIx (wVar 2) (wC (.int 0))) wNil)) (wCons (wOp aIx (wVar 2) (wC (.int 1))) wNil)))))
def G__law_apart : Fn := fun ds n Q => ∃ a b : Rat, ds = [ratD a, ratD b] ∧ a.den ≤ 1000000 ∧ b.den ≤ 1000000 ∧ Q (ratD (absR (a - b))) n
theorem body__law_apart {ds : List Dat} {n : Nat} {QD : Dat → Nat → Prop} (h : G__law_apart ds n QD) : bodyW 3 W__law_apart ds n QD := by
  obtain ⟨a, b, rfl, p1, p2, h⟩ := h
  have q1 := Nat.mul_le_mul p1 p2
  rw [absR_num] at h
  unfold W__law_apart
  walk_at "w"
  refine ⟨a, b, rfl, by omega, ?_⟩
  unfold ratD
  walk_at "w"
  exact h
abbrev G__law_frac_over : Fn := Dl.G_over
def W__law_frac_over : WS := (wRet (wCall G__law_frac (wCons (wOp aMul (wOp aIx (wVar 0) (wC (.int 0))) (wOp aIx (wVar 1) (wC (.int 1)))) (wCons (wOp aMul (wOp aIx (wVar 0) (wC (.int 1))) (wOp aIx (wVar 1) (wC (.int 0)))) wNil))))
theorem body__law_frac_over {ds : List Dat} {n : Nat} {QD : Dat → Nat → Prop} (h : G__law_frac_over ds n QD) : bodyW 2 W__law_frac_over ds n QD := Dl.B_over h
-- _law_gap names ['worths', 'rounds', 'found', 'lap']
def W__law_gap : WS := (wSeq (wAsg (wCall G__law_apart (wCons (wOp aIx (wVar 0) (wC (.int 0))) (wCons (wOp aIx (wVar 0) (wC (.int 1))) wNil))) (wgN 2))
  (wSeq (wFor (wRng1 (wCons (wVar 1) wNil)) (wgN 3) (wAsg (wCall G__law_frac_over (wCons (wVar 2) (wCons (wTup (wCons (wC (.int 3)) (wCons (wC (.int 1)) wNil))) wNil))) (wgN 2)))
  (wRet (wVar 2))))
def G__law_gap : Fn := fun ds n Q => ∃ (a b : Rat) (m : Nat), ds = [wD a b, .int m] ∧ Wr a ∧ Wr b ∧ m ≤ 11 ∧ Q (ratD (gapR a b m)) n
theorem body__law_gap {ds : List Dat} {n : Nat} {QD : Dat → Nat → Prop} (h : G__law_gap ds n QD) : bodyW 4 W__law_gap ds n QD := by
  obtain ⟨a, b, m, rfl, ha, hb, hm, h⟩ := h
  have da := ha.den
  have db := hb.den
  have d1 := Nat.mul_le_mul ha.den hb.den
  have d2 := den_sub a b
  unfold W__law_gap wD
  walk_at "w"
  refine ⟨a, b, rfl, by omega, by omega, ?_⟩
  walk_at "w"
  refine ⟨by omega, by omega, ?_⟩
  rw [show ratD (absR (a - b)) = ratD (absR (a - b) * mkRat 1 (3 ^ 0)) by rw [show mkRat 1 (3 ^ 0) = 1 from rfl, Rat.mul_one]]
  refine forW_at _ (fun i S => i ≤ m ∧ ∃ s3, S = ⟨[.im (.tup [ratD a, ratD b]), .im (.int m), .im (ratD (absR (a - b) * mkRat 1 (3 ^ i))), s3], n⟩) _ ?_ ⟨by omega, _, rfl⟩ ?_
  · rintro i d S hd ⟨hi, s3, rfl⟩ N hN
    obtain ⟨hi2, rfl⟩ := intsD_get hd
    obtain ⟨m0, m1⟩ := pow11 (show i ≤ 11 by omega)
    have d3 := den_mk 1 m0
    have d4 := den_mul (absR (a - b)) (mkRat 1 (3 ^ i))
    rw [absR_den] at d4
    have d5 := Nat.mul_le_mul (Nat.le_trans d2 d1) (Nat.le_trans d3 m1)
    walk_at "w"
    refine ⟨_, 3, rfl, by decide, ?_, by decide, ?_⟩
    · show _ * 3 < _
      omega
    walk_at "w"
    rw [third]
    exact hN _ ⟨by omega, _, rfl⟩
  · rintro S ⟨_, s3, rfl⟩
    walk_at "w"
    have : (intsD 0 m).length = m := by simp [intsD]
    simp only [Int.toNat_natCast, this]
    exact h
abbrev G__law_is (d : Nat) : Fn := Dl.G_is d
theorem G__law_is_zero {ds : List Dat} {n : Nat} {QD : Dat → Nat → Prop} (h : G__law_is 0 ds n QD) : False := Dl.G_is_zero h
def W__law_is (d : Nat) : WS := (wSeq (wIfS (wTest (wCB aIsi (wCons (wVar 1) (wCons (wC (.ty "tuple")) wNil)))) (wSeq (wAsg (wAndV (wCB aIsi (wCons (wVar 0) (wCons (wC (.ty "tuple")) wNil))) (wOp aEq (wCB aLen (wCons (wVar 0) wNil)) (wCB aLen (wCons (wVar 1) wNil)))) (wgN 2))
  (wRet (wAndV (wVar 2) (wCB aAll (wCons (wFz (wLc (wZip (wCons (wVar 0) (wCons (wVar 1) wNil))) [3, 4] (wgTup 2 (wgCons (wgN 3) (wgCons (wgN 4) wgNil))) wYes (wCall (G__law_is d) (wCons (wVar 3) (wCons (wVar 4) wNil))))) wNil))))) wNext)
  (wSeq (wIfS (wTest (wCB aIsi (wCons (wVar 1) (wCons (wC (.ty "int")) wNil)))) (wRet (wAndV (wCB aIsi (wCons (wVar 0) (wCons (wC (.ty "int")) wNil))) (wAndV (wNotV (wCB aIsi (wCons (wVar 0) (wCons (wC (.ty "bool")) wNil)))) (wOp aEq (wVar 0) (wVar 1))))) wNext)
  (wRet (wIf (wTest (wCB aIsi (wCons (wVar 1) (wCons (wC (.ty "str")) wNil)))) (wAndV (wCB aIsi (wCons (wVar 0) (wCons (wC (.ty "str")) wNil))) (wOp aEq (wVar 0) (wVar 1))) (wOp aIsW (wVar 0) (wC .non))))))
theorem body__law_is {d : Nat} {ds : List Dat} {n : Nat} {QD : Dat → Nat → Prop} (h : G__law_is (d + 1) ds n QD) : bodyW 5 (W__law_is d) ds n QD := Dl.B_is h
-- _law_row_heard names ['numbers', 'fate', 'first', 'second', 'mine']
def W__law_row_heard : WS := (wSeq (wAsg (wVar 0) (wgTup 2 (wgCons (wgN 2) (wgCons (wgN 3) wgNil))))
  (wSeq (wAsg (wIf (wTest (wOp aEq (wVar 1) (wC (.str ("s" : Str).cps.toList)))) (wOp aMul (wC (.int 3)) (wVar 2)) (wOp aAdd (wVar 2) (wOp aMul (wC (.int 2)) (wVar 3)))) (wgN 4))
  (wRet (wTup (wCons (wVar 4) (wCons (wIf (wTest (wOp aEq (wVar 1) (wC (.str ("f" : Str).cps.toList)))) (wOp aMul (wC (.int 3)) (wVar 3)) (wOp aAdd (wVar 3) (wOp aMul (wC (.int 2)) (wVar 2)))) wNil))))))
def G__law_row_heard : Fn := fun ds n Q => ∃ (a : Int × Int) (c : Nat), ds = [.tup [.int a.1, .int a.2], .str [c]] ∧ Q (.tup [.int (step2 a c).1, .int (step2 a c).2]) n
theorem body__law_row_heard {ds : List Dat} {n : Nat} {QD : Dat → Nat → Prop} (h : G__law_row_heard ds n QD) : bodyW 5 W__law_row_heard ds n QD := by
  obtain ⟨a, c, rfl, h⟩ := h
  unfold W__law_row_heard
  walk_at "lit"
  walk_at "w"
  unfold step2 at h
  by_cases c1 : c = 115
  · subst c1
    simpa using h
  · by_cases c2 : c = 102
    · subst c2
      simpa using h
    · simpa [c1, c2] using h
-- _law_row_numbers names ['word', 'found', 'fate']
def W__law_row_numbers : WS := (wSeq (wAsg (wTup (wCons (wC (.int 0)) (wCons (wC (.int 1)) wNil))) (wgN 1))
  (wSeq (wFor (wAnyIt (wVar 0)) (wgN 2) (wAsg (wCall G__law_row_heard (wCons (wVar 1) (wCons (wVar 2) wNil))) (wgN 1)))
  (wRet (wVar 1))))
def G__law_row_numbers : Fn := fun ds n Q => ∃ z, ds = [.str z] ∧ Q (.tup [.int (heard (0, 1) z).1, .int (heard (0, 1) z).2]) n
theorem body__law_row_numbers {ds : List Dat} {n : Nat} {QD : Dat → Nat → Prop} (h : G__law_row_numbers ds n QD) : bodyW 3 W__law_row_numbers ds n QD := by
  obtain ⟨z, rfl, h⟩ := h
  unfold W__law_row_numbers
  walk_at "w"
  refine forW_fold (fun (a : Int × Int) S => ∃ s2, S = ⟨[.im (.str z), .im (.tup [.int a.1, .int a.2]), s2], n⟩) (fun a d => match d with | .str [c] => step2 a c | _ => a) _ (0, 1) _ _ ?_ ⟨_, rfl⟩ ?_
  · rintro d hd a S D ⟨s2, rfl⟩ hk
    obtain ⟨c, hc, rfl⟩ := List.mem_map.mp hd
    walk_at "w"
    exact ⟨a, c, rfl, hk _ ⟨_, rfl⟩⟩
  · rintro S ⟨s2, rfl⟩
    walk_at "w"
    have e : ∀ (z : List Nat) (a : Int × Int), List.foldl (fun (a : Int × Int) (d : Dat) => match d with | .str [c] => step2 a c | _ => a) a (signsD z) = heard a z := by
      intro z
      induction z with
      | nil => intro a; rfl
      | cons c z ih => intro a; exact ih _
    rw [e]
    exact h
abbrev G__law_row_longer : Fn := Dl.G_longer
def W__law_row_longer : WS := (wSeq (wOwn (wLst wNil) 1)
  (wSeq (wFor (wAnyIt (wVar 0)) (wgN 2) (wExt 1 (wFz (wLc (wAnyIt (wC (.str ("nfs" : Str).cps.toList))) [3] (wgN 3) wYes (wOp aAdd (wVar 2) (wVar 3))))))
  (wRet (wVar 1))))
theorem body__law_row_longer {ds : List Dat} {n : Nat} {QD : Dat → Nat → Prop} (h : G__law_row_longer ds n QD) : bodyW 4 W__law_row_longer ds n QD := Dl.B_longer h
-- _law_row_place names ['word']
def W__law_row_place : WS := (wRet (wCB aMin1 (wCons (wCall G__law_row_numbers (wCons (wVar 0) wNil)) wNil)))
def G__law_row_place : Fn := fun ds n Q => ∃ z, ds = [.str z] ∧ Lets z ∧ Q (.int (plc 0 z)) n
theorem body__law_row_place {ds : List Dat} {n : Nat} {QD : Dat → Nat → Prop} (h : G__law_row_place ds n QD) : bodyW 1 W__law_row_place ds n QD := by
  obtain ⟨z, rfl, hz, h⟩ := h
  have e : heard (0, 1) z = numbersAt (plc 0 z) := heard_at z 0 hz
  unfold W__law_row_place
  walk_at "w"
  refine ⟨z, rfl, ?_⟩
  rw [e]
  walk_at "w"
  refine ⟨_, rfl, by simp, fun k hk h2 => ?_⟩
  simp only [List.mem_cons, List.not_mem_nil, or_false] at hk h2
  have := min_numbers (plc 0 z) (m := k) hk (h2 _ (.inl rfl)) (h2 _ (.inr rfl))
  rw [this]
  exact h
-- _law_row_words names ['rounds', 'found', 'lap']
def W__law_row_words : WS := (wSeq (wAsg (wFz (wLst (wCons (wC (.str ("" : Str).cps.toList)) wNil))) (wgN 1))
  (wSeq (wFor (wRng1 (wCons (wVar 0) wNil)) (wgN 2) (wAsg (wCall G__law_row_longer (wCons (wVar 1) wNil)) (wgN 1)))
  (wRet (wFz (wSortK G__law_row_place (wVar 1))))))
def G__law_row_words : Fn := fun ds n Q => ∃ m : Nat, ds = [.int m] ∧ m ≤ 6 ∧ Q (.lst (wordsBy m)) n
theorem body__law_row_words {ds : List Dat} {n : Nat} {QD : Dat → Nat → Prop} (h : G__law_row_words ds n QD) : bodyW 3 W__law_row_words ds n QD := by
  obtain ⟨m, rfl, hm, h⟩ := h
  unfold W__law_row_words
  simp only [lit_empty]
  walk_at "w"
  refine ⟨by omega, by omega, ?_⟩
  refine forW_at _ (fun i S => i ≤ m ∧ ∃ s2, S = ⟨[.im (.int m), .im (.lst ((allW i).map Dat.str)), s2], n⟩) _ ?_ ⟨by omega, _, rfl⟩ ?_
  · rintro i d S hd ⟨hi, s2, rfl⟩ N hN
    obtain ⟨hi2, rfl⟩ := intsD_get hd
    rw [Int.toNat_natCast] at hi2
    walk_at "w"
    exact ⟨i, rfl, by omega, hN _ ⟨hi2, _, rfl⟩⟩
  · rintro S ⟨_, s2, rfl⟩
    have : (intsD 0 (m : Int).toNat).length = m := by simp [intsD]
    rw [this]
    walk_at "w"
    refine ⟨(allW m).map (plc 0), by simp, fun i d k h1 h2 QD' hq => ?_, fun l' hl' => ?_⟩
    · obtain ⟨w, hw, rfl⟩ := str_get h1
      rw [List.getElem?_map, hw] at h2
      cases h2
      obtain ⟨y1, y2⟩ := allW_mem m w (List.mem_of_getElem? hw)
      exact ⟨w, rfl, y1, hq⟩
    rw [sorted_words hl']
    exact h
-- _law_widest names ['marks', 'rounds', 'words', 'most', 'one', 'other', 'apart_v', 'place', 'word']
def W__law_widest : WS := (wSeq (wPar 2 3 (wCons (wCall G__law_row_words (wCons (wVar 1) wNil)) (wCons (wTup (wCons (wC (.int 0)) (wCons (wC (.int 1)) wNil))) wNil)))
  (wSeq (wFor (wZip (wCons (wVar 0) (wCons (wSl cutDd (wVar 0) (wPart (wC (.int 1))) wNone) wNil))) (wgTup 2 (wgCons (wgN 4) (wgCons (wgN 5) wgNil))) (wSeq (wAsg (wCall G__law_apart (wCons (wVar 4) (wCons (wVar 5) wNil))) (wgN 6))
  (wAsg (wIf (wTest (wCall G__law_frac_is_less (wCons (wVar 3) (wCons (wVar 6) wNil)))) (wVar 6) (wVar 3)) (wgN 3))))
  (wSeq (wFor (wEnum (wCons (wVar 2) wNil)) (wgTup 2 (wgCons (wgN 7) (wgCons (wgN 8) wgNil))) (wIfS (wTest (wOp aEq (wCall G__law_apart (wCons (wOp aIx (wVar 0) (wVar 7)) (wCons (wOp aIx (wVar 0) (wOp aAdd (wVar 7) (wC (.int 1)))) wNil))) (wVar 3))) (wRet (wTup (wCons (wVar 8) (wCons (wVar 3) wNil)))) wNext))
  (wRet (wC .non)))))
def B1__law_widest : WS := (wSeq (wAsg (wCall G__law_apart (wCons (wVar 4) (wCons (wVar 5) wNil))) (wgN 6))
  (wAsg (wIf (wTest (wCall G__law_frac_is_less (wCons (wVar 3) (wCons (wVar 6) wNil)))) (wVar 6) (wVar 3)) (wgN 3)))
def B2__law_widest : WS := (wIfS (wTest (wOp aEq (wCall G__law_apart (wCons (wOp aIx (wVar 0) (wVar 7)) (wCons (wOp aIx (wVar 0) (wOp aAdd (wVar 7) (wC (.int 1)))) wNil))) (wVar 3))) (wRet (wTup (wCons (wVar 8) (wCons (wVar 3) wNil)))) wNext)
def C2__law_widest : WS := (wSeq (wFor (wEnum (wCons (wVar 2) wNil)) (wgTup 2 (wgCons (wgN 7) (wgCons (wgN 8) wgNil))) B2__law_widest)
  (wRet (wC .non)))
def C1__law_widest : WS := (wSeq (wFor (wZip (wCons (wVar 0) (wCons (wSl cutDd (wVar 0) (wPart (wC (.int 1))) wNone) wNil))) (wgTup 2 (wgCons (wgN 4) (wgCons (wgN 5) wgNil))) B1__law_widest)
  C2__law_widest)
theorem c__law_widest : W__law_widest = (wSeq (wPar 2 3 (wCons (wCall G__law_row_words (wCons (wVar 1) wNil)) (wCons (wTup (wCons (wC (.int 0)) (wCons (wC (.int 1)) wNil))) wNil)))
  C1__law_widest) := rfl
def G__law_widest : Fn := fun ds n Q => ∃ (m k : Nat) (xs : List Rat) (M : Rat), ds = [.lst (xs.map ratD), .int m] ∧ m ≤ 3 ∧ xs.length = 3 ^ m + 1 ∧ (∀ q ∈ xs, q.den ≤ 1000000) ∧ FirstMax (dif xs) (3 ^ m) k M ∧ Q (.tup [.str (wordOf m k), ratD M]) n
theorem body__law_widest {ds : List Dat} {n : Nat} {QD : Dat → Nat → Prop} (h : G__law_widest ds n QD) : bodyW 9 W__law_widest ds n QD := by
  obtain ⟨m, k, xs, M, rfl, hm, hl, hx, fm, h⟩ := h
  rw [c__law_widest]
  walk_at "w"
  refine ⟨m, rfl, by omega, ?_⟩
  walk_at "w"
  unfold C1__law_widest
  walk_at "w"
  rw [cutN_lo (by decide)]
  have hz : (zipD (xs.map ratD) ((xs.map ratD).drop (Int.toNat 1))).length = 3 ^ m := by
    rw [zipD_len, List.length_drop, List.length_map, hl]
    exact Nat.min_eq_right (Nat.le_succ _)
  refine forW_at _ (fun i S => ∃ s4 s5 s6, S = ⟨[.im (.lst (xs.map ratD)), .im (.int m), .im (.lst (wordsBy m)), .im (ratD (maxTo (dif xs) i)), s4, s5, s6, .un, .un], n⟩) _ ?_ ⟨_, _, _, rfl⟩ ?_
  · rintro i d S hd ⟨s4, s5, s6, rfl⟩ N hN
    obtain ⟨h1, rfl⟩ := pairs_get hd
    walk_at "w"
    have e1 := maxTo_den (dif_den hx) (by decide) i
    have e2 := dif_den hx i
    refine ⟨_, _, rfl, getD_den hx (by decide) _, getD_den hx (by decide) _, ?_⟩
    walk_at "w"
    refine ⟨_, _, rfl, by omega, by unfold dif at e2; omega, ?_⟩
    walk_at "w"
    split
    · rename_i c
      exact hN _ ⟨_, _, _, by rw [maxTo, if_pos (by unfold dif; exact c)]; rfl⟩
    · rename_i c
      exact hN _ ⟨_, _, _, by rw [maxTo, if_neg (by unfold dif; exact c)]⟩
  · rintro S ⟨s4, s5, s6, rfl⟩
    rw [hz, fm.max fun j => by unfold dif; exact absR_nn _]
    dsimp only
    unfold C2__law_widest
    walk_at "w"
    have wl : (wordsBy m).length = 3 ^ m := by simp [wordsBy, natsZ]
    refine forW_at _ (fun p S => p ≤ k ∧ ∃ s7 s8, S = ⟨[.im (.lst (xs.map ratD)), .im (.int m), .im (.lst (wordsBy m)), .im (ratD M), s4, s5, s6, s7, s8], n⟩) _ ?_ ⟨by omega, _, _, rfl⟩ ?_
    · rintro p d S hd ⟨hp, s7, s8, rfl⟩ N hN
      obtain ⟨x, hx2, rfl⟩ := enumD_get hd
      have hk := fm.lt
      have hw : (wordsBy m)[p]? = some (.str (wordOf m p)) := by
        unfold wordsBy natsZ
        rw [List.map_map, List.getElem?_map, List.getElem?_range (by omega)]
        rfl
      rw [hw] at hx2
      cases hx2
      unfold B2__law_widest
      walk_at "w"
      simp only [Nat.zero_add]
      have gd := fun i => getD_den hx (by decide) i
      have a1 : atI (xs.map ratD) (p : Int) = some (ratD (xs.getD p 0)) := by rw [atI_pos (by omega)]; exact rat_get (by omega)
      have a2 : atI (xs.map ratD) ((p : Int) + 1) = some (ratD (xs.getD (p + 1) 0)) := by
        rw [show (p : Int) + 1 = ((p + 1 : Nat) : Int) by omega, atI_pos (by omega)]
        exact rat_get (by omega)
      refine ⟨_, a1, _, a2, _, _, rfl, gd _, gd _, ?_⟩
      show eqS (ratD (dif xs p)) (ratD M) _
      have c0 := cmpOk_nice (nice_rat (dif xs p) 0)
      have c1 := cmpOk_nice (nice_rat M 0)
      have key : (if eqD (ratD (dif xs p)) (ratD M) = true then QD (Dat.tup [Dat.str (wordOf m p), ratD M]) n else N ⟨[Sl.im (Dat.lst (List.map ratD xs)), Sl.im (Dat.int m), Sl.im (Dat.lst (wordsBy m)), .im (ratD M), s4, s5, s6, .im (.int p), .im (.str (wordOf m p))], n⟩) := by
        refine nice_ratE (fun e => ?_) (fun e => ?_)
        · by_cases c : p = k
          · subst c; exact h
          · exfalso
            have := fm.first p (by omega)
            rw [e] at this
            exact absurd this Rat.lt_irrefl
        · by_cases c : p = k
          · subst c; exact absurd fm.at_.symm e
          · exact hN _ ⟨by omega, _, _, rfl⟩
      unfold ratD at c0 c1 key ⊢
      walk_at "w"
      exact ⟨c0, c1, key⟩
    · rintro S ⟨hp, _⟩
      have := fm.lt
      have hl2 : (enumD 0 (wordsBy m)).length = 3 ^ m := by rw [enumD_len, wl]
      omega
abbrev G_are_letters : Fn := Dl.G_letters
def W_are_letters : WS := (wRet (wAndV (wCB aIsi (wCons (wVar 0) (wCons (wC (.ty "str")) wNil))) (wAndV (wChain aLe aLe (wVar 1) (wCB aLen (wCons (wVar 0) wNil)) (wVar 2)) (wCB aAll (wCons (wFz (wLc (wAnyIt (wVar 0)) [3] (wgN 3) wYes (wOp aIn (wVar 3) (wC (.str ("nfs" : Str).cps.toList))))) wNil)))))
theorem body_are_letters {ds : List Dat} {n : Nat} {QD : Dat → Nat → Prop} (h : G_are_letters ds n QD) : bodyW 4 W_are_letters ds n QD := Dl.B_letters h
abbrev G_is_word : Fn := Dl.G_is_word
def W_is_word : WS := (wRet (wCall G_are_letters (wCons (wVar 0) (wCons (wC (.int 0)) (wCons (wC (.int 200)) wNil)))))
theorem body_is_word {ds : List Dat} {n : Nat} {QD : Dat → Nat → Prop} (h : G_is_word ds n QD) : bodyW 1 W_is_word ds n QD := Dl.B_is_word h
abbrev G_check_word : Fn := Dl.G_check_word
def W_check_word : WS := (wIfS (wNot (wTest (wCall G_is_word (wCons (wVar 0) wNil)))) wNever wNext)
theorem body_check_word {ds : List Dat} {n : Nat} {QD : Dat → Nat → Prop} (h : G_check_word ds n QD) : bodyW 1 W_check_word ds n QD := Dl.B_check_word h
abbrev G_common : Fn := Dl.G_common
def W_common : WS := (wSeq (wPar 0 1 (wCons (wCB aAbs (wCons (wVar 0) wNil)) (wCons (wCB aAbs (wCons (wVar 1) wNil)) wNil)))
  (wSeq (wWhile (wTest (wOp aGt (wVar 1) (wC (.int 0)))) (wPar 0 1 (wCons (wVar 1) (wCons (wOp aMod (wVar 0) (wVar 1)) wNil))))
  (wRet (wVar 0))))
theorem body_common {ds : List Dat} {n : Nat} {QD : Dat → Nat → Prop} (h : G_common ds n QD) : bodyW 2 W_common ds n QD := Dl.B_common h
abbrev G_is_whole : Fn := Dl.G_whole
def W_is_whole : WS := (wRet (wAndV (wCB aIsi (wCons (wVar 0) (wCons (wC (.ty "int")) wNil))) (wNotV (wCB aIsi (wCons (wVar 0) (wCons (wC (.ty "bool")) wNil))))))
theorem body_is_whole {ds : List Dat} {n : Nat} {QD : Dat → Nat → Prop} (h : G_is_whole ds n QD) : bodyW 1 W_is_whole ds n QD := Dl.B_whole h
-- is_ratio names ['value', 'one']
def W_is_ratio : WS := (wSeq (wIfS (wOr (wNot (wTest (wCB aIsi (wCons (wVar 0) (wCons (wC (.ty "tuple")) wNil))))) (wOr (wTest (wOp aNe (wCB aLen (wCons (wVar 0) wNil)) (wC (.int 2)))) (wNot (wTest (wCB aAll (wCons (wFz (wLc (wAnyIt (wVar 0)) [1] (wgN 1) wYes (wCall G_is_whole (wCons (wVar 1) wNil)))) wNil)))))) (wRet (wC (.bl false))) wNext)
  (wRet (wAndV (wOp aGe (wOp aIx (wVar 0) (wC (.int 1))) (wC (.int 1))) (wOp aEq (wCall G_common (wCons (wOp aIx (wVar 0) (wC (.int 0))) (wCons (wOp aIx (wVar 0) (wC (.int 1))) wNil))) (wC (.int 1))))))
def G_is_ratio : Fn := fun ds n Q => ∃ q : Rat, ds = [ratD q] ∧ Q (.bl true) n
theorem body_is_ratio {ds : List Dat} {n : Nat} {QD : Dat → Nat → Prop} (h : G_is_ratio ds n QD) : bodyW 2 W_is_ratio ds n QD := by
  obtain ⟨q, rfl, h⟩ := h
  unfold W_is_ratio ratD
  walk_at "w"
  refine ⟨q.num, rfl, ?_⟩
  walk_at "w"
  refine ⟨by decide, q.den, rfl, ?_⟩
  walk_at "w"
  have p := q.den_pos
  try rw [if_pos (by omega)]
  refine ⟨by decide, _, _, rfl, ?_⟩
  have e : Int.gcd q.num q.den = 1 := by
    have := q.reduced
    unfold Int.gcd
    rw [Int.natAbs_natCast]
    exact this
  rw [e]
  walk_at "w"
  exact h
-- is_tuple names ['value', 'low', 'high']
def W_is_tuple : WS := (wRet (wAndV (wCB aIsi (wCons (wVar 0) (wCons (wC (.ty "tuple")) wNil))) (wChain aLe aLe (wVar 1) (wCB aLen (wCons (wVar 0) wNil)) (wVar 2))))
def G_is_tuple : Fn := fun ds n Q => ∃ l lo hi, ds = [.tup l, .int lo, .int hi] ∧ l.length ≤ 1000000 ∧ Q (.bl (decide (lo ≤ l.length ∧ (l.length : Int) ≤ hi))) n
theorem body_is_tuple {ds : List Dat} {n : Nat} {QD : Dat → Nat → Prop} (h : G_is_tuple ds n QD) : bodyW 3 W_is_tuple ds n QD := by
  obtain ⟨l, lo, hi, rfl, hl, h⟩ := h
  unfold W_is_tuple
  walk_at "w"
  split
  · rename_i c
    simpa [c] using h
  · rename_i c
    simpa [c] using h
-- check_worths names ['worths', 'one']
def W_check_worths : WS := (wIfS (wOr (wNot (wTest (wCall G_is_tuple (wCons (wVar 0) (wCons (wC (.int 2)) (wCons (wC (.int 2)) wNil)))))) (wNot (wTest (wCB aAll (wCons (wFz (wLc (wAnyIt (wVar 0)) [1] (wgN 1) wYes (wCall G_is_ratio (wCons (wVar 1) wNil)))) wNil))))) wNever wNext)
def G_check_worths : Fn := fun ds n Q => ∃ a b : Rat, ds = [wD a b] ∧ Q .non n
theorem body_check_worths {ds : List Dat} {n : Nat} {QD : Dat → Nat → Prop} (h : G_check_worths ds n QD) : bodyW 2 W_check_worths ds n QD := by
  obtain ⟨a, b, rfl, h⟩ := h
  unfold W_check_worths wD
  walk_at "w"
  refine ⟨_, 2, 2, rfl, by simp, ?_⟩
  simp only [List.length_cons, List.length_nil]
  rw [decide_eq_true (by decide)]
  walk_at "w"
  refine ⟨a, rfl, ?_⟩
  walk_at "w"
  refine ⟨by decide, b, rfl, ?_⟩
  walk_at "w"
  exact ⟨by decide, h⟩
abbrev G_ratio : Fn := Dl.G_ratio
def W_ratio : WS := (wSeq (wAsg (wCall G_common (wCons (wVar 0) (wCons (wVar 1) wNil))) (wgN 2))
  (wSeq (wAsg (wIf (wTest (wOp aGt (wVar 1) (wC (.int 0)))) (wVar 2) (wOp aSub (wC (.int 0)) (wVar 2))) (wgN 2))
  (wRet (wTup (wCons (wOp aFd (wVar 0) (wVar 2)) (wCons (wOp aFd (wVar 1) (wVar 2)) wNil))))))
theorem body_ratio {ds : List Dat} {n : Nat} {QD : Dat → Nat → Prop} (h : G_ratio ds n QD) : bodyW 3 W_ratio ds n QD := Dl.B_ratio h
abbrev G_less : Fn := Dl.G_less
def W_less : WS := (wRet (wCall G_ratio (wCons (wOp aSub (wOp aMul (wOp aIx (wVar 0) (wC (.int 0))) (wOp aIx (wVar 1) (wC (.int 1)))) (wOp aMul (wOp aIx (wVar 1) (wC (.int 0))) (wOp aIx (wVar 0) (wC (.int 1))))) (wCons (wOp aMul (wOp aIx (wVar 0) (wC (.int 1))) (wOp aIx (wVar 1) (wC (.int 1)))) wNil))))
theorem body_less {ds : List Dat} {n : Nat} {QD : Dat → Nat → Prop} (h : G_less ds n QD) : bodyW 2 W_less ds n QD := Dl.B_less h
abbrev G_numbers_at : Fn := Dl.G_numbers_at
def W_numbers_at : WS := (wRet (wIf (wTest (wOp aEq (wOp aMod (wVar 0) (wC (.int 2))) (wC (.int 0)))) (wTup (wCons (wVar 0) (wCons (wOp aAdd (wVar 0) (wC (.int 1))) wNil))) (wTup (wCons (wOp aAdd (wVar 0) (wC (.int 1))) (wCons (wVar 0) wNil)))))
theorem body_numbers_at {ds : List Dat} {n : Nat} {QD : Dat → Nat → Prop} (h : G_numbers_at ds n QD) : bodyW 1 W_numbers_at ds n QD := Dl.B_numbers_at h
abbrev G_place_of : Fn := Dl.G_place_of
def W_place_of : WS := (wSeq (wAsg (wC (.int 0)) (wgN 1))
  (wSeq (wFor (wAnyIt (wVar 0)) (wgN 2) (wAsg (wOp aAdd (wOp aMul (wC (.int 3)) (wVar 1)) (wBM tStr idxS (wOp aIx (wC d_BACK) (wOp aMod (wVar 1) (wC (.int 2)))) (wCons (wVar 2) wNil))) (wgN 1)))
  (wRet (wVar 1))))
theorem body_place_of {ds : List Dat} {n : Nat} {QD : Dat → Nat → Prop} (h : G_place_of ds n QD) : bodyW 3 W_place_of ds n QD := Dl.B_place_of h
abbrev G_plus : Fn := Dl.G_plus
def W_plus : WS := (wRet (wCall G_ratio (wCons (wOp aAdd (wOp aMul (wOp aIx (wVar 0) (wC (.int 0))) (wOp aIx (wVar 1) (wC (.int 1)))) (wOp aMul (wOp aIx (wVar 1) (wC (.int 0))) (wOp aIx (wVar 0) (wC (.int 1))))) (wCons (wOp aMul (wOp aIx (wVar 0) (wC (.int 1))) (wOp aIx (wVar 1) (wC (.int 1)))) wNil))))
theorem body_plus {ds : List Dat} {n : Nat} {QD : Dat → Nat → Prop} (h : G_plus ds n QD) : bodyW 2 W_plus ds n QD := Dl.B_plus h
abbrev G_power_of_three : Fn := Dl.G_power
def W_power_of_three : WS := (wSeq (wAsg (wC (.int 1)) (wgN 1))
  (wSeq (wFor (wRng1 (wCons (wVar 0) wNil)) (wgN 2) (wAsg (wOp aMul (wC (.int 3)) (wVar 1)) (wgN 1)))
  (wRet (wVar 1))))
theorem body_power_of_three {ds : List Dat} {n : Nat} {QD : Dat → Nat → Prop} (h : G_power_of_three ds n QD) : bodyW 3 W_power_of_three ds n QD := Dl.B_power h
abbrev G_times : Fn := Dl.G_times
def W_times : WS := (wRet (wCall G_ratio (wCons (wOp aMul (wOp aIx (wVar 0) (wC (.int 0))) (wOp aIx (wVar 1) (wC (.int 0)))) (wCons (wOp aMul (wOp aIx (wVar 0) (wC (.int 1))) (wOp aIx (wVar 1) (wC (.int 1)))) wNil))))
theorem body_times {ds : List Dat} {n : Nat} {QD : Dat → Nat → Prop} (h : G_times ds n QD) : bodyW 2 W_times ds n QD := Dl.B_times h
-- near names ['worths', 'word', 'parts', 'way', 'ends', 'number']
def W_near : WS := (wSeq (wDrop (wCall G_check_worths (wCons (wVar 0) wNil)))
  (wSeq (wDrop (wCall G_check_word (wCons (wVar 1) wNil)))
  (wSeq (wAsg (wTup (wCons (wCall G_power_of_three (wCons (wCB aLen (wCons (wVar 1) wNil)) wNil)) (wCons (wCall G_less (wCons (wOp aIx (wVar 0) (wC (.int 1))) (wCons (wOp aIx (wVar 0) (wC (.int 0))) wNil))) wNil))) (wgTup 2 (wgCons (wgN 2) (wgCons (wgN 3) wgNil))))
  (wSeq (wAsg (wFz (wLc (wAnyIt (wCall G_numbers_at (wCons (wCall G_place_of (wCons (wVar 1) wNil)) wNil))) [5] (wgN 5) wYes (wCall G_plus (wCons (wOp aIx (wVar 0) (wC (.int 0))) (wCons (wCall G_times (wCons (wVar 3) (wCons (wCall G_ratio (wCons (wVar 5) (wCons (wVar 2) wNil))) wNil))) wNil))))) (wgN 4))
  (wRet (wCB aTupOf (wCons (wVar 4) wNil)))))))
def G_near : Fn := fun ds n Q => ∃ (a b : Rat) (z : List Nat), ds = [wD a b, .str z] ∧ Wr a ∧ Wr b ∧ Lets z ∧ z.length ≤ 8 ∧ Q (.tup [ratD (endR a b (numbersAt (plc 0 z)).1 z.length), ratD (endR a b (numbersAt (plc 0 z)).2 z.length)]) n
theorem body_near {ds : List Dat} {n : Nat} {QD : Dat → Nat → Prop} (h : G_near ds n QD) : bodyW 6 W_near ds n QD := by
  obtain ⟨a, b, z, rfl, ha, hb, hz, hl, h⟩ := h
  obtain ⟨p0, _⟩ := plc_zero z 0 (by decide) hz
  obtain ⟨p1, _⟩ := plc_top z 0 1 (by decide) (by decide) (by decide) hz
  obtain ⟨m0, m1⟩ := pow8 hl
  have m2 : (3 : Int) ^ z.length = ((3 ^ z.length : Nat) : Int) := by rw [Int.natCast_pow]; rfl
  have da := ha.den
  have db := hb.den
  have d1 := Nat.mul_le_mul db da
  have d2 := den_sub b a
  have fin : ∀ k : Int, 0 ≤ k → k ≤ 6561 → ∀ K : Dat → Nat → Prop, K (ratD (endR a b k z.length)) n → G_ratio [.int k, .int (3 ^ z.length)] n fun d n' => G_times [ratD (b - a), d] n' fun d n' => G_plus [ratD a, d] n' K := fun k k0 k1 K hK => by
    refine ⟨k, 3 ^ z.length, by rw [m2], m0, by omega, ?_⟩
    have e1 := den_mk k m0
    have e2 := Nat.mul_le_mul (Nat.le_trans d2 d1) (Nat.le_trans e1 m1)
    have e3 := den_mul (b - a) (mkRat k (3 ^ z.length))
    have e4 := Nat.mul_le_mul da (Nat.le_trans e3 e2)
    exact ⟨_, _, rfl, by omega, num_lt m0 (by omega), _, _, rfl, by omega, hK⟩
  unfold W_near
  walk_at "w"
  refine ⟨a, b, rfl, z, rfl, hz, by omega, ?_⟩
  walk_at "w"
  refine ⟨by omega, z.length, rfl, by omega, ?_⟩
  unfold wD
  walk_at "w"
  refine ⟨b, a, rfl, by omega, z, rfl, hz, _, rfl, ?_⟩
  walk_at "w"
  have q1 : 0 ≤ (numbersAt (plc 0 z)).1 ∧ (numbersAt (plc 0 z)).1 ≤ 6561 ∧ 0 ≤ (numbersAt (plc 0 z)).2 ∧ (numbersAt (plc 0 z)).2 ≤ 6561 := by
    unfold numbersAt
    split <;> simp <;> omega
  refine fin _ q1.1 q1.2.1 _ ?_
  refine ⟨by decide, fin _ q1.2.2.1 q1.2.2.2 _ ⟨by decide, h⟩⟩
abbrev G_is_below : Fn := Dl.G_below
def W_is_below : WS := (wRet (wOp aLt (wOp aMul (wOp aIx (wVar 0) (wC (.int 0))) (wOp aIx (wVar 1) (wC (.int 1)))) (wOp aMul (wOp aIx (wVar 1) (wC (.int 0))) (wOp aIx (wVar 0) (wC (.int 1))))))
theorem body_is_below {ds : List Dat} {n : Nat} {QD : Dat → Nat → Prop} (h : G_is_below ds n QD) : bodyW 2 W_is_below ds n QD := Dl.B_below h
-- apart names ['one', 'other']
def W_apart : WS := (wRet (wIf (wTest (wCall G_is_below (wCons (wVar 0) (wCons (wVar 1) wNil)))) (wCall G_less (wCons (wVar 1) (wCons (wVar 0) wNil))) (wCall G_less (wCons (wVar 0) (wCons (wVar 1) wNil)))))
def G_apart : Fn := fun ds n Q => ∃ a b : Rat, ds = [ratD a, ratD b] ∧ a.den ≤ 1000000 ∧ b.den ≤ 1000000 ∧ Q (ratD (absR (a - b))) n
theorem body_apart {ds : List Dat} {n : Nat} {QD : Dat → Nat → Prop} (h : G_apart ds n QD) : bodyW 2 W_apart ds n QD := by
  obtain ⟨a, b, rfl, p1, p2, h⟩ := h
  rw [← apart_abs] at h
  have q1 := Nat.mul_le_mul p1 p2
  have q2 := Nat.mul_le_mul p2 p1
  unfold W_apart
  walk_at "w"
  refine ⟨a, b, rfl, by omega, by omega, ?_⟩
  walk_at "w"
  split
  · rename_i c
    rw [if_pos c] at h
    exact ⟨b, a, rfl, by omega, h⟩
  · rename_i c
    rw [if_neg c] at h
    exact ⟨a, b, rfl, by omega, h⟩
-- rounds_of_ends names ['value', 'rounds', 'many', 'one']
def W_rounds_of_ends : WS := (wSeq (wFor (wRng1 (wCons (wOp aAdd (wC (.int 5)) (wC (.int 1))) wNil)) (wgN 1) (wSeq (wAsg (wOp aAdd (wCall G_power_of_three (wCons (wVar 1) wNil)) (wC (.int 1))) (wgN 2))
  (wIfS (wTest (wCall G_is_tuple (wCons (wVar 0) (wCons (wVar 2) (wCons (wVar 2) wNil))))) (wRet (wIf (wTest (wCB aAll (wCons (wFz (wLc (wAnyIt (wVar 0)) [3] (wgN 3) wYes (wCall G_is_ratio (wCons (wVar 3) wNil)))) wNil))) (wVar 1) (wC .non))) wNext)))
  (wRet (wC .non)))
def G_rounds_of_ends : Fn := fun ds n Q => ∃ (m : Nat) (xs : List Rat), ds = [.tup (xs.map ratD)] ∧ m ≤ 3 ∧ xs.length = 3 ^ m + 1 ∧ Q (.int m) n
theorem body_rounds_of_ends {ds : List Dat} {n : Nat} {QD : Dat → Nat → Prop} (h : G_rounds_of_ends ds n QD) : bodyW 4 W_rounds_of_ends ds n QD := by
  obtain ⟨m, xs, rfl, hm, hl, h⟩ := h
  unfold W_rounds_of_ends
  walk_at "w"
  refine ⟨by decide, by decide, ?_⟩
  refine forW_at _ (fun i S => i ≤ m ∧ ∃ s1 s2, S = ⟨[.im (.tup (xs.map ratD)), s1, s2, .un], n⟩) _ ?_ ⟨by omega, _, _, rfl⟩ ?_
  · rintro i d S hd ⟨hi, s1, s2, rfl⟩ N hN
    obtain ⟨hi2, rfl⟩ := intsD_get hd
    obtain ⟨m0, m1⟩ := pow11 (show m ≤ 11 by omega)
    walk_at "w"
    simp only [Int.zero_add]
    refine ⟨i, rfl, by omega, ?_⟩
    walk_at "w"
    refine ⟨_, _, _, rfl, by rw [List.length_map]; have : (3 : Nat) ^ m ≤ 27 := Nat.pow_le_pow_right (by decide) hm; omega, ?_⟩
    rw [List.length_map, hl]
    have i2 : (3 : Int) ^ i = ((3 ^ i : Nat) : Int) := by rw [Int.natCast_pow]; rfl
    by_cases c : i = m
    · subst c
      rw [decide_eq_true (by rw [i2]; omega)]
      walk_at "w"
      refine lcW_map (fun _ => .bl true) _ _ (by rw [List.length_map]; have : (3 : Nat) ^ i ≤ 27 := Nat.pow_le_pow_right (by decide) hm; omega) (fun d hd R R0 hR => ?_) ?_
      · obtain ⟨q, hq, rfl⟩ := List.mem_map.mp hd
        walk_at "w"
        exact ⟨q, rfl, hR⟩
      · obtain ⟨bs, b1, b2⟩ := isBls_all (l := (xs.map ratD).map fun _ => .bl true) (by simp)
        refine ⟨bs, b1, ?_⟩
        rw [b2]
        walk_at "w"
        exact h
    · have lt : (3 : Nat) ^ i < 3 ^ m := Nat.pow_lt_pow_right (by decide) (by omega)
      rw [decide_eq_false (by rw [i2]; omega)]
      walk_at "w"
      exact hN _ ⟨by omega, _, _, rfl⟩
  · rintro S ⟨hi, s1, s2, rfl⟩
    simp [intsD] at hi
    omega
abbrev G_word_of : Fn := Dl.G_word_of
def W_word_of : WS := (wSeq (wAsg (wC (.str ("" : Str).cps.toList)) (wgN 2))
  (wSeq (wFor (wRng1 (wCons (wVar 0) wNil)) (wgN 3) (wSeq (wAsg (wOp aFd (wVar 1) (wC (.int 3))) (wgN 4))
  (wSeq (wAsg (wOp aAdd (wOp aIx (wOp aIx (wC d_BACK) (wOp aMod (wVar 4) (wC (.int 2)))) (wOp aMod (wVar 1) (wC (.int 3)))) (wVar 2)) (wgN 2))
  (wAsg (wVar 4) (wgN 1)))))
  (wRet (wVar 2))))
theorem body_word_of {ds : List Dat} {n : Nat} {QD : Dat → Nat → Prop} (h : G_word_of ds n QD) : bodyW 5 W_word_of ds n QD := Dl.B_word_of h
-- widest names ['ends', 'rounds', 'found', 'most', 'its', 'here']
def W_widest : WS := (wSeq (wAsg (wCall G_rounds_of_ends (wCons (wVar 0) wNil)) (wgN 1))
  (wSeq (wIfS (wTest (wOp aIsW (wVar 1) (wC .non))) wNever wNext)
  (wSeq (wPar 2 3 (wCons (wC (.int 0)) (wCons (wCall G_apart (wCons (wOp aIx (wVar 0) (wC (.int 0))) (wCons (wOp aIx (wVar 0) (wC (.int 1))) wNil))) wNil)))
  (wSeq (wFor (wRng2 (wCons (wC (.int 1)) (wCons (wCall G_power_of_three (wCons (wVar 1) wNil)) wNil))) (wgN 4) (wSeq (wAsg (wCall G_apart (wCons (wOp aIx (wVar 0) (wVar 4)) (wCons (wOp aIx (wVar 0) (wOp aAdd (wVar 4) (wC (.int 1)))) wNil))) (wgN 5))
  (wIfS (wTest (wCall G_is_below (wCons (wVar 3) (wCons (wVar 5) wNil)))) (wPar 2 3 (wCons (wVar 4) (wCons (wVar 5) wNil))) wNext)))
  (wRet (wTup (wCons (wCall G_word_of (wCons (wVar 1) (wCons (wVar 2) wNil))) (wCons (wVar 3) wNil))))))))
def G_widest : Fn := fun ds n Q => ∃ (m : Nat) (xs : List Rat), ds = [.tup (xs.map ratD)] ∧ m ≤ 3 ∧ xs.length = 3 ^ m + 1 ∧ (∀ q ∈ xs, q.den ≤ 1000000) ∧ ∀ (k : Nat) (M : Rat), FirstMax (dif xs) (3 ^ m) k M → Q (.tup [.str (wordOf m k), ratD M]) n
theorem body_widest {ds : List Dat} {n : Nat} {QD : Dat → Nat → Prop} (h : G_widest ds n QD) : bodyW 6 W_widest ds n QD := by
  obtain ⟨m, xs, rfl, hm, hl, hx, h⟩ := h
  unfold W_widest
  walk_at "w"
  refine ⟨m, xs, rfl, hm, hl, ?_⟩
  obtain ⟨m0, m1⟩ := pow11 (show m ≤ 11 by omega)
  have gd := fun i => getD_den hx (by decide) i
  walk_at "w"
  refine ⟨_, rat_get (by omega), _, rat_get (by omega), _, _, rfl, gd 0, gd 1, m, rfl, by omega, ?_⟩
  have m2 : (3 : Int) ^ m = ((3 ^ m : Nat) : Int) := by rw [Int.natCast_pow]; rfl
  rw [m2]
  walk_at "w"
  refine ⟨⟨by omega, by omega⟩, ?_⟩
  have hz : (intsD 1 (((3 ^ m : Nat) : Int) - 1).toNat).length = 3 ^ m - 1 := by
    rw [intsD, List.length_map, List.length_range]
    omega
  refine forW_at _ (fun i S => ∃ k M s4 s5, FirstMax (dif xs) (1 + i) k M ∧ S = ⟨[.im (.tup (xs.map ratD)), .im (.int m), .im (.int (k : Nat)), .im (ratD M), s4, s5], n⟩) _ ?_ ⟨0, dif xs 0, _, _, FirstMax.one _, rfl⟩ ?_
  · rintro i d S hd ⟨k, M, s4, s5, fm, rfl⟩ N hN
    have hi3 := (List.getElem?_eq_some_iff.mp hd).1
    rw [hz] at hi3
    obtain ⟨hi2, rfl⟩ := intsD_get hd
    walk_at "w"
    have a1 : atI (xs.map ratD) (1 + (i : Int)) = some (ratD (xs.getD (1 + i) 0)) := by
      rw [show 1 + (i : Int) = ((1 + i : Nat) : Int) by omega, atI_pos (by omega)]; exact rat_get (by omega)
    have a2 : atI (xs.map ratD) (1 + (i : Int) + 1) = some (ratD (xs.getD (1 + i + 1) 0)) := by
      rw [show 1 + (i : Int) + 1 = ((1 + i + 1 : Nat) : Int) by omega, atI_pos (by omega)]
      exact rat_get (by omega)
    refine ⟨_, a1, _, a2, _, _, rfl, gd _, gd _, ?_⟩
    have e1 : M.den ≤ 1000000000000 := by rw [fm.at_]; exact dif_den hx _
    have e2 := dif_den hx (1 + i)
    refine ⟨M, dif xs (1 + i), rfl, by omega, by omega, ?_⟩
    walk_at "w"
    split
    · rename_i c
      exact hN _ ⟨1 + i, _, _, _, fm.new c, by rw [show ((1 + i : Nat) : Int) = 1 + (i : Int) by omega]; rfl⟩
    · rename_i c
      exact hN _ ⟨_, _, _, _, fm.keep c, rfl⟩
  · rintro S ⟨k, M, s4, s5, fm, rfl⟩
    rw [hz, show 1 + (3 ^ m - 1) = 3 ^ m by omega] at fm
    walk_at "w"
    refine ⟨m, k, rfl, by omega, by omega, ?_⟩
    walk_at "w"
    exact h k M fm
-- _law_are_ends_right names ['pot', 'worths', 'rounds', 'many', 'marks', 'told', 'plain', 'word', 'number', 'end', 'lap']
def W__law_are_ends_right : WS := (wSeq (wAsg (wOp aAdd (wCB aLen (wCons (wCall G__law_row_words (wCons (wVar 2) wNil)) wNil)) (wC (.int 1))) (wgN 3))
  (wSeq (wAsg (wOp aAdd (wOp aAdd (wFz (wLst (wCons (wOp aIx (wVar 1) (wC (.int 0))) wNil))) (wFz (wLc (wRng1 (wCons (wOp aSub (wVar 3) (wC (.int 2))) wNil)) [10] (wgN 10) wYes (wCall G__law_frac_drawn (wCons (wVar 0) (wCons (wUn aNeg (wC (.int 3))) (wCons (wC (.int 3)) wNil))))))) (wFz (wLst (wCons (wOp aIx (wVar 1) (wC (.int 1))) wNil)))) (wgN 4))
  (wSeq (wAsg (wCall G_widest (wCons (wCB aTupOf (wCons (wVar 4) wNil)) wNil)) (wgN 5))
  (wSeq (wIfS (wNot (wTest (wCall (G__law_is 3) (wCons (wVar 5) (wCons (wCall G__law_widest (wCons (wVar 4) (wCons (wVar 2) wNil))) wNil))))) (wRet (wC (.bl false))) wNext)
  (wSeq (wIfS (wTest (wCall G__law_frac_is_less (wCons (wOp aIx (wVar 5) (wC (.int 1))) (wCons (wCall G__law_gap (wCons (wVar 1) (wCons (wVar 2) wNil))) wNil)))) (wRet (wC (.bl false))) wNext)
  (wSeq (wOwn (wLc (wRng1 (wCons (wVar 3) wNil)) [10] (wgN 10) wYes (wOp aIx (wVar 1) (wC (.int 0)))) 6)
  (wSeq (wFor (wAnyIt (wCall G__law_row_words (wCons (wVar 2) wNil))) (wgN 7) (wFor (wZip (wCons (wCall G__law_row_numbers (wCons (wVar 7) wNil)) (wCons (wCall G_near (wCons (wVar 1) (wCons (wVar 7) wNil))) wNil))) (wgTup 2 (wgCons (wgN 8) (wgCons (wgN 9) wgNil))) (wSet 6 (wVar 9) (wVar 8))))
  (wRet (wCall (G__law_is 3) (wCons (wOp aIx (wCall G_widest (wCons (wCB aTupOf (wCons (wVar 6) wNil)) wNil)) (wC (.int 1))) (wCons (wCall G__law_gap (wCons (wVar 1) (wCons (wVar 2) wNil))) wNil)))))))))))
def B6__law_are_ends_right : WS := (wFor (wZip (wCons (wCall G__law_row_numbers (wCons (wVar 7) wNil)) (wCons (wCall G_near (wCons (wVar 1) (wCons (wVar 7) wNil))) wNil))) (wgTup 2 (wgCons (wgN 8) (wgCons (wgN 9) wgNil))) (wSet 6 (wVar 9) (wVar 8)))
def C6__law_are_ends_right : WS := (wRet (wCall (G__law_is 3) (wCons (wOp aIx (wCall G_widest (wCons (wCB aTupOf (wCons (wVar 6) wNil)) wNil)) (wC (.int 1))) (wCons (wCall G__law_gap (wCons (wVar 1) (wCons (wVar 2) wNil))) wNil))))
def C5__law_are_ends_right : WS := (wSeq (wFor (wAnyIt (wCall G__law_row_words (wCons (wVar 2) wNil))) (wgN 7) B6__law_are_ends_right)
  C6__law_are_ends_right)
def C4__law_are_ends_right : WS := (wSeq (wOwn (wLc (wRng1 (wCons (wVar 3) wNil)) [10] (wgN 10) wYes (wOp aIx (wVar 1) (wC (.int 0)))) 6)
  C5__law_are_ends_right)
def C3__law_are_ends_right : WS := (wSeq (wIfS (wTest (wCall G__law_frac_is_less (wCons (wOp aIx (wVar 5) (wC (.int 1))) (wCons (wCall G__law_gap (wCons (wVar 1) (wCons (wVar 2) wNil))) wNil)))) (wRet (wC (.bl false))) wNext)
  C4__law_are_ends_right)
def C2__law_are_ends_right : WS := (wSeq (wIfS (wNot (wTest (wCall (G__law_is 3) (wCons (wVar 5) (wCons (wCall G__law_widest (wCons (wVar 4) (wCons (wVar 2) wNil))) wNil))))) (wRet (wC (.bl false))) wNext)
  C3__law_are_ends_right)
def C1__law_are_ends_right : WS := (wSeq (wAsg (wCall G_widest (wCons (wCB aTupOf (wCons (wVar 4) wNil)) wNil)) (wgN 5))
  C2__law_are_ends_right)
theorem c__law_are_ends_right : W__law_are_ends_right = (wSeq (wAsg (wOp aAdd (wCB aLen (wCons (wCall G__law_row_words (wCons (wVar 2) wNil)) wNil)) (wC (.int 1))) (wgN 3))
  (wSeq (wAsg (wOp aAdd (wOp aAdd (wFz (wLst (wCons (wOp aIx (wVar 1) (wC (.int 0))) wNil))) (wFz (wLc (wRng1 (wCons (wOp aSub (wVar 3) (wC (.int 2))) wNil)) [10] (wgN 10) wYes (wCall G__law_frac_drawn (wCons (wVar 0) (wCons (wUn aNeg (wC (.int 3))) (wCons (wC (.int 3)) wNil))))))) (wFz (wLst (wCons (wOp aIx (wVar 1) (wC (.int 1))) wNil)))) (wgN 4))
  C1__law_are_ends_right)) := rfl
theorem endR_zero (a b : Rat) (m : Nat) : endR a b ((0 : Nat) : Int) m = a := by
  unfold endR
  rw [mk_mul]
  simp
  exact Rat.add_zero a
/-- the ends, as far as words were asked -/
def plD (a b : Rat) (m j : Nat) : List Dat := (List.range (3 ^ m + 1)).map fun (k : Nat) => ratD (if k ≤ j then endR a b k m else a)
theorem plD_len (a b : Rat) (m j : Nat) : (plD a b m j).length = 3 ^ m + 1 := by simp [plD]
theorem plD_all (a b : Rat) (m : Nat) : plD a b m (3 ^ m) = (endsL a b m).map ratD := by
  unfold plD endsL
  rw [List.map_map]
  refine List.map_congr_left fun k hk => ?_
  have := List.mem_range.mp hk
  rw [if_pos (by omega)]
  rfl
theorem plD_next (a b : Rat) (m j : Nat) {x y : Nat} (h : x = j ∧ y = j + 1 ∨ x = j + 1 ∧ y = j) : ((plD a b m j).set x (ratD (endR a b x m))).set y (ratD (endR a b y m)) = plD a b m (j + 1) := by
  apply List.ext_getElem
  · simp [plD]
  · intro k h1 h2
    have hk : k < 3 ^ m + 1 := by simpa [plD] using h2
    rw [List.getElem_set, List.getElem_set]
    simp only [plD, List.getElem_map, List.getElem_range]
    by_cases c1 : y = k
    · subst c1
      rw [if_pos rfl, if_pos (by omega)]
    · rw [if_neg c1]
      by_cases c2 : x = k
      · subst c2
        rw [if_pos rfl, if_pos (by omega)]
      · rw [if_neg c2]
        by_cases c3 : k ≤ j
        · rw [if_pos c3, if_pos (by omega)]
        · rw [if_neg c3, if_neg (by omega)]
theorem rats_of : ∀ {xs : List Dat}, (∀ x ∈ xs, ∃ q, Wr q ∧ x = ratD q) → ∃ qs : List Rat, xs = qs.map ratD ∧ ∀ q ∈ qs, Wr q
  | [], _ => ⟨[], rfl, fun q hq => nomatch hq⟩
  | x :: xs, h => by
    obtain ⟨q, hq, rfl⟩ := h x List.mem_cons_self
    obtain ⟨qs, rfl, hqs⟩ := rats_of fun y hy => h y (List.mem_cons_of_mem _ hy)
    exact ⟨q :: qs, rfl, fun p hp => (List.mem_cons.mp hp).elim (fun e => e ▸ hq) (hqs p)⟩
def G__law_are_ends_right : Fn := fun ds n Q => ∃ (a b : Rat) (m : Nat), ds = [.pot, wD a b, .int m] ∧ Wr a ∧ Wr b ∧ m ≤ 3 ∧ n ≤ 1000 ∧ Q (.bl true) (n + 100)
theorem body__law_are_ends_right {ds : List Dat} {n : Nat} {QD : Dat → Nat → Prop} (h : G__law_are_ends_right ds n QD) : bodyP 11 W__law_are_ends_right ds n QD := by
  obtain ⟨a, b, m, rfl, ha, hb, hm, hn, h⟩ := h
  have p27 : (3 : Nat) ^ m ≤ 27 := Nat.pow_le_pow_right (by decide) hm
  have p0 : 0 < (3 : Nat) ^ m := Nat.pow_pos (by decide)
  have wl : (wordsBy m).length = 3 ^ m := by simp [wordsBy, natsZ]
  have da := ha.den
  have db := hb.den
  rw [c__law_are_ends_right]
  unfold wD
  walk_at "w"
  refine ⟨m, rfl, by omega, ?_⟩
  walk_at "w"
  rw [wl]
  refine ⟨by omega, by omega, ?_⟩
  have hz : (intsD 0 (((3 ^ m : Nat) : Int) + 1 - 2).toNat).length = 3 ^ m - 1 := by
    rw [intsD, List.length_map, List.length_range]
    omega
  refine lcW_draw (fun x => ∃ q, Wr q ∧ x = ratD q) 2 _ _ _ _ (by rw [hz]; simp; omega) (by rw [hz]; omega) (fun d hd n R R0 hn hR => ?_) (fun ys hl hx => ?_)
  · walk_at "w"
    exact ⟨_, _, rfl, .inr ⟨rfl, rfl⟩, hn, fun q hq => hR _ ⟨q, hq, rfl⟩⟩
  obtain ⟨qs, rfl, hq⟩ := rats_of hx
  rw [hz] at hl ⊢
  rw [List.length_map] at hl
  generalize hn2 : n + 2 * (3 ^ m - 1) = n2
  have hn3 : n2 ≤ n + 60 := by omega
  have em : ratD a :: (qs.map ratD ++ [ratD b]) = (a :: (qs ++ [b])).map ratD := by simp
  have xl : (a :: (qs ++ [b])).length = 3 ^ m + 1 := by simp; omega
  have xw : ∀ q ∈ a :: (qs ++ [b]), Wr q := fun q hq2 => by
    simp only [List.mem_cons, List.mem_append, List.not_mem_nil, or_false] at hq2
    rcases hq2 with rfl | hq2 | rfl
    · exact ha
    · exact hq q hq2
    · exact hb
  have x0 : (a :: (qs ++ [b])).getD 0 0 = a := rfl
  have x1 : (a :: (qs ++ [b])).getD (3 ^ m) 0 = b := by
    obtain ⟨k, hk⟩ : ∃ k, 3 ^ m = k + 1 := ⟨3 ^ m - 1, by omega⟩
    rw [hk, List.getD_cons_succ, List.getD_eq_getElem?_getD, List.getElem?_append_right (by omega), show k - qs.length = 0 by omega]
    rfl
  generalize a :: (qs ++ [b]) = xs at em xl xw x0 x1
  have xd : ∀ q ∈ xs, q.den ≤ 1000000 := fun q hq => Nat.le_trans (xw q hq).den (by decide)
  walk_at "w"
  rw [List.length_map, hl]
  refine ⟨by omega, by simp; omega, ?_⟩
  rw [em]
  have c0 := fun q => cmpOk_nice (nice_rat q 0)
  unfold C1__law_are_ends_right
  walk_at "w"
  refine ⟨m, xs, rfl, hm, xl, xd, fun k M fm => ?_⟩
  walk_at "w"
  unfold C2__law_are_ends_right
  walk_at "w"
  refine ⟨m, k, xs, M, rfl, hm, xl, xd, fm, ?_⟩
  refine ⟨_, rfl, ⟨by simp, fun z hz => ?_⟩, ?_⟩
  · rcases List.mem_cons.mp hz with rfl | hz
    · exact trivial
    · rcases List.mem_cons.mp hz with rfl | hz
      · exact sim_rat _ 0
      · cases hz
  walk_at "w"
  have M0 : 0 ≤ M := by rw [fm.at_]; unfold dif; exact absR_nn _
  have Md : M.den ≤ 1000000000000 := by rw [fm.at_]; exact dif_den xd _
  have gl := gap_le (xs := xs) (m := m) M0 fm.le
  rw [x0, x1] at gl
  obtain ⟨m0, m1⟩ := pow11 (show m ≤ 11 by omega)
  have d1 := Nat.mul_le_mul ha.den hb.den
  have d2 := den_sub a b
  have d3 := den_mk 1 m0
  have d4 := Nat.mul_le_mul (Nat.le_trans d2 d1) (Nat.le_trans d3 m1)
  have d5 : (gapR a b m).den ≤ 5 * 5 * 177147 := by
    have d5 := den_mul (absR (a - b)) (mkRat 1 (3 ^ m))
    rw [absR_den] at d5
    exact Nat.le_trans d5 d4
  unfold C3__law_are_ends_right
  walk_at "w"
  refine ⟨a, b, m, rfl, ha, hb, by omega, ?_⟩
  refine ⟨M, gapR a b m, rfl, by omega, by omega, ?_⟩
  rw [decide_eq_false (show ¬ M < gapR a b m from Rat.not_lt.mpr gl)]
  walk_at "w"
  unfold C4__law_are_ends_right
  walk_at "w"
  refine ⟨by omega, by omega, ?_⟩
  refine lcW_map (fun _ => ratD a) _ _ (by rw [intsD, List.length_map, List.length_range]; omega) (fun d hd R R0 hR => ?_) ?_
  · walk_at "w"
    exact hR
  have e0 : (intsD 0 (((3 ^ m : Nat) : Int) + 1).toNat).map (fun _ => ratD a) = plD a b m 0 := by
    unfold plD intsD
    rw [List.map_map, show (((3 ^ m : Nat) : Int) + 1).toNat = 3 ^ m + 1 by omega]
    refine List.map_congr_left fun k _ => ?_
    show ratD a = ratD _
    split
    · rename_i c
      have : k = 0 := by omega
      subst this
      rw [endR_zero]
    · rfl
  rw [e0]
  unfold C5__law_are_ends_right
  walk_at "w"
  refine ⟨m, rfl, by omega, ?_⟩
  walk_at "w"
  refine forW_at _ (fun j S => j ≤ 3 ^ m ∧ ∃ s7 s8 s9, S = ⟨[.im .pot, .im (.tup [ratD a, ratD b]), .im (.int m), .im (.int (((3 ^ m : Nat) : Int) + 1)), .im (.lst (xs.map ratD)), .im (.tup [.str (wordOf m k), ratD M]), .ow (plD a b m j), s7, s8, s9, .un], n2⟩) _ ?_ ⟨by omega, _, _, _, rfl⟩ ?_
  · rintro j d S hd ⟨hj, s7, s8, s9, rfl⟩ N hN
    have hj2 : j < 3 ^ m := by rw [← wl]; exact (List.getElem?_eq_some_iff.mp hd).1
    have hw : (wordsBy m)[j]? = some (.str (wordOf m j)) := by
      unfold wordsBy natsZ
      rw [List.map_map, List.getElem?_map, List.getElem?_range hj2]
      rfl
    rw [hw] at hd
    cases hd
    have m2 : (3 : Int) ^ m = ((3 ^ m : Nat) : Int) := by rw [Int.natCast_pow]; rfl
    have pj : plc 0 (wordOf m j) = j := plc_wordOf m j (by omega) (by omega)
    have lj := wordOf_len m j
    have hh : heard (0, 1) (wordOf m j) = numbersAt j := by
      have := heard_at (wordOf m j) 0 (wordOf_lets m j)
      rw [pj] at this
      exact this
    unfold B6__law_are_ends_right
    walk_at "w"
    refine ⟨_, rfl, ?_⟩
    rw [hh]
    refine ⟨a, b, _, rfl, ha, hb, wordOf_lets m j, by omega, ?_⟩
    rw [pj, lj]
    obtain ⟨x, y, e1, hxy⟩ : ∃ x y : Nat, numbersAt (j : Int) = ((x : Int), (y : Int)) ∧ (x = j ∧ y = j + 1 ∨ x = j + 1 ∧ y = j) := by
      unfold numbersAt
      split
      · exact ⟨j, j + 1, rfl, .inl ⟨rfl, rfl⟩⟩
      · exact ⟨j + 1, j, rfl, .inr ⟨rfl, rfl⟩⟩
    rw [e1]
    walk_at "w"
    simp only [zipD, forW]
    walk_at "w"
    have ix : ∀ (l : List Dat) (i : Nat), i < l.length → ixN l.length (i : Int) = some i := fun l i hi => by
      unfold ixN
      simp
      omega
    refine ⟨x, ix _ _ (by rw [plD_len]; omega), y, ix _ _ (by rw [List.length_set, plD_len]; omega), ?_⟩
    rw [plD_next a b m j hxy]
    exact hN _ ⟨by omega, _, _, _, rfl⟩
  · rintro S ⟨hj, s7, s8, s9, rfl⟩
    dsimp only
    rw [wl, plD_all]
    unfold C6__law_are_ends_right
    walk_at "w"
    have el : (endsL a b m).length = 3 ^ m + 1 := by simp [endsL]
    have ed : ∀ q ∈ endsL a b m, q.den ≤ 1000000 := fun q hq => by
      obtain ⟨k, _, rfl⟩ := List.mem_map.mp hq
      have z1 := Nat.mul_le_mul db da
      have z2 := den_mk (k : Int) m0
      have z3 := Nat.mul_le_mul (Nat.le_trans (den_sub b a) z1) (Nat.le_trans z2 p27)
      have z4 := den_mul (b - a) (mkRat (k : Int) (3 ^ m))
      have z5 := Nat.mul_le_mul da (Nat.le_trans z4 z3)
      exact Nat.le_trans (den_add _ _) (Nat.le_trans z5 (by decide))
    refine ⟨m, _, rfl, hm, el, ed, fun k2 M2 fm2 => ?_⟩
    have e2 : M2 = gapR a b m := by rw [fm2.at_]; exact endsL_dif fm2.lt
    rw [e2]
    walk_at "w"
    refine ⟨a, b, m, rfl, ha, hb, by omega, ?_⟩
    refine ⟨_, rfl, sim_rat _ 1, ?_⟩
    exact ⟨n + 100, by omega, by omega, h⟩
-- _law_needed names ['worths', 'goal', 'rounds']
def W__law_needed : WS := (wSeq (wFor (wRng1 (wCons (wC (.int 40)) wNil)) (wgN 2) (wIfS (wNot (wTest (wCall G__law_frac_is_less (wCons (wVar 1) (wCons (wCall G__law_gap (wCons (wVar 0) (wCons (wVar 2) wNil))) wNil))))) (wRet (wVar 2)) wNext))
  (wRet (wC .non)))
def G__law_needed : Fn := fun ds n Q => ∃ (a b g : Rat) (N : Nat), ds = [wD a b, ratD g] ∧ Wr a ∧ Wr b ∧ g.den ≤ 1000 ∧ N ≤ 10 ∧ (∀ i, i < N → g < gapR a b i) ∧ ¬ g < gapR a b N ∧ Q (.int N) n
theorem body__law_needed {ds : List Dat} {n : Nat} {QD : Dat → Nat → Prop} (h : G__law_needed ds n QD) : bodyW 3 W__law_needed ds n QD := by
  obtain ⟨a, b, g, N, rfl, ha, hb, hg, hN, h1, h2, h⟩ := h
  unfold W__law_needed
  walk_at "w"
  refine forW_at _ (fun i S => i ≤ N ∧ ∃ s2, S = ⟨[.im (wD a b), .im (ratD g), s2], n⟩) _ ?_ ⟨by omega, _, rfl⟩ ?_
  · rintro i d S hd ⟨hi, s2, rfl⟩ K hK
    obtain ⟨hi2, rfl⟩ := intsD_get hd
    walk_at "w"
    simp only [Int.zero_add]
    obtain ⟨m0, m1⟩ := pow11 (show i ≤ 11 by omega)
    have d1 := Nat.mul_le_mul ha.den hb.den
    have d2 := den_sub a b
    have d3 := den_mk 1 m0
    have d4 := Nat.mul_le_mul (Nat.le_trans d2 d1) (Nat.le_trans d3 m1)
    have d5 := den_mul (absR (a - b)) (mkRat 1 (3 ^ i))
    rw [absR_den] at d5
    refine ⟨a, b, i, rfl, ha, hb, by omega, ?_⟩
    refine ⟨g, gapR a b i, rfl, by omega, by unfold gapR; omega, ?_⟩
    walk_at "w"
    by_cases c : i = N
    · subst c
      rw [decide_eq_false h2]
      walk_at "w"
      exact h
    · rw [decide_eq_true (h1 i (by omega))]
      walk_at "w"
      exact hK _ ⟨by omega, _, rfl⟩
  · rintro S ⟨hi, s2, rfl⟩
    simp [intsD] at hi
    omega
-- _law_worths names ['pot', 'one']
def W__law_worths : WS := (wSeq (wAsg (wCall G__law_frac_drawn (wCons (wVar 0) (wCons (wUn aNeg (wC (.int 5))) (wCons (wC (.int 5)) wNil)))) (wgN 1))
  (wRet (wTup (wCons (wVar 1) (wCons (wIf (wTest (wOp aEq (wCall G__law_take (wCons (wVar 0) (wCons (wC (.int 6)) wNil))) (wC (.int 0)))) (wVar 1) (wCall G__law_frac_drawn (wCons (wVar 0) (wCons (wUn aNeg (wC (.int 5))) (wCons (wC (.int 5)) wNil))))) wNil)))))
def G__law_worths : Fn := fun ds n Q => ds = [.pot] ∧ n + 5 ≤ 1000000 ∧ ∀ a b : Rat, Wr a → Wr b → Q (wD a b) (n + 5)
theorem body__law_worths {ds : List Dat} {n : Nat} {QD : Dat → Nat → Prop} (h : G__law_worths ds n QD) : bodyP 2 W__law_worths ds n QD := by
  obtain ⟨rfl, hn, h⟩ := h
  unfold W__law_worths
  walk_at "w"
  refine ⟨_, _, rfl, .inl ⟨rfl, rfl⟩, by omega, fun a ha => ⟨6, rfl, by omega, by omega, by omega, fun r r0 r1 => ?_⟩⟩
  walk_at "w"
  split
  · exact ⟨n + 5, by omega, hn, h a a ha ha⟩
  · exact ⟨_, _, rfl, .inl ⟨rfl, rfl⟩, by omega, fun b hb => ⟨n + 5, by omega, hn, h a b ha hb⟩⟩
-- is_size names ['value']
def W_is_size : WS := (wRet (wAndV (wCall G_is_ratio (wCons (wVar 0) wNil)) (wOp aGt (wOp aIx (wVar 0) (wC (.int 0))) (wC (.int 0)))))
def G_is_size : Fn := fun ds n Q => ∃ q : Rat, ds = [ratD q] ∧ 0 < q ∧ Q (.bl true) n
theorem body_is_size {ds : List Dat} {n : Nat} {QD : Dat → Nat → Prop} (h : G_is_size ds n QD) : bodyW 1 W_is_size ds n QD := by
  obtain ⟨q, rfl, hq, h⟩ := h
  unfold W_is_size
  walk_at "w"
  refine ⟨q, rfl, ?_⟩
  unfold ratD
  walk_at "w"
  rw [decide_eq_true (show 0 < q.num by have := (Rat.lt_iff 0 q).mp hq; simpa using this)]
  exact h
-- needed names ['worths', 'distance', 'rounds', 'here']
def W_needed : WS := (wSeq (wDrop (wCall G_check_worths (wCons (wVar 0) wNil)))
  (wSeq (wIfS (wNot (wTest (wCall G_is_size (wCons (wVar 1) wNil)))) wNever wNext)
  (wSeq (wPar 2 3 (wCons (wC (.int 0)) (wCons (wCall G_apart (wCons (wOp aIx (wVar 0) (wC (.int 0))) (wCons (wOp aIx (wVar 0) (wC (.int 1))) wNil))) wNil)))
  (wSeq (wWhile (wTest (wCall G_is_below (wCons (wVar 1) (wCons (wVar 3) wNil)))) (wPar 2 3 (wCons (wOp aAdd (wVar 2) (wC (.int 1))) (wCons (wCall G_times (wCons (wVar 3) (wCons (wC d_THIRD) wNil))) wNil))))
  (wRet (wVar 2))))))
def G_needed : Fn := fun ds n Q => ∃ (a b g : Rat) (N : Nat), ds = [wD a b, ratD g] ∧ Wr a ∧ Wr b ∧ 0 < g ∧ g.den ≤ 1000 ∧ N ≤ 10 ∧ (∀ i, i < N → g < gapR a b i) ∧ ¬ g < gapR a b N ∧ Q (.int N) n
theorem body_needed {ds : List Dat} {n : Nat} {QD : Dat → Nat → Prop} (h : G_needed ds n QD) : bodyW 4 W_needed ds n QD := by
  obtain ⟨a, b, g, N, rfl, ha, hb, hg0, hg, hN, h1, h2, h⟩ := h
  unfold W_needed
  walk_at "w"
  refine ⟨a, b, rfl, g, rfl, hg0, ?_⟩
  unfold wD
  walk_at "w"
  refine ⟨a, b, rfl, by have := ha.den; omega, by have := hb.den; omega, ?_⟩
  walk_at "w"
  refine wWhile_at (fun S => ∃ i : Nat, i ≤ N ∧ S = ⟨[.im (.tup [ratD a, ratD b]), .im (ratD g), .im (.int i), .im (ratD (gapR a b i))], n⟩) (fun S => match S.sl with | [_, _, .im (.int i), _] => N - i.toNat | _ => 0) ?_ ⟨0, by omega, ?_⟩
  · rintro S ⟨i, hi, rfl⟩ K hK
    obtain ⟨m0, m1⟩ := pow11 (show i ≤ 11 by omega)
    have d1 := Nat.mul_le_mul ha.den hb.den
    have d2 := den_sub a b
    have d3 := den_mk 1 m0
    have d4 := Nat.mul_le_mul (Nat.le_trans d2 d1) (Nat.le_trans d3 m1)
    have d5 := den_mul (absR (a - b)) (mkRat 1 (3 ^ i))
    rw [absR_den] at d5
    walk_at "w"
    refine ⟨g, gapR a b i, rfl, by omega, by unfold gapR; omega, ?_⟩
    walk_at "w"
    by_cases c : i = N
    · subst c
      rw [if_neg h2]
      exact h
    · rw [if_pos (h1 i (by omega))]
      unfold d_THIRD
      refine ⟨gapR a b i, mkRat 1 3, rfl, ?_, by decide, ?_⟩
      · show (gapR a b i).den * 3 < _
        unfold gapR
        omega
      walk_at "w"
      refine hK _ ⟨i + 1, by omega, ?_⟩ ?_
      · rw [show gapR a b i * mkRat 1 3 = gapR a b (i + 1) by unfold gapR; rw [← third, show mkRat 1 3 = (1 : Rat) / 3 by decide +kernel]; grind]
        rfl
      · show N - ((i : Int) + 1).toNat < N - (i : Int).toNat
        omega
  · unfold gapR
    rw [show mkRat 1 (3 ^ 0) = 1 from rfl, Rat.mul_one]
    rfl
-- _law_right names ['pot', 'lap', 'worths', 'some', 'goal']
def W__law_right : WS := (wSeq (wFor (wRng1 (wCons (wC (.int 4)) wNil)) (wgN 1) (wSeq (wAsg (wCall G__law_worths (wCons (wVar 0) wNil)) (wgN 2))
  (wSeq (wAsg (wFz (wLst (wCons (wTup (wCons (wC (.int 1)) (wCons (wC (.int 1)) wNil))) (wCons (wTup (wCons (wC (.int 1)) (wCons (wC (.int 100)) wNil))) (wCons (wTup (wCons (wC (.int 1)) (wCons (wC (.int 400)) wNil))) (wCons (wTup (wCons (wC (.int 7)) (wCons (wC (.int 3)) wNil))) (wCons (wTup (wCons (wC (.int 1)) (wCons (wC (.int 9)) wNil))) (wCons (wTup (wCons (wC (.int 2)) (wCons (wC (.int 81)) wNil))) wNil)))))))) (wgN 3))
  (wSeq (wAsg (wCall G__law_of (wCons (wVar 0) (wCons (wOp aAdd (wVar 3) (wFz (wLst (wCons (wCall G__law_frac (wCons (wC (.int 1)) (wCons (wOp aAdd (wC (.int 1)) (wCall G__law_take (wCons (wVar 0) (wCons (wC (.int 99)) wNil)))) wNil))) wNil)))) wNil))) (wgN 4))
  (wSeq (wIfS (wNot (wTest (wCall (G__law_is 3) (wCons (wCall G_needed (wCons (wVar 2) (wCons (wVar 4) wNil))) (wCons (wCall G__law_needed (wCons (wVar 2) (wCons (wVar 4) wNil))) wNil))))) (wRet (wC (.bl false))) wNext)
  (wIfS (wNot (wTest (wCall G__law_are_ends_right (wCons (wVar 0) (wCons (wVar 2) (wCons (wCall G__law_take (wCons (wVar 0) (wCons (wC (.int 4)) wNil))) wNil)))))) (wRet (wC (.bl false))) wNext))))))
  (wRet (wC (.bl true))))
def B0__law_right : WS := (wSeq (wAsg (wCall G__law_worths (wCons (wVar 0) wNil)) (wgN 2))
  (wSeq (wAsg (wFz (wLst (wCons (wTup (wCons (wC (.int 1)) (wCons (wC (.int 1)) wNil))) (wCons (wTup (wCons (wC (.int 1)) (wCons (wC (.int 100)) wNil))) (wCons (wTup (wCons (wC (.int 1)) (wCons (wC (.int 400)) wNil))) (wCons (wTup (wCons (wC (.int 7)) (wCons (wC (.int 3)) wNil))) (wCons (wTup (wCons (wC (.int 1)) (wCons (wC (.int 9)) wNil))) (wCons (wTup (wCons (wC (.int 2)) (wCons (wC (.int 81)) wNil))) wNil)))))))) (wgN 3))
  (wSeq (wAsg (wCall G__law_of (wCons (wVar 0) (wCons (wOp aAdd (wVar 3) (wFz (wLst (wCons (wCall G__law_frac (wCons (wC (.int 1)) (wCons (wOp aAdd (wC (.int 1)) (wCall G__law_take (wCons (wVar 0) (wCons (wC (.int 99)) wNil)))) wNil))) wNil)))) wNil))) (wgN 4))
  (wSeq (wIfS (wNot (wTest (wCall (G__law_is 3) (wCons (wCall G_needed (wCons (wVar 2) (wCons (wVar 4) wNil))) (wCons (wCall G__law_needed (wCons (wVar 2) (wCons (wVar 4) wNil))) wNil))))) (wRet (wC (.bl false))) wNext)
  (wIfS (wNot (wTest (wCall G__law_are_ends_right (wCons (wVar 0) (wCons (wVar 2) (wCons (wCall G__law_take (wCons (wVar 0) (wCons (wC (.int 4)) wNil))) wNil)))))) (wRet (wC (.bl false))) wNext)))))
def C1__law_right : WS := (wRet (wC (.bl true)))
theorem c__law_right : W__law_right = (wSeq (wFor (wRng1 (wCons (wC (.int 4)) wNil)) (wgN 1) B0__law_right)
  C1__law_right) := rfl
theorem least_of {P : Nat → Prop} : ∀ n, P n → ∃ N, N ≤ n ∧ P N ∧ ∀ i, i < N → ¬ P i
  | 0, h => ⟨0, Nat.le_refl _, h, fun i hi => by omega⟩
  | n + 1, h => by
    by_cases c : ∃ j, j ≤ n ∧ P j
    · obtain ⟨j, hj, hp⟩ := c
      obtain ⟨N, h1, h2, h3⟩ := least_of j hp
      exact ⟨N, by omega, h2, h3⟩
    · exact ⟨n + 1, Nat.le_refl _, h, fun i hi hp => c ⟨i, by omega, hp⟩⟩
theorem num_abs {q : Rat} {k : Nat} (h : q.num.natAbs ≤ k) : -(k : Rat) ≤ q ∧ q ≤ (k : Rat) := by
  have p := q.den_pos
  have hd : (1 : Int) ≤ q.den := by omega
  constructor
  · rw [Rat.le_iff]
    show -(k : Int) * q.den ≤ q.num * 1
    have : (k : Int) * 1 ≤ k * q.den := Int.mul_le_mul_of_nonneg_left hd (by omega)
    have e : -(k : Int) * q.den = -((k : Int) * q.den) := by rw [Int.neg_mul]
    omega
  · rw [Rat.le_iff]
    show q.num * 1 ≤ (k : Int) * q.den
    have : (k : Int) * 1 ≤ k * q.den := Int.mul_le_mul_of_nonneg_left hd (by omega)
    omega
theorem gap_small {a b : Rat} (ha : Wr a) (hb : Wr b) {g : Rat} (hg : mkRat 1 400 ≤ g) : ¬ g < gapR a b 10 := by
  obtain ⟨a1, a2⟩ := num_abs ha.num
  obtain ⟨b1, b2⟩ := num_abs hb.num
  have h1 : absR (a - b) ≤ 50 := by
    unfold absR
    split <;> grind
  have h2 : 0 ≤ (50 - absR (a - b)) * mkRat 1 (3 ^ 10) := Rat.mul_nonneg (by grind) (by decide +kernel)
  have h3 : (50 : Rat) * mkRat 1 (3 ^ 10) ≤ mkRat 1 400 := by decide +kernel
  unfold gapR
  grind
def G__law_right : Fn := fun ds n Q => ds = [.pot] ∧ n = 0 ∧ Q (.bl true) 1000
theorem body__law_right {ds : List Dat} {n : Nat} {QD : Dat → Nat → Prop} (h : G__law_right ds n QD) : bodyP 5 W__law_right ds n QD := by
  obtain ⟨rfl, rfl, h⟩ := h
  rw [c__law_right]
  walk_at "w"
  refine forW_at _ (fun i S => ∃ s1 s2 s3 s4 k, k ≤ 200 * i ∧ S = ⟨[.im .pot, s1, s2, s3, s4], k⟩) _ ?_ ⟨_, _, _, _, _, Nat.le_refl _, rfl⟩ ?_
  · rintro i d S hd ⟨s1, s2, s3, s4, k, hk, rfl⟩ N hN
    obtain ⟨hi, rfl⟩ := intsD_get hd
    unfold B0__law_right
    walk_at "w"
    refine ⟨rfl, by omega, fun a b ha hb => ?_⟩
    walk_at "w"
    refine ⟨99, rfl, by omega, by omega, by omega, fun r r0 r1 => ?_⟩
    obtain ⟨r, rfl⟩ : ∃ r' : Nat, r = r' := ⟨r.toNat, by omega⟩
    have hr : r < 99 := by omega
    walk_at "w"
    rw [show (1 : Int) + r = ((1 + r : Nat) : Int) by omega]
    refine ⟨1, 1 + r, rfl, by omega, by omega, ?_⟩
    refine ⟨_, _, rfl, rfl, by simp, by simp, by omega, fun d hd => ?_⟩
    have key : ∃ g : Rat, d = ratD g ∧ 0 < g ∧ g.den ≤ 1000 ∧ mkRat 1 400 ≤ g := by
      simp only [List.mem_cons, List.not_mem_nil, or_false] at hd
      rcases hd with rfl | rfl | rfl | rfl | rfl | rfl | rfl
      · exact ⟨1, rfl, by decide +kernel, by decide +kernel, by decide +kernel⟩
      · exact ⟨mkRat 1 100, rfl, by decide +kernel, by decide +kernel, by decide +kernel⟩
      · exact ⟨mkRat 1 400, rfl, by decide +kernel, by decide +kernel, by decide +kernel⟩
      · exact ⟨mkRat 7 3, rfl, by decide +kernel, by decide +kernel, by decide +kernel⟩
      · exact ⟨mkRat 1 9, rfl, by decide +kernel, by decide +kernel, by decide +kernel⟩
      · exact ⟨mkRat 2 81, rfl, by decide +kernel, by decide +kernel, by decide +kernel⟩
      · refine ⟨mkRat 1 (1 + r), rfl, ?_, Nat.le_trans (den_mk _ (by omega)) (by omega), ?_⟩
        · have : ∀ r, r < 99 → 0 < mkRat 1 (1 + r) := by decide +kernel
          exact this r hr
        · have : ∀ r, r < 99 → mkRat 1 400 ≤ mkRat 1 (1 + r) := by decide +kernel
          exact this r hr
    obtain ⟨g, rfl, g0, g1, g2⟩ := key
    obtain ⟨N', n1, n2, n3⟩ := least_of (P := fun i => ¬ g < gapR a b i) 10 (gap_small ha hb g2)
    have n4 : ∀ i, i < N' → g < gapR a b i := fun i hi => Classical.not_not.mp (n3 i hi)
    refine ⟨a, b, g, N', rfl, ha, hb, g0, g1, n1, n4, n2, ?_⟩
    refine ⟨a, b, g, N', rfl, ha, hb, g1, n1, n4, n2, ?_⟩
    refine ⟨_, rfl, trivial, ?_⟩
    walk_at "w"
    refine ⟨4, rfl, by omega, by omega, by omega, fun q q0 q1 => ?_⟩
    obtain ⟨q, rfl⟩ : ∃ q' : Nat, q = q' := ⟨q.toNat, by omega⟩
    refine ⟨a, b, q, rfl, ha, hb, by omega, by omega, ?_⟩
    walk_at "w"
    exact hN _ ⟨_, _, _, _, _, by omega, rfl⟩
  · rintro S ⟨s1, s2, s3, s4, k, hk, rfl⟩
    dsimp only
    unfold C1__law_right
    have : (intsD 0 4).length = 4 := by simp [intsD]
    walk_at "w"
    exact ⟨1000, by show k ≤ 1000; omega, by decide, h⟩

-- law names ['script', 'place']
def W_law : WS := (wRet (wCB aAll (wCons (wFz (wLc (wAnyIt (wCall G__law_cells (wCons (wVar 0) (wCons (wC (.int 2)) wNil)))) [1] (wgN 1) wYes (wPot G__law_right G__law_pot (wCons (wVar 0) (wCons (wVar 1) wNil))))) wNil)))
def G_law : Fn := fun ds n Q => ∃ l : List Int, ds = [.fz (l.map Dat.int)] ∧ l.length ≤ 63 ∧ Q (.bl true) n
theorem body_law {ds : List Dat} {n : Nat} {QD : Dat → Nat → Prop} (h : G_law ds n QD) : bodyW 2 W_law ds n QD := by
  obtain ⟨l, rfl, hl, h⟩ := h
  unfold W_law
  walk_at "w"
  refine ⟨_, 2, rfl, by simpa using hl, by decide, by decide, fun k hk => ?_⟩
  walk_at "w"
  refine lcW_map (fun _ => .bl true) _ _ (by simp [intsD]; omega) (fun d hd R R0 hR => ?_) ?_
  · obtain ⟨i, hi, rfl⟩ := List.mem_map.mp hd
    have hi2 : i < k := by simpa using hi
    walk_at "w"
    refine ⟨l, i, by simp, by omega, fun x y h0 h1 h2 => ⟨x, y, rfl, h0, h1, h2, rfl, rfl, ?_⟩⟩
    walk_at "w"
    exact hR
  · obtain ⟨bs, b1, b2⟩ := isBls_all (l := (intsD 0 k).map fun _ => .bl true) (by simp)
    exact ⟨bs, b1, by rw [b2]; exact h⟩
theorem law_true (ns : List Int) (h : ns.length ≤ 63) : G_law [.fz (ns.map Dat.int)] 0 fun d _ => d = .bl true := ⟨ns, rfl, h, rfl⟩



end K34
-- part P34
set_option Elab.async false
set_option linter.all false
set_option maxRecDepth 100000
set_option maxHeartbeats 4000000
namespace K34
open PySem PySem.Spec PyProof.Rows L2 Evl RZ Dl
local macro_rules | `(tactic| walk_at "len") => `(tactic| (rename_i h; first | (rcases h with ⟨e, _⟩; cases e; rfl) | (rcases h with ⟨_, e, _⟩; cases e; rfl) | (rcases h with ⟨_, _, e, _⟩; cases e; rfl) | (rcases h with ⟨_, _, _, e, _⟩; cases e; rfl) | (rcases h with ⟨_, _, _, _, e, _⟩; cases e; rfl) | (rcases h with ⟨_, _, _, _, _, e, _⟩; cases e; rfl) | (rcases h with ⟨_, _, _, _, _, _, e, _⟩; cases e; rfl) | (rcases h with ⟨_, _, _, _, _, _, _, e, _⟩; cases e; rfl)))
set_option synthInstance.maxSize 100000
set_option synthInstance.maxHeartbeats 0
def topS (i : Nat) : Stmt := PySem.Challenge.pw_twofarplayers_k34_whole_how_near_exactly.main.body.getD i (.Pass ⟨0, 0, 0, 0⟩)
abbrev s__law_cells : Stmt := topS 46
abbrev s__law_pot : Stmt := topS 43
abbrev s__law_frac_common : Stmt := topS 52
abbrev s__law_frac : Stmt := topS 53
abbrev s__law_take : Stmt := topS 44
abbrev s__law_of : Stmt := topS 45
abbrev s__law_frac_drawn : Stmt := topS 57
abbrev s__law_frac_is_less : Stmt := topS 56
abbrev s__law_frac_less : Stmt := topS 54
abbrev s__law_apart : Stmt := topS 60
abbrev s__law_frac_over : Stmt := topS 55
abbrev s__law_gap : Stmt := topS 61
abbrev s__law_is : Stmt := topS 58
abbrev s__law_row_heard : Stmt := topS 47
abbrev s__law_row_numbers : Stmt := topS 48
abbrev s__law_row_longer : Stmt := topS 51
abbrev s__law_row_place : Stmt := topS 49
abbrev s__law_row_words : Stmt := topS 50
abbrev s__law_widest : Stmt := topS 63
abbrev s_are_letters : Stmt := topS 5
abbrev s_is_word : Stmt := topS 6
abbrev s_check_word : Stmt := topS 14
abbrev s_common : Stmt := topS 17
abbrev s_is_whole : Stmt := topS 3
abbrev s_is_ratio : Stmt := topS 23
abbrev s_is_tuple : Stmt := topS 4
abbrev s_check_worths : Stmt := topS 36
abbrev s_ratio : Stmt := topS 18
abbrev s_less : Stmt := topS 20
abbrev s_numbers_at : Stmt := topS 31
abbrev s_place_of : Stmt := topS 29
abbrev s_plus : Stmt := topS 19
abbrev s_power_of_three : Stmt := topS 28
abbrev s_times : Stmt := topS 21
abbrev s_near : Stmt := topS 38
abbrev s_is_below : Stmt := topS 22
abbrev s_apart : Stmt := topS 37
abbrev s_rounds_of_ends : Stmt := topS 40
abbrev s_word_of : Stmt := topS 30
abbrev s_widest : Stmt := topS 41
abbrev s__law_are_ends_right : Stmt := topS 64
abbrev s__law_needed : Stmt := topS 62
abbrev s__law_worths : Stmt := topS 59
abbrev s_is_size : Stmt := topS 24
abbrev s_needed : Stmt := topS 39
abbrev s__law_right : Stmt := topS 65
abbrev s_law : Stmt := topS 66
theorem sc__law_cells : FnScope ["script", "most"] ["script", "most"] (defScope s__law_cells) := ⟨rfl, rfl, rfl, by decide +kernel, rfl, by decide +kernel, by decide +kernel⟩
theorem sc__law_pot : FnScope ["script", "at", "cell", "own", "small"] ["script", "at"] (defScope s__law_pot) := ⟨rfl, rfl, rfl, by decide +kernel, rfl, by decide +kernel, by decide +kernel⟩
theorem sc__law_frac_common : FnScope ["one", "other"] ["one", "other"] (defScope s__law_frac_common) := ⟨rfl, rfl, rfl, by decide +kernel, rfl, by decide +kernel, by decide +kernel⟩
theorem sc__law_frac : FnScope ["top", "bottom", "by"] ["top", "bottom"] (defScope s__law_frac) := ⟨rfl, rfl, rfl, by decide +kernel, rfl, by decide +kernel, by decide +kernel⟩
theorem sc__law_take : FnScope ["pot", "upto", "digit", "prime", "blend"] ["pot", "upto"] (defScope s__law_take) := ⟨rfl, rfl, rfl, by decide +kernel, rfl, by decide +kernel, by decide +kernel⟩
theorem sc__law_of : FnScope ["pot", "some"] ["pot", "some"] (defScope s__law_of) := ⟨rfl, rfl, rfl, by decide +kernel, rfl, by decide +kernel, by decide +kernel⟩
theorem sc__law_frac_drawn : FnScope ["pot", "low", "high", "bottom"] ["pot", "low", "high"] (defScope s__law_frac_drawn) := ⟨rfl, rfl, rfl, by decide +kernel, rfl, by decide +kernel, by decide +kernel⟩
theorem sc__law_frac_is_less : FnScope ["one", "other"] ["one", "other"] (defScope s__law_frac_is_less) := ⟨rfl, rfl, rfl, by decide +kernel, rfl, by decide +kernel, by decide +kernel⟩
theorem sc__law_frac_less : FnScope ["one", "other"] ["one", "other"] (defScope s__law_frac_less) := ⟨rfl, rfl, rfl, by decide +kernel, rfl, by decide +kernel, by decide +kernel⟩
theorem sc__law_apart : FnScope ["one", "other", "found"] ["one", "other"] (defScope s__law_apart) := ⟨rfl, rfl, rfl, by decide +kernel, rfl, by decide +kernel, by decide +kernel⟩
theorem sc__law_frac_over : FnScope ["one", "other"] ["one", "other"] (defScope s__law_frac_over) := ⟨rfl, rfl, rfl, by decide +kernel, rfl, by decide +kernel, by decide +kernel⟩
theorem sc__law_gap : FnScope ["worths", "rounds", "found", "lap"] ["worths", "rounds"] (defScope s__law_gap) := ⟨rfl, rfl, rfl, by decide +kernel, rfl, by decide +kernel, by decide +kernel⟩
theorem sc__law_is : FnScope ["told", "due", "is_fit", "one", "other"] ["told", "due"] (defScope s__law_is) := ⟨rfl, rfl, rfl, by decide +kernel, rfl, by decide +kernel, by decide +kernel⟩
theorem sc__law_row_heard : FnScope ["numbers", "fate", "first", "second", "mine"] ["numbers", "fate"] (defScope s__law_row_heard) := ⟨rfl, rfl, rfl, by decide +kernel, rfl, by decide +kernel, by decide +kernel⟩
theorem sc__law_row_numbers : FnScope ["word", "found", "fate"] ["word"] (defScope s__law_row_numbers) := ⟨rfl, rfl, rfl, by decide +kernel, rfl, by decide +kernel, by decide +kernel⟩
theorem sc__law_row_longer : FnScope ["words", "found", "word", "fate"] ["words"] (defScope s__law_row_longer) := ⟨rfl, rfl, rfl, by decide +kernel, rfl, by decide +kernel, by decide +kernel⟩
theorem sc__law_row_place : FnScope ["word"] ["word"] (defScope s__law_row_place) := ⟨rfl, rfl, rfl, by decide +kernel, rfl, by decide +kernel, by decide +kernel⟩
theorem sc__law_row_words : FnScope ["rounds", "found", "lap"] ["rounds"] (defScope s__law_row_words) := ⟨rfl, rfl, rfl, by decide +kernel, rfl, by decide +kernel, by decide +kernel⟩
theorem sc__law_widest : FnScope ["marks", "rounds", "words", "most", "one", "other", "apart_v", "place", "word"] ["marks", "rounds"] (defScope s__law_widest) := ⟨rfl, rfl, rfl, by decide +kernel, rfl, by decide +kernel, by decide +kernel⟩
theorem sc_are_letters : FnScope ["value", "low", "high", "sign"] ["value", "low", "high"] (defScope s_are_letters) := ⟨rfl, rfl, rfl, by decide +kernel, rfl, by decide +kernel, by decide +kernel⟩
theorem sc_is_word : FnScope ["value"] ["value"] (defScope s_is_word) := ⟨rfl, rfl, rfl, by decide +kernel, rfl, by decide +kernel, by decide +kernel⟩
theorem sc_check_word : FnScope ["word"] ["word"] (defScope s_check_word) := ⟨rfl, rfl, rfl, by decide +kernel, rfl, by decide +kernel, by decide +kernel⟩
theorem sc_common : FnScope ["one", "other"] ["one", "other"] (defScope s_common) := ⟨rfl, rfl, rfl, by decide +kernel, rfl, by decide +kernel, by decide +kernel⟩
theorem sc_is_whole : FnScope ["value"] ["value"] (defScope s_is_whole) := ⟨rfl, rfl, rfl, by decide +kernel, rfl, by decide +kernel, by decide +kernel⟩
theorem sc_is_ratio : FnScope ["value", "one"] ["value"] (defScope s_is_ratio) := ⟨rfl, rfl, rfl, by decide +kernel, rfl, by decide +kernel, by decide +kernel⟩
theorem sc_is_tuple : FnScope ["value", "low", "high"] ["value", "low", "high"] (defScope s_is_tuple) := ⟨rfl, rfl, rfl, by decide +kernel, rfl, by decide +kernel, by decide +kernel⟩
theorem sc_check_worths : FnScope ["worths", "one"] ["worths"] (defScope s_check_worths) := ⟨rfl, rfl, rfl, by decide +kernel, rfl, by decide +kernel, by decide +kernel⟩
theorem sc_ratio : FnScope ["top", "bottom", "by"] ["top", "bottom"] (defScope s_ratio) := ⟨rfl, rfl, rfl, by decide +kernel, rfl, by decide +kernel, by decide +kernel⟩
theorem sc_less : FnScope ["one", "other"] ["one", "other"] (defScope s_less) := ⟨rfl, rfl, rfl, by decide +kernel, rfl, by decide +kernel, by decide +kernel⟩
theorem sc_numbers_at : FnScope ["its"] ["its"] (defScope s_numbers_at) := ⟨rfl, rfl, rfl, by decide +kernel, rfl, by decide +kernel, by decide +kernel⟩
theorem sc_place_of : FnScope ["word", "found", "fate"] ["word"] (defScope s_place_of) := ⟨rfl, rfl, rfl, by decide +kernel, rfl, by decide +kernel, by decide +kernel⟩
theorem sc_plus : FnScope ["one", "other"] ["one", "other"] (defScope s_plus) := ⟨rfl, rfl, rfl, by decide +kernel, rfl, by decide +kernel, by decide +kernel⟩
theorem sc_power_of_three : FnScope ["rounds", "found", "lap"] ["rounds"] (defScope s_power_of_three) := ⟨rfl, rfl, rfl, by decide +kernel, rfl, by decide +kernel, by decide +kernel⟩
theorem sc_times : FnScope ["one", "other"] ["one", "other"] (defScope s_times) := ⟨rfl, rfl, rfl, by decide +kernel, rfl, by decide +kernel, by decide +kernel⟩
theorem sc_near : FnScope ["worths", "word", "parts", "way", "ends", "number"] ["worths", "word"] (defScope s_near) := ⟨rfl, rfl, rfl, by decide +kernel, rfl, by decide +kernel, by decide +kernel⟩
theorem sc_is_below : FnScope ["one", "other"] ["one", "other"] (defScope s_is_below) := ⟨rfl, rfl, rfl, by decide +kernel, rfl, by decide +kernel, by decide +kernel⟩
theorem sc_apart : FnScope ["one", "other"] ["one", "other"] (defScope s_apart) := ⟨rfl, rfl, rfl, by decide +kernel, rfl, by decide +kernel, by decide +kernel⟩
theorem sc_rounds_of_ends : FnScope ["value", "rounds", "many", "one"] ["value"] (defScope s_rounds_of_ends) := ⟨rfl, rfl, rfl, by decide +kernel, rfl, by decide +kernel, by decide +kernel⟩
theorem sc_word_of : FnScope ["rounds", "its", "found", "lap", "ahead"] ["rounds", "its"] (defScope s_word_of) := ⟨rfl, rfl, rfl, by decide +kernel, rfl, by decide +kernel, by decide +kernel⟩
theorem sc_widest : FnScope ["ends", "rounds", "found", "most", "its", "here"] ["ends"] (defScope s_widest) := ⟨rfl, rfl, rfl, by decide +kernel, rfl, by decide +kernel, by decide +kernel⟩
theorem sc__law_are_ends_right : FnScope ["pot", "worths", "rounds", "many", "marks", "told", "plain", "word", "number", "end", "lap"] ["pot", "worths", "rounds"] (defScope s__law_are_ends_right) := ⟨rfl, rfl, rfl, by decide +kernel, rfl, by decide +kernel, by decide +kernel⟩
theorem sc__law_needed : FnScope ["worths", "goal", "rounds"] ["worths", "goal"] (defScope s__law_needed) := ⟨rfl, rfl, rfl, by decide +kernel, rfl, by decide +kernel, by decide +kernel⟩
theorem sc__law_worths : FnScope ["pot", "one"] ["pot"] (defScope s__law_worths) := ⟨rfl, rfl, rfl, by decide +kernel, rfl, by decide +kernel, by decide +kernel⟩
theorem sc_is_size : FnScope ["value"] ["value"] (defScope s_is_size) := ⟨rfl, rfl, rfl, by decide +kernel, rfl, by decide +kernel, by decide +kernel⟩
theorem sc_needed : FnScope ["worths", "distance", "rounds", "here"] ["worths", "distance"] (defScope s_needed) := ⟨rfl, rfl, rfl, by decide +kernel, rfl, by decide +kernel, by decide +kernel⟩
theorem sc__law_right : FnScope ["pot", "lap", "worths", "some", "goal"] ["pot"] (defScope s__law_right) := ⟨rfl, rfl, rfl, by decide +kernel, rfl, by decide +kernel, by decide +kernel⟩
theorem sc_law : FnScope ["script", "place"] ["script"] (defScope s_law) := ⟨rfl, rfl, rfl, by decide +kernel, rfl, by decide +kernel, by decide +kernel⟩
structure Txt (w : World) (K : PySem.W.Frag) (mg : Str → Option Value) where
  a__law_cells : Addr
  fd__law_cells : FuncData
  F__law_cells : Fun K "_law_cells" "_law_cells" s__law_cells a__law_cells fd__law_cells
  g__law_cells : mg "_law_cells" = some (.ref a__law_cells)
  b__law_cells : Binds K fd__law_cells ["script", "most"] []
  a__law_pot : Addr
  fd__law_pot : FuncData
  F__law_pot : Fun K "_law_pot" "_law_pot" s__law_pot a__law_pot fd__law_pot
  g__law_pot : mg "_law_pot" = some (.ref a__law_pot)
  b__law_pot : Binds K fd__law_pot ["script", "at"] []
  a__law_frac_common : Addr
  fd__law_frac_common : FuncData
  F__law_frac_common : Fun K "_law_frac_common" "_law_frac_common" s__law_frac_common a__law_frac_common fd__law_frac_common
  g__law_frac_common : mg "_law_frac_common" = some (.ref a__law_frac_common)
  b__law_frac_common : Binds K fd__law_frac_common ["one", "other"] []
  a__law_frac : Addr
  fd__law_frac : FuncData
  F__law_frac : Fun K "_law_frac" "_law_frac" s__law_frac a__law_frac fd__law_frac
  g__law_frac : mg "_law_frac" = some (.ref a__law_frac)
  b__law_frac : Binds K fd__law_frac ["top", "bottom"] []
  a__law_take : Addr
  fd__law_take : FuncData
  F__law_take : Fun K "_law_take" "_law_take" s__law_take a__law_take fd__law_take
  g__law_take : mg "_law_take" = some (.ref a__law_take)
  b__law_take : Binds K fd__law_take ["pot", "upto"] []
  a__law_of : Addr
  fd__law_of : FuncData
  F__law_of : Fun K "_law_of" "_law_of" s__law_of a__law_of fd__law_of
  g__law_of : mg "_law_of" = some (.ref a__law_of)
  b__law_of : Binds K fd__law_of ["pot", "some"] []
  a__law_frac_drawn : Addr
  fd__law_frac_drawn : FuncData
  F__law_frac_drawn : Fun K "_law_frac_drawn" "_law_frac_drawn" s__law_frac_drawn a__law_frac_drawn fd__law_frac_drawn
  g__law_frac_drawn : mg "_law_frac_drawn" = some (.ref a__law_frac_drawn)
  b__law_frac_drawn : Binds K fd__law_frac_drawn ["pot", "low", "high"] []
  a__law_frac_is_less : Addr
  fd__law_frac_is_less : FuncData
  F__law_frac_is_less : Fun K "_law_frac_is_less" "_law_frac_is_less" s__law_frac_is_less a__law_frac_is_less fd__law_frac_is_less
  g__law_frac_is_less : mg "_law_frac_is_less" = some (.ref a__law_frac_is_less)
  b__law_frac_is_less : Binds K fd__law_frac_is_less ["one", "other"] []
  a__law_frac_less : Addr
  fd__law_frac_less : FuncData
  F__law_frac_less : Fun K "_law_frac_less" "_law_frac_less" s__law_frac_less a__law_frac_less fd__law_frac_less
  g__law_frac_less : mg "_law_frac_less" = some (.ref a__law_frac_less)
  b__law_frac_less : Binds K fd__law_frac_less ["one", "other"] []
  a__law_apart : Addr
  fd__law_apart : FuncData
  F__law_apart : Fun K "_law_apart" "_law_apart" s__law_apart a__law_apart fd__law_apart
  g__law_apart : mg "_law_apart" = some (.ref a__law_apart)
  b__law_apart : Binds K fd__law_apart ["one", "other"] []
  a__law_frac_over : Addr
  fd__law_frac_over : FuncData
  F__law_frac_over : Fun K "_law_frac_over" "_law_frac_over" s__law_frac_over a__law_frac_over fd__law_frac_over
  g__law_frac_over : mg "_law_frac_over" = some (.ref a__law_frac_over)
  b__law_frac_over : Binds K fd__law_frac_over ["one", "other"] []
  a__law_gap : Addr
  fd__law_gap : FuncData
  F__law_gap : Fun K "_law_gap" "_law_gap" s__law_gap a__law_gap fd__law_gap
  g__law_gap : mg "_law_gap" = some (.ref a__law_gap)
  b__law_gap : Binds K fd__law_gap ["worths", "rounds"] []
  a__law_is : Addr
  fd__law_is : FuncData
  F__law_is : Fun K "_law_is" "_law_is" s__law_is a__law_is fd__law_is
  g__law_is : mg "_law_is" = some (.ref a__law_is)
  b__law_is : Binds K fd__law_is ["told", "due"] []
  a__law_row_heard : Addr
  fd__law_row_heard : FuncData
  F__law_row_heard : Fun K "_law_row_heard" "_law_row_heard" s__law_row_heard a__law_row_heard fd__law_row_heard
  g__law_row_heard : mg "_law_row_heard" = some (.ref a__law_row_heard)
  b__law_row_heard : Binds K fd__law_row_heard ["numbers", "fate"] []
  a__law_row_numbers : Addr
  fd__law_row_numbers : FuncData
  F__law_row_numbers : Fun K "_law_row_numbers" "_law_row_numbers" s__law_row_numbers a__law_row_numbers fd__law_row_numbers
  g__law_row_numbers : mg "_law_row_numbers" = some (.ref a__law_row_numbers)
  b__law_row_numbers : Binds K fd__law_row_numbers ["word"] []
  a__law_row_longer : Addr
  fd__law_row_longer : FuncData
  F__law_row_longer : Fun K "_law_row_longer" "_law_row_longer" s__law_row_longer a__law_row_longer fd__law_row_longer
  g__law_row_longer : mg "_law_row_longer" = some (.ref a__law_row_longer)
  b__law_row_longer : Binds K fd__law_row_longer ["words"] []
  a__law_row_place : Addr
  fd__law_row_place : FuncData
  F__law_row_place : Fun K "_law_row_place" "_law_row_place" s__law_row_place a__law_row_place fd__law_row_place
  g__law_row_place : mg "_law_row_place" = some (.ref a__law_row_place)
  b__law_row_place : Binds K fd__law_row_place ["word"] []
  a__law_row_words : Addr
  fd__law_row_words : FuncData
  F__law_row_words : Fun K "_law_row_words" "_law_row_words" s__law_row_words a__law_row_words fd__law_row_words
  g__law_row_words : mg "_law_row_words" = some (.ref a__law_row_words)
  b__law_row_words : Binds K fd__law_row_words ["rounds"] []
  a__law_widest : Addr
  fd__law_widest : FuncData
  F__law_widest : Fun K "_law_widest" "_law_widest" s__law_widest a__law_widest fd__law_widest
  g__law_widest : mg "_law_widest" = some (.ref a__law_widest)
  b__law_widest : Binds K fd__law_widest ["marks", "rounds"] []
  a_are_letters : Addr
  fd_are_letters : FuncData
  F_are_letters : Fun K "are_letters" "are_letters" s_are_letters a_are_letters fd_are_letters
  g_are_letters : mg "are_letters" = some (.ref a_are_letters)
  b_are_letters : Binds K fd_are_letters ["value", "low", "high"] []
  a_is_word : Addr
  fd_is_word : FuncData
  F_is_word : Fun K "is_word" "is_word" s_is_word a_is_word fd_is_word
  g_is_word : mg "is_word" = some (.ref a_is_word)
  b_is_word : Binds K fd_is_word ["value"] []
  a_check_word : Addr
  fd_check_word : FuncData
  F_check_word : Fun K "check_word" "check_word" s_check_word a_check_word fd_check_word
  g_check_word : mg "check_word" = some (.ref a_check_word)
  b_check_word : Binds K fd_check_word ["word"] []
  a_common : Addr
  fd_common : FuncData
  F_common : Fun K "common" "common" s_common a_common fd_common
  g_common : mg "common" = some (.ref a_common)
  b_common : Binds K fd_common ["one", "other"] []
  a_is_whole : Addr
  fd_is_whole : FuncData
  F_is_whole : Fun K "is_whole" "is_whole" s_is_whole a_is_whole fd_is_whole
  g_is_whole : mg "is_whole" = some (.ref a_is_whole)
  b_is_whole : Binds K fd_is_whole ["value"] []
  a_is_ratio : Addr
  fd_is_ratio : FuncData
  F_is_ratio : Fun K "is_ratio" "is_ratio" s_is_ratio a_is_ratio fd_is_ratio
  g_is_ratio : mg "is_ratio" = some (.ref a_is_ratio)
  b_is_ratio : Binds K fd_is_ratio ["value"] []
  a_is_tuple : Addr
  fd_is_tuple : FuncData
  F_is_tuple : Fun K "is_tuple" "is_tuple" s_is_tuple a_is_tuple fd_is_tuple
  g_is_tuple : mg "is_tuple" = some (.ref a_is_tuple)
  b_is_tuple : Binds K fd_is_tuple ["value", "low", "high"] []
  a_check_worths : Addr
  fd_check_worths : FuncData
  F_check_worths : Fun K "check_worths" "check_worths" s_check_worths a_check_worths fd_check_worths
  g_check_worths : mg "check_worths" = some (.ref a_check_worths)
  b_check_worths : Binds K fd_check_worths ["worths"] []
  a_ratio : Addr
  fd_ratio : FuncData
  F_ratio : Fun K "ratio" "ratio" s_ratio a_ratio fd_ratio
  g_ratio : mg "ratio" = some (.ref a_ratio)
  b_ratio : Binds K fd_ratio ["top", "bottom"] []
  a_less : Addr
  fd_less : FuncData
  F_less : Fun K "less" "less" s_less a_less fd_less
  g_less : mg "less" = some (.ref a_less)
  b_less : Binds K fd_less ["one", "other"] []
  a_numbers_at : Addr
  fd_numbers_at : FuncData
  F_numbers_at : Fun K "numbers_at" "numbers_at" s_numbers_at a_numbers_at fd_numbers_at
  g_numbers_at : mg "numbers_at" = some (.ref a_numbers_at)
  b_numbers_at : Binds K fd_numbers_at ["its"] []
  a_place_of : Addr
  fd_place_of : FuncData
  F_place_of : Fun K "place_of" "place_of" s_place_of a_place_of fd_place_of
  g_place_of : mg "place_of" = some (.ref a_place_of)
  b_place_of : Binds K fd_place_of ["word"] []
  a_plus : Addr
  fd_plus : FuncData
  F_plus : Fun K "plus" "plus" s_plus a_plus fd_plus
  g_plus : mg "plus" = some (.ref a_plus)
  b_plus : Binds K fd_plus ["one", "other"] []
  a_power_of_three : Addr
  fd_power_of_three : FuncData
  F_power_of_three : Fun K "power_of_three" "power_of_three" s_power_of_three a_power_of_three fd_power_of_three
  g_power_of_three : mg "power_of_three" = some (.ref a_power_of_three)
  b_power_of_three : Binds K fd_power_of_three ["rounds"] []
  a_times : Addr
  fd_times : FuncData
  F_times : Fun K "times" "times" s_times a_times fd_times
  g_times : mg "times" = some (.ref a_times)
  b_times : Binds K fd_times ["one", "other"] []
  a_near : Addr
  fd_near : FuncData
  F_near : Fun K "near" "near" s_near a_near fd_near
  g_near : mg "near" = some (.ref a_near)
  b_near : Binds K fd_near ["worths", "word"] []
  a_is_below : Addr
  fd_is_below : FuncData
  F_is_below : Fun K "is_below" "is_below" s_is_below a_is_below fd_is_below
  g_is_below : mg "is_below" = some (.ref a_is_below)
  b_is_below : Binds K fd_is_below ["one", "other"] []
  a_apart : Addr
  fd_apart : FuncData
  F_apart : Fun K "apart" "apart" s_apart a_apart fd_apart
  g_apart : mg "apart" = some (.ref a_apart)
  b_apart : Binds K fd_apart ["one", "other"] []
  a_rounds_of_ends : Addr
  fd_rounds_of_ends : FuncData
  F_rounds_of_ends : Fun K "rounds_of_ends" "rounds_of_ends" s_rounds_of_ends a_rounds_of_ends fd_rounds_of_ends
  g_rounds_of_ends : mg "rounds_of_ends" = some (.ref a_rounds_of_ends)
  b_rounds_of_ends : Binds K fd_rounds_of_ends ["value"] []
  a_word_of : Addr
  fd_word_of : FuncData
  F_word_of : Fun K "word_of" "word_of" s_word_of a_word_of fd_word_of
  g_word_of : mg "word_of" = some (.ref a_word_of)
  b_word_of : Binds K fd_word_of ["rounds", "its"] []
  a_widest : Addr
  fd_widest : FuncData
  F_widest : Fun K "widest" "widest" s_widest a_widest fd_widest
  g_widest : mg "widest" = some (.ref a_widest)
  b_widest : Binds K fd_widest ["ends"] []
  a__law_are_ends_right : Addr
  fd__law_are_ends_right : FuncData
  F__law_are_ends_right : Fun K "_law_are_ends_right" "_law_are_ends_right" s__law_are_ends_right a__law_are_ends_right fd__law_are_ends_right
  g__law_are_ends_right : mg "_law_are_ends_right" = some (.ref a__law_are_ends_right)
  b__law_are_ends_right : Binds K fd__law_are_ends_right ["pot", "worths", "rounds"] []
  a__law_needed : Addr
  fd__law_needed : FuncData
  F__law_needed : Fun K "_law_needed" "_law_needed" s__law_needed a__law_needed fd__law_needed
  g__law_needed : mg "_law_needed" = some (.ref a__law_needed)
  b__law_needed : Binds K fd__law_needed ["worths", "goal"] []
  a__law_worths : Addr
  fd__law_worths : FuncData
  F__law_worths : Fun K "_law_worths" "_law_worths" s__law_worths a__law_worths fd__law_worths
  g__law_worths : mg "_law_worths" = some (.ref a__law_worths)
  b__law_worths : Binds K fd__law_worths ["pot"] []
  a_is_size : Addr
  fd_is_size : FuncData
  F_is_size : Fun K "is_size" "is_size" s_is_size a_is_size fd_is_size
  g_is_size : mg "is_size" = some (.ref a_is_size)
  b_is_size : Binds K fd_is_size ["value"] []
  a_needed : Addr
  fd_needed : FuncData
  F_needed : Fun K "needed" "needed" s_needed a_needed fd_needed
  g_needed : mg "needed" = some (.ref a_needed)
  b_needed : Binds K fd_needed ["worths", "distance"] []
  a__law_right : Addr
  fd__law_right : FuncData
  F__law_right : Fun K "_law_right" "_law_right" s__law_right a__law_right fd__law_right
  g__law_right : mg "_law_right" = some (.ref a__law_right)
  b__law_right : Binds K fd__law_right ["pot"] []
  a_law : Addr
  fd_law : FuncData
  F_law : Fun K "law" "law" s_law a_law fd_law
  g_law : mg "law" = some (.ref a_law)
  b_law : Binds K fd_law ["script"] []
  z_abs : mg "abs" = none
  z_all : mg "all" = none
  z_bool : mg "bool" = none
  z_enumerate : mg "enumerate" = none
  z_int : mg "int" = none
  z_isinstance : mg "isinstance" = none
  z_len : mg "len" = none
  z_list : mg "list" = none
  z_max : mg "max" = none
  z_min : mg "min" = none
  z_range : mg "range" = none
  z_sorted : mg "sorted" = none
  z_str : mg "str" = none
  z_sum : mg "sum" = none
  z_tuple : mg "tuple" = none
  z_zip : mg "zip" = none
  a_BACK : Addr
  c_BACK : mg "BACK" = some (.ref a_BACK)
  r_BACK : CV K (.ref a_BACK) d_BACK
  c_LETTERS : ∃ t, mg "LETTERS" = some (.str "nfs" t)
  c_MOST_ENDS_ROUNDS : ∃ t, mg "MOST_ENDS_ROUNDS" = some (.int 5 t)
  c_MOST_WORD : ∃ t, mg "MOST_WORD" = some (.int 200 t)
  c_PAIR_nearness : ∃ t, mg "PAIR_nearness" = some (.int 2 t)
  c_PAIR_ratios : ∃ t, mg "PAIR_ratios" = some (.int 2 t)
  a_THIRD : Addr
  c_THIRD : mg "THIRD" = some (.ref a_THIRD)
  r_THIRD : CV K (.ref a_THIRD) d_THIRD
  c_THREE : ∃ t, mg "THREE" = some (.int 3 t)
section
variable {P : Program} {w : World} {K : PySem.W.Frag} {mg : Str → Option Value} {base : Heap}
theorem ok__law_cells (T : Txt w K mg) : FnOk P w K mg base CX0 1 T.a__law_cells T.fd__law_cells ["script", "most"] (spF K G__law_cells) := by
  exact okD T.F__law_cells sc__law_cells (fun _ _ _ _ => by walk_at "len") (fun cdv A outer s H hr => ⟨_, (pss_one (ps_ret (pe_listRg rfl (by rfl) T.z_list (prg_1 (by rfl) T.z_range (pe_callB (call_maxG rfl) (by rfl) T.z_max (by decide +kernel) (pa_cons pe_int (pa_cons (pe_callB (call_minG rfl) (by rfl) T.z_min (by decide +kernel) (pa_cons (pv 1) (pa_cons (pe_callB (lenK K) (by rfl) T.z_len (by decide +kernel) (pa_cons (pv 0) pa_nil)) pa_nil))) pa_nil))))))), W__law_cells, inferInstance, fun ds n QD h => body__law_cells h⟩)
theorem ok__law_pot (T : Txt w K mg) : FnOk P w K mg base CX0 1 T.a__law_pot T.fd__law_pot ["script", "at"] (spFF K G__law_pot) := by
  exact okF T.F__law_pot sc__law_pot (fun _ _ _ _ => by walk_at "len") (fun cdv A outer s H hr => ⟨_, (pss_cons (ps_set (i := 2) sc__law_pot.nd rfl (.inl rfl) (pe_ifExp (pt_cmpR op_lt (pv 1) (pe_callB (lenK K) (by rfl) T.z_len (by decide +kernel) (pa_cons (pv 0) pa_nil)) (nomark _)) (pe_ix (ixK K) (pv 0) (pv 1) (fun _ _ => rfl)) (pe_op (addK K) (pe_op (addK K) (pe_op op_mod (pe_callB (sumK K rfl) (by rfl) T.z_sum (by decide +kernel) (pa_cons (pe_slice (slK K) (pv 0) po_none (po_some pe_int)) pa_nil)) pe_int) (pe_op op_mulG pe_int (pv 1))) pe_int)))
      (pss_cons (ps_set (i := 3) sc__law_pot.nd rfl (.inl rfl) (pe_op op_mulG (pe_op op_mod (pe_callTy call_intG (by rfl) T.z_int (by decide +kernel) (pa_cons (pe_callB call_absG (by rfl) T.z_abs (by decide +kernel) (pa_cons (pv 2) pa_nil)) pa_nil)) (pe_op op_powG (pe_op op_powG pe_int pe_int) pe_int)) (pe_callTy call_intG (by rfl) T.z_int (by decide +kernel) (pa_cons (pe_cmpR op_ge (pe_callB call_absG (by rfl) T.z_abs (by decide +kernel) (pa_cons (pv 2) pa_nil)) (pe_op op_powG pe_int pe_int) (nomark _)) pa_nil))))
      (pss_cons (ps_set (i := 4) sc__law_pot.nd rfl (.inl rfl) (pe_op op_mod (pe_callTy call_intG (by rfl) T.z_int (by decide +kernel) (pa_cons (pv 2) pa_nil)) pe_int))
      (pss_one (ps_retF (ps_ret (pe_lst (pa_cons (pv 3) (pa_cons (pe_op op_mod (pe_callTy call_intG (by rfl) T.z_int (by decide +kernel) (pa_cons (pe_op (addK K) (pe_op (addK K) (pe_op op_mulG (pv 4) pe_int) (pe_op op_mulG (pe_op op_mulG pe_int (pv 1)) (pv 1))) pe_int) pa_nil)) pe_int) (pa_cons pe_int pa_nil)))))))))), W__law_pot, inferInstance, fun ds n QD h => body__law_pot h⟩)
theorem ok__law_frac_common (T : Txt w K mg) : FnOk P w K mg base CX0 1 T.a__law_frac_common T.fd__law_frac_common ["one", "other"] (spF K G__law_frac_common) := by
  exact okD T.F__law_frac_common sc__law_frac_common (fun _ _ _ _ => by walk_at "len") (fun cdv A outer s H hr => ⟨_, (pss_cons (ps_par (i := 0) (j := 1) rfl sc__law_frac_common.nd rfl rfl (by decide) rfl rfl (pa_cons (pe_callB call_absG (by rfl) T.z_abs (by decide +kernel) (pa_cons (pv 0) pa_nil)) (pa_cons (pe_callB call_absG (by rfl) T.z_abs (by decide +kernel) (pa_cons (pv 1) pa_nil)) pa_nil)) (by rfl))
      (pss_cons (ps_while PassesOwn.never (pt_cmpR op_gt (pv 1) pe_int (nomark _)) (pss_one (ps_par (i := 0) (j := 1) rfl sc__law_frac_common.nd rfl rfl (by decide) rfl rfl (pa_cons (pv 1) (pa_cons (pe_op op_mod (pe_callTy call_intG (by rfl) T.z_int (by decide +kernel) (pa_cons (pv 0) pa_nil)) (pv 1)) pa_nil)) (by rfl))))
      (pss_one (ps_ret (pv 0))))), W__law_frac_common, inferInstance, fun ds n QD h => body__law_frac_common h⟩)
theorem ok__law_frac (T : Txt w K mg) : FnOk P w K mg base CX0 2 T.a__law_frac T.fd__law_frac ["top", "bottom"] (spF K G__law_frac) := by
  exact okD T.F__law_frac sc__law_frac (fun _ _ _ _ => by walk_at "len") (fun cdv A outer s H hr => ⟨_, (pss_cons (ps_set (i := 2) sc__law_frac.nd rfl (.inl rfl) (pe_call (ok__law_frac_common (P := P) (w := w) (base := base) T) (hr.mono (by decide)) (by rfl) T.g__law_frac_common T.F__law_frac_common.kp T.b__law_frac_common .nil pass0 (pa_cons (pv 0) (pa_cons (pv 1) pa_nil))))
      (pss_cons (ps_set (i := 2) sc__law_frac.nd rfl (.inl rfl) (pe_ifExp (pt_cmpR op_gt (pv 1) pe_int (nomark _)) (pv 2) (pe_un un_neg (pv 2))))
      (pss_one (ps_ret (pe_tup (pa_cons (pe_op op_fdivW (pv 0) (pv 2)) (pa_cons (pe_op op_fdivW (pv 1) (pv 2)) pa_nil))))))), W__law_frac, inferInstance, fun ds n QD h => body__law_frac h⟩)
theorem ok__law_take (T : Txt w K mg) : FnOk P w K mg base CX0 1 T.a__law_take T.fd__law_take ["pot", "upto"] (spF K G__law_take) := by
  exact okP T.F__law_take sc__law_take (fun _ _ _ _ => by walk_at "len") (fun cdv A outer s H hr => ⟨_, (pss_cons (ps_if (pt_cmpR op_gt (pe_ix (ixK K) (pv 0) pe_int (fun _ _ => rfl)) pe_int (nomark _)) (pss_cons (ps_set (i := 2) sc__law_take.nd rfl (.inl rfl) (pe_op op_mod (pe_callTy call_intG (by rfl) T.z_int (by decide +kernel) (pa_cons (pe_ix (ixK K) (pv 0) pe_int (fun _ _ => rfl)) pa_nil)) (pv 1)))
      (pss_cons (ps_asg (pe_op op_fdivW (pe_ix (ixK K) (pv 0) pe_int (fun _ _ => rfl)) (pv 1)) (pg_sub (pv 0) pe_int set_list))
      (pss_one (ps_ret (pv 2))))) pss_nil)
      (pss_cons (ps_inc (ps_asg (pe_op (addK K) (pe_ix (ixK K) (pv 0) pe_int (fun _ _ => rfl)) pe_int) (pg_sub (pv 0) pe_int set_list)))
      (pss_cons (ps_set (i := 3) sc__law_take.nd rfl (.inl rfl) (pe_ix (ixK K) (pe_lst (pa_cons pe_int (pa_cons pe_int (pa_cons pe_int (pa_cons pe_int (pa_cons pe_int pa_nil)))))) (pe_op op_mod (pe_callTy call_intG (by rfl) T.z_int (by decide +kernel) (pa_cons (pe_ix (ixK K) (pv 0) pe_int (fun _ _ => rfl)) pa_nil)) pe_int) (fun _ _ => rfl)))
      (pss_cons (ps_set (i := 4) sc__law_take.nd rfl (.inl rfl) (pe_op op_mod (pe_callTy call_intG (by rfl) T.z_int (by decide +kernel) (pa_cons (pe_op op_powG (pe_callTy call_intG (by rfl) T.z_int (by decide +kernel) (pa_cons (pe_op (addK K) (pe_op (addK K) (pe_ix (ixK K) (pv 0) pe_int (fun _ _ => rfl)) (pe_op op_mulG (pe_op op_mulG pe_int (pe_ix (ixK K) (pv 0) pe_int (fun _ _ => rfl))) (pe_ix (ixK K) (pv 0) pe_int (fun _ _ => rfl)))) pe_int) pa_nil)) pe_int) pa_nil)) (pv 3)))
      (pss_cons (ps_set (i := 4) sc__law_take.nd rfl (.inl rfl) (pe_op op_mod (pe_callTy call_intG (by rfl) T.z_int (by decide +kernel) (pa_cons (pe_op op_mulG (pv 4) (pe_op (addK K) (pe_op op_mod (pe_callTy call_intG (by rfl) T.z_int (by decide +kernel) (pa_cons (pv 4) pa_nil)) pe_int) (pe_op op_mulG pe_int (pe_ix (ixK K) (pv 0) pe_int (fun _ _ => rfl))))) pa_nil)) pe_int))
      (pss_one (ps_ret (pe_op op_mod (pe_callTy call_intG (by rfl) T.z_int (by decide +kernel) (pa_cons (pe_op op_fdivW (pv 4) pe_int) pa_nil)) (pv 1))))))))), W__law_take, inferInstance, fun ds n QD h => body__law_take h⟩)
theorem ok__law_of (T : Txt w K mg) : FnOk P w K mg base CX0 2 T.a__law_of T.fd__law_of ["pot", "some"] (spF K G__law_of) := by
  exact okP T.F__law_of sc__law_of (fun _ _ _ _ => by walk_at "len") (fun cdv A outer s H hr => ⟨_, (pss_one (ps_ret (pe_ix (ixK K) (pv 1) (pe_call (ok__law_take (P := P) (w := w) (base := base) T) (hr.mono (by decide)) (by rfl) T.g__law_take T.F__law_take.kp T.b__law_take .nil pass0 (pa_cons (pv 0) (pa_cons (pe_callB (lenK K) (by rfl) T.z_len (by decide +kernel) (pa_cons (pv 1) pa_nil)) pa_nil))) (fun _ _ => rfl)))), W__law_of, inferInstance, fun ds n QD h => body__law_of h⟩)
theorem ok__law_frac_drawn (T : Txt w K mg) : FnOk P w K mg base CX0 3 T.a__law_frac_drawn T.fd__law_frac_drawn ["pot", "low", "high"] (spF K G__law_frac_drawn) := by
  exact okP T.F__law_frac_drawn sc__law_frac_drawn (fun _ _ _ _ => by walk_at "len") (fun cdv A outer s H hr => ⟨_, (pss_cons (ps_set (i := 3) sc__law_frac_drawn.nd rfl (.inl rfl) (pe_call (ok__law_of (P := P) (w := w) (base := base) T) (hr.mono (by decide)) (by rfl) T.g__law_of T.F__law_of.kp T.b__law_of .nil pass0 (pa_cons (pv 0) (pa_cons (pe_lst (pa_cons pe_int (pa_cons pe_int (pa_cons pe_int (pa_cons pe_int (pa_cons pe_int (pa_cons pe_int pa_nil))))))) pa_nil))))
      (pss_one (ps_ret (pe_call (ok__law_frac (P := P) (w := w) (base := base) T) (hr.mono (by decide)) (by rfl) T.g__law_frac T.F__law_frac.kp T.b__law_frac .nil pass0 (pa_cons (pe_op (addK K) (pe_op op_mulG (pv 1) (pv 3)) (pe_call (ok__law_take (P := P) (w := w) (base := base) T) (hr.mono (by decide)) (by rfl) T.g__law_take T.F__law_take.kp T.b__law_take .nil pass0 (pa_cons (pv 0) (pa_cons (pe_op (addK K) (pe_op op_mulG (pe_op op_sub (pv 2) (pv 1)) (pv 3)) pe_int) pa_nil)))) (pa_cons (pv 3) pa_nil)))))), W__law_frac_drawn, inferInstance, fun ds n QD h => body__law_frac_drawn h⟩)
theorem ok__law_frac_is_less (T : Txt w K mg) : FnOk P w K mg base CX0 1 T.a__law_frac_is_less T.fd__law_frac_is_less ["one", "other"] (spF K G__law_frac_is_less) := by
  exact okD T.F__law_frac_is_less sc__law_frac_is_less (fun _ _ _ _ => by walk_at "len") (fun cdv A outer s H hr => ⟨_, (pss_one (ps_ret (pe_cmpR op_lt (pe_op op_mulG (pe_ix (ixK K) (pv 0) pe_int (fun _ _ => rfl)) (pe_ix (ixK K) (pv 1) pe_int (fun _ _ => rfl))) (pe_op op_mulG (pe_ix (ixK K) (pv 1) pe_int (fun _ _ => rfl)) (pe_ix (ixK K) (pv 0) pe_int (fun _ _ => rfl))) (nomark _)))), W__law_frac_is_less, inferInstance, fun ds n QD h => body__law_frac_is_less h⟩)
theorem ok__law_frac_less (T : Txt w K mg) : FnOk P w K mg base CX0 3 T.a__law_frac_less T.fd__law_frac_less ["one", "other"] (spF K G__law_frac_less) := by
  exact okD T.F__law_frac_less sc__law_frac_less (fun _ _ _ _ => by walk_at "len") (fun cdv A outer s H hr => ⟨_, (pss_one (ps_ret (pe_call (ok__law_frac (P := P) (w := w) (base := base) T) (hr.mono (by decide)) (by rfl) T.g__law_frac T.F__law_frac.kp T.b__law_frac .nil pass0 (pa_cons (pe_op op_sub (pe_op op_mulG (pe_ix (ixK K) (pv 0) pe_int (fun _ _ => rfl)) (pe_ix (ixK K) (pv 1) pe_int (fun _ _ => rfl))) (pe_op op_mulG (pe_ix (ixK K) (pv 1) pe_int (fun _ _ => rfl)) (pe_ix (ixK K) (pv 0) pe_int (fun _ _ => rfl)))) (pa_cons (pe_op op_mulG (pe_ix (ixK K) (pv 0) pe_int (fun _ _ => rfl)) (pe_ix (ixK K) (pv 1) pe_int (fun _ _ => rfl))) pa_nil))))), W__law_frac_less, inferInstance, fun ds n QD h => body__law_frac_less h⟩)
theorem ok__law_apart (T : Txt w K mg) : FnOk P w K mg base CX0 4 T.a__law_apart T.fd__law_apart ["one", "other"] (spF K G__law_apart) := by
  exact okD T.F__law_apart sc__law_apart (fun _ _ _ _ => by walk_at "len") (fun cdv A outer s H hr => ⟨_, (pss_cons (ps_set (i := 2) sc__law_apart.nd rfl (.inl rfl) (pe_call (ok__law_frac_less (P := P) (w := w) (base := base) T) (hr.mono (by decide)) (by rfl) T.g__law_frac_less T.F__law_frac_less.kp T.b__law_frac_less .nil pass0 (pa_cons (pv 0) (pa_cons (pv 1) pa_nil))))
      (pss_one (ps_ret (pe_tup (pa_cons (pe_callB call_absG (by rfl) T.z_abs (by decide +kernel) (pa_cons (pe_ix (ixK K) (pv 2) pe_int (fun _ _ => rfl)) pa_nil)) (pa_cons (pe_ix (ixK K) (pv 2) pe_int (fun _ _ => rfl)) pa_nil)))))), W__law_apart, inferInstance, fun ds n QD h => body__law_apart h⟩)
theorem ok__law_frac_over (T : Txt w K mg) : FnOk P w K mg base CX0 3 T.a__law_frac_over T.fd__law_frac_over ["one", "other"] (spF K G__law_frac_over) := by
  exact okD T.F__law_frac_over sc__law_frac_over (fun _ _ _ _ => by walk_at "len") (fun cdv A outer s H hr => ⟨_, (pss_one (ps_ret (pe_call (ok__law_frac (P := P) (w := w) (base := base) T) (hr.mono (by decide)) (by rfl) T.g__law_frac T.F__law_frac.kp T.b__law_frac .nil pass0 (pa_cons (pe_op op_mulG (pe_ix (ixK K) (pv 0) pe_int (fun _ _ => rfl)) (pe_ix (ixK K) (pv 1) pe_int (fun _ _ => rfl))) (pa_cons (pe_op op_mulG (pe_ix (ixK K) (pv 0) pe_int (fun _ _ => rfl)) (pe_ix (ixK K) (pv 1) pe_int (fun _ _ => rfl))) pa_nil))))), W__law_frac_over, inferInstance, fun ds n QD h => body__law_frac_over h⟩)
theorem ok__law_gap (T : Txt w K mg) : FnOk P w K mg base CX0 5 T.a__law_gap T.fd__law_gap ["worths", "rounds"] (spF K G__law_gap) := by
  exact okD T.F__law_gap sc__law_gap (fun _ _ _ _ => by walk_at "len") (fun cdv A outer s H hr => ⟨_, (pss_cons (ps_set (i := 2) sc__law_gap.nd rfl (.inl rfl) (pe_call (ok__law_apart (P := P) (w := w) (base := base) T) (hr.mono (by decide)) (by rfl) T.g__law_apart T.F__law_apart.kp T.b__law_apart .nil pass0 (pa_cons (pe_ix (ixK K) (pv 0) pe_int (fun _ _ => rfl)) (pa_cons (pe_ix (ixK K) (pv 0) pe_int (fun _ _ => rfl)) pa_nil))))
      (pss_cons (ps_for PassesOwn.never rfl (pi_range1 (by rfl) T.z_range (pa_cons (pv 1) pa_nil)) (pg_name (i := 3) sc__law_gap.nd rfl (.inl rfl)) (pss_one (ps_set (i := 2) sc__law_gap.nd rfl (.inl rfl) (pe_call (ok__law_frac_over (P := P) (w := w) (base := base) T) (hr.mono (by decide)) (by rfl) T.g__law_frac_over T.F__law_frac_over.kp T.b__law_frac_over .nil pass0 (pa_cons (pv 2) (pa_cons (pe_tup (pa_cons pe_int (pa_cons pe_int pa_nil))) pa_nil))))))
      (pss_one (ps_ret (pv 2))))), W__law_gap, inferInstance, fun ds n QD h => body__law_gap h⟩)
theorem okr__law_is (T : Txt w K mg) : ∀ d : Nat, FnOk P w K mg base CX0 (d + 1) T.a__law_is T.fd__law_is ["told", "due"] (spF K (G__law_is d))
  | 0 => fn_none (fun ds n QD h => G__law_is_zero h)
  | d + 1 => by
    have ih := okr__law_is T d
    exact okD T.F__law_is sc__law_is (fun _ _ _ _ => by walk_at "len") (fun cdv A outer s H hr => ⟨_, (pss_cons (ps_if (pt_val (pe_callB (isiK K) (by rfl) T.z_isinstance (by decide +kernel) (pa_cons (pv 1) (pa_cons (pe_bltn (v := .ty "tuple") (u := .type "tuple") (by rfl) T.z_tuple (by decide +kernel) rfl) pa_nil)))) (pss_cons (ps_set (i := 2) sc__law_is.nd rfl (.inl rfl) (pe_and (pe_callB (isiK K) (by rfl) T.z_isinstance (by decide +kernel) (pa_cons (pv 0) (pa_cons (pe_bltn (v := .ty "tuple") (u := .type "tuple") (by rfl) T.z_tuple (by decide +kernel) rfl) pa_nil))) (pe_one (pe_cmpR (eqK K hr.units) (pe_callB (lenK K) (by rfl) T.z_len (by decide +kernel) (pa_cons (pv 0) pa_nil)) (pe_callB (lenK K) (by rfl) T.z_len (by decide +kernel) (pa_cons (pv 1) pa_nil)) (nomark _)))))
      (pss_one (ps_ret (pe_and (pv 2) (pe_one (pe_callB (allK K rfl) (by rfl) T.z_all (by decide +kernel) (pa_cons (lcK [("one", 3), ("other", 4)] [3, 4] rfl sc__law_is.nd (zipK K (by rfl) T.z_zip (pa_cons (pv 0) (pa_cons (pv 1) pa_nil))) (blkOk_by (own := [("one", 3), ("other", 4)]) (N := ["told", "due", "is_fit", "one", "other"]) (sc := defScope s__law_is) (by decide +kernel)) (fun _ _ _ _ _ => (tgK K 2 rfl (pgs_cons (pg_name (i := 3) sc__law_is.nd rfl (.inl rfl)) (pgs_cons (pg_name (i := 4) sc__law_is.nd rfl (.inl rfl)) pgs_nil)))) (fun _ _ _ _ _ => pts_nil) (fun _ _ _ _ _ => (pe_call ih (hr.mono (by omega)) (by rfl) T.g__law_is T.F__law_is.kp T.b__law_is .nil pass0 (pa_cons (pv 3) (pa_cons (pv 4) pa_nil))))) pa_nil))))))) pss_nil)
      (pss_cons (ps_if (pt_val (pe_callB (isiK K) (by rfl) T.z_isinstance (by decide +kernel) (pa_cons (pv 1) (pa_cons (pe_bltn (v := .ty "int") (u := .type "int") (by rfl) T.z_int (by decide +kernel) rfl) pa_nil)))) (pss_one (ps_ret (pe_and (pe_callB (isiK K) (by rfl) T.z_isinstance (by decide +kernel) (pa_cons (pv 0) (pa_cons (pe_bltn (v := .ty "int") (u := .type "int") (by rfl) T.z_int (by decide +kernel) rfl) pa_nil))) (pe_and (pe_not (pe_callB (isiK K) (by rfl) T.z_isinstance (by decide +kernel) (pa_cons (pv 0) (pa_cons (pe_bltn (v := .ty "bool") (u := .type "bool") (by rfl) T.z_bool (by decide +kernel) rfl) pa_nil)))) (pe_one (pe_cmpR (eqK K hr.units) (pv 0) (pv 1) (nomark _))))))) pss_nil)
      (pss_one (ps_ret (pe_ifExp (pt_val (pe_callB (isiK K) (by rfl) T.z_isinstance (by decide +kernel) (pa_cons (pv 1) (pa_cons (pe_bltn (v := .ty "str") (u := .type "str") (by rfl) T.z_str (by decide +kernel) rfl) pa_nil)))) (pe_and (pe_callB (isiK K) (by rfl) T.z_isinstance (by decide +kernel) (pa_cons (pv 0) (pa_cons (pe_bltn (v := .ty "str") (u := .type "str") (by rfl) T.z_str (by decide +kernel) rfl) pa_nil))) (pe_one (pe_cmpR (eqK K hr.units) (pv 0) (pv 1) (nomark _)))) (pe_cmpR op_isW (pv 0) pe_non (nomark _))))))), W__law_is d, inferInstance, fun ds n QD h => body__law_is h⟩)
theorem ok__law_is (T : Txt w K mg) : FnOk P w K mg base CX0 4 T.a__law_is T.fd__law_is ["told", "due"] (spF K (G__law_is 3)) := (okr__law_is T 3).mono (by decide)
theorem ok__law_row_heard (T : Txt w K mg) : FnOk P w K mg base CX0 1 T.a__law_row_heard T.fd__law_row_heard ["numbers", "fate"] (spF K G__law_row_heard) := by
  exact okD T.F__law_row_heard sc__law_row_heard (fun _ _ _ _ => by walk_at "len") (fun cdv A outer s H hr => ⟨_, (pss_cons (ps_asg (pv 0) (tgK K 2 rfl (pgs_cons (pg_name (i := 2) sc__law_row_heard.nd rfl (.inl rfl)) (pgs_cons (pg_name (i := 3) sc__law_row_heard.nd rfl (.inl rfl)) pgs_nil))))
      (pss_cons (ps_set (i := 4) sc__law_row_heard.nd rfl (.inl rfl) (pe_ifExp (pt_cmpR (eqK K hr.units) (pv 1) pe_str (nomark _)) (pe_op op_mulG pe_int (pv 2)) (pe_op (addK K) (pv 2) (pe_op op_mulG pe_int (pv 3)))))
      (pss_one (ps_ret (pe_tup (pa_cons (pv 4) (pa_cons (pe_ifExp (pt_cmpR (eqK K hr.units) (pv 1) pe_str (nomark _)) (pe_op op_mulG pe_int (pv 3)) (pe_op (addK K) (pv 3) (pe_op op_mulG pe_int (pv 2)))) pa_nil))))))), W__law_row_heard, inferInstance, fun ds n QD h => body__law_row_heard h⟩)
theorem ok__law_row_numbers (T : Txt w K mg) : FnOk P w K mg base CX0 2 T.a__law_row_numbers T.fd__law_row_numbers ["word"] (spF K G__law_row_numbers) := by
  exact okD T.F__law_row_numbers sc__law_row_numbers (fun _ _ _ _ => by walk_at "len") (fun cdv A outer s H hr => ⟨_, (pss_cons (ps_set (i := 1) sc__law_row_numbers.nd rfl (.inl rfl) (pe_tup (pa_cons pe_int (pa_cons pe_int pa_nil))))
      (pss_cons (ps_for PassesOwn.never rfl (piK K (pv 0)) (pg_name (i := 2) sc__law_row_numbers.nd rfl (.inl rfl)) (pss_one (ps_set (i := 1) sc__law_row_numbers.nd rfl (.inl rfl) (pe_call (ok__law_row_heard (P := P) (w := w) (base := base) T) (hr.mono (by decide)) (by rfl) T.g__law_row_heard T.F__law_row_heard.kp T.b__law_row_heard .nil pass0 (pa_cons (pv 1) (pa_cons (pv 2) pa_nil))))))
      (pss_one (ps_ret (pv 1))))), W__law_row_numbers, inferInstance, fun ds n QD h => body__law_row_numbers h⟩)
theorem ok__law_row_longer (T : Txt w K mg) : FnOk P w K mg base CX0 1 T.a__law_row_longer T.fd__law_row_longer ["words"] (spF K G__law_row_longer) := by
  exact okD T.F__law_row_longer sc__law_row_longer (fun _ _ _ _ => by walk_at "len") (fun cdv A outer s H hr => ⟨_, (pss_cons (ps_own (i := 1) sc__law_row_longer.nd rfl (.inl rfl) (pe_lst pa_nil))
      (pss_cons (ps_for PassesOwn.never rfl (piK K (pv 0)) (pg_name (i := 2) sc__law_row_longer.nd rfl (.inr rfl)) (pss_one (ps_ext (ps_expr (bmK K PySem.F.plainAttrs_list PySem.F.slot_list_extend PySem.F.type_list_extend mt_extend (pv 1) (pa_cons (lcK [("fate", 3)] [3] rfl sc__law_row_longer.nd (piK K pe_str) (blkOk_by (own := [("fate", 3)]) (N := ["words", "found", "word", "fate"]) (sc := defScope s__law_row_longer) (by decide +kernel)) (fun _ _ _ _ _ => (pg_name (i := 3) sc__law_row_longer.nd rfl (.inl rfl))) (fun _ _ _ _ _ => pts_nil) (fun _ _ _ _ _ => (pe_op (addK K) (pv 2) (pv 3)))) pa_nil))))))
      (pss_one (ps_ret (pv 1))))), W__law_row_longer, inferInstance, fun ds n QD h => body__law_row_longer h⟩)
theorem ok__law_row_place (T : Txt w K mg) : FnOk P w K mg base CX0 3 T.a__law_row_place T.fd__law_row_place ["word"] (spF K G__law_row_place) := by
  exact okD T.F__law_row_place sc__law_row_place (fun _ _ _ _ => by walk_at "len") (fun cdv A outer s H hr => ⟨_, (pss_one (ps_ret (pe_callB (minK1 K rfl) (by rfl) T.z_min (by decide +kernel) (pa_cons (pe_call (ok__law_row_numbers (P := P) (w := w) (base := base) T) (hr.mono (by decide)) (by rfl) T.g__law_row_numbers T.F__law_row_numbers.kp T.b__law_row_numbers .nil pass0 (pa_cons (pv 0) pa_nil)) pa_nil)))), W__law_row_place, inferInstance, fun ds n QD h => body__law_row_place h⟩)
theorem ok__law_row_words (T : Txt w K mg) : FnOk P w K mg base CX0 6 T.a__law_row_words T.fd__law_row_words ["rounds"] (spF K G__law_row_words) := by
  exact okD T.F__law_row_words sc__law_row_words (fun _ _ _ _ => by walk_at "len") (fun cdv A outer s H hr => ⟨_, (pss_cons (ps_set (i := 1) sc__law_row_words.nd rfl (.inl rfl) (pe_lst (pa_cons pe_str pa_nil)))
      (pss_cons (ps_for PassesOwn.never rfl (pi_range1 (by rfl) T.z_range (pa_cons (pv 0) pa_nil)) (pg_name (i := 2) sc__law_row_words.nd rfl (.inl rfl)) (pss_one (ps_set (i := 1) sc__law_row_words.nd rfl (.inl rfl) (pe_call (ok__law_row_longer (P := P) (w := w) (base := base) T) (hr.mono (by decide)) (by rfl) T.g__law_row_longer T.F__law_row_longer.kp T.b__law_row_longer .nil pass0 (pa_cons (pv 1) pa_nil)))))
      (pss_one (ps_ret (pe_sortK (g := G__law_row_place) (E := fun _ _ _ => False) (ok__law_row_place (P := P) (w := w) (base := base) T) (hr.mono (by decide)) T.b__law_row_place (by rfl) T.z_sorted (by rfl) T.g__law_row_place (pv 1)))))), W__law_row_words, inferInstance, fun ds n QD h => body__law_row_words h⟩)
theorem ok__law_widest (T : Txt w K mg) : FnOk P w K mg base CX0 7 T.a__law_widest T.fd__law_widest ["marks", "rounds"] (spF K G__law_widest) := by
  exact okD T.F__law_widest sc__law_widest (fun _ _ _ _ => by walk_at "len") (fun cdv A outer s H hr => ⟨_, (pss_cons (ps_par (i := 2) (j := 3) rfl sc__law_widest.nd rfl rfl (by decide) rfl rfl (pa_cons (pe_call (ok__law_row_words (P := P) (w := w) (base := base) T) (hr.mono (by decide)) (by rfl) T.g__law_row_words T.F__law_row_words.kp T.b__law_row_words .nil pass0 (pa_cons (pv 1) pa_nil)) (pa_cons (pe_tup (pa_cons pe_int (pa_cons pe_int pa_nil))) pa_nil)) (by rfl))
      (pss_cons (ps_for PassesOwn.never rfl (zipK K (by rfl) T.z_zip (pa_cons (pv 0) (pa_cons (pe_slice (slK K) (pv 0) (po_some pe_int) po_none) pa_nil))) (tgK K 2 rfl (pgs_cons (pg_name (i := 4) sc__law_widest.nd rfl (.inl rfl)) (pgs_cons (pg_name (i := 5) sc__law_widest.nd rfl (.inl rfl)) pgs_nil))) (pss_cons (ps_set (i := 6) sc__law_widest.nd rfl (.inl rfl) (pe_call (ok__law_apart (P := P) (w := w) (base := base) T) (hr.mono (by decide)) (by rfl) T.g__law_apart T.F__law_apart.kp T.b__law_apart .nil pass0 (pa_cons (pv 4) (pa_cons (pv 5) pa_nil))))
      (pss_one (ps_set (i := 3) sc__law_widest.nd rfl (.inl rfl) (pe_ifExp (pt_val (pe_call (ok__law_frac_is_less (P := P) (w := w) (base := base) T) (hr.mono (by decide)) (by rfl) T.g__law_frac_is_less T.F__law_frac_is_less.kp T.b__law_frac_is_less .nil pass0 (pa_cons (pv 3) (pa_cons (pv 6) pa_nil)))) (pv 6) (pv 3))))))
      (pss_cons (ps_for PassesOwn.never rfl (enumK K (by rfl) T.z_enumerate (pa_cons (pv 2) pa_nil)) (tgK K 2 rfl (pgs_cons (pg_name (i := 7) sc__law_widest.nd rfl (.inl rfl)) (pgs_cons (pg_name (i := 8) sc__law_widest.nd rfl (.inl rfl)) pgs_nil))) (pss_one (ps_if (pt_cmpR (eqK K hr.units) (pe_call (ok__law_apart (P := P) (w := w) (base := base) T) (hr.mono (by decide)) (by rfl) T.g__law_apart T.F__law_apart.kp T.b__law_apart .nil pass0 (pa_cons (pe_ix (ixK K) (pv 0) (pv 7) (fun _ _ => rfl)) (pa_cons (pe_ix (ixK K) (pv 0) (pe_op (addK K) (pv 7) pe_int) (fun _ _ => rfl)) pa_nil))) (pv 3) (nomark _)) (pss_one (ps_ret (pe_tup (pa_cons (pv 8) (pa_cons (pv 3) pa_nil))))) pss_nil)))
      (pss_one (ps_ret pe_non))))), W__law_widest, inferInstance, fun ds n QD h => body__law_widest h⟩)
theorem ok_are_letters (T : Txt w K mg) : FnOk P w K mg base CX0 1 T.a_are_letters T.fd_are_letters ["value", "low", "high"] (spF K G_are_letters) := by
  exact okD T.F_are_letters sc_are_letters (fun _ _ _ _ => by walk_at "len") (fun cdv A outer s H hr => ⟨_, (pss_one (ps_ret (pe_and (pe_callB (isiK K) (by rfl) T.z_isinstance (by decide +kernel) (pa_cons (pv 0) (pa_cons (pe_bltn (v := .ty "str") (u := .type "str") (by rfl) T.z_str (by decide +kernel) rfl) pa_nil))) (pe_and (pe_chain op_le op_le (pv 1) (pe_callB (lenK K) (by rfl) T.z_len (by decide +kernel) (pa_cons (pv 0) pa_nil)) (pv 2)) (pe_one (pe_callB (allK K rfl) (by rfl) T.z_all (by decide +kernel) (pa_cons (lcK [("sign", 3)] [3] rfl sc_are_letters.nd (piK K (pv 0)) (blkOk_by (own := [("sign", 3)]) (N := ["value", "low", "high", "sign"]) (sc := defScope s_are_letters) (by decide +kernel)) (fun _ _ _ _ _ => (pg_name (i := 3) sc_are_letters.nd rfl (.inl rfl))) (fun _ _ _ _ _ => pts_nil) (fun _ _ _ _ _ => (pe_cmpR (inK K) (pv 3) (pe_glob (v := .str "nfs") (by rfl) T.c_LETTERS.choose_spec ⟨_, rfl⟩) (by rfl)))) pa_nil))))))), W_are_letters, inferInstance, fun ds n QD h => body_are_letters h⟩)
theorem ok_is_word (T : Txt w K mg) : FnOk P w K mg base CX0 2 T.a_is_word T.fd_is_word ["value"] (spF K G_is_word) := by
  exact okD T.F_is_word sc_is_word (fun _ _ _ _ => by walk_at "len") (fun cdv A outer s H hr => ⟨_, (pss_one (ps_ret (pe_call (ok_are_letters (P := P) (w := w) (base := base) T) (hr.mono (by decide)) (by rfl) T.g_are_letters T.F_are_letters.kp T.b_are_letters .nil pass0 (pa_cons (pv 0) (pa_cons pe_int (pa_cons (pe_glob (v := .int 200) (by rfl) T.c_MOST_WORD.choose_spec ⟨_, rfl⟩) pa_nil)))))), W_is_word, inferInstance, fun ds n QD h => body_is_word h⟩)
theorem ok_check_word (T : Txt w K mg) : FnOk P w K mg base CX0 3 T.a_check_word T.fd_check_word ["word"] (spF K G_check_word) := by
  exact okD T.F_check_word sc_check_word (fun _ _ _ _ => by walk_at "len") (fun cdv A outer s H hr => ⟨_, (pss_one (ps_if (pt_not (pt_val (pe_call (ok_is_word (P := P) (w := w) (base := base) T) (hr.mono (by decide)) (by rfl) T.g_is_word T.F_is_word.kp T.b_is_word .nil pass0 (pa_cons (pv 0) pa_nil)))) (pss_one ps_never) pss_nil)), W_check_word, inferInstance, fun ds n QD h => body_check_word h⟩)
theorem ok_common (T : Txt w K mg) : FnOk P w K mg base CX0 1 T.a_common T.fd_common ["one", "other"] (spF K G_common) := by
  exact okD T.F_common sc_common (fun _ _ _ _ => by walk_at "len") (fun cdv A outer s H hr => ⟨_, (pss_cons (ps_par (i := 0) (j := 1) rfl sc_common.nd rfl rfl (by decide) rfl rfl (pa_cons (pe_callB call_absG (by rfl) T.z_abs (by decide +kernel) (pa_cons (pv 0) pa_nil)) (pa_cons (pe_callB call_absG (by rfl) T.z_abs (by decide +kernel) (pa_cons (pv 1) pa_nil)) pa_nil)) (by rfl))
      (pss_cons (ps_while PassesOwn.never (pt_cmpR op_gt (pv 1) pe_int (nomark _)) (pss_one (ps_par (i := 0) (j := 1) rfl sc_common.nd rfl rfl (by decide) rfl rfl (pa_cons (pv 1) (pa_cons (pe_op op_mod (pv 0) (pv 1)) pa_nil)) (by rfl))))
      (pss_one (ps_ret (pv 0))))), W_common, inferInstance, fun ds n QD h => body_common h⟩)
theorem ok_is_whole (T : Txt w K mg) : FnOk P w K mg base CX0 1 T.a_is_whole T.fd_is_whole ["value"] (spF K G_is_whole) := by
  exact okD T.F_is_whole sc_is_whole (fun _ _ _ _ => by walk_at "len") (fun cdv A outer s H hr => ⟨_, (pss_one (ps_ret (pe_and (pe_callB (isiK K) (by rfl) T.z_isinstance (by decide +kernel) (pa_cons (pv 0) (pa_cons (pe_bltn (v := .ty "int") (u := .type "int") (by rfl) T.z_int (by decide +kernel) rfl) pa_nil))) (pe_one (pe_not (pe_callB (isiK K) (by rfl) T.z_isinstance (by decide +kernel) (pa_cons (pv 0) (pa_cons (pe_bltn (v := .ty "bool") (u := .type "bool") (by rfl) T.z_bool (by decide +kernel) rfl) pa_nil)))))))), W_is_whole, inferInstance, fun ds n QD h => body_is_whole h⟩)
theorem ok_is_ratio (T : Txt w K mg) : FnOk P w K mg base CX0 2 T.a_is_ratio T.fd_is_ratio ["value"] (spF K G_is_ratio) := by
  exact okD T.F_is_ratio sc_is_ratio (fun _ _ _ _ => by walk_at "len") (fun cdv A outer s H hr => ⟨_, (pss_cons (ps_if (PW.pt (pw_or (pt_not (pt_val (pe_callB (isiK K) (by rfl) T.z_isinstance (by decide +kernel) (pa_cons (pv 0) (pa_cons (pe_bltn (v := .ty "tuple") (u := .type "tuple") (by rfl) T.z_tuple (by decide +kernel) rfl) pa_nil))))) (pw_or (pt_cmpR (neK K hr.units) (pe_callB (lenK K) (by rfl) T.z_len (by decide +kernel) (pa_cons (pv 0) pa_nil)) (pe_glob (v := .int 2) (by rfl) T.c_PAIR_ratios.choose_spec ⟨_, rfl⟩) (nomark _)) (pw_or1 (pt_not (pt_val (pe_callB (allK K rfl) (by rfl) T.z_all (by decide +kernel) (pa_cons (lcK [("one", 1)] [1] rfl sc_is_ratio.nd (piK K (pv 0)) (blkOk_by (own := [("one", 1)]) (N := ["value", "one"]) (sc := defScope s_is_ratio) (by decide +kernel)) (fun _ _ _ _ _ => (pg_name (i := 1) sc_is_ratio.nd rfl (.inl rfl))) (fun _ _ _ _ _ => pts_nil) (fun _ _ _ _ _ => (pe_call (ok_is_whole (P := P) (w := w) (base := base) T) (hr.mono (by decide)) (by rfl) T.g_is_whole T.F_is_whole.kp T.b_is_whole .nil pass0 (pa_cons (pv 1) pa_nil)))) pa_nil)))))))) (pss_one (ps_ret pe_bl)) pss_nil)
      (pss_one (ps_ret (pe_and (pe_cmpR op_ge (pe_ix (ixK K) (pv 0) pe_int (fun _ _ => rfl)) pe_int (nomark _)) (pe_one (pe_cmpR (eqK K hr.units) (pe_call (ok_common (P := P) (w := w) (base := base) T) (hr.mono (by decide)) (by rfl) T.g_common T.F_common.kp T.b_common .nil pass0 (pa_cons (pe_ix (ixK K) (pv 0) pe_int (fun _ _ => rfl)) (pa_cons (pe_ix (ixK K) (pv 0) pe_int (fun _ _ => rfl)) pa_nil))) pe_int (nomark _))))))), W_is_ratio, inferInstance, fun ds n QD h => body_is_ratio h⟩)
theorem ok_is_tuple (T : Txt w K mg) : FnOk P w K mg base CX0 1 T.a_is_tuple T.fd_is_tuple ["value", "low", "high"] (spF K G_is_tuple) := by
  exact okD T.F_is_tuple sc_is_tuple (fun _ _ _ _ => by walk_at "len") (fun cdv A outer s H hr => ⟨_, (pss_one (ps_ret (pe_and (pe_callB (isiK K) (by rfl) T.z_isinstance (by decide +kernel) (pa_cons (pv 0) (pa_cons (pe_bltn (v := .ty "tuple") (u := .type "tuple") (by rfl) T.z_tuple (by decide +kernel) rfl) pa_nil))) (pe_one (pe_chain op_le op_le (pv 1) (pe_callB (lenK K) (by rfl) T.z_len (by decide +kernel) (pa_cons (pv 0) pa_nil)) (pv 2)))))), W_is_tuple, inferInstance, fun ds n QD h => body_is_tuple h⟩)
theorem ok_check_worths (T : Txt w K mg) : FnOk P w K mg base CX0 3 T.a_check_worths T.fd_check_worths ["worths"] (spF K G_check_worths) := by
  exact okD T.F_check_worths sc_check_worths (fun _ _ _ _ => by walk_at "len") (fun cdv A outer s H hr => ⟨_, (pss_one (ps_if (PW.pt (pw_or (pt_not (pt_val (pe_call (ok_is_tuple (P := P) (w := w) (base := base) T) (hr.mono (by decide)) (by rfl) T.g_is_tuple T.F_is_tuple.kp T.b_is_tuple .nil pass0 (pa_cons (pv 0) (pa_cons (pe_glob (v := .int 2) (by rfl) T.c_PAIR_nearness.choose_spec ⟨_, rfl⟩) (pa_cons (pe_glob (v := .int 2) (by rfl) T.c_PAIR_nearness.choose_spec ⟨_, rfl⟩) pa_nil)))))) (pw_or1 (pt_not (pt_val (pe_callB (allK K rfl) (by rfl) T.z_all (by decide +kernel) (pa_cons (lcK [("one", 1)] [1] rfl sc_check_worths.nd (piK K (pv 0)) (blkOk_by (own := [("one", 1)]) (N := ["worths", "one"]) (sc := defScope s_check_worths) (by decide +kernel)) (fun _ _ _ _ _ => (pg_name (i := 1) sc_check_worths.nd rfl (.inl rfl))) (fun _ _ _ _ _ => pts_nil) (fun _ _ _ _ _ => (pe_call (ok_is_ratio (P := P) (w := w) (base := base) T) (hr.mono (by decide)) (by rfl) T.g_is_ratio T.F_is_ratio.kp T.b_is_ratio .nil pass0 (pa_cons (pv 1) pa_nil)))) pa_nil))))))) (pss_one ps_never) pss_nil)), W_check_worths, inferInstance, fun ds n QD h => body_check_worths h⟩)
theorem ok_ratio (T : Txt w K mg) : FnOk P w K mg base CX0 2 T.a_ratio T.fd_ratio ["top", "bottom"] (spF K G_ratio) := by
  exact okD T.F_ratio sc_ratio (fun _ _ _ _ => by walk_at "len") (fun cdv A outer s H hr => ⟨_, (pss_cons (ps_set (i := 2) sc_ratio.nd rfl (.inl rfl) (pe_call (ok_common (P := P) (w := w) (base := base) T) (hr.mono (by decide)) (by rfl) T.g_common T.F_common.kp T.b_common .nil pass0 (pa_cons (pv 0) (pa_cons (pv 1) pa_nil))))
      (pss_cons (ps_set (i := 2) sc_ratio.nd rfl (.inl rfl) (pe_ifExp (pt_cmpR op_gt (pv 1) pe_int (nomark _)) (pv 2) (pe_op op_sub pe_int (pv 2))))
      (pss_one (ps_ret (pe_tup (pa_cons (pe_op op_fdivW (pv 0) (pv 2)) (pa_cons (pe_op op_fdivW (pv 1) (pv 2)) pa_nil))))))), W_ratio, inferInstance, fun ds n QD h => body_ratio h⟩)
theorem ok_less (T : Txt w K mg) : FnOk P w K mg base CX0 3 T.a_less T.fd_less ["one", "other"] (spF K G_less) := by
  exact okD T.F_less sc_less (fun _ _ _ _ => by walk_at "len") (fun cdv A outer s H hr => ⟨_, (pss_one (ps_ret (pe_call (ok_ratio (P := P) (w := w) (base := base) T) (hr.mono (by decide)) (by rfl) T.g_ratio T.F_ratio.kp T.b_ratio .nil pass0 (pa_cons (pe_op op_sub (pe_op op_mulG (pe_ix (ixK K) (pv 0) pe_int (fun _ _ => rfl)) (pe_ix (ixK K) (pv 1) pe_int (fun _ _ => rfl))) (pe_op op_mulG (pe_ix (ixK K) (pv 1) pe_int (fun _ _ => rfl)) (pe_ix (ixK K) (pv 0) pe_int (fun _ _ => rfl)))) (pa_cons (pe_op op_mulG (pe_ix (ixK K) (pv 0) pe_int (fun _ _ => rfl)) (pe_ix (ixK K) (pv 1) pe_int (fun _ _ => rfl))) pa_nil))))), W_less, inferInstance, fun ds n QD h => body_less h⟩)
theorem ok_numbers_at (T : Txt w K mg) : FnOk P w K mg base CX0 1 T.a_numbers_at T.fd_numbers_at ["its"] (spF K G_numbers_at) := by
  exact okD T.F_numbers_at sc_numbers_at (fun _ _ _ _ => by walk_at "len") (fun cdv A outer s H hr => ⟨_, (pss_one (ps_ret (pe_ifExp (pt_cmpR (eqK K hr.units) (pe_op op_mod (pv 0) pe_int) pe_int (nomark _)) (pe_tup (pa_cons (pv 0) (pa_cons (pe_op (addK K) (pv 0) pe_int) pa_nil))) (pe_tup (pa_cons (pe_op (addK K) (pv 0) pe_int) (pa_cons (pv 0) pa_nil)))))), W_numbers_at, inferInstance, fun ds n QD h => body_numbers_at h⟩)
theorem ok_place_of (T : Txt w K mg) : FnOk P w K mg base CX0 1 T.a_place_of T.fd_place_of ["word"] (spF K G_place_of) := by
  haveI := T.r_BACK
  exact okD T.F_place_of sc_place_of (fun _ _ _ _ => by walk_at "len") (fun cdv A outer s H hr => ⟨_, (pss_cons (ps_set (i := 1) sc_place_of.nd rfl (.inl rfl) pe_int)
      (pss_cons (ps_for PassesOwn.never rfl (piK K (pv 0)) (pg_name (i := 2) sc_place_of.nd rfl (.inl rfl)) (pss_one (ps_set (i := 1) sc_place_of.nd rfl (.inl rfl) (pe_op (addK K) (pe_op op_mulG (pe_glob (v := .int 3) (by rfl) T.c_THREE.choose_spec ⟨_, rfl⟩) (pv 1)) (bmK K PySem.F.plainAttrs_str PySem.F.slot_str_index PySem.F.type_str_index (mt_idxS rfl) (pe_ix (ixK K) (pe_glob (v := .ref T.a_BACK) (by rfl) T.c_BACK rfl) (pe_op op_mod (pv 1) pe_int) (fun _ _ => rfl)) (pa_cons (pv 2) pa_nil))))))
      (pss_one (ps_ret (pv 1))))), W_place_of, inferInstance, fun ds n QD h => body_place_of h⟩)
theorem ok_plus (T : Txt w K mg) : FnOk P w K mg base CX0 3 T.a_plus T.fd_plus ["one", "other"] (spF K G_plus) := by
  exact okD T.F_plus sc_plus (fun _ _ _ _ => by walk_at "len") (fun cdv A outer s H hr => ⟨_, (pss_one (ps_ret (pe_call (ok_ratio (P := P) (w := w) (base := base) T) (hr.mono (by decide)) (by rfl) T.g_ratio T.F_ratio.kp T.b_ratio .nil pass0 (pa_cons (pe_op (addK K) (pe_op op_mulG (pe_ix (ixK K) (pv 0) pe_int (fun _ _ => rfl)) (pe_ix (ixK K) (pv 1) pe_int (fun _ _ => rfl))) (pe_op op_mulG (pe_ix (ixK K) (pv 1) pe_int (fun _ _ => rfl)) (pe_ix (ixK K) (pv 0) pe_int (fun _ _ => rfl)))) (pa_cons (pe_op op_mulG (pe_ix (ixK K) (pv 0) pe_int (fun _ _ => rfl)) (pe_ix (ixK K) (pv 1) pe_int (fun _ _ => rfl))) pa_nil))))), W_plus, inferInstance, fun ds n QD h => body_plus h⟩)
theorem ok_power_of_three (T : Txt w K mg) : FnOk P w K mg base CX0 1 T.a_power_of_three T.fd_power_of_three ["rounds"] (spF K G_power_of_three) := by
  exact okD T.F_power_of_three sc_power_of_three (fun _ _ _ _ => by walk_at "len") (fun cdv A outer s H hr => ⟨_, (pss_cons (ps_set (i := 1) sc_power_of_three.nd rfl (.inl rfl) pe_int)
      (pss_cons (ps_for PassesOwn.never rfl (pi_range1 (by rfl) T.z_range (pa_cons (pv 0) pa_nil)) (pg_name (i := 2) sc_power_of_three.nd rfl (.inl rfl)) (pss_one (ps_set (i := 1) sc_power_of_three.nd rfl (.inl rfl) (pe_op op_mulG (pe_glob (v := .int 3) (by rfl) T.c_THREE.choose_spec ⟨_, rfl⟩) (pv 1)))))
      (pss_one (ps_ret (pv 1))))), W_power_of_three, inferInstance, fun ds n QD h => body_power_of_three h⟩)
theorem ok_times (T : Txt w K mg) : FnOk P w K mg base CX0 3 T.a_times T.fd_times ["one", "other"] (spF K G_times) := by
  exact okD T.F_times sc_times (fun _ _ _ _ => by walk_at "len") (fun cdv A outer s H hr => ⟨_, (pss_one (ps_ret (pe_call (ok_ratio (P := P) (w := w) (base := base) T) (hr.mono (by decide)) (by rfl) T.g_ratio T.F_ratio.kp T.b_ratio .nil pass0 (pa_cons (pe_op op_mulG (pe_ix (ixK K) (pv 0) pe_int (fun _ _ => rfl)) (pe_ix (ixK K) (pv 1) pe_int (fun _ _ => rfl))) (pa_cons (pe_op op_mulG (pe_ix (ixK K) (pv 0) pe_int (fun _ _ => rfl)) (pe_ix (ixK K) (pv 1) pe_int (fun _ _ => rfl))) pa_nil))))), W_times, inferInstance, fun ds n QD h => body_times h⟩)
theorem ok_near (T : Txt w K mg) : FnOk P w K mg base CX0 4 T.a_near T.fd_near ["worths", "word"] (spF K G_near) := by
  exact okD T.F_near sc_near (fun _ _ _ _ => by walk_at "len") (fun cdv A outer s H hr => ⟨_, (pss_cons (ps_expr (pe_call (ok_check_worths (P := P) (w := w) (base := base) T) (hr.mono (by decide)) (by rfl) T.g_check_worths T.F_check_worths.kp T.b_check_worths .nil pass0 (pa_cons (pv 0) pa_nil)))
      (pss_cons (ps_expr (pe_call (ok_check_word (P := P) (w := w) (base := base) T) (hr.mono (by decide)) (by rfl) T.g_check_word T.F_check_word.kp T.b_check_word .nil pass0 (pa_cons (pv 1) pa_nil)))
      (pss_cons (ps_asg (pe_tup (pa_cons (pe_call (ok_power_of_three (P := P) (w := w) (base := base) T) (hr.mono (by decide)) (by rfl) T.g_power_of_three T.F_power_of_three.kp T.b_power_of_three .nil pass0 (pa_cons (pe_callB (lenK K) (by rfl) T.z_len (by decide +kernel) (pa_cons (pv 1) pa_nil)) pa_nil)) (pa_cons (pe_call (ok_less (P := P) (w := w) (base := base) T) (hr.mono (by decide)) (by rfl) T.g_less T.F_less.kp T.b_less .nil pass0 (pa_cons (pe_ix (ixK K) (pv 0) pe_int (fun _ _ => rfl)) (pa_cons (pe_ix (ixK K) (pv 0) pe_int (fun _ _ => rfl)) pa_nil))) pa_nil))) (tgK K 2 rfl (pgs_cons (pg_name (i := 2) sc_near.nd rfl (.inr rfl)) (pgs_cons (pg_name (i := 3) sc_near.nd rfl (.inr rfl)) pgs_nil))))
      (pss_cons (setLcK 4 [("number", 5)] [5] rfl sc_near.nd rfl rfl (sw_true rfl rfl rfl (by decide +kernel)) (piK K (pe_call (ok_numbers_at (P := P) (w := w) (base := base) T) (hr.mono (by decide)) (by rfl) T.g_numbers_at T.F_numbers_at.kp T.b_numbers_at .nil pass0 (pa_cons (pe_call (ok_place_of (P := P) (w := w) (base := base) T) (hr.mono (by decide)) (by rfl) T.g_place_of T.F_place_of.kp T.b_place_of .nil pass0 (pa_cons (pv 1) pa_nil)) pa_nil))) (blkOk_by (own := [("number", 5)]) (N := ["worths", "word", "parts", "way", "ends", "number"]) (sc := defScope s_near) (by decide +kernel)) (fun _ _ _ _ _ => (pg_name (i := 5) sc_near.nd rfl (.inl rfl))) (fun _ _ _ _ _ => pts_nil) (fun _ _ _ _ _ => (pe_call (ok_plus (P := P) (w := w) (base := base) T) (hr.mono (by decide)) (by rfl) T.g_plus T.F_plus.kp T.b_plus .nil pass0 (pa_cons (pe_ix (ixK K) (pv 0) pe_int (fun _ _ => rfl)) (pa_cons (pe_call (ok_times (P := P) (w := w) (base := base) T) (hr.mono (by decide)) (by rfl) T.g_times T.F_times.kp T.b_times .nil pass0 (pa_cons (pv 3) (pa_cons (pe_call (ok_ratio (P := P) (w := w) (base := base) T) (hr.mono (by decide)) (by rfl) T.g_ratio T.F_ratio.kp T.b_ratio .nil pass0 (pa_cons (pv 5) (pa_cons (pv 2) pa_nil))) pa_nil))) pa_nil)))))
      (pss_one (ps_ret (pe_callTy (tupK K) (by rfl) T.z_tuple (by decide +kernel) (pa_cons (pv 4) pa_nil)))))))), W_near, inferInstance, fun ds n QD h => body_near h⟩)
theorem ok_is_below (T : Txt w K mg) : FnOk P w K mg base CX0 1 T.a_is_below T.fd_is_below ["one", "other"] (spF K G_is_below) := by
  exact okD T.F_is_below sc_is_below (fun _ _ _ _ => by walk_at "len") (fun cdv A outer s H hr => ⟨_, (pss_one (ps_ret (pe_cmpR op_lt (pe_op op_mulG (pe_ix (ixK K) (pv 0) pe_int (fun _ _ => rfl)) (pe_ix (ixK K) (pv 1) pe_int (fun _ _ => rfl))) (pe_op op_mulG (pe_ix (ixK K) (pv 1) pe_int (fun _ _ => rfl)) (pe_ix (ixK K) (pv 0) pe_int (fun _ _ => rfl))) (nomark _)))), W_is_below, inferInstance, fun ds n QD h => body_is_below h⟩)
theorem ok_apart (T : Txt w K mg) : FnOk P w K mg base CX0 4 T.a_apart T.fd_apart ["one", "other"] (spF K G_apart) := by
  exact okD T.F_apart sc_apart (fun _ _ _ _ => by walk_at "len") (fun cdv A outer s H hr => ⟨_, (pss_one (ps_ret (pe_ifExp (pt_val (pe_call (ok_is_below (P := P) (w := w) (base := base) T) (hr.mono (by decide)) (by rfl) T.g_is_below T.F_is_below.kp T.b_is_below .nil pass0 (pa_cons (pv 0) (pa_cons (pv 1) pa_nil)))) (pe_call (ok_less (P := P) (w := w) (base := base) T) (hr.mono (by decide)) (by rfl) T.g_less T.F_less.kp T.b_less .nil pass0 (pa_cons (pv 1) (pa_cons (pv 0) pa_nil))) (pe_call (ok_less (P := P) (w := w) (base := base) T) (hr.mono (by decide)) (by rfl) T.g_less T.F_less.kp T.b_less .nil pass0 (pa_cons (pv 0) (pa_cons (pv 1) pa_nil)))))), W_apart, inferInstance, fun ds n QD h => body_apart h⟩)
theorem ok_rounds_of_ends (T : Txt w K mg) : FnOk P w K mg base CX0 3 T.a_rounds_of_ends T.fd_rounds_of_ends ["value"] (spF K G_rounds_of_ends) := by
  exact okD T.F_rounds_of_ends sc_rounds_of_ends (fun _ _ _ _ => by walk_at "len") (fun cdv A outer s H hr => ⟨_, (pss_cons (ps_for PassesOwn.never rfl (pi_range1 (by rfl) T.z_range (pa_cons (pe_op (addK K) (pe_glob (v := .int 5) (by rfl) T.c_MOST_ENDS_ROUNDS.choose_spec ⟨_, rfl⟩) pe_int) pa_nil)) (pg_name (i := 1) sc_rounds_of_ends.nd rfl (.inl rfl)) (pss_cons (ps_set (i := 2) sc_rounds_of_ends.nd rfl (.inl rfl) (pe_op (addK K) (pe_call (ok_power_of_three (P := P) (w := w) (base := base) T) (hr.mono (by decide)) (by rfl) T.g_power_of_three T.F_power_of_three.kp T.b_power_of_three .nil pass0 (pa_cons (pv 1) pa_nil)) pe_int))
      (pss_one (ps_if (pt_val (pe_call (ok_is_tuple (P := P) (w := w) (base := base) T) (hr.mono (by decide)) (by rfl) T.g_is_tuple T.F_is_tuple.kp T.b_is_tuple .nil pass0 (pa_cons (pv 0) (pa_cons (pv 2) (pa_cons (pv 2) pa_nil))))) (pss_one (ps_ret (pe_ifExp (pt_val (pe_callB (allK K rfl) (by rfl) T.z_all (by decide +kernel) (pa_cons (lcK [("one", 3)] [3] rfl sc_rounds_of_ends.nd (piK K (pv 0)) (blkOk_by (own := [("one", 3)]) (N := ["value", "rounds", "many", "one"]) (sc := defScope s_rounds_of_ends) (by decide +kernel)) (fun _ _ _ _ _ => (pg_name (i := 3) sc_rounds_of_ends.nd rfl (.inl rfl))) (fun _ _ _ _ _ => pts_nil) (fun _ _ _ _ _ => (pe_call (ok_is_ratio (P := P) (w := w) (base := base) T) (hr.mono (by decide)) (by rfl) T.g_is_ratio T.F_is_ratio.kp T.b_is_ratio .nil pass0 (pa_cons (pv 3) pa_nil)))) pa_nil))) (pv 1) pe_non))) pss_nil))))
      (pss_one (ps_ret pe_non))), W_rounds_of_ends, inferInstance, fun ds n QD h => body_rounds_of_ends h⟩)
theorem ok_word_of (T : Txt w K mg) : FnOk P w K mg base CX0 1 T.a_word_of T.fd_word_of ["rounds", "its"] (spF K G_word_of) := by
  haveI := T.r_BACK
  exact okD T.F_word_of sc_word_of (fun _ _ _ _ => by walk_at "len") (fun cdv A outer s H hr => ⟨_, (pss_cons (ps_set (i := 2) sc_word_of.nd rfl (.inl rfl) pe_str)
      (pss_cons (ps_for PassesOwn.never rfl (pi_range1 (by rfl) T.z_range (pa_cons (pv 0) pa_nil)) (pg_name (i := 3) sc_word_of.nd rfl (.inl rfl)) (pss_cons (ps_set (i := 4) sc_word_of.nd rfl (.inl rfl) (pe_op op_fdivW (pv 1) (pe_glob (v := .int 3) (by rfl) T.c_THREE.choose_spec ⟨_, rfl⟩)))
      (pss_cons (ps_set (i := 2) sc_word_of.nd rfl (.inl rfl) (pe_op (addK K) (pe_ix (ixK K) (pe_ix (ixK K) (pe_glob (v := .ref T.a_BACK) (by rfl) T.c_BACK rfl) (pe_op op_mod (pv 4) pe_int) (fun _ _ => rfl)) (pe_op op_mod (pv 1) (pe_glob (v := .int 3) (by rfl) T.c_THREE.choose_spec ⟨_, rfl⟩)) (fun _ _ => rfl)) (pv 2)))
      (pss_one (ps_set (i := 1) sc_word_of.nd rfl (.inl rfl) (pv 4))))))
      (pss_one (ps_ret (pv 2))))), W_word_of, inferInstance, fun ds n QD h => body_word_of h⟩)
theorem ok_widest (T : Txt w K mg) : FnOk P w K mg base CX0 5 T.a_widest T.fd_widest ["ends"] (spF K G_widest) := by
  exact okD T.F_widest sc_widest (fun _ _ _ _ => by walk_at "len") (fun cdv A outer s H hr => ⟨_, (pss_cons (ps_set (i := 1) sc_widest.nd rfl (.inl rfl) (pe_call (ok_rounds_of_ends (P := P) (w := w) (base := base) T) (hr.mono (by decide)) (by rfl) T.g_rounds_of_ends T.F_rounds_of_ends.kp T.b_rounds_of_ends .nil pass0 (pa_cons (pv 0) pa_nil)))
      (pss_cons (ps_if (pt_cmpR op_isW (pv 1) pe_non (nomark _)) (pss_one ps_never) pss_nil)
      (pss_cons (ps_par (i := 2) (j := 3) rfl sc_widest.nd rfl rfl (by decide) rfl rfl (pa_cons pe_int (pa_cons (pe_call (ok_apart (P := P) (w := w) (base := base) T) (hr.mono (by decide)) (by rfl) T.g_apart T.F_apart.kp T.b_apart .nil pass0 (pa_cons (pe_ix (ixK K) (pv 0) pe_int (fun _ _ => rfl)) (pa_cons (pe_ix (ixK K) (pv 0) pe_int (fun _ _ => rfl)) pa_nil))) pa_nil)) (by rfl))
      (pss_cons (ps_for PassesOwn.never rfl (pi_range2 (by rfl) T.z_range (pa_cons pe_int (pa_cons (pe_call (ok_power_of_three (P := P) (w := w) (base := base) T) (hr.mono (by decide)) (by rfl) T.g_power_of_three T.F_power_of_three.kp T.b_power_of_three .nil pass0 (pa_cons (pv 1) pa_nil)) pa_nil))) (pg_name (i := 4) sc_widest.nd rfl (.inl rfl)) (pss_cons (ps_set (i := 5) sc_widest.nd rfl (.inl rfl) (pe_call (ok_apart (P := P) (w := w) (base := base) T) (hr.mono (by decide)) (by rfl) T.g_apart T.F_apart.kp T.b_apart .nil pass0 (pa_cons (pe_ix (ixK K) (pv 0) (pv 4) (fun _ _ => rfl)) (pa_cons (pe_ix (ixK K) (pv 0) (pe_op (addK K) (pv 4) pe_int) (fun _ _ => rfl)) pa_nil))))
      (pss_one (ps_if (pt_val (pe_call (ok_is_below (P := P) (w := w) (base := base) T) (hr.mono (by decide)) (by rfl) T.g_is_below T.F_is_below.kp T.b_is_below .nil pass0 (pa_cons (pv 3) (pa_cons (pv 5) pa_nil)))) (pss_one (ps_par (i := 2) (j := 3) rfl sc_widest.nd rfl rfl (by decide) rfl rfl (pa_cons (pv 4) (pa_cons (pv 5) pa_nil)) (by rfl))) pss_nil))))
      (pss_one (ps_ret (pe_tup (pa_cons (pe_call (ok_word_of (P := P) (w := w) (base := base) T) (hr.mono (by decide)) (by rfl) T.g_word_of T.F_word_of.kp T.b_word_of .nil pass0 (pa_cons (pv 1) (pa_cons (pv 2) pa_nil))) (pa_cons (pv 3) pa_nil))))))))), W_widest, inferInstance, fun ds n QD h => body_widest h⟩)
theorem ok__law_are_ends_right (T : Txt w K mg) : FnOk P w K mg base CX0 8 T.a__law_are_ends_right T.fd__law_are_ends_right ["pot", "worths", "rounds"] (spF K G__law_are_ends_right) := by
  exact okP T.F__law_are_ends_right sc__law_are_ends_right (fun _ _ _ _ => by walk_at "len") (fun cdv A outer s H hr => ⟨_, (pss_cons (ps_set (i := 3) sc__law_are_ends_right.nd rfl (.inl rfl) (pe_op (addK K) (pe_callB (lenK K) (by rfl) T.z_len (by decide +kernel) (pa_cons (pe_call (ok__law_row_words (P := P) (w := w) (base := base) T) (hr.mono (by decide)) (by rfl) T.g__law_row_words T.F__law_row_words.kp T.b__law_row_words .nil pass0 (pa_cons (pv 2) pa_nil)) pa_nil)) pe_int))
      (pss_cons (ps_set (i := 4) sc__law_are_ends_right.nd rfl (.inl rfl) (pe_op (addK K) (pe_op (addK K) (pe_lst (pa_cons (pe_ix (ixK K) (pv 1) pe_int (fun _ _ => rfl)) pa_nil)) (lcK [("lap", 10)] [10] rfl sc__law_are_ends_right.nd (pi_range1 (by rfl) T.z_range (pa_cons (pe_op op_sub (pv 3) pe_int) pa_nil)) (blkOk_by (own := [("lap", 10)]) (N := ["pot", "worths", "rounds", "many", "marks", "told", "plain", "word", "number", "end", "lap"]) (sc := defScope s__law_are_ends_right) (by decide +kernel)) (fun _ _ _ _ _ => (pg_name (i := 10) sc__law_are_ends_right.nd rfl (.inl rfl))) (fun _ _ _ _ _ => pts_nil) (fun _ _ _ _ _ => (pe_call (ok__law_frac_drawn (P := P) (w := w) (base := base) T) (hr.mono (by decide)) (by rfl) T.g__law_frac_drawn T.F__law_frac_drawn.kp T.b__law_frac_drawn .nil pass0 (pa_cons (pv 0) (pa_cons (pe_un un_neg pe_int) (pa_cons pe_int pa_nil))))))) (pe_lst (pa_cons (pe_ix (ixK K) (pv 1) pe_int (fun _ _ => rfl)) pa_nil))))
      (pss_cons (ps_set (i := 5) sc__law_are_ends_right.nd rfl (.inl rfl) (pe_call (ok_widest (P := P) (w := w) (base := base) T) (hr.mono (by decide)) (by rfl) T.g_widest T.F_widest.kp T.b_widest .nil pass0 (pa_cons (pe_callTy (tupK K) (by rfl) T.z_tuple (by decide +kernel) (pa_cons (pv 4) pa_nil)) pa_nil)))
      (pss_cons (ps_if (pt_not (pt_val (pe_call (ok__law_is (P := P) (w := w) (base := base) T) (hr.mono (by decide)) (by rfl) T.g__law_is T.F__law_is.kp T.b__law_is .nil pass0 (pa_cons (pv 5) (pa_cons (pe_call (ok__law_widest (P := P) (w := w) (base := base) T) (hr.mono (by decide)) (by rfl) T.g__law_widest T.F__law_widest.kp T.b__law_widest .nil pass0 (pa_cons (pv 4) (pa_cons (pv 2) pa_nil))) pa_nil))))) (pss_one (ps_ret pe_bl)) pss_nil)
      (pss_cons (ps_if (pt_val (pe_call (ok__law_frac_is_less (P := P) (w := w) (base := base) T) (hr.mono (by decide)) (by rfl) T.g__law_frac_is_less T.F__law_frac_is_less.kp T.b__law_frac_is_less .nil pass0 (pa_cons (pe_ix (ixK K) (pv 5) pe_int (fun _ _ => rfl)) (pa_cons (pe_call (ok__law_gap (P := P) (w := w) (base := base) T) (hr.mono (by decide)) (by rfl) T.g__law_gap T.F__law_gap.kp T.b__law_gap .nil pass0 (pa_cons (pv 1) (pa_cons (pv 2) pa_nil))) pa_nil)))) (pss_one (ps_ret pe_bl)) pss_nil)
      (pss_cons (ps_ownLc (setLcK 6 [("lap", 10)] [10] rfl sc__law_are_ends_right.nd rfl rfl (sw_true rfl rfl rfl (by decide +kernel)) (pi_range1 (by rfl) T.z_range (pa_cons (pv 3) pa_nil)) (blkOk_by (own := [("lap", 10)]) (N := ["pot", "worths", "rounds", "many", "marks", "told", "plain", "word", "number", "end", "lap"]) (sc := defScope s__law_are_ends_right) (by decide +kernel)) (fun _ _ _ _ _ => (pg_name (i := 10) sc__law_are_ends_right.nd rfl (.inl rfl))) (fun _ _ _ _ _ => pts_nil) (fun _ _ _ _ _ => (pe_ix (ixK K) (pv 1) pe_int (fun _ _ => rfl)))))
      (pss_cons (ps_for PassesOwn.never rfl (piK K (pe_call (ok__law_row_words (P := P) (w := w) (base := base) T) (hr.mono (by decide)) (by rfl) T.g__law_row_words T.F__law_row_words.kp T.b__law_row_words .nil pass0 (pa_cons (pv 2) pa_nil))) (pg_name (i := 7) sc__law_are_ends_right.nd rfl (.inl rfl)) (pss_one (ps_for PassesOwn.never rfl (zipK K (by rfl) T.z_zip (pa_cons (pe_call (ok__law_row_numbers (P := P) (w := w) (base := base) T) (hr.mono (by decide)) (by rfl) T.g__law_row_numbers T.F__law_row_numbers.kp T.b__law_row_numbers .nil pass0 (pa_cons (pv 7) pa_nil)) (pa_cons (pe_call (ok_near (P := P) (w := w) (base := base) T) (hr.mono (by decide)) (by rfl) T.g_near T.F_near.kp T.b_near .nil pass0 (pa_cons (pv 1) (pa_cons (pv 7) pa_nil))) pa_nil))) (tgK K 2 rfl (pgs_cons (pg_name (i := 8) sc__law_are_ends_right.nd rfl (.inl rfl)) (pgs_cons (pg_name (i := 9) sc__law_are_ends_right.nd rfl (.inl rfl)) pgs_nil))) (pss_one (ps_asg (pv 9) (pg_sub (pv 6) (pv 8) set_list))))))
      (pss_one (ps_ret (pe_call (ok__law_is (P := P) (w := w) (base := base) T) (hr.mono (by decide)) (by rfl) T.g__law_is T.F__law_is.kp T.b__law_is .nil pass0 (pa_cons (pe_ix (ixK K) (pe_call (ok_widest (P := P) (w := w) (base := base) T) (hr.mono (by decide)) (by rfl) T.g_widest T.F_widest.kp T.b_widest .nil pass0 (pa_cons (pe_callTy (tupK K) (by rfl) T.z_tuple (by decide +kernel) (pa_cons (pv 6) pa_nil)) pa_nil)) pe_int (fun _ _ => rfl)) (pa_cons (pe_call (ok__law_gap (P := P) (w := w) (base := base) T) (hr.mono (by decide)) (by rfl) T.g__law_gap T.F__law_gap.kp T.b__law_gap .nil pass0 (pa_cons (pv 1) (pa_cons (pv 2) pa_nil))) pa_nil)))))))))))), W__law_are_ends_right, inferInstance, fun ds n QD h => body__law_are_ends_right h⟩)
theorem ok__law_needed (T : Txt w K mg) : FnOk P w K mg base CX0 6 T.a__law_needed T.fd__law_needed ["worths", "goal"] (spF K G__law_needed) := by
  exact okD T.F__law_needed sc__law_needed (fun _ _ _ _ => by walk_at "len") (fun cdv A outer s H hr => ⟨_, (pss_cons (ps_for PassesOwn.never rfl (pi_range1 (by rfl) T.z_range (pa_cons pe_int pa_nil)) (pg_name (i := 2) sc__law_needed.nd rfl (.inl rfl)) (pss_one (ps_if (pt_not (pt_val (pe_call (ok__law_frac_is_less (P := P) (w := w) (base := base) T) (hr.mono (by decide)) (by rfl) T.g__law_frac_is_less T.F__law_frac_is_less.kp T.b__law_frac_is_less .nil pass0 (pa_cons (pv 1) (pa_cons (pe_call (ok__law_gap (P := P) (w := w) (base := base) T) (hr.mono (by decide)) (by rfl) T.g__law_gap T.F__law_gap.kp T.b__law_gap .nil pass0 (pa_cons (pv 0) (pa_cons (pv 2) pa_nil))) pa_nil))))) (pss_one (ps_ret (pv 2))) pss_nil)))
      (pss_one (ps_ret pe_non))), W__law_needed, inferInstance, fun ds n QD h => body__law_needed h⟩)
theorem ok__law_worths (T : Txt w K mg) : FnOk P w K mg base CX0 4 T.a__law_worths T.fd__law_worths ["pot"] (spF K G__law_worths) := by
  exact okP T.F__law_worths sc__law_worths (fun _ _ _ _ => by walk_at "len") (fun cdv A outer s H hr => ⟨_, (pss_cons (ps_set (i := 1) sc__law_worths.nd rfl (.inl rfl) (pe_call (ok__law_frac_drawn (P := P) (w := w) (base := base) T) (hr.mono (by decide)) (by rfl) T.g__law_frac_drawn T.F__law_frac_drawn.kp T.b__law_frac_drawn .nil pass0 (pa_cons (pv 0) (pa_cons (pe_un un_neg pe_int) (pa_cons pe_int pa_nil)))))
      (pss_one (ps_ret (pe_tup (pa_cons (pv 1) (pa_cons (pe_ifExp (pt_cmpR (eqK K hr.units) (pe_call (ok__law_take (P := P) (w := w) (base := base) T) (hr.mono (by decide)) (by rfl) T.g__law_take T.F__law_take.kp T.b__law_take .nil pass0 (pa_cons (pv 0) (pa_cons pe_int pa_nil))) pe_int (nomark _)) (pv 1) (pe_call (ok__law_frac_drawn (P := P) (w := w) (base := base) T) (hr.mono (by decide)) (by rfl) T.g__law_frac_drawn T.F__law_frac_drawn.kp T.b__law_frac_drawn .nil pass0 (pa_cons (pv 0) (pa_cons (pe_un un_neg pe_int) (pa_cons pe_int pa_nil))))) pa_nil)))))), W__law_worths, inferInstance, fun ds n QD h => body__law_worths h⟩)
theorem ok_is_size (T : Txt w K mg) : FnOk P w K mg base CX0 3 T.a_is_size T.fd_is_size ["value"] (spF K G_is_size) := by
  exact okD T.F_is_size sc_is_size (fun _ _ _ _ => by walk_at "len") (fun cdv A outer s H hr => ⟨_, (pss_one (ps_ret (pe_and (pe_call (ok_is_ratio (P := P) (w := w) (base := base) T) (hr.mono (by decide)) (by rfl) T.g_is_ratio T.F_is_ratio.kp T.b_is_ratio .nil pass0 (pa_cons (pv 0) pa_nil)) (pe_one (pe_cmpR op_gt (pe_ix (ixK K) (pv 0) pe_int (fun _ _ => rfl)) pe_int (nomark _)))))), W_is_size, inferInstance, fun ds n QD h => body_is_size h⟩)
theorem ok_needed (T : Txt w K mg) : FnOk P w K mg base CX0 5 T.a_needed T.fd_needed ["worths", "distance"] (spF K G_needed) := by
  haveI := T.r_THIRD
  exact okD T.F_needed sc_needed (fun _ _ _ _ => by walk_at "len") (fun cdv A outer s H hr => ⟨_, (pss_cons (ps_expr (pe_call (ok_check_worths (P := P) (w := w) (base := base) T) (hr.mono (by decide)) (by rfl) T.g_check_worths T.F_check_worths.kp T.b_check_worths .nil pass0 (pa_cons (pv 0) pa_nil)))
      (pss_cons (ps_if (pt_not (pt_val (pe_call (ok_is_size (P := P) (w := w) (base := base) T) (hr.mono (by decide)) (by rfl) T.g_is_size T.F_is_size.kp T.b_is_size .nil pass0 (pa_cons (pv 1) pa_nil)))) (pss_one ps_never) pss_nil)
      (pss_cons (ps_par (i := 2) (j := 3) rfl sc_needed.nd rfl rfl (by decide) rfl rfl (pa_cons pe_int (pa_cons (pe_call (ok_apart (P := P) (w := w) (base := base) T) (hr.mono (by decide)) (by rfl) T.g_apart T.F_apart.kp T.b_apart .nil pass0 (pa_cons (pe_ix (ixK K) (pv 0) pe_int (fun _ _ => rfl)) (pa_cons (pe_ix (ixK K) (pv 0) pe_int (fun _ _ => rfl)) pa_nil))) pa_nil)) (by rfl))
      (pss_cons (ps_while PassesOwn.never (pt_val (pe_call (ok_is_below (P := P) (w := w) (base := base) T) (hr.mono (by decide)) (by rfl) T.g_is_below T.F_is_below.kp T.b_is_below .nil pass0 (pa_cons (pv 1) (pa_cons (pv 3) pa_nil)))) (pss_one (ps_par (i := 2) (j := 3) rfl sc_needed.nd rfl rfl (by decide) rfl rfl (pa_cons (pe_op (addK K) (pv 2) pe_int) (pa_cons (pe_call (ok_times (P := P) (w := w) (base := base) T) (hr.mono (by decide)) (by rfl) T.g_times T.F_times.kp T.b_times .nil pass0 (pa_cons (pv 3) (pa_cons (pe_glob (v := .ref T.a_THIRD) (by rfl) T.c_THIRD rfl) pa_nil))) pa_nil)) (by rfl))))
      (pss_one (ps_ret (pv 2))))))), W_needed, inferInstance, fun ds n QD h => body_needed h⟩)
theorem ok__law_right (T : Txt w K mg) : FnOk P w K mg base CX0 9 T.a__law_right T.fd__law_right ["pot"] (spF K G__law_right) := by
  exact okP T.F__law_right sc__law_right (fun _ _ _ _ => by walk_at "len") (fun cdv A outer s H hr => ⟨_, (pss_cons (ps_for PassesOwn.never rfl (pi_range1 (by rfl) T.z_range (pa_cons pe_int pa_nil)) (pg_name (i := 1) sc__law_right.nd rfl (.inl rfl)) (pss_cons (ps_set (i := 2) sc__law_right.nd rfl (.inl rfl) (pe_call (ok__law_worths (P := P) (w := w) (base := base) T) (hr.mono (by decide)) (by rfl) T.g__law_worths T.F__law_worths.kp T.b__law_worths .nil pass0 (pa_cons (pv 0) pa_nil)))
      (pss_cons (ps_set (i := 3) sc__law_right.nd rfl (.inl rfl) (pe_lst (pa_cons (pe_tup (pa_cons pe_int (pa_cons pe_int pa_nil))) (pa_cons (pe_tup (pa_cons pe_int (pa_cons pe_int pa_nil))) (pa_cons (pe_tup (pa_cons pe_int (pa_cons pe_int pa_nil))) (pa_cons (pe_tup (pa_cons pe_int (pa_cons pe_int pa_nil))) (pa_cons (pe_tup (pa_cons pe_int (pa_cons pe_int pa_nil))) (pa_cons (pe_tup (pa_cons pe_int (pa_cons pe_int pa_nil))) pa_nil))))))))
      (pss_cons (ps_set (i := 4) sc__law_right.nd rfl (.inl rfl) (pe_call (ok__law_of (P := P) (w := w) (base := base) T) (hr.mono (by decide)) (by rfl) T.g__law_of T.F__law_of.kp T.b__law_of .nil pass0 (pa_cons (pv 0) (pa_cons (pe_op (addK K) (pv 3) (pe_lst (pa_cons (pe_call (ok__law_frac (P := P) (w := w) (base := base) T) (hr.mono (by decide)) (by rfl) T.g__law_frac T.F__law_frac.kp T.b__law_frac .nil pass0 (pa_cons pe_int (pa_cons (pe_op (addK K) pe_int (pe_call (ok__law_take (P := P) (w := w) (base := base) T) (hr.mono (by decide)) (by rfl) T.g__law_take T.F__law_take.kp T.b__law_take .nil pass0 (pa_cons (pv 0) (pa_cons pe_int pa_nil)))) pa_nil))) pa_nil))) pa_nil))))
      (pss_cons (ps_if (pt_not (pt_val (pe_call (ok__law_is (P := P) (w := w) (base := base) T) (hr.mono (by decide)) (by rfl) T.g__law_is T.F__law_is.kp T.b__law_is .nil pass0 (pa_cons (pe_call (ok_needed (P := P) (w := w) (base := base) T) (hr.mono (by decide)) (by rfl) T.g_needed T.F_needed.kp T.b_needed .nil pass0 (pa_cons (pv 2) (pa_cons (pv 4) pa_nil))) (pa_cons (pe_call (ok__law_needed (P := P) (w := w) (base := base) T) (hr.mono (by decide)) (by rfl) T.g__law_needed T.F__law_needed.kp T.b__law_needed .nil pass0 (pa_cons (pv 2) (pa_cons (pv 4) pa_nil))) pa_nil))))) (pss_one (ps_ret pe_bl)) pss_nil)
      (pss_one (ps_if (pt_not (pt_val (pe_call (ok__law_are_ends_right (P := P) (w := w) (base := base) T) (hr.mono (by decide)) (by rfl) T.g__law_are_ends_right T.F__law_are_ends_right.kp T.b__law_are_ends_right .nil pass0 (pa_cons (pv 0) (pa_cons (pv 2) (pa_cons (pe_call (ok__law_take (P := P) (w := w) (base := base) T) (hr.mono (by decide)) (by rfl) T.g__law_take T.F__law_take.kp T.b__law_take .nil pass0 (pa_cons (pv 0) (pa_cons pe_int pa_nil))) pa_nil)))))) (pss_one (ps_ret pe_bl)) pss_nil)))))))
      (pss_one (ps_ret pe_bl))), W__law_right, inferInstance, fun ds n QD h => body__law_right h⟩)
theorem ok_law (T : Txt w K mg) : FnOk P w K mg base CX0 10 T.a_law T.fd_law ["script"] (spF K G_law) := by
  exact okD T.F_law sc_law (fun _ _ _ _ => by walk_at "len") (fun cdv A outer s H hr => ⟨_, (pss_one (ps_ret (pe_callB (allK K rfl) (by rfl) T.z_all (by decide +kernel) (pa_cons (lcK [("place", 1)] [1] rfl sc_law.nd (piK K (pe_call (ok__law_cells (P := P) (w := w) (base := base) T) (hr.mono (by decide)) (by rfl) T.g__law_cells T.F__law_cells.kp T.b__law_cells .nil pass0 (pa_cons (pv 0) (pa_cons pe_int pa_nil)))) (blkOk_by (own := [("place", 1)]) (N := ["script", "place"]) (sc := defScope s_law) (by decide +kernel)) (fun _ _ _ _ _ => (pg_name (i := 1) sc_law.nd rfl (.inl rfl))) (fun _ _ _ _ _ => pts_nil) (fun _ _ _ _ _ => (pe_pot (pe_call (ok__law_right (P := P) (w := w) (base := base) T) (hr.mono (by decide)) (by rfl) T.g__law_right T.F__law_right.kp T.b__law_right .nil pass0 (pa_cons (pe_call (ok__law_pot (P := P) (w := w) (base := base) T) (hr.mono (by decide)) (by rfl) T.g__law_pot T.F__law_pot.kp T.b__law_pot .nil pass0 (pa_cons (pv 0) (pa_cons (pv 1) pa_nil))) pa_nil))))) pa_nil)))), W_law, inferInstance, fun ds n QD h => body_law h⟩)
end
theorem vals_BACK {u0 u1 : Tok} : Vals [.str "snf", .str "fns"] [.str "snf" u0, .str "fns" u1] := .cons ⟨_, rfl⟩ (.cons ⟨_, rfl⟩ (.nil))
theorem rep_BACK {K : PySem.W.Frag} (p : Option Addr) (F : Hp) : Reps K p F [.str "snf", .str "fns"] [.str [115, 110, 102], .str [102, 110, 115]] := .cons (rep_str (by decide +kernel)) (.cons (rep_str (by decide +kernel)) (.nil))
theorem vals_THIRD {u0 u1 : Tok} : Vals [.int (1), .int (3)] [.int (1) u0, .int (3) u1] := .cons ⟨_, rfl⟩ (.cons ⟨_, rfl⟩ (.nil))
theorem rep_THIRD {K : PySem.W.Frag} (p : Option Addr) (F : Hp) : Reps K p F [.int (1), .int (3)] [.int (1), .int (3)] := .cons (.int _) (.cons (.int _) (.nil))
theorem all_mk {l : PySem.W.OpenLaw} {w : World} {K : PySem.W.Frag} {h : Heap} {mg : Str → Option Value} {fa : Addr} (X : K.In h) (G : h.Ns mainGlobals mg) (hfa : mg "law" = some (.ref fa))
    {f0 f1 f2 f3 f4 f5 f6 f7 f8 f9 f10 f11 f12 f13 f14 f15 f16 f17 f18 f19 f20 f21 f22 f23 f24 f25 f26 f27 f28 f29 f30 f31 f32 f33 f34 f35 f36 f37 f38 f39 f40 f41 f42 f43 f44 f45 f46 : Addr}
    {od0 an0 od1 an1 od2 an2 od3 an3 od4 an4 od5 an5 od6 an6 od7 an7 od8 an8 od9 an9 od10 an10 od11 an11 od12 an12 od13 an13 od14 an14 od15 an15 od16 an16 od17 an17 od18 an18 od19 an19 od20 an20 od21 an21 od22 an22 od23 an23 od24 an24 od25 an25 od26 an26 od27 an27 od28 an28 od29 an29 od30 an30 od31 an31 od32 an32 od33 an33 od34 an34 od35 an35 od36 an36 od37 an37 od38 an38 od39 an39 od40 an40 od41 an41 od42 an42 od43 an43 od44 an44 od45 an45 od46 an46 : Option Addr} {sl0 sl1 sl2 sl3 sl4 sl5 sl6 sl7 sl8 sl9 sl10 sl11 sl12 sl13 sl14 sl15 sl16 sl17 sl18 sl19 sl20 sl21 sl22 sl23 sl24 sl25 sl26 sl27 sl28 sl29 sl30 sl31 sl32 sl33 sl34 sl35 sl36 sl37 sl38 sl39 sl40 sl41 sl42 sl43 sl44 sl45 sl46 : Array (Option Value)}
    {oc0 kV0 dc0 pm0 cd0 ct0 oc1 kV1 dc1 pm1 cd1 ct1 oc2 kV2 dc2 pm2 cd2 ct2 oc3 kV3 dc3 pm3 cd3 ct3 oc4 kV4 dc4 pm4 cd4 ct4 oc5 kV5 dc5 pm5 cd5 ct5 oc6 kV6 dc6 pm6 cd6 ct6 oc7 kV7 dc7 pm7 cd7 ct7 oc8 kV8 dc8 pm8 cd8 ct8 oc9 kV9 dc9 pm9 cd9 ct9 oc10 kV10 dc10 pm10 cd10 ct10 oc11 kV11 dc11 pm11 cd11 ct11 oc12 kV12 dc12 pm12 cd12 ct12 oc13 kV13 dc13 pm13 cd13 ct13 oc14 kV14 dc14 pm14 cd14 ct14 oc15 kV15 dc15 pm15 cd15 ct15 oc16 kV16 dc16 pm16 cd16 ct16 oc17 kV17 dc17 pm17 cd17 ct17 oc18 kV18 dc18 pm18 cd18 ct18 oc19 kV19 dc19 pm19 cd19 ct19 oc20 kV20 dc20 pm20 cd20 ct20 oc21 kV21 dc21 pm21 cd21 ct21 oc22 kV22 dc22 pm22 cd22 ct22 oc23 kV23 dc23 pm23 cd23 ct23 oc24 kV24 dc24 pm24 cd24 ct24 oc25 kV25 dc25 pm25 cd25 ct25 oc26 kV26 dc26 pm26 cd26 ct26 oc27 kV27 dc27 pm27 cd27 ct27 oc28 kV28 dc28 pm28 cd28 ct28 oc29 kV29 dc29 pm29 cd29 ct29 oc30 kV30 dc30 pm30 cd30 ct30 oc31 kV31 dc31 pm31 cd31 ct31 oc32 kV32 dc32 pm32 cd32 ct32 oc33 kV33 dc33 pm33 cd33 ct33 oc34 kV34 dc34 pm34 cd34 ct34 oc35 kV35 dc35 pm35 cd35 ct35 oc36 kV36 dc36 pm36 cd36 ct36 oc37 kV37 dc37 pm37 cd37 ct37 oc38 kV38 dc38 pm38 cd38 ct38 oc39 kV39 dc39 pm39 cd39 ct39 oc40 kV40 dc40 pm40 cd40 ct40 oc41 kV41 dc41 pm41 cd41 ct41 oc42 kV42 dc42 pm42 cd42 ct42 oc43 kV43 dc43 pm43 cd43 ct43 oc44 kV44 dc44 pm44 cd44 ct44 oc45 kV45 dc45 pm45 cd45 ct45 oc46 kV46 dc46 pm46 cd46 ct46 : Value}
    (a0 : PySem.W.nsIn K mainGlobals "_law_cells" = some (some (.ref f0))) (l0 : K.lookup f0 = some ⟨oc0, od0, .func (PySem.W.fnOf "_law_cells" "_law_cells" (defArgs s__law_cells) (defBody s__law_cells) (defScope s__law_cells) .none kV0 dc0 pm0 an0 cd0 ct0), sl0⟩) (c0 : PySem.W.codeIn K cd0 "_law_cells" = true) (k0 : PySem.W.keepIn K (.ref f0) = true)
    (a1 : PySem.W.nsIn K mainGlobals "_law_pot" = some (some (.ref f1))) (l1 : K.lookup f1 = some ⟨oc1, od1, .func (PySem.W.fnOf "_law_pot" "_law_pot" (defArgs s__law_pot) (defBody s__law_pot) (defScope s__law_pot) .none kV1 dc1 pm1 an1 cd1 ct1), sl1⟩) (c1 : PySem.W.codeIn K cd1 "_law_pot" = true) (k1 : PySem.W.keepIn K (.ref f1) = true)
    (a2 : PySem.W.nsIn K mainGlobals "_law_frac_common" = some (some (.ref f2))) (l2 : K.lookup f2 = some ⟨oc2, od2, .func (PySem.W.fnOf "_law_frac_common" "_law_frac_common" (defArgs s__law_frac_common) (defBody s__law_frac_common) (defScope s__law_frac_common) .none kV2 dc2 pm2 an2 cd2 ct2), sl2⟩) (c2 : PySem.W.codeIn K cd2 "_law_frac_common" = true) (k2 : PySem.W.keepIn K (.ref f2) = true)
    (a3 : PySem.W.nsIn K mainGlobals "_law_frac" = some (some (.ref f3))) (l3 : K.lookup f3 = some ⟨oc3, od3, .func (PySem.W.fnOf "_law_frac" "_law_frac" (defArgs s__law_frac) (defBody s__law_frac) (defScope s__law_frac) .none kV3 dc3 pm3 an3 cd3 ct3), sl3⟩) (c3 : PySem.W.codeIn K cd3 "_law_frac" = true) (k3 : PySem.W.keepIn K (.ref f3) = true)
    (a4 : PySem.W.nsIn K mainGlobals "_law_take" = some (some (.ref f4))) (l4 : K.lookup f4 = some ⟨oc4, od4, .func (PySem.W.fnOf "_law_take" "_law_take" (defArgs s__law_take) (defBody s__law_take) (defScope s__law_take) .none kV4 dc4 pm4 an4 cd4 ct4), sl4⟩) (c4 : PySem.W.codeIn K cd4 "_law_take" = true) (k4 : PySem.W.keepIn K (.ref f4) = true)
    (a5 : PySem.W.nsIn K mainGlobals "_law_of" = some (some (.ref f5))) (l5 : K.lookup f5 = some ⟨oc5, od5, .func (PySem.W.fnOf "_law_of" "_law_of" (defArgs s__law_of) (defBody s__law_of) (defScope s__law_of) .none kV5 dc5 pm5 an5 cd5 ct5), sl5⟩) (c5 : PySem.W.codeIn K cd5 "_law_of" = true) (k5 : PySem.W.keepIn K (.ref f5) = true)
    (a6 : PySem.W.nsIn K mainGlobals "_law_frac_drawn" = some (some (.ref f6))) (l6 : K.lookup f6 = some ⟨oc6, od6, .func (PySem.W.fnOf "_law_frac_drawn" "_law_frac_drawn" (defArgs s__law_frac_drawn) (defBody s__law_frac_drawn) (defScope s__law_frac_drawn) .none kV6 dc6 pm6 an6 cd6 ct6), sl6⟩) (c6 : PySem.W.codeIn K cd6 "_law_frac_drawn" = true) (k6 : PySem.W.keepIn K (.ref f6) = true)
    (a7 : PySem.W.nsIn K mainGlobals "_law_frac_is_less" = some (some (.ref f7))) (l7 : K.lookup f7 = some ⟨oc7, od7, .func (PySem.W.fnOf "_law_frac_is_less" "_law_frac_is_less" (defArgs s__law_frac_is_less) (defBody s__law_frac_is_less) (defScope s__law_frac_is_less) .none kV7 dc7 pm7 an7 cd7 ct7), sl7⟩) (c7 : PySem.W.codeIn K cd7 "_law_frac_is_less" = true) (k7 : PySem.W.keepIn K (.ref f7) = true)
    (a8 : PySem.W.nsIn K mainGlobals "_law_frac_less" = some (some (.ref f8))) (l8 : K.lookup f8 = some ⟨oc8, od8, .func (PySem.W.fnOf "_law_frac_less" "_law_frac_less" (defArgs s__law_frac_less) (defBody s__law_frac_less) (defScope s__law_frac_less) .none kV8 dc8 pm8 an8 cd8 ct8), sl8⟩) (c8 : PySem.W.codeIn K cd8 "_law_frac_less" = true) (k8 : PySem.W.keepIn K (.ref f8) = true)
    (a9 : PySem.W.nsIn K mainGlobals "_law_apart" = some (some (.ref f9))) (l9 : K.lookup f9 = some ⟨oc9, od9, .func (PySem.W.fnOf "_law_apart" "_law_apart" (defArgs s__law_apart) (defBody s__law_apart) (defScope s__law_apart) .none kV9 dc9 pm9 an9 cd9 ct9), sl9⟩) (c9 : PySem.W.codeIn K cd9 "_law_apart" = true) (k9 : PySem.W.keepIn K (.ref f9) = true)
    (a10 : PySem.W.nsIn K mainGlobals "_law_frac_over" = some (some (.ref f10))) (l10 : K.lookup f10 = some ⟨oc10, od10, .func (PySem.W.fnOf "_law_frac_over" "_law_frac_over" (defArgs s__law_frac_over) (defBody s__law_frac_over) (defScope s__law_frac_over) .none kV10 dc10 pm10 an10 cd10 ct10), sl10⟩) (c10 : PySem.W.codeIn K cd10 "_law_frac_over" = true) (k10 : PySem.W.keepIn K (.ref f10) = true)
    (a11 : PySem.W.nsIn K mainGlobals "_law_gap" = some (some (.ref f11))) (l11 : K.lookup f11 = some ⟨oc11, od11, .func (PySem.W.fnOf "_law_gap" "_law_gap" (defArgs s__law_gap) (defBody s__law_gap) (defScope s__law_gap) .none kV11 dc11 pm11 an11 cd11 ct11), sl11⟩) (c11 : PySem.W.codeIn K cd11 "_law_gap" = true) (k11 : PySem.W.keepIn K (.ref f11) = true)
    (a12 : PySem.W.nsIn K mainGlobals "_law_is" = some (some (.ref f12))) (l12 : K.lookup f12 = some ⟨oc12, od12, .func (PySem.W.fnOf "_law_is" "_law_is" (defArgs s__law_is) (defBody s__law_is) (defScope s__law_is) .none kV12 dc12 pm12 an12 cd12 ct12), sl12⟩) (c12 : PySem.W.codeIn K cd12 "_law_is" = true) (k12 : PySem.W.keepIn K (.ref f12) = true)
    (a13 : PySem.W.nsIn K mainGlobals "_law_row_heard" = some (some (.ref f13))) (l13 : K.lookup f13 = some ⟨oc13, od13, .func (PySem.W.fnOf "_law_row_heard" "_law_row_heard" (defArgs s__law_row_heard) (defBody s__law_row_heard) (defScope s__law_row_heard) .none kV13 dc13 pm13 an13 cd13 ct13), sl13⟩) (c13 : PySem.W.codeIn K cd13 "_law_row_heard" = true) (k13 : PySem.W.keepIn K (.ref f13) = true)
    (a14 : PySem.W.nsIn K mainGlobals "_law_row_numbers" = some (some (.ref f14))) (l14 : K.lookup f14 = some ⟨oc14, od14, .func (PySem.W.fnOf "_law_row_numbers" "_law_row_numbers" (defArgs s__law_row_numbers) (defBody s__law_row_numbers) (defScope s__law_row_numbers) .none kV14 dc14 pm14 an14 cd14 ct14), sl14⟩) (c14 : PySem.W.codeIn K cd14 "_law_row_numbers" = true) (k14 : PySem.W.keepIn K (.ref f14) = true)
    (a15 : PySem.W.nsIn K mainGlobals "_law_row_longer" = some (some (.ref f15))) (l15 : K.lookup f15 = some ⟨oc15, od15, .func (PySem.W.fnOf "_law_row_longer" "_law_row_longer" (defArgs s__law_row_longer) (defBody s__law_row_longer) (defScope s__law_row_longer) .none kV15 dc15 pm15 an15 cd15 ct15), sl15⟩) (c15 : PySem.W.codeIn K cd15 "_law_row_longer" = true) (k15 : PySem.W.keepIn K (.ref f15) = true)
    (a16 : PySem.W.nsIn K mainGlobals "_law_row_place" = some (some (.ref f16))) (l16 : K.lookup f16 = some ⟨oc16, od16, .func (PySem.W.fnOf "_law_row_place" "_law_row_place" (defArgs s__law_row_place) (defBody s__law_row_place) (defScope s__law_row_place) .none kV16 dc16 pm16 an16 cd16 ct16), sl16⟩) (c16 : PySem.W.codeIn K cd16 "_law_row_place" = true) (k16 : PySem.W.keepIn K (.ref f16) = true)
    (a17 : PySem.W.nsIn K mainGlobals "_law_row_words" = some (some (.ref f17))) (l17 : K.lookup f17 = some ⟨oc17, od17, .func (PySem.W.fnOf "_law_row_words" "_law_row_words" (defArgs s__law_row_words) (defBody s__law_row_words) (defScope s__law_row_words) .none kV17 dc17 pm17 an17 cd17 ct17), sl17⟩) (c17 : PySem.W.codeIn K cd17 "_law_row_words" = true) (k17 : PySem.W.keepIn K (.ref f17) = true)
    (a18 : PySem.W.nsIn K mainGlobals "_law_widest" = some (some (.ref f18))) (l18 : K.lookup f18 = some ⟨oc18, od18, .func (PySem.W.fnOf "_law_widest" "_law_widest" (defArgs s__law_widest) (defBody s__law_widest) (defScope s__law_widest) .none kV18 dc18 pm18 an18 cd18 ct18), sl18⟩) (c18 : PySem.W.codeIn K cd18 "_law_widest" = true) (k18 : PySem.W.keepIn K (.ref f18) = true)
    (a19 : PySem.W.nsIn K mainGlobals "are_letters" = some (some (.ref f19))) (l19 : K.lookup f19 = some ⟨oc19, od19, .func (PySem.W.fnOf "are_letters" "are_letters" (defArgs s_are_letters) (defBody s_are_letters) (defScope s_are_letters) .none kV19 dc19 pm19 an19 cd19 ct19), sl19⟩) (c19 : PySem.W.codeIn K cd19 "are_letters" = true) (k19 : PySem.W.keepIn K (.ref f19) = true)
    (a20 : PySem.W.nsIn K mainGlobals "is_word" = some (some (.ref f20))) (l20 : K.lookup f20 = some ⟨oc20, od20, .func (PySem.W.fnOf "is_word" "is_word" (defArgs s_is_word) (defBody s_is_word) (defScope s_is_word) .none kV20 dc20 pm20 an20 cd20 ct20), sl20⟩) (c20 : PySem.W.codeIn K cd20 "is_word" = true) (k20 : PySem.W.keepIn K (.ref f20) = true)
    (a21 : PySem.W.nsIn K mainGlobals "check_word" = some (some (.ref f21))) (l21 : K.lookup f21 = some ⟨oc21, od21, .func (PySem.W.fnOf "check_word" "check_word" (defArgs s_check_word) (defBody s_check_word) (defScope s_check_word) .none kV21 dc21 pm21 an21 cd21 ct21), sl21⟩) (c21 : PySem.W.codeIn K cd21 "check_word" = true) (k21 : PySem.W.keepIn K (.ref f21) = true)
    (a22 : PySem.W.nsIn K mainGlobals "common" = some (some (.ref f22))) (l22 : K.lookup f22 = some ⟨oc22, od22, .func (PySem.W.fnOf "common" "common" (defArgs s_common) (defBody s_common) (defScope s_common) .none kV22 dc22 pm22 an22 cd22 ct22), sl22⟩) (c22 : PySem.W.codeIn K cd22 "common" = true) (k22 : PySem.W.keepIn K (.ref f22) = true)
    (a23 : PySem.W.nsIn K mainGlobals "is_whole" = some (some (.ref f23))) (l23 : K.lookup f23 = some ⟨oc23, od23, .func (PySem.W.fnOf "is_whole" "is_whole" (defArgs s_is_whole) (defBody s_is_whole) (defScope s_is_whole) .none kV23 dc23 pm23 an23 cd23 ct23), sl23⟩) (c23 : PySem.W.codeIn K cd23 "is_whole" = true) (k23 : PySem.W.keepIn K (.ref f23) = true)
    (a24 : PySem.W.nsIn K mainGlobals "is_ratio" = some (some (.ref f24))) (l24 : K.lookup f24 = some ⟨oc24, od24, .func (PySem.W.fnOf "is_ratio" "is_ratio" (defArgs s_is_ratio) (defBody s_is_ratio) (defScope s_is_ratio) .none kV24 dc24 pm24 an24 cd24 ct24), sl24⟩) (c24 : PySem.W.codeIn K cd24 "is_ratio" = true) (k24 : PySem.W.keepIn K (.ref f24) = true)
    (a25 : PySem.W.nsIn K mainGlobals "is_tuple" = some (some (.ref f25))) (l25 : K.lookup f25 = some ⟨oc25, od25, .func (PySem.W.fnOf "is_tuple" "is_tuple" (defArgs s_is_tuple) (defBody s_is_tuple) (defScope s_is_tuple) .none kV25 dc25 pm25 an25 cd25 ct25), sl25⟩) (c25 : PySem.W.codeIn K cd25 "is_tuple" = true) (k25 : PySem.W.keepIn K (.ref f25) = true)
    (a26 : PySem.W.nsIn K mainGlobals "check_worths" = some (some (.ref f26))) (l26 : K.lookup f26 = some ⟨oc26, od26, .func (PySem.W.fnOf "check_worths" "check_worths" (defArgs s_check_worths) (defBody s_check_worths) (defScope s_check_worths) .none kV26 dc26 pm26 an26 cd26 ct26), sl26⟩) (c26 : PySem.W.codeIn K cd26 "check_worths" = true) (k26 : PySem.W.keepIn K (.ref f26) = true)
    (a27 : PySem.W.nsIn K mainGlobals "ratio" = some (some (.ref f27))) (l27 : K.lookup f27 = some ⟨oc27, od27, .func (PySem.W.fnOf "ratio" "ratio" (defArgs s_ratio) (defBody s_ratio) (defScope s_ratio) .none kV27 dc27 pm27 an27 cd27 ct27), sl27⟩) (c27 : PySem.W.codeIn K cd27 "ratio" = true) (k27 : PySem.W.keepIn K (.ref f27) = true)
    (a28 : PySem.W.nsIn K mainGlobals "less" = some (some (.ref f28))) (l28 : K.lookup f28 = some ⟨oc28, od28, .func (PySem.W.fnOf "less" "less" (defArgs s_less) (defBody s_less) (defScope s_less) .none kV28 dc28 pm28 an28 cd28 ct28), sl28⟩) (c28 : PySem.W.codeIn K cd28 "less" = true) (k28 : PySem.W.keepIn K (.ref f28) = true)
    (a29 : PySem.W.nsIn K mainGlobals "numbers_at" = some (some (.ref f29))) (l29 : K.lookup f29 = some ⟨oc29, od29, .func (PySem.W.fnOf "numbers_at" "numbers_at" (defArgs s_numbers_at) (defBody s_numbers_at) (defScope s_numbers_at) .none kV29 dc29 pm29 an29 cd29 ct29), sl29⟩) (c29 : PySem.W.codeIn K cd29 "numbers_at" = true) (k29 : PySem.W.keepIn K (.ref f29) = true)
    (a30 : PySem.W.nsIn K mainGlobals "place_of" = some (some (.ref f30))) (l30 : K.lookup f30 = some ⟨oc30, od30, .func (PySem.W.fnOf "place_of" "place_of" (defArgs s_place_of) (defBody s_place_of) (defScope s_place_of) .none kV30 dc30 pm30 an30 cd30 ct30), sl30⟩) (c30 : PySem.W.codeIn K cd30 "place_of" = true) (k30 : PySem.W.keepIn K (.ref f30) = true)
    (a31 : PySem.W.nsIn K mainGlobals "plus" = some (some (.ref f31))) (l31 : K.lookup f31 = some ⟨oc31, od31, .func (PySem.W.fnOf "plus" "plus" (defArgs s_plus) (defBody s_plus) (defScope s_plus) .none kV31 dc31 pm31 an31 cd31 ct31), sl31⟩) (c31 : PySem.W.codeIn K cd31 "plus" = true) (k31 : PySem.W.keepIn K (.ref f31) = true)
    (a32 : PySem.W.nsIn K mainGlobals "power_of_three" = some (some (.ref f32))) (l32 : K.lookup f32 = some ⟨oc32, od32, .func (PySem.W.fnOf "power_of_three" "power_of_three" (defArgs s_power_of_three) (defBody s_power_of_three) (defScope s_power_of_three) .none kV32 dc32 pm32 an32 cd32 ct32), sl32⟩) (c32 : PySem.W.codeIn K cd32 "power_of_three" = true) (k32 : PySem.W.keepIn K (.ref f32) = true)
    (a33 : PySem.W.nsIn K mainGlobals "times" = some (some (.ref f33))) (l33 : K.lookup f33 = some ⟨oc33, od33, .func (PySem.W.fnOf "times" "times" (defArgs s_times) (defBody s_times) (defScope s_times) .none kV33 dc33 pm33 an33 cd33 ct33), sl33⟩) (c33 : PySem.W.codeIn K cd33 "times" = true) (k33 : PySem.W.keepIn K (.ref f33) = true)
    (a34 : PySem.W.nsIn K mainGlobals "near" = some (some (.ref f34))) (l34 : K.lookup f34 = some ⟨oc34, od34, .func (PySem.W.fnOf "near" "near" (defArgs s_near) (defBody s_near) (defScope s_near) .none kV34 dc34 pm34 an34 cd34 ct34), sl34⟩) (c34 : PySem.W.codeIn K cd34 "near" = true) (k34 : PySem.W.keepIn K (.ref f34) = true)
    (a35 : PySem.W.nsIn K mainGlobals "is_below" = some (some (.ref f35))) (l35 : K.lookup f35 = some ⟨oc35, od35, .func (PySem.W.fnOf "is_below" "is_below" (defArgs s_is_below) (defBody s_is_below) (defScope s_is_below) .none kV35 dc35 pm35 an35 cd35 ct35), sl35⟩) (c35 : PySem.W.codeIn K cd35 "is_below" = true) (k35 : PySem.W.keepIn K (.ref f35) = true)
    (a36 : PySem.W.nsIn K mainGlobals "apart" = some (some (.ref f36))) (l36 : K.lookup f36 = some ⟨oc36, od36, .func (PySem.W.fnOf "apart" "apart" (defArgs s_apart) (defBody s_apart) (defScope s_apart) .none kV36 dc36 pm36 an36 cd36 ct36), sl36⟩) (c36 : PySem.W.codeIn K cd36 "apart" = true) (k36 : PySem.W.keepIn K (.ref f36) = true)
    (a37 : PySem.W.nsIn K mainGlobals "rounds_of_ends" = some (some (.ref f37))) (l37 : K.lookup f37 = some ⟨oc37, od37, .func (PySem.W.fnOf "rounds_of_ends" "rounds_of_ends" (defArgs s_rounds_of_ends) (defBody s_rounds_of_ends) (defScope s_rounds_of_ends) .none kV37 dc37 pm37 an37 cd37 ct37), sl37⟩) (c37 : PySem.W.codeIn K cd37 "rounds_of_ends" = true) (k37 : PySem.W.keepIn K (.ref f37) = true)
    (a38 : PySem.W.nsIn K mainGlobals "word_of" = some (some (.ref f38))) (l38 : K.lookup f38 = some ⟨oc38, od38, .func (PySem.W.fnOf "word_of" "word_of" (defArgs s_word_of) (defBody s_word_of) (defScope s_word_of) .none kV38 dc38 pm38 an38 cd38 ct38), sl38⟩) (c38 : PySem.W.codeIn K cd38 "word_of" = true) (k38 : PySem.W.keepIn K (.ref f38) = true)
    (a39 : PySem.W.nsIn K mainGlobals "widest" = some (some (.ref f39))) (l39 : K.lookup f39 = some ⟨oc39, od39, .func (PySem.W.fnOf "widest" "widest" (defArgs s_widest) (defBody s_widest) (defScope s_widest) .none kV39 dc39 pm39 an39 cd39 ct39), sl39⟩) (c39 : PySem.W.codeIn K cd39 "widest" = true) (k39 : PySem.W.keepIn K (.ref f39) = true)
    (a40 : PySem.W.nsIn K mainGlobals "_law_are_ends_right" = some (some (.ref f40))) (l40 : K.lookup f40 = some ⟨oc40, od40, .func (PySem.W.fnOf "_law_are_ends_right" "_law_are_ends_right" (defArgs s__law_are_ends_right) (defBody s__law_are_ends_right) (defScope s__law_are_ends_right) .none kV40 dc40 pm40 an40 cd40 ct40), sl40⟩) (c40 : PySem.W.codeIn K cd40 "_law_are_ends_right" = true) (k40 : PySem.W.keepIn K (.ref f40) = true)
    (a41 : PySem.W.nsIn K mainGlobals "_law_needed" = some (some (.ref f41))) (l41 : K.lookup f41 = some ⟨oc41, od41, .func (PySem.W.fnOf "_law_needed" "_law_needed" (defArgs s__law_needed) (defBody s__law_needed) (defScope s__law_needed) .none kV41 dc41 pm41 an41 cd41 ct41), sl41⟩) (c41 : PySem.W.codeIn K cd41 "_law_needed" = true) (k41 : PySem.W.keepIn K (.ref f41) = true)
    (a42 : PySem.W.nsIn K mainGlobals "_law_worths" = some (some (.ref f42))) (l42 : K.lookup f42 = some ⟨oc42, od42, .func (PySem.W.fnOf "_law_worths" "_law_worths" (defArgs s__law_worths) (defBody s__law_worths) (defScope s__law_worths) .none kV42 dc42 pm42 an42 cd42 ct42), sl42⟩) (c42 : PySem.W.codeIn K cd42 "_law_worths" = true) (k42 : PySem.W.keepIn K (.ref f42) = true)
    (a43 : PySem.W.nsIn K mainGlobals "is_size" = some (some (.ref f43))) (l43 : K.lookup f43 = some ⟨oc43, od43, .func (PySem.W.fnOf "is_size" "is_size" (defArgs s_is_size) (defBody s_is_size) (defScope s_is_size) .none kV43 dc43 pm43 an43 cd43 ct43), sl43⟩) (c43 : PySem.W.codeIn K cd43 "is_size" = true) (k43 : PySem.W.keepIn K (.ref f43) = true)
    (a44 : PySem.W.nsIn K mainGlobals "needed" = some (some (.ref f44))) (l44 : K.lookup f44 = some ⟨oc44, od44, .func (PySem.W.fnOf "needed" "needed" (defArgs s_needed) (defBody s_needed) (defScope s_needed) .none kV44 dc44 pm44 an44 cd44 ct44), sl44⟩) (c44 : PySem.W.codeIn K cd44 "needed" = true) (k44 : PySem.W.keepIn K (.ref f44) = true)
    (a45 : PySem.W.nsIn K mainGlobals "_law_right" = some (some (.ref f45))) (l45 : K.lookup f45 = some ⟨oc45, od45, .func (PySem.W.fnOf "_law_right" "_law_right" (defArgs s__law_right) (defBody s__law_right) (defScope s__law_right) .none kV45 dc45 pm45 an45 cd45 ct45), sl45⟩) (c45 : PySem.W.codeIn K cd45 "_law_right" = true) (k45 : PySem.W.keepIn K (.ref f45) = true)
    (a46 : PySem.W.nsIn K mainGlobals "law" = some (some (.ref f46))) (l46 : K.lookup f46 = some ⟨oc46, od46, .func (PySem.W.fnOf "law" "law" (defArgs s_law) (defBody s_law) (defScope s_law) .none kV46 dc46 pm46 an46 cd46 ct46), sl46⟩) (c46 : PySem.W.codeIn K cd46 "law" = true) (k46 : PySem.W.keepIn K (.ref f46) = true)
    (z_abs : PySem.W.nsIn K mainGlobals "abs" = some none)
    (z_all : PySem.W.nsIn K mainGlobals "all" = some none)
    (z_bool : PySem.W.nsIn K mainGlobals "bool" = some none)
    (z_enumerate : PySem.W.nsIn K mainGlobals "enumerate" = some none)
    (z_int : PySem.W.nsIn K mainGlobals "int" = some none)
    (z_isinstance : PySem.W.nsIn K mainGlobals "isinstance" = some none)
    (z_len : PySem.W.nsIn K mainGlobals "len" = some none)
    (z_list : PySem.W.nsIn K mainGlobals "list" = some none)
    (z_max : PySem.W.nsIn K mainGlobals "max" = some none)
    (z_min : PySem.W.nsIn K mainGlobals "min" = some none)
    (z_range : PySem.W.nsIn K mainGlobals "range" = some none)
    (z_sorted : PySem.W.nsIn K mainGlobals "sorted" = some none)
    (z_str : PySem.W.nsIn K mainGlobals "str" = some none)
    (z_sum : PySem.W.nsIn K mainGlobals "sum" = some none)
    (z_tuple : PySem.W.nsIn K mainGlobals "tuple" = some none)
    (z_zip : PySem.W.nsIn K mainGlobals "zip" = some none)
    {A_BACK : Addr} {o_BACK : Option Addr} {q_BACK : Nat} {m_BACK : Array (Option Value)} {u_BACK_0 u_BACK_1 : Tok} (n_BACK : PySem.W.nsIn K mainGlobals "BACK" = some (some (.ref A_BACK))) (l_BACK : K.lookup A_BACK = some ⟨.type "tuple", o_BACK, .seq [.str "snf" u_BACK_0, .str "fns" u_BACK_1].toArray q_BACK, m_BACK⟩)
    {t_LETTERS : Tok} (n_LETTERS : PySem.W.nsIn K mainGlobals "LETTERS" = some (some (.str "nfs" t_LETTERS)))
    {t_MOST_ENDS_ROUNDS : Tok} (n_MOST_ENDS_ROUNDS : PySem.W.nsIn K mainGlobals "MOST_ENDS_ROUNDS" = some (some (.int 5 t_MOST_ENDS_ROUNDS)))
    {t_MOST_WORD : Tok} (n_MOST_WORD : PySem.W.nsIn K mainGlobals "MOST_WORD" = some (some (.int 200 t_MOST_WORD)))
    {t_PAIR_nearness : Tok} (n_PAIR_nearness : PySem.W.nsIn K mainGlobals "PAIR_nearness" = some (some (.int 2 t_PAIR_nearness)))
    {t_PAIR_ratios : Tok} (n_PAIR_ratios : PySem.W.nsIn K mainGlobals "PAIR_ratios" = some (some (.int 2 t_PAIR_ratios)))
    {A_THIRD : Addr} {o_THIRD : Option Addr} {q_THIRD : Nat} {m_THIRD : Array (Option Value)} {u_THIRD_0 u_THIRD_1 : Tok} (n_THIRD : PySem.W.nsIn K mainGlobals "THIRD" = some (some (.ref A_THIRD))) (l_THIRD : K.lookup A_THIRD = some ⟨.type "tuple", o_THIRD, .seq [.int 1 u_THIRD_0, .int 3 u_THIRD_1].toArray q_THIRD, m_THIRD⟩)
    {t_THREE : Tok} (n_THREE : PySem.W.nsIn K mainGlobals "THREE" = some (some (.int 3 t_THREE)))
    : ∃ fd : FuncData, (∀ (s : Shared) (v : Value), BindsTo s fd ⟨[v], []⟩ [("script", v)]) ∧ ∀ base : Heap, K.In base → base.Ns mainGlobals mg → FnOk l.prog w K mg base CX0 10 fa fd ["script"] (spF K G_law) := by
  have e := hfa.symm.trans (PySem.W.mg_of X G a46)
  cases e
  have F0 := fun_mk (st := s__law_cells) l0 c0 k0
  have F1 := fun_mk (st := s__law_pot) l1 c1 k1
  have F2 := fun_mk (st := s__law_frac_common) l2 c2 k2
  have F3 := fun_mk (st := s__law_frac) l3 c3 k3
  have F4 := fun_mk (st := s__law_take) l4 c4 k4
  have F5 := fun_mk (st := s__law_of) l5 c5 k5
  have F6 := fun_mk (st := s__law_frac_drawn) l6 c6 k6
  have F7 := fun_mk (st := s__law_frac_is_less) l7 c7 k7
  have F8 := fun_mk (st := s__law_frac_less) l8 c8 k8
  have F9 := fun_mk (st := s__law_apart) l9 c9 k9
  have F10 := fun_mk (st := s__law_frac_over) l10 c10 k10
  have F11 := fun_mk (st := s__law_gap) l11 c11 k11
  have F12 := fun_mk (st := s__law_is) l12 c12 k12
  have F13 := fun_mk (st := s__law_row_heard) l13 c13 k13
  have F14 := fun_mk (st := s__law_row_numbers) l14 c14 k14
  have F15 := fun_mk (st := s__law_row_longer) l15 c15 k15
  have F16 := fun_mk (st := s__law_row_place) l16 c16 k16
  have F17 := fun_mk (st := s__law_row_words) l17 c17 k17
  have F18 := fun_mk (st := s__law_widest) l18 c18 k18
  have F19 := fun_mk (st := s_are_letters) l19 c19 k19
  have F20 := fun_mk (st := s_is_word) l20 c20 k20
  have F21 := fun_mk (st := s_check_word) l21 c21 k21
  have F22 := fun_mk (st := s_common) l22 c22 k22
  have F23 := fun_mk (st := s_is_whole) l23 c23 k23
  have F24 := fun_mk (st := s_is_ratio) l24 c24 k24
  have F25 := fun_mk (st := s_is_tuple) l25 c25 k25
  have F26 := fun_mk (st := s_check_worths) l26 c26 k26
  have F27 := fun_mk (st := s_ratio) l27 c27 k27
  have F28 := fun_mk (st := s_less) l28 c28 k28
  have F29 := fun_mk (st := s_numbers_at) l29 c29 k29
  have F30 := fun_mk (st := s_place_of) l30 c30 k30
  have F31 := fun_mk (st := s_plus) l31 c31 k31
  have F32 := fun_mk (st := s_power_of_three) l32 c32 k32
  have F33 := fun_mk (st := s_times) l33 c33 k33
  have F34 := fun_mk (st := s_near) l34 c34 k34
  have F35 := fun_mk (st := s_is_below) l35 c35 k35
  have F36 := fun_mk (st := s_apart) l36 c36 k36
  have F37 := fun_mk (st := s_rounds_of_ends) l37 c37 k37
  have F38 := fun_mk (st := s_word_of) l38 c38 k38
  have F39 := fun_mk (st := s_widest) l39 c39 k39
  have F40 := fun_mk (st := s__law_are_ends_right) l40 c40 k40
  have F41 := fun_mk (st := s__law_needed) l41 c41 k41
  have F42 := fun_mk (st := s__law_worths) l42 c42 k42
  have F43 := fun_mk (st := s_is_size) l43 c43 k43
  have F44 := fun_mk (st := s_needed) l44 c44 k44
  have F45 := fun_mk (st := s__law_right) l45 c45 k45
  have F46 := fun_mk (st := s_law) l46 c46 k46
  let T : Txt w K mg := {
    a__law_cells := _, fd__law_cells := _, F__law_cells := F0, g__law_cells := PySem.W.mg_of X G a0, b__law_cells := F0.binds fun _ _ _ _ _ _ us hl => match us, hl with | [_, _], _ => rfl
    a__law_pot := _, fd__law_pot := _, F__law_pot := F1, g__law_pot := PySem.W.mg_of X G a1, b__law_pot := F1.binds fun _ _ _ _ _ _ us hl => match us, hl with | [_, _], _ => rfl
    a__law_frac_common := _, fd__law_frac_common := _, F__law_frac_common := F2, g__law_frac_common := PySem.W.mg_of X G a2, b__law_frac_common := F2.binds fun _ _ _ _ _ _ us hl => match us, hl with | [_, _], _ => rfl
    a__law_frac := _, fd__law_frac := _, F__law_frac := F3, g__law_frac := PySem.W.mg_of X G a3, b__law_frac := F3.binds fun _ _ _ _ _ _ us hl => match us, hl with | [_, _], _ => rfl
    a__law_take := _, fd__law_take := _, F__law_take := F4, g__law_take := PySem.W.mg_of X G a4, b__law_take := F4.binds fun _ _ _ _ _ _ us hl => match us, hl with | [_, _], _ => rfl
    a__law_of := _, fd__law_of := _, F__law_of := F5, g__law_of := PySem.W.mg_of X G a5, b__law_of := F5.binds fun _ _ _ _ _ _ us hl => match us, hl with | [_, _], _ => rfl
    a__law_frac_drawn := _, fd__law_frac_drawn := _, F__law_frac_drawn := F6, g__law_frac_drawn := PySem.W.mg_of X G a6, b__law_frac_drawn := F6.binds fun _ _ _ _ _ _ us hl => match us, hl with | [_, _, _], _ => rfl
    a__law_frac_is_less := _, fd__law_frac_is_less := _, F__law_frac_is_less := F7, g__law_frac_is_less := PySem.W.mg_of X G a7, b__law_frac_is_less := F7.binds fun _ _ _ _ _ _ us hl => match us, hl with | [_, _], _ => rfl
    a__law_frac_less := _, fd__law_frac_less := _, F__law_frac_less := F8, g__law_frac_less := PySem.W.mg_of X G a8, b__law_frac_less := F8.binds fun _ _ _ _ _ _ us hl => match us, hl with | [_, _], _ => rfl
    a__law_apart := _, fd__law_apart := _, F__law_apart := F9, g__law_apart := PySem.W.mg_of X G a9, b__law_apart := F9.binds fun _ _ _ _ _ _ us hl => match us, hl with | [_, _], _ => rfl
    a__law_frac_over := _, fd__law_frac_over := _, F__law_frac_over := F10, g__law_frac_over := PySem.W.mg_of X G a10, b__law_frac_over := F10.binds fun _ _ _ _ _ _ us hl => match us, hl with | [_, _], _ => rfl
    a__law_gap := _, fd__law_gap := _, F__law_gap := F11, g__law_gap := PySem.W.mg_of X G a11, b__law_gap := F11.binds fun _ _ _ _ _ _ us hl => match us, hl with | [_, _], _ => rfl
    a__law_is := _, fd__law_is := _, F__law_is := F12, g__law_is := PySem.W.mg_of X G a12, b__law_is := F12.binds fun _ _ _ _ _ _ us hl => match us, hl with | [_, _], _ => rfl
    a__law_row_heard := _, fd__law_row_heard := _, F__law_row_heard := F13, g__law_row_heard := PySem.W.mg_of X G a13, b__law_row_heard := F13.binds fun _ _ _ _ _ _ us hl => match us, hl with | [_, _], _ => rfl
    a__law_row_numbers := _, fd__law_row_numbers := _, F__law_row_numbers := F14, g__law_row_numbers := PySem.W.mg_of X G a14, b__law_row_numbers := F14.binds fun _ _ _ _ _ _ us hl => match us, hl with | [_], _ => rfl
    a__law_row_longer := _, fd__law_row_longer := _, F__law_row_longer := F15, g__law_row_longer := PySem.W.mg_of X G a15, b__law_row_longer := F15.binds fun _ _ _ _ _ _ us hl => match us, hl with | [_], _ => rfl
    a__law_row_place := _, fd__law_row_place := _, F__law_row_place := F16, g__law_row_place := PySem.W.mg_of X G a16, b__law_row_place := F16.binds fun _ _ _ _ _ _ us hl => match us, hl with | [_], _ => rfl
    a__law_row_words := _, fd__law_row_words := _, F__law_row_words := F17, g__law_row_words := PySem.W.mg_of X G a17, b__law_row_words := F17.binds fun _ _ _ _ _ _ us hl => match us, hl with | [_], _ => rfl
    a__law_widest := _, fd__law_widest := _, F__law_widest := F18, g__law_widest := PySem.W.mg_of X G a18, b__law_widest := F18.binds fun _ _ _ _ _ _ us hl => match us, hl with | [_, _], _ => rfl
    a_are_letters := _, fd_are_letters := _, F_are_letters := F19, g_are_letters := PySem.W.mg_of X G a19, b_are_letters := F19.binds fun _ _ _ _ _ _ us hl => match us, hl with | [_, _, _], _ => rfl
    a_is_word := _, fd_is_word := _, F_is_word := F20, g_is_word := PySem.W.mg_of X G a20, b_is_word := F20.binds fun _ _ _ _ _ _ us hl => match us, hl with | [_], _ => rfl
    a_check_word := _, fd_check_word := _, F_check_word := F21, g_check_word := PySem.W.mg_of X G a21, b_check_word := F21.binds fun _ _ _ _ _ _ us hl => match us, hl with | [_], _ => rfl
    a_common := _, fd_common := _, F_common := F22, g_common := PySem.W.mg_of X G a22, b_common := F22.binds fun _ _ _ _ _ _ us hl => match us, hl with | [_, _], _ => rfl
    a_is_whole := _, fd_is_whole := _, F_is_whole := F23, g_is_whole := PySem.W.mg_of X G a23, b_is_whole := F23.binds fun _ _ _ _ _ _ us hl => match us, hl with | [_], _ => rfl
    a_is_ratio := _, fd_is_ratio := _, F_is_ratio := F24, g_is_ratio := PySem.W.mg_of X G a24, b_is_ratio := F24.binds fun _ _ _ _ _ _ us hl => match us, hl with | [_], _ => rfl
    a_is_tuple := _, fd_is_tuple := _, F_is_tuple := F25, g_is_tuple := PySem.W.mg_of X G a25, b_is_tuple := F25.binds fun _ _ _ _ _ _ us hl => match us, hl with | [_, _, _], _ => rfl
    a_check_worths := _, fd_check_worths := _, F_check_worths := F26, g_check_worths := PySem.W.mg_of X G a26, b_check_worths := F26.binds fun _ _ _ _ _ _ us hl => match us, hl with | [_], _ => rfl
    a_ratio := _, fd_ratio := _, F_ratio := F27, g_ratio := PySem.W.mg_of X G a27, b_ratio := F27.binds fun _ _ _ _ _ _ us hl => match us, hl with | [_, _], _ => rfl
    a_less := _, fd_less := _, F_less := F28, g_less := PySem.W.mg_of X G a28, b_less := F28.binds fun _ _ _ _ _ _ us hl => match us, hl with | [_, _], _ => rfl
    a_numbers_at := _, fd_numbers_at := _, F_numbers_at := F29, g_numbers_at := PySem.W.mg_of X G a29, b_numbers_at := F29.binds fun _ _ _ _ _ _ us hl => match us, hl with | [_], _ => rfl
    a_place_of := _, fd_place_of := _, F_place_of := F30, g_place_of := PySem.W.mg_of X G a30, b_place_of := F30.binds fun _ _ _ _ _ _ us hl => match us, hl with | [_], _ => rfl
    a_plus := _, fd_plus := _, F_plus := F31, g_plus := PySem.W.mg_of X G a31, b_plus := F31.binds fun _ _ _ _ _ _ us hl => match us, hl with | [_, _], _ => rfl
    a_power_of_three := _, fd_power_of_three := _, F_power_of_three := F32, g_power_of_three := PySem.W.mg_of X G a32, b_power_of_three := F32.binds fun _ _ _ _ _ _ us hl => match us, hl with | [_], _ => rfl
    a_times := _, fd_times := _, F_times := F33, g_times := PySem.W.mg_of X G a33, b_times := F33.binds fun _ _ _ _ _ _ us hl => match us, hl with | [_, _], _ => rfl
    a_near := _, fd_near := _, F_near := F34, g_near := PySem.W.mg_of X G a34, b_near := F34.binds fun _ _ _ _ _ _ us hl => match us, hl with | [_, _], _ => rfl
    a_is_below := _, fd_is_below := _, F_is_below := F35, g_is_below := PySem.W.mg_of X G a35, b_is_below := F35.binds fun _ _ _ _ _ _ us hl => match us, hl with | [_, _], _ => rfl
    a_apart := _, fd_apart := _, F_apart := F36, g_apart := PySem.W.mg_of X G a36, b_apart := F36.binds fun _ _ _ _ _ _ us hl => match us, hl with | [_, _], _ => rfl
    a_rounds_of_ends := _, fd_rounds_of_ends := _, F_rounds_of_ends := F37, g_rounds_of_ends := PySem.W.mg_of X G a37, b_rounds_of_ends := F37.binds fun _ _ _ _ _ _ us hl => match us, hl with | [_], _ => rfl
    a_word_of := _, fd_word_of := _, F_word_of := F38, g_word_of := PySem.W.mg_of X G a38, b_word_of := F38.binds fun _ _ _ _ _ _ us hl => match us, hl with | [_, _], _ => rfl
    a_widest := _, fd_widest := _, F_widest := F39, g_widest := PySem.W.mg_of X G a39, b_widest := F39.binds fun _ _ _ _ _ _ us hl => match us, hl with | [_], _ => rfl
    a__law_are_ends_right := _, fd__law_are_ends_right := _, F__law_are_ends_right := F40, g__law_are_ends_right := PySem.W.mg_of X G a40, b__law_are_ends_right := F40.binds fun _ _ _ _ _ _ us hl => match us, hl with | [_, _, _], _ => rfl
    a__law_needed := _, fd__law_needed := _, F__law_needed := F41, g__law_needed := PySem.W.mg_of X G a41, b__law_needed := F41.binds fun _ _ _ _ _ _ us hl => match us, hl with | [_, _], _ => rfl
    a__law_worths := _, fd__law_worths := _, F__law_worths := F42, g__law_worths := PySem.W.mg_of X G a42, b__law_worths := F42.binds fun _ _ _ _ _ _ us hl => match us, hl with | [_], _ => rfl
    a_is_size := _, fd_is_size := _, F_is_size := F43, g_is_size := PySem.W.mg_of X G a43, b_is_size := F43.binds fun _ _ _ _ _ _ us hl => match us, hl with | [_], _ => rfl
    a_needed := _, fd_needed := _, F_needed := F44, g_needed := PySem.W.mg_of X G a44, b_needed := F44.binds fun _ _ _ _ _ _ us hl => match us, hl with | [_, _], _ => rfl
    a__law_right := _, fd__law_right := _, F__law_right := F45, g__law_right := PySem.W.mg_of X G a45, b__law_right := F45.binds fun _ _ _ _ _ _ us hl => match us, hl with | [_], _ => rfl
    a_law := _, fd_law := _, F_law := F46, g_law := PySem.W.mg_of X G a46, b_law := F46.binds fun _ _ _ _ _ _ us hl => match us, hl with | [_], _ => rfl
    z_abs := PySem.W.mg_none_of X G z_abs
    z_all := PySem.W.mg_none_of X G z_all
    z_bool := PySem.W.mg_none_of X G z_bool
    z_enumerate := PySem.W.mg_none_of X G z_enumerate
    z_int := PySem.W.mg_none_of X G z_int
    z_isinstance := PySem.W.mg_none_of X G z_isinstance
    z_len := PySem.W.mg_none_of X G z_len
    z_list := PySem.W.mg_none_of X G z_list
    z_max := PySem.W.mg_none_of X G z_max
    z_min := PySem.W.mg_none_of X G z_min
    z_range := PySem.W.mg_none_of X G z_range
    z_sorted := PySem.W.mg_none_of X G z_sorted
    z_str := PySem.W.mg_none_of X G z_str
    z_sum := PySem.W.mg_none_of X G z_sum
    z_tuple := PySem.W.mg_none_of X G z_tuple
    z_zip := PySem.W.mg_none_of X G z_zip
    a_BACK := A_BACK, c_BACK := PySem.W.mg_of X G n_BACK, r_BACK := cv_tup l_BACK (Nat.le_of_ble_eq_true rfl) vals_BACK rep_BACK
    c_LETTERS := ⟨t_LETTERS, PySem.W.mg_of X G n_LETTERS⟩
    c_MOST_ENDS_ROUNDS := ⟨t_MOST_ENDS_ROUNDS, PySem.W.mg_of X G n_MOST_ENDS_ROUNDS⟩
    c_MOST_WORD := ⟨t_MOST_WORD, PySem.W.mg_of X G n_MOST_WORD⟩
    c_PAIR_nearness := ⟨t_PAIR_nearness, PySem.W.mg_of X G n_PAIR_nearness⟩
    c_PAIR_ratios := ⟨t_PAIR_ratios, PySem.W.mg_of X G n_PAIR_ratios⟩
    a_THIRD := A_THIRD, c_THIRD := PySem.W.mg_of X G n_THIRD, r_THIRD := cv_tup l_THIRD (Nat.le_of_ble_eq_true rfl) vals_THIRD rep_THIRD
    c_THREE := ⟨t_THREE, PySem.W.mg_of X G n_THREE⟩
  }
  exact ⟨_, fun s v => .of_eq rfl, fun base _ _ => ok_law T⟩
end K34
open PySem PySem.W PyProof.Rows
set_option maxHeartbeats 0 in
theorem PySem.Challenge.cw_twofarplayers_k34_whole_how_near_exactly_holds : PySem.Challenge.rw_twofarplayers_k34_whole_how_near_exactly.Holds := by
  w_on; o_law; k_head; (case hw => w_witness2)
  k_fill
  refine L2.walk_of (l := PySem.Challenge.rw_twofarplayers_k34_whole_how_near_exactly) (n := 63) (k := 10) (x := "script") (CX := fun _ => L2.CX0) (sp := fun w => Dl.spF _ K34.G_law) rfl (by decide) rfl ⟨rfl, by decide, by decide⟩ (fun w h Y => PySem.W.kIn_of Y) ?F (fun _ H a ns hl _ hS => Dl.sp_law (fun ns hl => K34.law_true ns hl) H a ns hl hS) (fun _ _ _ _ _ h => h)
  case F =>
    intro w mg fa h KX G hmg
    refine' K34.all_mk KX G hmg ?a0 ?l0 ?c0 ?k0 ?a1 ?l1 ?c1 ?k1 ?a2 ?l2 ?c2 ?k2 ?a3 ?l3 ?c3 ?k3 ?a4 ?l4 ?c4 ?k4 ?a5 ?l5 ?c5 ?k5 ?a6 ?l6 ?c6 ?k6 ?a7 ?l7 ?c7 ?k7 ?a8 ?l8 ?c8 ?k8 ?a9 ?l9 ?c9 ?k9 ?a10 ?l10 ?c10 ?k10 ?a11 ?l11 ?c11 ?k11 ?a12 ?l12 ?c12 ?k12 ?a13 ?l13 ?c13 ?k13 ?a14 ?l14 ?c14 ?k14 ?a15 ?l15 ?c15 ?k15 ?a16 ?l16 ?c16 ?k16 ?a17 ?l17 ?c17 ?k17 ?a18 ?l18 ?c18 ?k18 ?a19 ?l19 ?c19 ?k19 ?a20 ?l20 ?c20 ?k20 ?a21 ?l21 ?c21 ?k21 ?a22 ?l22 ?c22 ?k22 ?a23 ?l23 ?c23 ?k23 ?a24 ?l24 ?c24 ?k24 ?a25 ?l25 ?c25 ?k25 ?a26 ?l26 ?c26 ?k26 ?a27 ?l27 ?c27 ?k27 ?a28 ?l28 ?c28 ?k28 ?a29 ?l29 ?c29 ?k29 ?a30 ?l30 ?c30 ?k30 ?a31 ?l31 ?c31 ?k31 ?a32 ?l32 ?c32 ?k32 ?a33 ?l33 ?c33 ?k33 ?a34 ?l34 ?c34 ?k34 ?a35 ?l35 ?c35 ?k35 ?a36 ?l36 ?c36 ?k36 ?a37 ?l37 ?c37 ?k37 ?a38 ?l38 ?c38 ?k38 ?a39 ?l39 ?c39 ?k39 ?a40 ?l40 ?c40 ?k40 ?a41 ?l41 ?c41 ?k41 ?a42 ?l42 ?c42 ?k42 ?a43 ?l43 ?c43 ?k43 ?a44 ?l44 ?c44 ?k44 ?a45 ?l45 ?c45 ?k45 ?a46 ?l46 ?c46 ?k46 ?z_abs ?z_all ?z_bool ?z_enumerate ?z_int ?z_isinstance ?z_len ?z_list ?z_max ?z_min ?z_range ?z_sorted ?z_str ?z_sum ?z_tuple ?z_zip ?n_BACK ?l_BACK ?n_LETTERS ?n_MOST_ENDS_ROUNDS ?n_MOST_WORD ?n_PAIR_nearness ?n_PAIR_ratios ?n_THIRD ?l_THIRD ?n_THREE
    (case a0 => k_is)
    (case l0 => k_is)
    (case c0 => k_is)
    (case k0 => k_is)
    (case a1 => k_is)
    (case l1 => k_is)
    (case c1 => k_is)
    (case k1 => k_is)
    (case a2 => k_is)
    (case l2 => k_is)
    (case c2 => k_is)
    (case k2 => k_is)
    (case a3 => k_is)
    (case l3 => k_is)
    (case c3 => k_is)
    (case k3 => k_is)
    (case a4 => k_is)
    (case l4 => k_is)
    (case c4 => k_is)
    (case k4 => k_is)
    (case a5 => k_is)
    (case l5 => k_is)
    (case c5 => k_is)
    (case k5 => k_is)
    (case a6 => k_is)
    (case l6 => k_is)
    (case c6 => k_is)
    (case k6 => k_is)
    (case a7 => k_is)
    (case l7 => k_is)
    (case c7 => k_is)
    (case k7 => k_is)
    (case a8 => k_is)
    (case l8 => k_is)
    (case c8 => k_is)
    (case k8 => k_is)
    (case a9 => k_is)
    (case l9 => k_is)
    (case c9 => k_is)
    (case k9 => k_is)
    (case a10 => k_is)
    (case l10 => k_is)
    (case c10 => k_is)
    (case k10 => k_is)
    (case a11 => k_is)
    (case l11 => k_is)
    (case c11 => k_is)
    (case k11 => k_is)
    (case a12 => k_is)
    (case l12 => k_is)
    (case c12 => k_is)
    (case k12 => k_is)
    (case a13 => k_is)
    (case l13 => k_is)
    (case c13 => k_is)
    (case k13 => k_is)
    (case a14 => k_is)
    (case l14 => k_is)
    (case c14 => k_is)
    (case k14 => k_is)
    (case a15 => k_is)
    (case l15 => k_is)
    (case c15 => k_is)
    (case k15 => k_is)
    (case a16 => k_is)
    (case l16 => k_is)
    (case c16 => k_is)
    (case k16 => k_is)
    (case a17 => k_is)
    (case l17 => k_is)
    (case c17 => k_is)
    (case k17 => k_is)
    (case a18 => k_is)
    (case l18 => k_is)
    (case c18 => k_is)
    (case k18 => k_is)
    (case a19 => k_is)
    (case l19 => k_is)
    (case c19 => k_is)
    (case k19 => k_is)
    (case a20 => k_is)
    (case l20 => k_is)
    (case c20 => k_is)
    (case k20 => k_is)
    (case a21 => k_is)
    (case l21 => k_is)
    (case c21 => k_is)
    (case k21 => k_is)
    (case a22 => k_is)
    (case l22 => k_is)
    (case c22 => k_is)
    (case k22 => k_is)
    (case a23 => k_is)
    (case l23 => k_is)
    (case c23 => k_is)
    (case k23 => k_is)
    (case a24 => k_is)
    (case l24 => k_is)
    (case c24 => k_is)
    (case k24 => k_is)
    (case a25 => k_is)
    (case l25 => k_is)
    (case c25 => k_is)
    (case k25 => k_is)
    (case a26 => k_is)
    (case l26 => k_is)
    (case c26 => k_is)
    (case k26 => k_is)
    (case a27 => k_is)
    (case l27 => k_is)
    (case c27 => k_is)
    (case k27 => k_is)
    (case a28 => k_is)
    (case l28 => k_is)
    (case c28 => k_is)
    (case k28 => k_is)
    (case a29 => k_is)
    (case l29 => k_is)
    (case c29 => k_is)
    (case k29 => k_is)
    (case a30 => k_is)
    (case l30 => k_is)
    (case c30 => k_is)
    (case k30 => k_is)
    (case a31 => k_is)
    (case l31 => k_is)
    (case c31 => k_is)
    (case k31 => k_is)
    (case a32 => k_is)
    (case l32 => k_is)
    (case c32 => k_is)
    (case k32 => k_is)
    (case a33 => k_is)
    (case l33 => k_is)
    (case c33 => k_is)
    (case k33 => k_is)
    (case a34 => k_is)
    (case l34 => k_is)
    (case c34 => k_is)
    (case k34 => k_is)
    (case a35 => k_is)
    (case l35 => k_is)
    (case c35 => k_is)
    (case k35 => k_is)
    (case a36 => k_is)
    (case l36 => k_is)
    (case c36 => k_is)
    (case k36 => k_is)
    (case a37 => k_is)
    (case l37 => k_is)
    (case c37 => k_is)
    (case k37 => k_is)
    (case a38 => k_is)
    (case l38 => k_is)
    (case c38 => k_is)
    (case k38 => k_is)
    (case a39 => k_is)
    (case l39 => k_is)
    (case c39 => k_is)
    (case k39 => k_is)
    (case a40 => k_is)
    (case l40 => k_is)
    (case c40 => k_is)
    (case k40 => k_is)
    (case a41 => k_is)
    (case l41 => k_is)
    (case c41 => k_is)
    (case k41 => k_is)
    (case a42 => k_is)
    (case l42 => k_is)
    (case c42 => k_is)
    (case k42 => k_is)
    (case a43 => k_is)
    (case l43 => k_is)
    (case c43 => k_is)
    (case k43 => k_is)
    (case a44 => k_is)
    (case l44 => k_is)
    (case c44 => k_is)
    (case k44 => k_is)
    (case a45 => k_is)
    (case l45 => k_is)
    (case c45 => k_is)
    (case k45 => k_is)
    (case a46 => k_is)
    (case l46 => k_is)
    (case c46 => k_is)
    (case k46 => k_is)
    (case z_abs => k_is)
    (case z_all => k_is)
    (case z_bool => k_is)
    (case z_enumerate => k_is)
    (case z_int => k_is)
    (case z_isinstance => k_is)
    (case z_len => k_is)
    (case z_list => k_is)
    (case z_max => k_is)
    (case z_min => k_is)
    (case z_range => k_is)
    (case z_sorted => k_is)
    (case z_str => k_is)
    (case z_sum => k_is)
    (case z_tuple => k_is)
    (case z_zip => k_is)
    (case n_BACK => k_is)
    (case l_BACK => k_is)
    (case n_LETTERS => k_is)
    (case n_MOST_ENDS_ROUNDS => k_is)
    (case n_MOST_WORD => k_is)
    (case n_PAIR_nearness => k_is)
    (case n_PAIR_ratios => k_is)
    (case n_THIRD => k_is)
    (case l_THIRD => k_is)
    (case n_THREE => k_is)
