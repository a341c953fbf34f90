import PyProof.Rows.All
import HandS.Conv
import HandS.Deep
import HandS.Defaults
import HandS.EndTab
import HandS.Evl
import HandS.Exc
import HandS.ExcField
import HandS.ExcInit
import HandS.ExcIs
import HandS.ExcOwn
import HandS.ForMost
import HandS.IsInst
import HandS.JoinGen
import HandS.Lambda
import HandS.More
import HandS.NoneIn
import HandS.Slots
import HandS.SlotsOwn
import HandS.SortKw
import HandS.Star
import HandS.StrMore
import HandS.Style
import HandS.Text
import HandS.TupAny
import HandS.TupMul
import HandS.Wide
import HandS.Words
import HandS.WordsExc
import HandS.Zip
import KE.KExcIs
import KE.KExcSuper
import KE.KSortKeyAny
import OpenK.AllK
import PyProof.AutoIntOps
import PyProof.ListStr
import PyProof.StrOps2
import PyProof.WalkInts
import PyProof.WalksMore
import PySem.Challenge.RW_twofarplayers_k35_worths_words_distances
import Wide.All
import Wide.FinOn
-- part Dl
set_option Elab.async false
set_option linter.all false
set_option maxRecDepth 100000
set_option maxHeartbeats 4000000
/-! A value level over HandS: data, slots, transformers. -/
namespace Dl
open PySem PySem.Spec PyProof.Rows L2 Evl

/-- what a value is, by content -/
inductive Dat where
  | non
  | bl (b : Bool)
  | int (i : Int)
  | str (s : List Nat)
  | ty (n : String)
  | tup (l : List Dat)
  | lst (l : List Dat)
  | fz (l : List Dat)
  | pot
  | ref (a : Addr)
  | dct (l : List (Key × Dat))
  | obj (n : Str) (l : List Dat)
  | exc (n : Str) (d : Dat)
  | lam (G : Hp) (a : Addr)
  | cls (n : Str)

/-- the law's tables of code objects: where each stands, and the name of its code -/
class LawTabs where
  tabs : List (Addr × Str)
variable [LawTabs]
/-- what stands around: the draws' list -/
structure Amb where
  pot : Option Addr
/-- the class of the module's name n -/
def ClsAt (K : PySem.W.Frag) (n : Str) (C : Addr) : Prop := PySem.W.nsIn K mainGlobals n = some (some (.ref C))
theorem ClsAt.one {K : PySem.W.Frag} {n : Str} {C D : Addr} (h : ClsAt K n C) (g : ClsAt K n D) : C = D := by
  unfold ClsAt at h g
  rw [h] at g
  cases g
  rfl
/-- a caught exception: its class, its own dict -/
def ExcO (C d a : Addr) : HO := .ext fun h => ∃ (oe : Obj) (vs : Array Value), h.get? a = some oe ∧ oe.cls = .ref C ∧ oe.dict = some d ∧ oe.data = .fields vs

mutual
inductive Rep (K : PySem.W.Frag) (p : Amb) (H : Hp) : V → Dat → Prop
  | non : Rep K p H .non .non
  | bl (b : Bool) : Rep K p H (.bl b) (.bl b)
  | int (i : Int) : Rep K p H (.int i) (.int i)
  | str (s : Str) : Rep K p H (.str s) (.str s.cps.toList)
  | ty (n : String) : Rep K p H (.ty n) (.ty n)
  | tup {a : Addr} {vs : List V} {ds : List Dat} : SqT K H a vs → Reps K p H vs ds → Rep K p H (.ref a) (.tup ds)
  | lst {a : Addr} {vs : List V} {ds : List Dat} : H a = some (.lst vs) → Reps K p H vs ds → Rep K p H (.ref a) (.lst ds)
  | fz {a : Addr} {vs : List V} {ds : List Dat} : SqL K H a vs → Reps K p H vs ds → Rep K p H (.ref a) (.fz ds)
  | pot {a : Addr} : p.pot = some a → Rep K p H (.ref a) .pot
  | ref (a : Addr) : Rep K p H (.ref a) (.ref a)
  | dct {a : Addr} {kvs : List (Key × V)} {ds : List (Key × Dat)} : H a = some (.dK kvs) → RepK K p H kvs ds → Rep K p H (.ref a) (.dct ds)
  | obj {a C dx : Addr} {n : Str} {vs : List V} {ds : List Dat} : ClsAt K n C → H a = some (SlX.SlO a C dx (vs.map some)) → H dx = some (.xd []) → Reps K p H vs ds → Rep K p H (.ref a) (.obj n ds)
  | exc {a C dd : Addr} {n : Str} {v : V} {d : Dat} : ClsAt K n C → H a = some (ExcO C dd a) → H dd = some (.xd [("value", v)]) → Rep K p H v d → Rep K p H (.ref a) (.exc n d)
  | lam {G : Hp} (a : Addr) : Ex G H → Rep K p H (.ref a) (.lam G a)
  | cls {C : Addr} {n : Str} : ClsAt K n C → Rep K p H (.ref C) (.cls n)
inductive Reps (K : PySem.W.Frag) (p : Amb) (H : Hp) : List V → List Dat → Prop
  | nil : Reps K p H [] []
  | cons {v : V} {vs : List V} {d : Dat} {ds : List Dat} : Rep K p H v d → Reps K p H vs ds → Reps K p H (v :: vs) (d :: ds)
inductive RepK (K : PySem.W.Frag) (p : Amb) (H : Hp) : List (Key × V) → List (Key × Dat) → Prop
  | nil : RepK K p H [] []
  | cons {k : Key} {v : V} {vs : List (Key × V)} {d : Dat} {ds : List (Key × Dat)} : Rep K p H v d → RepK K p H vs ds → RepK K p H ((k, v) :: vs) ((k, d) :: ds)
end

section
variable {K : PySem.W.Frag} {p : Amb} {H H' : Hp}
mutual
theorem Rep.mono (e : Ex H H') : ∀ {v : V} {d : Dat}, Rep K p H v d → Rep K p H' v d
  | _, _, .non => .non
  | _, _, .bl b => .bl b
  | _, _, .int i => .int i
  | _, _, .str s => .str s
  | _, _, .ty n => .ty n
  | _, _, .tup h r => .tup (ex_t e h) (Reps.mono e r)
  | _, _, .lst h r => .lst (e _ _ h) (Reps.mono e r)
  | _, _, .fz h r => .fz (ex_l e h) (Reps.mono e r)
  | _, _, .pot h => .pot h
  | _, _, .ref a => .ref a
  | _, _, .dct h r => .dct (e _ _ h) (RepK.mono e r)
  | _, _, .obj c h g r => .obj c (e _ _ h) (e _ _ g) (Reps.mono e r)
  | _, _, .exc c h g r => .exc c (e _ _ h) (e _ _ g) (Rep.mono e r)
  | _, _, .lam a h => .lam a (h.trans e)
  | _, _, .cls c => .cls c
theorem Reps.mono (e : Ex H H') : ∀ {v : List V} {d : List Dat}, Reps K p H v d → Reps K p H' v d
  | _, _, .nil => .nil
  | _, _, .cons r s => .cons (Rep.mono e r) (Reps.mono e s)
theorem RepK.mono (e : Ex H H') : ∀ {v : List (Key × V)} {d : List (Key × Dat)}, RepK K p H v d → RepK K p H' v d
  | _, _, .nil => .nil
  | _, _, .cons r s => .cons (Rep.mono e r) (RepK.mono e s)
end
theorem Reps.length {vs : List V} {ds : List Dat} (r : Reps K p H vs ds) : vs.length = ds.length := by
  induction vs generalizing ds with
  | nil => cases r; rfl
  | cons v vs ih =>
    cases r with
    | cons r s => rw [List.length_cons, List.length_cons, ih s]
theorem RepK.length : ∀ {vs : List (Key × V)} {ds : List (Key × Dat)}, RepK K p H vs ds → vs.length = ds.length
  | _, _, .nil => rfl
  | _, _, .cons _ s => congrArg Nat.succ (RepK.length s)
theorem Reps.get : ∀ {vs : List V} {ds : List Dat} {i : Nat} {v : V}, Reps K p H vs ds → vs[i]? = some v → ∃ d, ds[i]? = some d ∧ Rep K p H v d
  | _, _, _, _, .nil, h => by simp at h
  | _, _, 0, _, .cons r _, h => by simp at h; subst h; exact ⟨_, rfl, r⟩
  | _, _, i + 1, _, .cons _ s, h => by
    obtain ⟨d, h1, h2⟩ := Reps.get (i := i) s (by simpa using h)
    exact ⟨d, by simpa using h1, h2⟩
theorem Reps.getD : ∀ {vs : List V} {ds : List Dat} {i : Nat} {d : Dat}, Reps K p H vs ds → ds[i]? = some d → ∃ v, vs[i]? = some v ∧ Rep K p H v d
  | _, _, _, _, .nil, h => by simp at h
  | _, _, 0, _, .cons r _, h => by simp at h; subst h; exact ⟨_, rfl, r⟩
  | _, _, i + 1, _, .cons _ s, h => by
    obtain ⟨d, h1, h2⟩ := Reps.getD (i := i) s (by simpa using h)
    exact ⟨d, by simpa using h1, h2⟩
theorem Reps.append : ∀ {vs ws : List V} {ds es : List Dat}, Reps K p H vs ds → Reps K p H ws es → Reps K p H (vs ++ ws) (ds ++ es)
  | _, _, _, _, .nil, s => s
  | _, _, _, _, .cons r t, s => .cons r (Reps.append t s)
theorem Reps.one {v : V} {d : Dat} (r : Rep K p H v d) : Reps K p H [v] [d] := .cons r .nil
theorem Reps.drop : ∀ {vs : List V} {ds : List Dat} (n : Nat), Reps K p H vs ds → Reps K p H (vs.drop n) (ds.drop n)
  | _, _, 0, r => r
  | _, _, _ + 1, .nil => .nil
  | _, _, n + 1, .cons _ t => Reps.drop n t
theorem Reps.take : ∀ {vs : List V} {ds : List Dat} (n : Nat), Reps K p H vs ds → Reps K p H (vs.take n) (ds.take n)
  | _, _, 0, _ => .nil
  | _, _, _ + 1, .nil => .nil
  | _, _, n + 1, .cons r t => .cons r (Reps.take n t)
/-- a slot's value, perhaps not yet stored -/
def RepsO (K : PySem.W.Frag) (p : Amb) (F : Hp) (vs : List (Option V)) (xs : List (Option Dat)) : Prop := vs.length = xs.length ∧ ∀ (i : Nat) (d : Dat), xs[i]? = some (some d) → ∃ v, vs[i]? = some (some v) ∧ Rep K p F v d
theorem RepsO.mono {vs : List (Option V)} {xs : List (Option Dat)} (r : RepsO K p H vs xs) (e : Ex H H') : RepsO K p H' vs xs := ⟨r.1, fun i d h => by
  obtain ⟨v, h1, h2⟩ := r.2 i d h
  exact ⟨v, h1, h2.mono e⟩⟩
end

/-- the draws' list: three numbers, its counter below a bound -/
def PotAt (H : Hp) (a : Addr) (n : Nat) : Prop :=
  ∃ x y z : Int, H a = some (.lst [.int x, .int y, .int z]) ∧ 0 ≤ x ∧ 0 ≤ y ∧ y < 2305843009213693952 ∧ 0 ≤ z ∧ z ≤ n ∧ n ≤ 1000000

/-- a slot: nothing known, data, or a list, a dict, an instance of one's own -/
inductive Sl where
  | un
  | im (d : Dat)
  | ow (l : List Dat)
  | od (l : List (Key × Dat))
  | nw (x : Addr) (n : Str) (l : List (Option Dat))
def Sl.own : Sl → Bool
  | .ow _ => true
  | .od _ => true
  | .nw _ _ _ => true
  | _ => false
structure Sx where
  sl : List Sl
  n : Nat

/-- the table at P: its code objects bear the name q, and are frozen -/
def TabF (F H : Hp) (P : Addr) (q : Str) : Prop := ∃ ps : Array Value, H P = some (.tbl ps) ∧ TriplesOk ps.toList ∧ ∀ (pos : Pos) (cv : Value), codeAmong pos ps.toList = some cv → ∃ c, cv = .ref c ∧ F c = some (LamX.CodeO c q)
/-- H0, F0: the heap and its frozen part at the entry; F: the frozen part now -/
structure HpOk (p : Amb) (H0 F0 F H : Hp) (n : Nat) : Prop where
  e0 : ∀ a o, p.pot ≠ some a → (∀ ps, o ≠ .tbl ps) → H0 a = some o → H a = some o
  tb : ∀ a ps, H0 a = some (.tbl ps) → ∃ more, H a = some (.tbl more)
  ts : ∀ t ∈ LawTabs.tabs, TabF F H t.1 t.2
  nt : ∀ a ps, F a ≠ some (.tbl ps)
  f0 : Ex F0 F
  fr : ∀ a o, F a = some o → F0 a = some o ∨ H0 a = none
  fh : Ex F H
  pt : ∀ a, p.pot = some a → F a = none ∧ H0 a ≠ none ∧ PotAt H a n
def SlOk (K : PySem.W.Frag) (p : Amb) (H0 F H : Hp) (s : Sl) (o : Option (Option V)) : Prop :=
  match s with
  | .un => True
  | .im d => ∃ v, o = some (some v) ∧ Rep K p F v d
  | .ow ds => ∃ a vs, o = some (some (.ref a)) ∧ H0 a = none ∧ F a = none ∧ H a = some (.lst vs) ∧ Reps K p F vs ds
  | .od ds => ∃ a vs, o = some (some (.ref a)) ∧ H0 a = none ∧ F a = none ∧ H a = some (.dK vs) ∧ RepK K p F vs ds
  | .nw a n xs => ∃ C dx vs, o = some (some (.ref a)) ∧ H0 a = none ∧ F a = none ∧ (H0 dx = none ∧ F dx = none ∧ dx ≠ a ∧ ClsAt K n C ∧ SlX.Slt H a C dx vs ∧ (∃ u, H dx = some u ∧ (u = .own a ∨ u = .xd []))) ∧ RepsO K p F vs xs
structure Ok (K : PySem.W.Frag) (p : Amb) (H0 F0 F H : Hp) (σ : L2.St) (S : Sx) (T : List (Addr × List V)) : Prop where
  hp : HpOk p H0 F0 F H S.n
  len : σ.length = S.sl.length
  sl : ∀ (i : Nat) (s : Sl), S.sl[i]? = some s → SlOk K p H0 F H s (σ[i]?)
  own : ∀ (i j : Nat) (s t : Sl) (a : Addr), i ≠ j → S.sl[i]? = some s → s.own = true → S.sl[j]? = some t → t.own = true → σ[i]? = some (some (.ref a)) → σ[j]? = some (some (.ref a)) → False
  tm : ∀ a vs, (a, vs) ∈ T → H0 a = none ∧ F a = none ∧ H a = some (.lst vs)
  ot : ∀ (i : Nat) (s : Sl) (a : Addr) (vs : List V), S.sl[i]? = some s → s.own = true → σ[i]? = some (some (.ref a)) → (a, vs) ∈ T → False
  td : (T.map (·.1)).Nodup

section
variable {K : PySem.W.Frag} {p : Amb} {H0 F0 F H F' H' : Hp} {σ : L2.St} {S : Sx} {T : List (Addr × List V)} {n n' : Nat}
theorem TabF.step {P : Addr} {q : Str} (t : TabF F H P q) (e : Ex F F') (h : ∀ ps, H P = some (.tbl ps) → H' P = some (.tbl ps)) : TabF F' H' P q := by
  obtain ⟨ps, h1, h2, h3⟩ := t
  refine ⟨ps, h ps h1, h2, fun pos cv hc => ?_⟩
  obtain ⟨c, e1, e2⟩ := h3 pos cv hc
  exact ⟨c, e1, e _ _ e2⟩
theorem HpOk.free (h : HpOk p H0 F0 F H n) {a : Addr} (e : H a = none) : H0 a = none := by
  cases q : H0 a with
  | none => rfl
  | some o =>
    by_cases hp : p.pot = some a
    · obtain ⟨_, _, x, y, z, hz, _⟩ := h.pt a hp
      rw [e] at hz; cases hz
    · by_cases ht : ∃ ps, o = .tbl ps
      · obtain ⟨ps, rfl⟩ := ht
        obtain ⟨m, z⟩ := h.tb a ps q
        rw [e] at z; cases z
      · rw [h.e0 a o hp (fun ps z => ht ⟨ps, z⟩) q] at e; cases e
theorem HpOk.freeF (h : HpOk p H0 F0 F H n) {a : Addr} (e : H a = none) : F a = none := fresh_back h.fh e
theorem HpOk.nepot (h : HpOk p H0 F0 F H n) {a : Addr} (e : H0 a = none) : p.pot ≠ some a := fun q => (h.pt a q).2.1 e
/-- what a caller may begin with -/
theorem HpOk.start (hx : Ex F H) (nt : ∀ a ps, F a ≠ some (.tbl ps)) (ts : ∀ t ∈ LawTabs.tabs, TabF F H t.1 t.2) (hp : ∀ a, p.pot = some a → F a = none ∧ PotAt H a n) : HpOk p H F F H n :=
  ⟨fun _ _ _ _ q => q, fun _ ps q => ⟨ps, q⟩, ts, nt, Ex.refl _, fun _ _ q => .inl q, hx, fun a e => ⟨(hp a e).1, by obtain ⟨_, x, y, z, h, _⟩ := hp a e; rw [h]; simp, (hp a e).2⟩⟩
/-- a new object -/
theorem HpOk.new (h : HpOk p H0 F0 F H n) {a : Addr} {o : HO} (e : H a = none) : HpOk p H0 F0 F (upd H a o) n where
  e0 := fun b u hb ht q => by
    have := h.e0 b u hb ht q
    rw [upd_ne (ne_of_none this e)]
    exact this
  tb := fun b ps q => by
    obtain ⟨m, z⟩ := h.tb b ps q
    exact ⟨m, by rw [upd_ne (ne_of_none z e)]; exact z⟩
  ts := fun t ht => (h.ts t ht).step (Ex.refl _) fun ps z => by rw [upd_ne (ne_of_none z e)]; exact z
  nt := h.nt
  f0 := h.f0
  fr := h.fr
  fh := h.fh.trans (Ex.new e)
  pt := fun b hb => by
    obtain ⟨h1, h2, x, y, z, h3, h4⟩ := h.pt b hb
    exact ⟨h1, h2, x, y, z, by rw [upd_ne (ne_of_none h3 e)]; exact h3, h4⟩
/-- what stands, and is new since the entry, is frozen -/
theorem HpOk.freeze (h : HpOk p H0 F0 F H n) {a : Addr} {o : HO} (e : H a = some o) (nb : ∀ ps, o ≠ .tbl ps) (e0 : H0 a = none) (ef : F a = none) : HpOk p H0 F0 (upd F a o) H n where
  e0 := h.e0
  tb := h.tb
  ts := fun t ht => (h.ts t ht).step (Ex.new ef) fun ps z => z
  nt := fun b ps q => by
    by_cases hb : b = a
    · subst hb
      rw [upd_same] at q
      exact nb ps (Option.some.inj q)
    · rw [upd_ne hb] at q
      exact h.nt b ps q
  f0 := h.f0.trans (Ex.new ef)
  fr := fun b u q => by
    by_cases hb : b = a
    · subst hb; exact .inr e0
    · rw [upd_ne hb] at q; exact h.fr b u q
  fh := fun b u q => by
    by_cases hb : b = a
    · subst hb; rw [upd_same] at q; rw [e]; exact q
    · rw [upd_ne hb] at q; exact h.fh b u q
  pt := fun b hb => by
    obtain ⟨h1, h2, h3⟩ := h.pt b hb
    have hba : b ≠ a := fun q => by subst q; exact h2 e0
    exact ⟨by rw [upd_ne hba]; exact h1, h2, h3⟩
/-- an own object is written -/
theorem HpOk.write (h : HpOk p H0 F0 F H n) {a : Addr} {o u : HO} (e0 : H0 a = none) (ef : F a = none) (e : H a = some u) (nb : ∀ ps, u ≠ .tbl ps) : HpOk p H0 F0 F (upd H a o) n where
  e0 := fun b v hb ht q => by
    rw [upd_ne (ne_of_none q e0)]
    exact h.e0 b v hb ht q
  tb := fun b ps q => by
    obtain ⟨m, z⟩ := h.tb b ps q
    exact ⟨m, by rw [upd_ne (ne_of_none q e0)]; exact z⟩
  ts := fun t ht => (h.ts t ht).step (Ex.refl _) fun ps z => by
    rw [upd_ne]
    · exact z
    · intro q
      rw [q, e] at z
      exact nb ps (Option.some.inj z)
  nt := h.nt
  f0 := h.f0
  fr := h.fr
  fh := fun b v q => by
    rw [upd_ne (ne_of_none q ef)]
    exact h.fh b v q
  pt := fun b hb => by
    obtain ⟨h1, h2, x, y, z, h3, h4⟩ := h.pt b hb
    have hba : b ≠ a := fun q => by subst q; exact h2 e0
    exact ⟨h1, h2, x, y, z, by rw [upd_ne hba]; exact h3, h4⟩
/-- behind a call that started here -/
theorem HpOk.trans (h : HpOk p H0 F0 F H n) (g : HpOk p H F F' H' n') : HpOk p H0 F0 F' H' n' where
  e0 := fun b u hb ht q => g.e0 b u hb ht (h.e0 b u hb ht q)
  tb := fun b ps q => by
    obtain ⟨m, z⟩ := h.tb b ps q
    exact g.tb b m z
  ts := g.ts
  nt := g.nt
  f0 := h.f0.trans g.f0
  fr := fun b u q => by
    rcases g.fr b u q with q | q
    · exact h.fr b u q
    · exact .inr (h.free q)
  fh := g.fh
  pt := fun b hb => ⟨(g.pt b hb).1, (h.pt b hb).2.1, (g.pt b hb).2.2⟩
theorem HpOk.fore (h : HpOk p H0 F0 F H n) : HpOk p H0 F F H n := ⟨h.e0, h.tb, h.ts, h.nt, Ex.refl F, fun _ _ q => .inl q, h.fh, h.pt⟩
/-- the frozen part at the entry may be told greater -/
theorem HpOk.back {F1 : Hp} (h : HpOk p H0 F0 F1 H n) (g : HpOk p H0 F1 F' H' n') : HpOk p H0 F0 F' H' n' :=
  ⟨g.e0, g.tb, g.ts, g.nt, h.f0.trans g.f0, fun b o q => (g.fr b o q).elim (fun z => h.fr b o z) .inr, g.fh, g.pt⟩

theorem slt_step {a C dx : Addr} {vs : List (Option V)} (h : SlX.Slt H a C dx vs) (u : HO) (hd : H dx = some u) (h1 : ∀ o, H a = some o → H' a = some o) (h2 : ∀ o, H dx = some o → H' dx = some o) : SlX.Slt H' a C dx vs ∧ H' dx = some u := by
  refine ⟨?_, h2 _ hd⟩
  rcases h with ⟨q1, q2⟩ | ⟨q1, q2⟩
  · exact .inl ⟨h1 _ q1, q2⟩
  · exact .inr ⟨h1 _ q1, h2 _ q2⟩
theorem slt_some {a C dx : Addr} {vs : List (Option V)} (h : SlX.Slt H a C dx vs) : ∃ o, H a = some o ∧ (∀ ps, o ≠ .tbl ps) ∧ (∀ xs, o ≠ .lst xs) ∧ (∀ xs, o ≠ .dK xs) := by
  rcases h with ⟨q1, _⟩ | ⟨q1, _⟩
  · exact ⟨_, q1, (fun _ z => nomatch z), (fun _ z => nomatch z), fun _ z => nomatch z⟩
  · refine ⟨_, q1, fun _ z => ?_, fun _ z => ?_, fun _ z => ?_⟩ <;> (unfold SlX.SlO at z; cases z)
/-- x: the one address that may change -/
theorem SlOk.step {s : Sl} {o : Option (Option V)} {x : Option Addr} (h : SlOk K p H0 F H s o) (e : Ex F F')
    (k : ∀ b u, x ≠ some b → (∀ ps, u ≠ .tbl ps) → H0 b = none → F b = none → H b = some u → F' b = none ∧ H' b = some u)
    (nx : ∀ a, s.own = true → o = some (some (.ref a)) → x ≠ some a) (nd : ∀ b, x = some b → (∃ vs, H b = some (.lst vs)) ∨ ∃ vs, H b = some (.dK vs)) : SlOk K p H0 F' H' s o := by
  cases s with
  | un => trivial
  | im d =>
    obtain ⟨v, h1, h2⟩ := h
    exact ⟨v, h1, h2.mono e⟩
  | ow ds =>
    obtain ⟨a, vs, h1, h2, h3, h4, h5⟩ := h
    obtain ⟨q1, q2⟩ := k a _ (nx a rfl h1) (by intro ps z; cases z) h2 h3 h4
    exact ⟨a, vs, h1, h2, q1, q2, h5.mono e⟩
  | od ds =>
    obtain ⟨a, vs, h1, h2, h3, h4, h5⟩ := h
    obtain ⟨q1, q2⟩ := k a _ (nx a rfl h1) (by intro ps z; cases z) h2 h3 h4
    exact ⟨a, vs, h1, h2, q1, q2, h5.mono e⟩
  | nw a n xs =>
    obtain ⟨C, dx, vs, h1, h2, h3, ⟨d1, d2, d3, d4, d5, u, d6, d7⟩, h5⟩ := h
    have ax := nx a rfl h1
    have dxx : x ≠ some dx := fun z => by
      rcases nd dx z with ⟨vs, q⟩ | ⟨vs, q⟩ <;> (rw [d6] at q; rcases d7 with rfl | rfl <;> cases q)
    obtain ⟨oa, qa, qt, _⟩ := slt_some d5
    have ka := k a oa ax qt h2 h3 qa
    have kd := k dx u dxx (fun ps z => by rcases d7 with rfl | rfl <;> cases z) d1 d2 d6
    obtain ⟨s1, s2⟩ := slt_step (H' := H') d5 u d6 (fun o q => by rw [qa] at q; cases q; exact ka.2) (fun o q => by rw [d6] at q; cases q; exact kd.2)
    exact ⟨C, dx, vs, h1, h2, ka.1, ⟨d1, kd.1, d3, d4, s1, u, s2, d7⟩, h5.mono e⟩
/-- the heap steps, what is one's own stays, but for x -/
theorem Ok.step (h : Ok K p H0 F0 F H σ S T) {x : Option Addr} (e : Ex F F') (hp : HpOk p H0 F0 F' H' n')
    (k : ∀ b u, x ≠ some b → (∀ ps, u ≠ .tbl ps) → H0 b = none → F b = none → H b = some u → F' b = none ∧ H' b = some u)
    (nx : ∀ (i : Nat) (s : Sl) (a : Addr), S.sl[i]? = some s → s.own = true → σ[i]? = some (some (.ref a)) → x ≠ some a) (nt : ∀ a vs, (a, vs) ∈ T → x ≠ some a) (nd : ∀ b, x = some b → (∃ vs, H b = some (.lst vs)) ∨ ∃ vs, H b = some (.dK vs)) :
    Ok K p H0 F0 F' H' σ ⟨S.sl, n'⟩ T where
  hp := hp
  len := h.len
  sl := fun i s q => (h.sl i s q).step e k (fun a ho hs => nx i s a q ho hs) nd
  own := h.own
  tm := fun a vs q => by
    obtain ⟨h1, h2, h3⟩ := h.tm a vs q
    exact ⟨h1, k a _ (nt a vs q) (fun _ z => nomatch z) h1 h2 h3⟩
  ot := h.ot
  td := h.td
theorem Ok.stepN (h : Ok K p H0 F0 F H σ S T) (e : Ex F F') (hp : HpOk p H0 F0 F' H' n')
    (k : ∀ b u, (∀ ps, u ≠ .tbl ps) → H0 b = none → F b = none → H b = some u → F' b = none ∧ H' b = some u) : Ok K p H0 F0 F' H' σ ⟨S.sl, n'⟩ T :=
  h.step (x := none) e hp (fun b u _ => k b u) (fun _ _ _ _ _ _ => by simp) (fun _ _ _ => by simp) (fun _ z => nomatch z)
theorem HpOk.keepN (g : HpOk p H F F' H' n') {a : Addr} {o : HO} (hp : p.pot ≠ some a) (ht : ∀ ps, o ≠ .tbl ps) (hf : F a = none) (h : H a = some o) : F' a = none ∧ H' a = some o := by
  refine ⟨?_, g.e0 a _ hp ht h⟩
  cases q : F' a with
  | none => rfl
  | some u =>
    rcases g.fr a u q with z | z
    · rw [hf] at z; cases z
    · rw [h] at z; cases z
theorem Ok.call (h : Ok K p H0 F0 F H σ S T) (g : HpOk p H F F' H' n') : Ok K p H0 F0 F' H' σ ⟨S.sl, n'⟩ T :=
  h.stepN g.f0 (h.hp.trans g) fun a u ht h1 h2 h3 => g.keepN (h.hp.nepot h1) ht h2 h3
/-- a new frozen object -/
theorem Ok.lay (h : Ok K p H0 F0 F H σ S T) {a : Addr} {o : HO} (e : H a = none) (nb : ∀ ps, o ≠ .tbl ps := by intro _ z; cases z) : Ok K p H0 F0 (upd F a o) (upd H a o) σ S T :=
  h.stepN (n' := S.n) (Ex.new (h.hp.freeF e)) ((h.hp.new e).freeze upd_same nb (h.hp.free e) (h.hp.freeF e)) fun b u _ h1 h2 h3 => by
    have hb : b ≠ a := ne_of_none h3 e
    exact ⟨by rw [upd_ne hb]; exact h2, by rw [upd_ne hb]; exact h3⟩
/-- a new object that nobody knows -/
theorem Ok.layN (h : Ok K p H0 F0 F H σ S T) {a : Addr} {o : HO} (e : H a = none) : Ok K p H0 F0 F (upd H a o) σ S T :=
  h.stepN (n' := S.n) (Ex.refl F) (h.hp.new e) fun b u _ h1 h2 h3 => ⟨h2, by rw [upd_ne (ne_of_none h3 e)]; exact h3⟩
/-- an own slot's object stands -/
theorem Ok.ownAt (h : Ok K p H0 F0 F H σ S T) {i : Nat} {s : Sl} {a : Addr} (h1 : S.sl[i]? = some s) (h2 : s.own = true) (h3 : σ[i]? = some (some (.ref a))) : H0 a = none ∧ F a = none ∧ ∃ o, H a = some o ∧ ((∃ vs, o = .lst vs) → ∃ ds, s = .ow ds) ∧ ((∃ vs, o = .dK vs) → ∃ ds, s = .od ds) := by
  have := h.sl i s h1
  cases s with
  | un => cases h2
  | im d => cases h2
  | ow ds =>
    obtain ⟨b, vs, q1, q2, q3, q4, _⟩ := this
    rw [h3] at q1
    cases q1
    exact ⟨q2, q3, _, q4, (fun _ => ⟨_, rfl⟩), fun ⟨_, z⟩ => by cases z⟩
  | od ds =>
    obtain ⟨b, vs, q1, q2, q3, q4, _⟩ := this
    rw [h3] at q1
    cases q1
    exact ⟨q2, q3, _, q4, (fun ⟨_, z⟩ => by cases z), fun _ => ⟨_, rfl⟩⟩
  | nw b n xs =>
    obtain ⟨C, dx, vs, q1, q2, q3, ⟨_, _, _, _, d5, _⟩, _⟩ := this
    rw [h3] at q1
    cases q1
    obtain ⟨o, z1, z2, z3, z4⟩ := slt_some d5
    exact ⟨q2, q3, o, z1, (fun ⟨v, e⟩ => absurd e (z3 v)), fun ⟨v, e⟩ => absurd e (z4 v)⟩
/-- a new list of one's own, not yet at a slot -/
theorem Ok.layT (h : Ok K p H0 F0 F H σ S T) {a : Addr} {vs : List V} (e : H a = none) : Ok K p H0 F0 F (upd H a (.lst vs)) σ S ((a, vs) :: T) := by
  have h' : Ok K p H0 F0 F (upd H a (.lst vs)) σ S T := h.layN e
  have nT : ∀ ws, (a, ws) ∉ T := fun ws hm => by
    obtain ⟨_, _, q⟩ := h.tm a ws hm
    rw [e] at q; cases q
  refine ⟨h'.hp, h'.len, h'.sl, h'.own, fun b ws hm => ?_, fun i s b ws h1 h0 h2 hm => ?_, ?_⟩
  · rcases List.mem_cons.mp hm with hm | hm
    · cases hm; exact ⟨h.hp.free e, h.hp.freeF e, upd_same⟩
    · exact h'.tm b ws hm
  · rcases List.mem_cons.mp hm with hm | hm
    · cases hm
      obtain ⟨_, _, o, z, _⟩ := h.ownAt h1 h0 h2
      rw [e] at z; cases z
    · exact h.ot i s b ws h1 h0 h2 hm
  · rw [List.map_cons, List.nodup_cons]
    refine ⟨fun hm => ?_, h.td⟩
    obtain ⟨⟨b, ws⟩, hm', e'⟩ := List.mem_map.mp hm
    have e2 : b = a := e'
    subst e2
    exact nT ws hm'
theorem Ok.addT (h : Ok K p H0 F0 F H σ S T) {a : Addr} {vs : List V} (h0 : H0 a = none) (hf : F a = none) (hl : H a = some (.lst vs)) (hs : ∀ (i : Nat) (s : Sl), S.sl[i]? = some s → s.own = true → σ[i]? ≠ some (some (.ref a))) (ht : ∀ ws, (a, ws) ∉ T) : Ok K p H0 F0 F H σ S ((a, vs) :: T) := by
  refine ⟨h.hp, h.len, h.sl, h.own, fun b ws hm => ?_, fun i s b ws h1 ho h2 hm => ?_, ?_⟩
  · rcases List.mem_cons.mp hm with hm | hm
    · cases hm; exact ⟨h0, hf, hl⟩
    · exact h.tm b ws hm
  · rcases List.mem_cons.mp hm with hm | hm
    · cases hm; exact hs i s h1 ho h2
    · exact h.ot i s b ws h1 ho h2 hm
  · rw [List.map_cons, List.nodup_cons]
    refine ⟨fun hm => ?_, h.td⟩
    obtain ⟨⟨b, ws⟩, hm', e'⟩ := List.mem_map.mp hm
    have e2 : b = a := e'
    subst e2
    exact ht ws hm'
theorem Ok.tail {a : Addr} {vs : List V} (h : Ok K p H0 F0 F H σ S ((a, vs) :: T)) : Ok K p H0 F0 F H σ S T :=
  ⟨h.hp, h.len, h.sl, h.own, fun b ws hm => h.tm b ws (List.mem_cons_of_mem _ hm), fun i ds b ws h1 h0 h2 hm => h.ot i ds b ws h1 h0 h2 (List.mem_cons_of_mem _ hm), (List.nodup_cons.mp h.td).2⟩
theorem Ok.topT {a : Addr} {vs : List V} (h : Ok K p H0 F0 F H σ S ((a, vs) :: T)) : H0 a = none ∧ F a = none ∧ H a = some (.lst vs) := h.tm a vs List.mem_cons_self
theorem Ok.topNe {a : Addr} {vs : List V} (h : Ok K p H0 F0 F H σ S ((a, vs) :: T)) {b : Addr} {ws : List V} (hm : (b, ws) ∈ T) : b ≠ a := fun e => by
  subst e
  exact (List.nodup_cons.mp h.td).1 (List.mem_map.mpr ⟨_, hm, rfl⟩)
theorem Ok.topOwn {a : Addr} {vs : List V} (h : Ok K p H0 F0 F H σ S ((a, vs) :: T)) {i : Nat} {s : Sl} {b : Addr} (h1 : S.sl[i]? = some s) (h0 : s.own = true) (h2 : σ[i]? = some (some (.ref b))) : some a ≠ some b := fun e => by
  cases e
  exact h.ot i s a vs h1 h0 h2 List.mem_cons_self
/-- it is frozen -/
theorem Ok.frzT {a : Addr} {vs : List V} (h : Ok K p H0 F0 F H σ S ((a, vs) :: T)) : Ok K p H0 F0 (upd F a (.lst vs)) H σ S T ∧ Ex F (upd F a (.lst vs)) := by
  obtain ⟨t1, t2, t3⟩ := h.topT
  refine ⟨h.tail.step (x := some a) (n' := S.n) (Ex.new t2) (h.hp.freeze t3 (fun _ z => nomatch z) t1 t2) (fun b u hx _ h1 h2 h3 => ?_) (fun i s b q1 q2 q3 => h.topOwn q1 q2 q3) (fun b ws hm z => h.topNe hm (Option.some.inj z).symm) (fun b z => by cases z; exact .inl ⟨_, t3⟩), Ex.new t2⟩
  have hb : b ≠ a := fun z => hx (by rw [z])
  exact ⟨by rw [upd_ne hb]; exact h2, h3⟩
/-- it is written -/
theorem Ok.updT {a : Addr} {vs : List V} (h : Ok K p H0 F0 F H σ S ((a, vs) :: T)) (ws : List V) : Ok K p H0 F0 F (upd H a (.lst ws)) σ S ((a, ws) :: T) := by
  obtain ⟨t1, t2, t3⟩ := h.topT
  have h' : Ok K p H0 F0 F (upd H a (.lst ws)) σ S T := h.tail.step (x := some a) (n' := S.n) (Ex.refl F) (h.hp.write t1 t2 t3 (fun _ z => nomatch z)) (fun b u hx _ h1 h2 h3 => by
    have hb : b ≠ a := fun z => hx (by rw [z])
    exact ⟨h2, by rw [upd_ne hb]; exact h3⟩) (fun i s b q1 q2 q3 => h.topOwn q1 q2 q3) (fun b us hm z => h.topNe hm (Option.some.inj z).symm) (fun b z => by cases z; exact .inl ⟨_, t3⟩)
  refine ⟨h'.hp, h'.len, h'.sl, h'.own, fun b us hm => ?_, fun i s b us h1 h0 h2 hm => ?_, ?_⟩
  · rcases List.mem_cons.mp hm with hm | hm
    · cases hm; exact ⟨t1, t2, upd_same⟩
    · exact h'.tm b us hm
  · rcases List.mem_cons.mp hm with hm | hm
    · cases hm; exact h.ot i s a vs h1 h0 h2 List.mem_cons_self
    · exact h'.ot i s b us h1 h0 h2 hm
  · exact h.td
/-- the object of an own slot is written, or frozen: its slot's contents are told anew -/
theorem Ok.atSlot (h : Ok K p H0 F0 F H σ S T) {i : Nat} {s s' : Sl} {a : Addr} (hi : S.sl[i]? = some s) (hs : s.own = true) (ha : σ[i]? = some (some (.ref a))) (e : Ex F F') (hp : HpOk p H0 F0 F' H' S.n)
    (k : ∀ b u, some a ≠ some b → (∀ ps, u ≠ .tbl ps) → H0 b = none → F b = none → H b = some u → F' b = none ∧ H' b = some u)
    (nd : (∃ vs, H a = some (.lst vs)) ∨ ∃ vs, H a = some (.dK vs)) (new : SlOk K p H0 F' H' s' (σ[i]?)) : Ok K p H0 F0 F' H' σ ⟨S.sl.set i s', S.n⟩ T := by
  have hi' : i < S.sl.length := (List.getElem?_eq_some_iff.mp hi).1
  have at_ : ∀ (j : Nat) (t : Sl), (S.sl.set i s')[j]? = some t → t.own = true → ∃ t', S.sl[j]? = some t' ∧ t'.own = true := fun j t q ho => by
    by_cases hj : j = i
    · subst hj; exact ⟨s, hi, hs⟩
    · rw [List.getElem?_set_ne (Ne.symm hj)] at q; exact ⟨t, q, ho⟩
  refine ⟨hp, by rw [List.length_set]; exact h.len, fun j t q => ?_, fun j l t u b hjl q1 o1 q2 o2 q3 q4 => ?_, fun b ws hm => ?_, fun j t b ws q1 o1 q2 hm => ?_, h.td⟩
  · by_cases hj : j = i
    · subst hj
      rw [List.getElem?_set_self hi'] at q
      cases q
      exact new
    · rw [List.getElem?_set_ne (Ne.symm hj)] at q
      exact (h.sl j t q).step (x := some a) e k (fun b ho hb z => by
        cases z
        exact h.own i j s t a (Ne.symm hj) hi hs q ho ha hb) (fun b z => by cases z; exact nd)
  · obtain ⟨t', r1, r2⟩ := at_ j t q1 o1
    obtain ⟨u', r3, r4⟩ := at_ l u q2 o2
    exact h.own j l t' u' b hjl r1 r2 r3 r4 q3 q4
  · obtain ⟨h1, h2, h3⟩ := h.tm b ws hm
    exact ⟨h1, k b _ (fun z => by cases z; exact h.ot i s a ws hi hs ha hm) (fun _ z => nomatch z) h1 h2 h3⟩
  · obtain ⟨t', r1, r2⟩ := at_ j t q1 o1
    exact h.ot j t' b ws r1 r2 q2 hm
/-- an own list at a slot is frozen -/
theorem Ok.frzS (h : Ok K p H0 F0 F H σ S T) {i : Nat} {ds : List Dat} (hi : S.sl[i]? = some (.ow ds)) :
    ∃ a vs, σ[i]? = some (some (.ref a)) ∧ F a = none ∧ Reps K p F vs ds ∧ Ok K p H0 F0 (upd F a (.lst vs)) H σ ⟨S.sl.set i (.im (.lst ds)), S.n⟩ T := by
  obtain ⟨a, vs, h1, h2, h3, h4, h5⟩ := h.sl i _ hi
  refine ⟨a, vs, h1, h3, h5, h.atSlot hi rfl h1 (Ex.new h3) (h.hp.freeze h4 (fun _ z => nomatch z) h2 h3) (fun b u hx _ q1 q2 q3 => ?_) (.inl ⟨_, h4⟩) ⟨.ref a, h1, .lst upd_same (h5.mono (Ex.new h3))⟩⟩
  have hb : b ≠ a := fun z => hx (by rw [z])
  exact ⟨by rw [upd_ne hb]; exact q2, q3⟩
/-- an own dict is -/
theorem Ok.frzD (h : Ok K p H0 F0 F H σ S T) {i : Nat} {ds : List (Key × Dat)} (hi : S.sl[i]? = some (.od ds)) :
    ∃ a vs, σ[i]? = some (some (.ref a)) ∧ F a = none ∧ RepK K p F vs ds ∧ Ok K p H0 F0 (upd F a (.dK vs)) H σ ⟨S.sl.set i (.im (.dct ds)), S.n⟩ T := by
  obtain ⟨a, vs, h1, h2, h3, h4, h5⟩ := h.sl i _ hi
  refine ⟨a, vs, h1, h3, h5, h.atSlot hi rfl h1 (Ex.new h3) (h.hp.freeze h4 (fun _ z => nomatch z) h2 h3) (fun b u hx _ q1 q2 q3 => ?_) (.inr ⟨_, h4⟩) ⟨.ref a, h1, .dct upd_same (h5.mono (Ex.new h3))⟩⟩
  have hb : b ≠ a := fun z => hx (by rw [z])
  exact ⟨by rw [upd_ne hb]; exact q2, q3⟩
/-- it is written -/
theorem Ok.updS (h : Ok K p H0 F0 F H σ S T) {i : Nat} {ds : List Dat} (hi : S.sl[i]? = some (.ow ds)) :
    ∃ a vs, σ[i]? = some (some (.ref a)) ∧ H a = some (.lst vs) ∧ Reps K p F vs ds ∧ ∀ ws es, Reps K p F ws es → Ok K p H0 F0 F (upd H a (.lst ws)) σ ⟨S.sl.set i (.ow es), S.n⟩ T := by
  obtain ⟨a, vs, h1, h2, h3, h4, h5⟩ := h.sl i _ hi
  refine ⟨a, vs, h1, h4, h5, fun ws es hw => h.atSlot hi rfl h1 (Ex.refl F) (h.hp.write h2 h3 h4 (fun _ z => nomatch z)) (fun b u hx _ q1 q2 q3 => ?_) (.inl ⟨_, h4⟩) ⟨a, ws, h1, h2, h3, upd_same, hw⟩⟩
  have hb : b ≠ a := fun z => hx (by rw [z])
  exact ⟨q2, by rw [upd_ne hb]; exact q3⟩
theorem Ok.updD (h : Ok K p H0 F0 F H σ S T) {i : Nat} {ds : List (Key × Dat)} (hi : S.sl[i]? = some (.od ds)) :
    ∃ a vs, σ[i]? = some (some (.ref a)) ∧ H a = some (.dK vs) ∧ RepK K p F vs ds ∧ ∀ ws es, RepK K p F ws es → Ok K p H0 F0 F (upd H a (.dK ws)) σ ⟨S.sl.set i (.od es), S.n⟩ T := by
  obtain ⟨a, vs, h1, h2, h3, h4, h5⟩ := h.sl i _ hi
  refine ⟨a, vs, h1, h4, h5, fun ws es hw => h.atSlot hi rfl h1 (Ex.refl F) (h.hp.write h2 h3 h4 (fun _ z => nomatch z)) (fun b u hx _ q1 q2 q3 => ?_) (.inr ⟨_, h4⟩) ⟨a, ws, h1, h2, h3, upd_same, hw⟩⟩
  have hb : b ≠ a := fun z => hx (by rw [z])
  exact ⟨q2, by rw [upd_ne hb]; exact q3⟩
/-- a slot is set: to data -/
theorem Ok.setIm (h : Ok K p H0 F0 F H σ S T) {i : Nat} {v : V} {d : Dat} (r : Rep K p F v d) : Ok K p H0 F0 F H (σ.set i (some v)) ⟨S.sl.set i (.im d), S.n⟩ T := by
  have back : ∀ (j : Nat) (t : Sl), (S.sl.set i (.im d))[j]? = some t → t.own = true → S.sl[j]? = some t ∧ j ≠ i := fun j t q ho => by
    by_cases hj : j = i
    · subst hj
      by_cases hl : j < S.sl.length
      · rw [List.getElem?_set_self hl] at q; cases q; cases ho
      · rw [List.getElem?_eq_none (by rw [List.length_set]; omega)] at q; cases q
    · rw [List.getElem?_set_ne (Ne.symm hj)] at q; exact ⟨q, hj⟩
  refine ⟨h.hp, by rw [List.length_set, List.length_set]; exact h.len, fun j s q => ?_, fun j k t u b hjk q1 o1 q2 o2 q3 q4 => ?_, h.tm, fun j t b us q1 o1 q2 hm => ?_, h.td⟩
  · by_cases hj : j = i
    · subst hj
      have hl : j < S.sl.length := by have := (List.getElem?_eq_some_iff.mp q).1; rwa [List.length_set] at this
      rw [List.getElem?_set_self hl] at q
      cases q
      exact ⟨v, by rw [List.getElem?_set_self (by rw [h.len]; exact hl)], r⟩
    · rw [List.getElem?_set_ne (Ne.symm hj)] at q ⊢
      exact h.sl j s q
  · obtain ⟨q1, nj⟩ := back j t q1 o1
    obtain ⟨q2, nk⟩ := back k u q2 o2
    rw [List.getElem?_set_ne (Ne.symm nj)] at q3
    rw [List.getElem?_set_ne (Ne.symm nk)] at q4
    exact h.own j k t u b hjk q1 o1 q2 o2 q3 q4
  · obtain ⟨q1, nj⟩ := back j t q1 o1
    rw [List.getElem?_set_ne (Ne.symm nj)] at q2
    exact h.ot j t b us q1 o1 q2 hm
/-- .. to what is one's own, and stands nowhere else -/
theorem Ok.setOwn (h : Ok K p H0 F0 F H σ S T) {i : Nat} {a : Addr} {s : Sl} (hs : s.own = true) (hf : ∀ (j : Nat) (t : Sl), S.sl[j]? = some t → t.own = true → σ[j]? ≠ some (some (.ref a))) (hT : ∀ ws, (a, ws) ∉ T) (new : SlOk K p H0 F H s (some (some (.ref a)))) :
    Ok K p H0 F0 F H (σ.set i (some (.ref a))) ⟨S.sl.set i s, S.n⟩ T := by
  have lt : ∀ {t}, (S.sl.set i s)[i]? = some t → i < σ.length := fun q => by
    have := (List.getElem?_eq_some_iff.mp q).1
    rw [List.length_set] at this; rw [h.len]; exact this
  refine ⟨h.hp, by rw [List.length_set, List.length_set]; exact h.len, fun j t q => ?_, fun j k t u b hjk q1 o1 q2 o2 q3 q4 => ?_, h.tm, fun j t b us q1 o1 q2 hm => ?_, h.td⟩
  · by_cases hj : j = i
    · subst hj
      have hl : j < S.sl.length := by have := (List.getElem?_eq_some_iff.mp q).1; rwa [List.length_set] at this
      rw [List.getElem?_set_self hl] at q
      cases q
      rw [List.getElem?_set_self (by rw [h.len]; exact hl)]
      exact new
    · rw [List.getElem?_set_ne (Ne.symm hj)] at q ⊢
      exact h.sl j t q
  · by_cases hj : j = i
    · subst hj
      rw [List.getElem?_set_self (lt q1)] at q3
      cases q3
      rw [List.getElem?_set_ne hjk] at q4 q2
      exact hf k u q2 o2 q4
    · by_cases hk : k = i
      · subst hk
        rw [List.getElem?_set_self (lt q2)] at q4
        cases q4
        rw [List.getElem?_set_ne (Ne.symm hj)] at q3 q1
        exact hf j t q1 o1 q3
      · rw [List.getElem?_set_ne (Ne.symm hj)] at q3 q1
        rw [List.getElem?_set_ne (Ne.symm hk)] at q4 q2
        exact h.own j k t u b hjk q1 o1 q2 o2 q3 q4
  · by_cases hj : j = i
    · subst hj
      rw [List.getElem?_set_self (lt q1)] at q2
      cases q2
      exact hT us hm
    · rw [List.getElem?_set_ne (Ne.symm hj)] at q2 q1
      exact h.ot j t b us q1 o1 q2 hm
theorem Ok.setOw {a : Addr} {vs : List V} (h : Ok K p H0 F0 F H σ S ((a, vs) :: T)) {i : Nat} {ds : List Dat} (r : Reps K p F vs ds) : Ok K p H0 F0 F H (σ.set i (some (.ref a))) ⟨S.sl.set i (.ow ds), S.n⟩ T := by
  obtain ⟨t1, t2, t3⟩ := h.topT
  exact h.tail.setOwn rfl (fun j t q o z => h.ot j t a vs q o z List.mem_cons_self) (fun ws hm => h.topNe hm rfl) ⟨a, vs, rfl, t1, t2, t3, r⟩
/-- a new dict becomes a slot's own -/
theorem Ok.setOd (h : Ok K p H0 F0 F H σ S T) {i : Nat} {a : Addr} {vs : List (Key × V)} {ds : List (Key × Dat)} (h0 : H0 a = none) (hf : F a = none) (ha : H a = some (.dK vs)) (hn : ∀ (j : Nat) (t : Sl), S.sl[j]? = some t → t.own = true → σ[j]? ≠ some (some (.ref a))) (r : RepK K p F vs ds) :
    Ok K p H0 F0 F H (σ.set i (some (.ref a))) ⟨S.sl.set i (.od ds), S.n⟩ T :=
  h.setOwn rfl hn (fun ws hm => by
    obtain ⟨_, _, q⟩ := h.tm a ws hm
    rw [ha] at q; cases q) ⟨a, vs, rfl, h0, hf, ha, r⟩
/-- forget slots: any other contents there -/
theorem Ok.forget (h : Ok K p H0 F0 F H σ S T) {σ' : L2.St} {sl' : List Sl} (hl : σ'.length = sl'.length) (k : ∀ (i : Nat) (s : Sl), sl'[i]? = some s → s = .un ∨ (∃ d, s = .im d ∧ SlOk K p H0 F H s (σ'[i]?)) ∨ (S.sl[i]? = some s ∧ σ'[i]? = σ[i]?)) : Ok K p H0 F0 F H σ' ⟨sl', S.n⟩ T := by
  have back : ∀ {i : Nat} {s : Sl}, sl'[i]? = some s → s.own = true → S.sl[i]? = some s ∧ σ'[i]? = σ[i]? := fun {i s} q ho => by
    rcases k i _ q with e | ⟨d, e, _⟩ | e
    · subst e; cases ho
    · subst e; cases ho
    · exact e
  refine ⟨h.hp, hl, fun i s q => ?_, fun i j s t a hij q1 o1 q2 o2 q3 q4 => ?_, h.tm, fun i s a vs q1 o1 q2 hm => ?_, h.td⟩
  · rcases k i s q with rfl | ⟨d, rfl, e⟩ | ⟨e1, e2⟩
    · trivial
    · exact e
    · rw [e2]; exact h.sl i s e1
  · obtain ⟨q1, e1⟩ := back q1 o1
    obtain ⟨q2, e2⟩ := back q2 o2
    exact h.own i j s t a hij q1 o1 q2 o2 (e1 ▸ q3) (e2 ▸ q4)
  · obtain ⟨q1, e1⟩ := back q1 o1
    exact h.ot i s a vs q1 o1 (e1 ▸ q2) hm
end
end Dl
-- part Dm
set_option Elab.async false
set_option linter.all false
set_option maxRecDepth 100000
set_option maxHeartbeats 4000000
namespace Dl
open PySem PySem.Spec PyProof.Rows L2 Evl
variable [LawTabs]

abbrev WE := Sx → (Dat → Sx → Prop) → Prop
abbrev WF := Sx → (List Dat → Sx → Prop) → Prop
abbrev WT := Sx → (Bool → Sx → Prop) → Prop
abbrev WO := Sx → (Option Int → Sx → Prop) → Prop
abbrev WG := Dat → Sx → (Sx → Prop) → Prop
structure Dx where
  nx : Sx → Prop
  rt : Dat → Nat → Prop
  rf : List Dat → Nat → Prop := fun _ _ => False
  bk : Sx → Prop := fun _ => False
  ct : Sx → Prop := fun _ => False
  xq : Str → Dat → Sx → Prop := fun _ _ _ => False
abbrev WS := Dx → Sx → Prop
abbrev OpD := Dat → Dat → (Dat → Prop) → Prop
abbrev Fn := List Dat → Nat → (Dat → Nat → Prop) → Prop

/-! ### the classes: a reading t of the layer is described by a transformer w -/
class EV (K : PySem.W.Frag) (t : TE) (w : outParam WE) : Prop where
  run : ∀ {p : Amb} {H0 F0 F H : Hp} {σ : L2.St} {S : Sx} {T : List (Addr × List V)} {Q : Dat → Sx → Prop} {Q' : VK}, Ok K p H0 F0 F H σ S T → w S Q →
    (∀ v F' H' S' d, Ok K p H0 F0 F' H' σ S' T → Ex F F' → Rep K p F' v d → Q d S' → Q' v H') → t σ H Q'
/-- the value is a new list, known to nobody -/
class EF (K : PySem.W.Frag) (t : TE) (w : outParam WF) : Prop where
  run : ∀ {p : Amb} {H0 F0 F H : Hp} {σ : L2.St} {S : Sx} {T : List (Addr × List V)} {Q : List Dat → Sx → Prop} {Q' : VK}, Ok K p H0 F0 F H σ S T → w S Q →
    (∀ a vs F' H' S' ds, Ok K p H0 F0 F' H' σ S' ((a, vs) :: T) → Ex F F' → Reps K p F' vs ds → Q ds S' → Q' (.ref a) H') → t σ H Q'
class TV (K : PySem.W.Frag) (t : TT) (w : outParam WT) : Prop where
  run : ∀ {p : Amb} {H0 F0 F H : Hp} {σ : L2.St} {S : Sx} {T : List (Addr × List V)} {Q : Bool → Sx → Prop} {Q' : Bool → Hp → Prop}, Ok K p H0 F0 F H σ S T → w S Q →
    (∀ b F' H' S', Ok K p H0 F0 F' H' σ S' T → Ex F F' → Q b S' → Q' b H') → t σ H Q'
class AV (K : PySem.W.Frag) (t : TA) (w : outParam WF) : Prop where
  run : ∀ {p : Amb} {H0 F0 F H : Hp} {σ : L2.St} {S : Sx} {T : List (Addr × List V)} {Q : List Dat → Sx → Prop} {Q' : List V → Hp → Prop}, Ok K p H0 F0 F H σ S T → w S Q →
    (∀ vs F' H' S' ds, Ok K p H0 F0 F' H' σ S' T → Ex F F' → Reps K p F' vs ds → Q ds S' → Q' vs H') → t σ H Q'
class PV (K : PySem.W.Frag) (t : TO) (w : outParam WO) : Prop where
  run : ∀ {p : Amb} {H0 F0 F H : Hp} {σ : L2.St} {S : Sx} {T : List (Addr × List V)} {Q : Option Int → Sx → Prop} {Q' : Option Int → Hp → Prop}, Ok K p H0 F0 F H σ S T → w S Q →
    (∀ o F' H' S', Ok K p H0 F0 F' H' σ S' T → Ex F F' → Q o S' → Q' o H') → t σ H Q'
/-- an operation on two values -/
class OV (K : PySem.W.Frag) (r : R2) (f : outParam OpD) : Prop where
  run : ∀ {p : Amb} {H0 F0 F H : Hp} {σ : L2.St} {S : Sx} {T : List (Addr × List V)} {QD : Dat → Prop} {Q' : VK} {x y : V} {a b : Dat}, Ok K p H0 F0 F H σ S T → Rep K p F x a → Rep K p F y b → f a b QD →
    (∀ v F' H' d, Ok K p H0 F0 F' H' σ S T → Ex F F' → Rep K p F' v d → QD d → Q' v H') → r x y H Q'
class UV (K : PySem.W.Frag) (r : V → Hp → VK → Prop) (f : outParam (Dat → (Dat → Prop) → Prop)) : Prop where
  run : ∀ {p : Amb} {H0 F0 F H : Hp} {σ : L2.St} {S : Sx} {T : List (Addr × List V)} {QD : Dat → Prop} {Q' : VK} {x : V} {a : Dat}, Ok K p H0 F0 F H σ S T → Rep K p F x a → f a QD →
    (∀ v F' H' d, Ok K p H0 F0 F' H' σ S T → Ex F F' → Rep K p F' v d → QD d → Q' v H') → r x H Q'
/-- a builtin on values -/
class BV (K : PySem.W.Frag) (r : List V → Hp → VK → Prop) (f : outParam (List Dat → (Dat → Prop) → Prop)) : Prop where
  run : ∀ {p : Amb} {H0 F0 F H : Hp} {σ : L2.St} {S : Sx} {T : List (Addr × List V)} {QD : Dat → Prop} {Q' : VK} {vs : List V} {ds : List Dat}, Ok K p H0 F0 F H σ S T → Reps K p F vs ds → f ds QD →
    (∀ v F' H' d, Ok K p H0 F0 F' H' σ S T → Ex F F' → Rep K p F' v d → QD d → Q' v H') → r vs H Q'
class BF (K : PySem.W.Frag) (r : List V → Hp → VK → Prop) (f : outParam (List Dat → (List Dat → Prop) → Prop)) : Prop where
  run : ∀ {p : Amb} {H0 F0 F H : Hp} {σ : L2.St} {S : Sx} {T : List (Addr × List V)} {QD : List Dat → Prop} {Q' : VK} {vs : List V} {ds : List Dat}, Ok K p H0 F0 F H σ S T → Reps K p F vs ds → f ds QD →
    (∀ a ws F' H' es, Ok K p H0 F0 F' H' σ S ((a, ws) :: T) → Ex F F' → Reps K p F' ws es → QD es → Q' (.ref a) H') → r vs H Q'
/-- a method of a builtin type; t: the data it is asked of -/
class MV (K : PySem.W.Frag) (ty : String) (r : V → List V → Hp → VK → Prop) (t : outParam (Dat → Prop)) (f : outParam (Dat → List Dat → (Dat → Prop) → Prop)) : Prop where
  ty : ∀ {p : Amb} {F H : Hp} {x : V} {a : Dat}, Ex F H → Rep K p F x a → t a → tyV K ty x H
  run : ∀ {p : Amb} {H0 F0 F H : Hp} {σ : L2.St} {S : Sx} {T : List (Addr × List V)} {QD : Dat → Prop} {Q' : VK} {x : V} {a : Dat} {vs : List V} {ds : List Dat}, Ok K p H0 F0 F H σ S T → Rep K p F x a → Reps K p F vs ds → f a ds QD →
    (∀ v F' H' d, Ok K p H0 F0 F' H' σ S T → Ex F F' → Rep K p F' v d → QD d → Q' v H') → r x vs H Q'
/-- a slice of a value -/
class CT (K : PySem.W.Frag) (r : V → Option Int → Option Int → Hp → VK → Prop) (f : outParam (Dat → Option Int → Option Int → (Dat → Prop) → Prop)) : Prop where
  run : ∀ {p : Amb} {H0 F0 F H : Hp} {σ : L2.St} {S : Sx} {T : List (Addr × List V)} {QD : Dat → Prop} {Q' : VK} {x : V} {a : Dat} {lo hi : Option Int}, Ok K p H0 F0 F H σ S T → Rep K p F x a → f a lo hi QD →
    (∀ v F' H' d, Ok K p H0 F0 F' H' σ S T → Ex F F' → Rep K p F' v d → QD d → Q' v H') → r x lo hi H Q'
/-- a constant -/
class CV (K : PySem.W.Frag) (v : V) (d : outParam Dat) : Prop where
  rep : ∀ (p : Amb) (F : Hp), Rep K p F v d

/-- what follows -/
structure Cont (K : PySem.W.Frag) (p : Amb) (H0 F0 : Hp) (D : Dx) (D' : Ends) (W : WX) : Prop where
  nx : ∀ F H σ S, Ok K p H0 F0 F H σ S [] → D.nx S → D'.nx σ H
  rt : ∀ v F H d n, HpOk p H0 F0 F H n → Rep K p F v d → D.rt d n → D'.rt v H
  rf : ∀ a vs F H ds n, HpOk p H0 F0 F H n → H0 a = none → F a = none → H a = some (.lst vs) → Reps K p F vs ds → D.rf ds n → D'.rt (.ref a) H
  bk : ∀ F H σ S, Ok K p H0 F0 F H σ S [] → D.bk S → D'.bk σ H
  ct : ∀ F H σ S, Ok K p H0 F0 F H σ S [] → D.ct S → D'.ct σ H
  xq : ∀ F H σ S (n : Str) (C dd : Addr) (v : V) (d : Dat), Ok K p H0 F0 F H σ S [] → ClsAt K n C → F dd = some (.xd [("value", v)]) → Rep K p F v d → D.xq n d S → W (.ref C) (some dd) σ H
class SV (K : PySem.W.Frag) (W : WX) (t : TS) (w : outParam WS) : Prop where
  run : ∀ {p : Amb} {H0 F0 F H : Hp} {σ : L2.St} {S : Sx} {D : Dx} {D' : Ends}, Ok K p H0 F0 F H σ S [] → w D S → Cont K p H0 F0 D D' W → t D' σ H
/-- a target; ix: the slots it sets -/
class GV (K : PySem.W.Frag) (g : TG) (ix : outParam (List Nat)) (w : outParam WG) : Prop where
  run : ∀ {p : Amb} {H0 F0 F H : Hp} {σ : L2.St} {S : Sx} {T : List (Addr × List V)} {Q : Sx → Prop} {Q' : L2.St → Hp → Prop} {v : V} {d : Dat}, Ok K p H0 F0 F H σ S T → Rep K p F v d → w d S Q →
    (∀ σ' S', Ok K p H0 F0 F H σ' S' T → (∀ i : Nat, i ∉ ix → σ'[i]? = σ[i]?) → σ'.length = σ.length → Q S' → Q' σ' H) → g v σ H Q'
class GsV (K : PySem.W.Frag) (g : TGs) (ix : outParam (List Nat)) (w : outParam (List Dat → Sx → (Sx → Prop) → Prop)) : Prop where
  run : ∀ {p : Amb} {H0 F0 F H : Hp} {σ : L2.St} {S : Sx} {T : List (Addr × List V)} {Q : Sx → Prop} {Q' : L2.St → Hp → Prop} {vs : List V} {ds : List Dat}, Ok K p H0 F0 F H σ S T → Reps K p F vs ds → w ds S Q →
    (∀ σ' S', Ok K p H0 F0 F H σ' S' T → (∀ i : Nat, i ∉ ix → σ'[i]? = σ[i]?) → σ'.length = σ.length → Q S' → Q' σ' H) → g vs σ H Q'
/-- what a loop walks gives: at each turn the item, perhaps as a new tuple -/
def Yields (K : PySem.W.Frag) (p : Amb) (F H H' : Hp) (x : V) (d : Dat) : Prop :=
  (H' = H ∧ Rep K p F x d) ∨ ∃ a vs ds, H a = none ∧ H' = upd H a (.tup vs) ∧ x = .ref a ∧ d = .tup ds ∧ Reps K p F vs ds
def ItOk (K : PySem.W.Frag) (p : Amb) (F : Hp) (J : It) (ds : List Dat) : Prop :=
  ∀ F' H', Ex F F' → Ex F' H' → (∀ i d, ds[i]? = some d → J.go i H' ∧ ∀ x H'', J.yld i H' x H'' → Yields K p F' H' H'' x d) ∧ ∀ i, ds.length ≤ i → J.stop i H'
class IV (K : PySem.W.Frag) (t : TI) (w : outParam WF) : Prop where
  run : ∀ {p : Amb} {H0 F0 F H : Hp} {σ : L2.St} {S : Sx} {T : List (Addr × List V)} {Q : List Dat → Sx → Prop} {R : It → Hp → Prop}, Ok K p H0 F0 F H σ S T → w S Q →
    (∀ J F' H' S' ds, Ok K p H0 F0 F' H' σ S' T → Ex F F' → ItOk K p F' J ds → Q ds S' → R J H') → t σ H R

/-! ### expressions -/
section
variable {K : PySem.W.Frag}
def wVar (i : Nat) : WE := fun S Q =>
  match S.sl[i]? with
  | some (.im d) => Q d S
  | some (.ow ds) => Q (.lst ds) ⟨S.sl.set i (.im (.lst ds)), S.n⟩
  | _ => False
instance ev_var {i : Nat} : EV K (tVar i) (wVar i) := ⟨by
  intro p H0 F0 F H σ S T Q Q' ok hw k
  unfold wVar at hw
  split at hw
  · rename_i d hd
    obtain ⟨v, hv, r⟩ := ok.sl i _ hd
    exact ⟨v, hv, k v F H S d ok (Ex.refl F) r hw⟩
  · rename_i ds hd
    obtain ⟨a, vs, hv, fa, r, ok'⟩ := ok.frzS hd
    exact ⟨_, hv, k _ _ H _ _ ok' (Ex.new fa) (.lst upd_same (r.mono (Ex.new fa))) hw⟩
  · exact hw.elim⟩
instance : CV K .non .non := ⟨fun _ _ => .non⟩
instance {b : Bool} : CV K (.bl b) (.bl b) := ⟨fun _ _ => .bl b⟩
instance {i : Int} : CV K (.int i) (.int i) := ⟨fun _ _ => .int i⟩
instance {s : Str} : CV K (.str s) (.str s.cps.toList) := ⟨fun _ _ => .str s⟩
instance {n : String} : CV K (.ty n) (.ty n) := ⟨fun _ _ => .ty n⟩
def wC (d : Dat) : WE := fun S Q => Q d S
instance ev_c {v : V} {d : Dat} [c : CV K v d] : EV K (tC v) (wC d) := ⟨fun {p _ _ F H _ S _ _ _} ok hw k => k v F H S d ok (Ex.refl F) (c.rep p F) hw⟩
def wOp (f : OpD) (wa wb : WE) : WE := fun S Q => wa S fun a S1 => wb S1 fun b S2 => f a b fun d => Q d S2
instance ev_op {r : R2} {ta tb : TE} {wa wb : WE} {f : OpD} [o : OV K r f] [a : EV K ta wa] [b : EV K tb wb] : EV K (tOp r ta tb) (wOp f wa wb) := ⟨fun ok hw k =>
  a.run ok hw fun x F1 H1 S1 d1 ok1 e1 r1 q1 => b.run ok1 q1 fun y F2 H2 S2 d2 ok2 e2 r2 q2 => o.run ok2 (r1.mono e2) r2 q2 fun v F3 H3 d ok3 e3 r3 q3 => k v F3 H3 S2 d ok3 ((e1.trans e2).trans e3) r3 q3⟩
def wUn (f : Dat → (Dat → Prop) → Prop) (wa : WE) : WE := fun S Q => wa S fun a S1 => f a fun d => Q d S1
instance ev_un {r : V → Hp → VK → Prop} {ta : TE} {wa : WE} {f : Dat → (Dat → Prop) → Prop} [o : UV K r f] [a : EV K ta wa] : EV K (tUn r ta) (wUn f wa) := ⟨fun ok hw k =>
  a.run ok hw fun x F1 H1 S1 d1 ok1 e1 r1 q1 => o.run ok1 r1 q1 fun v F3 H3 d ok3 e3 r3 q3 => k v F3 H3 S1 d ok3 (e1.trans e3) r3 q3⟩
def wIf (wt : WT) (wa wb : WE) : WE := fun S Q => wt S fun b S1 => if b = true then wa S1 Q else wb S1 Q
instance ev_if {t : TT} {ta tb : TE} {wt : WT} {wa wb : WE} [c : TV K t wt] [a : EV K ta wa] [b : EV K tb wb] : EV K (tIf t ta tb) (wIf wt wa wb) := ⟨fun ok hw k =>
  c.run ok hw fun k1 F1 H1 S1 ok1 e1 q1 => by
    cases k1 with
    | true => exact a.run ok1 q1 fun v F2 H2 S2 d ok2 e2 r2 q2 => k v F2 H2 S2 d ok2 (e1.trans e2) r2 q2
    | false => exact b.run ok1 q1 fun v F2 H2 S2 d ok2 e2 r2 q2 => k v F2 H2 S2 d ok2 (e1.trans e2) r2 q2⟩
/-! tests -/
def asB (d : Dat) (Q : Bool → Prop) : Prop :=
  match d with
  | .bl b => Q b
  | _ => False
theorem asB_of {d : Dat} {Q : Bool → Prop} (h : asB d Q) : ∃ b, d = .bl b ∧ Q b := by
  cases d with
  | bl b => exact ⟨b, rfl, h⟩
  | _ => exact False.elim h
theorem Rep.bl_of {p : Amb} {F : Hp} {v : V} {b : Bool} (r : Rep K p F v (.bl b)) : v = .bl b := by cases r; rfl
theorem Rep.int_of {p : Amb} {F : Hp} {v : V} {i : Int} (r : Rep K p F v (.int i)) : v = .int i := by cases r; rfl
theorem Rep.str_of {p : Amb} {F : Hp} {v : V} {l : List Nat} (r : Rep K p F v (.str l)) : v = .str ⟨l.toArray⟩ := by cases r; rfl
theorem Rep.strL {p : Amb} {F : Hp} (l : List Nat) : Rep K p F (.str ⟨l.toArray⟩) (.str l) := .str ⟨l.toArray⟩
def wTest (we : WE) : WT := fun S Q => we S fun d S1 => asB d fun b => Q b S1
instance tv_test {t : TE} {w : WE} [a : EV K t w] : TV K (tTest t) (wTest w) := ⟨fun ok hw k =>
  a.run ok hw fun v F1 H1 S1 d ok1 e1 r1 q1 => by
    obtain ⟨b, rfl, q⟩ := asB_of q1
    exact ⟨b, r1.bl_of, k b F1 H1 S1 ok1 e1 q⟩⟩
instance tv_B {t : TE} {w : WE} [a : EV K t w] : TV K (tB t) (wTest w) := ⟨fun ok hw k =>
  a.run ok hw fun v F1 H1 S1 d ok1 e1 r1 q1 => by
    obtain ⟨b, rfl, q⟩ := asB_of q1
    exact ⟨b, r1.bl_of, k b F1 H1 S1 ok1 e1 q⟩⟩
def wAnd (wa wb : WT) : WT := fun S Q => wa S fun b S1 => if b = true then wb S1 Q else Q false S1
def wOr (wa wb : WT) : WT := fun S Q => wa S fun b S1 => if b = true then Q true S1 else wb S1 Q
def wNot (wa : WT) : WT := fun S Q => wa S fun b S1 => Q (!b) S1
instance tv_and {t u : TT} {wa wb : WT} [a : TV K t wa] [b : TV K u wb] : TV K (tAnd t u) (wAnd wa wb) := ⟨fun ok hw k =>
  a.run ok hw fun c F1 H1 S1 ok1 e1 q1 => by
    cases c with
    | true => exact b.run ok1 q1 fun c2 F2 H2 S2 ok2 e2 q2 => k c2 F2 H2 S2 ok2 (e1.trans e2) q2
    | false => exact k false F1 H1 S1 ok1 e1 q1⟩
instance tv_or {t u : TT} {wa wb : WT} [a : TV K t wa] [b : TV K u wb] : TV K (tOr t u) (wOr wa wb) := ⟨fun ok hw k =>
  a.run ok hw fun c F1 H1 S1 ok1 e1 q1 => by
    cases c with
    | true => exact k true F1 H1 S1 ok1 e1 q1
    | false => exact b.run ok1 q1 fun c2 F2 H2 S2 ok2 e2 q2 => k c2 F2 H2 S2 ok2 (e1.trans e2) q2⟩
instance tv_not {t : TT} {wa : WT} [a : TV K t wa] : TV K (tNot t) (wNot wa) := ⟨fun ok hw k =>
  a.run ok hw fun c F1 H1 S1 ok1 e1 q1 => k (!c) F1 H1 S1 ok1 e1 q1⟩
def wYes : WT := fun S Q => Q true S
instance tv_yes : TV K tYes wYes := ⟨fun {_ _ _ F H _ S _ _ _} ok hw k => k true F H S ok (Ex.refl F) hw⟩
def wAndV (wa wb : WE) : WE := fun S Q => wa S fun d S1 => asB d fun b => if b = true then wb S1 Q else Q (.bl false) S1
def wOrV (wa wb : WE) : WE := fun S Q => wa S fun d S1 => asB d fun b => if b = true then Q (.bl true) S1 else wb S1 Q
def wNotV (wa : WE) : WE := fun S Q => wa S fun d S1 => asB d fun b => Q (.bl (!b)) S1
instance ev_andV {ta tb : TE} {wa wb : WE} [a : EV K ta wa] [b : EV K tb wb] : EV K (tAndV ta tb) (wAndV wa wb) := ⟨fun ok hw k =>
  a.run ok hw fun v F1 H1 S1 d ok1 e1 r1 q1 => by
    obtain ⟨c, rfl, q⟩ := asB_of q1
    refine ⟨c, r1.bl_of, ?_⟩
    cases c with
    | true => exact b.run ok1 q fun v2 F2 H2 S2 d2 ok2 e2 r2 q2 => k v2 F2 H2 S2 d2 ok2 (e1.trans e2) r2 q2
    | false => exact k _ F1 H1 S1 _ ok1 e1 (.bl false) q⟩
instance ev_orV {ta tb : TE} {wa wb : WE} [a : EV K ta wa] [b : EV K tb wb] : EV K (tOrV ta tb) (wOrV wa wb) := ⟨fun ok hw k =>
  a.run ok hw fun v F1 H1 S1 d ok1 e1 r1 q1 => by
    obtain ⟨c, rfl, q⟩ := asB_of q1
    refine ⟨c, r1.bl_of, ?_⟩
    cases c with
    | true => exact k _ F1 H1 S1 _ ok1 e1 (.bl true) q
    | false => exact b.run ok1 q fun v2 F2 H2 S2 d2 ok2 e2 r2 q2 => k v2 F2 H2 S2 d2 ok2 (e1.trans e2) r2 q2⟩
instance ev_notV {ta : TE} {wa : WE} [a : EV K ta wa] : EV K (tNotV ta) (wNotV wa) := ⟨fun ok hw k =>
  a.run ok hw fun v F1 H1 S1 d ok1 e1 r1 q1 => by
    obtain ⟨c, rfl, q⟩ := asB_of q1
    exact ⟨c, r1.bl_of, k _ F1 H1 S1 _ ok1 e1 (.bl (!c)) q⟩⟩
def wChain (f g : OpD) (wa wb wc : WE) : WE := fun S Q => wa S fun a S1 => wb S1 fun b S2 => f a b fun d => asB d fun k => if k = true then wc S2 (fun c S3 => g b c fun e => Q e S3) else Q (.bl false) S2
instance ev_chain {r r' : R2} {ta tb tc : TE} {wa wb wc : WE} {f g : OpD} [o : OV K r f] [o' : OV K r' g] [a : EV K ta wa] [b : EV K tb wb] [c : EV K tc wc] : EV K (tChain r r' ta tb tc) (wChain f g wa wb wc) := ⟨fun ok hw k =>
  a.run ok hw fun x F1 H1 S1 d1 ok1 e1 r1 q1 => b.run ok1 q1 fun y F2 H2 S2 d2 ok2 e2 r2 q2 => o.run ok2 (r1.mono e2) r2 q2 fun v F3 H3 d ok3 e3 r3 q3 => by
    obtain ⟨b3, rfl, q⟩ := asB_of q3
    refine ⟨b3, r3.bl_of, ?_⟩
    cases b3 with
    | true => exact c.run ok3 q fun z F4 H4 S4 d4 ok4 e4 r4 q4 => o'.run ok4 (r2.mono (e3.trans e4)) r4 q4 fun v5 F5 H5 d5 ok5 e5 r5 q5 => k v5 F5 H5 S4 d5 ok5 ((((e1.trans e2).trans e3).trans e4).trans e5) r5 q5
    | false => exact k _ F3 H3 S2 _ ok3 ((e1.trans e2).trans e3) (.bl false) q⟩
/-! argument lists -/
def wNil : WF := fun S Q => Q [] S
def wCons (wa : WE) (wr : WF) : WF := fun S Q => wa S fun a S1 => wr S1 fun ds S2 => Q (a :: ds) S2
instance av_nil : AV K tNil wNil := ⟨fun {_ _ _ F H _ S _ _ _} ok hw k => k [] F H S [] ok (Ex.refl F) .nil hw⟩
instance av_cons {ta : TE} {tr : TA} {wa : WE} {wr : WF} [a : EV K ta wa] [b : AV K tr wr] : AV K (tCons ta tr) (wCons wa wr) := ⟨fun ok hw k =>
  a.run ok hw fun v F1 H1 S1 d ok1 e1 r1 q1 => b.run ok1 q1 fun vs F2 H2 S2 ds ok2 e2 r2 q2 => k (v :: vs) F2 H2 S2 (d :: ds) ok2 (e1.trans e2) (.cons (r1.mono e2) r2) q2⟩
/-! displays -/
def wTup (wa : WF) : WE := fun S Q => wa S fun ds S1 => ds.length ≤ 100000 ∧ Q (.tup ds) S1
instance ev_tup {ta : TA} {wa : WF} [a : AV K ta wa] : EV K (tTup ta) (wTup wa) := ⟨fun ok hw k =>
  a.run ok hw fun vs F1 H1 S1 ds ok1 e1 r1 q1 => ⟨sz_of (by rw [r1.length]; exact q1.1), fun a ha =>
    k _ (upd F1 a (.tup vs)) _ S1 _ (ok1.lay ha) (e1.trans (Ex.new (ok1.hp.freeF ha))) (.tup (.inl (.inl upd_same)) (r1.mono (Ex.new (ok1.hp.freeF ha)))) q1.2⟩⟩
def wLst (wa : WF) : WF := fun S Q => wa S fun ds S1 => ds.length ≤ 100000 ∧ Q ds S1
instance ef_lst {ta : TA} {wa : WF} [a : AV K ta wa] : EF K (tLst ta) (wLst wa) := ⟨fun ok hw k =>
  a.run ok hw fun vs F1 H1 S1 ds ok1 e1 r1 q1 => ⟨sz_of (by rw [r1.length]; exact q1.1), fun a ha => k a vs F1 _ S1 ds (ok1.layT ha) e1 r1 q1.2⟩⟩
def wFz (w : WF) : WE := fun S Q => w S fun ds S1 => Q (.lst ds) S1
instance (priority := low) ev_fz {t : TE} {w : WF} [a : EF K t w] : EV K t (wFz w) := ⟨fun ok hw k =>
  a.run ok hw fun b vs F1 H1 S1 ds ok1 e1 r1 q1 => by
    obtain ⟨ok2, e2⟩ := ok1.frzT
    exact k _ _ H1 S1 _ ok2 (e1.trans e2) (.lst upd_same (r1.mono e2)) q1⟩
/-! calls -/
def spF (K : PySem.W.Frag) (f : Fn) : Sp := fun vs H Q _ => ∃ (p : Amb) (F : Hp) (ds : List Dat) (n : Nat) (QD : Dat → Nat → Prop), HpOk p H F F H n ∧ Reps K p F vs ds ∧ f ds n QD ∧
  ∀ v F' H' d n', HpOk p H F F' H' n' → Rep K p F' v d → QD d n' → Q v H'
theorem HpOk.self {p : Amb} {H0 F0 F H : Hp} {n : Nat} (h : HpOk p H0 F0 F H n) : HpOk p H F F H n := .start h.fh h.nt h.ts fun a e => ⟨(h.pt a e).1, (h.pt a e).2.2⟩
def wCall (f : Fn) (wa : WF) : WE := fun S Q => wa S fun ds S1 => f ds S1.n fun d n' => Q d ⟨S1.sl, n'⟩
instance ev_call {f : Fn} {E : XK} {ta : TA} {wa : WF} [a : AV K ta wa] : EV K (tCall (spF K f) [] E ta) (wCall f wa) := ⟨fun {p _ _ _ _ _ _ _ _ _} ok hw k =>
  a.run ok hw fun vs F1 H1 S1 ds ok1 e1 r1 q1 => ⟨p, F1, ds, S1.n, _, ok1.hp.self, by rw [List.append_nil]; exact r1, q1, fun v F2 H2 d n2 g2 r2 q2 => k v F2 H2 _ d (ok1.call g2) (e1.trans g2.f0) r2 q2⟩⟩
/-- a def that hands back a new list, known to nobody -/
abbrev FnF := List Dat → Nat → (List Dat → Nat → Prop) → Prop
def spFF (K : PySem.W.Frag) (f : FnF) : Sp := fun vs H Q _ => ∃ (p : Amb) (F : Hp) (ds : List Dat) (n : Nat) (QD : List Dat → Nat → Prop), HpOk p H F F H n ∧ Reps K p F vs ds ∧ f ds n QD ∧
  ∀ a ws F' H' es n', HpOk p H F F' H' n' → H a = none → F' a = none → H' a = some (.lst ws) → Reps K p F' ws es → QD es n' → Q (.ref a) H'
def wCallF (f : FnF) (wa : WF) : WF := fun S Q => wa S fun ds S1 => f ds S1.n fun d n' => Q d ⟨S1.sl, n'⟩
instance ef_call {f : FnF} {E : XK} {ta : TA} {wa : WF} [a : AV K ta wa] : EF K (tCall (spFF K f) [] E ta) (wCallF f wa) := ⟨fun {p _ _ _ _ _ _ _ _ _} ok hw k =>
  a.run ok hw fun vs F1 H1 S1 ds ok1 e1 r1 q1 => ⟨p, F1, ds, S1.n, _, ok1.hp.self, by rw [List.append_nil]; exact r1, q1, fun b ws F2 H2 es n2 g2 hb hf hl r2 q2 =>
    k b ws F2 H2 _ es ((ok1.call g2).addT (ok1.hp.free hb) hf hl (fun i s hi ho hs => by
      obtain ⟨_, _, o, z, _⟩ := ok1.ownAt hi ho hs
      rw [hb] at z
      cases z) (fun us hm => by
      obtain ⟨_, _, h3⟩ := ok1.tm b us hm
      rw [hb] at h3
      cases h3)) (e1.trans g2.f0) r2 q2⟩⟩
/-- keywords: the values put in the parameters' order -/
class KPerm (gV : List V → List V → List V) (gD : outParam (List Dat → List Dat → List Dat)) : Prop where
  rep : ∀ {K : PySem.W.Frag} {p : Amb} {F : Hp} {vs ws : List V} {ds es : List Dat}, Reps K p F vs ds → Reps K p F ws es → Reps K p F (gV vs ws) (gD ds es)
def wCallK (f : Fn) (gD : List Dat → List Dat → List Dat) (wa wk : WF) : WE := fun S Q => wa S fun ds S1 => wk S1 fun es S2 => f (gD ds es) S2.n fun d n' => Q d ⟨S2.sl, n'⟩
instance ev_callK {f : Fn} {E : XK} {gV : List V → List V → List V} {gD : List Dat → List Dat → List Dat} {ta tk : TA} {wa wk : WF} [g : KPerm gV gD] [a : AV K ta wa] [b : AV K tk wk] : EV K (tCallK (spF K f) gV E ta tk) (wCallK f gD wa wk) :=
  ⟨fun {p _ _ _ _ _ _ _ _ _} ok hw k => a.run ok hw fun vs F1 H1 S1 ds ok1 e1 r1 q1 => b.run ok1 q1 fun ws F2 H2 S2 es ok2 e2 r2 q2 =>
    ⟨p, F2, gD ds es, S2.n, _, ok2.hp.self, g.rep (r1.mono e2) r2, q2, fun v F3 H3 d n3 g3 r3 q3 => k v F3 H3 _ d (ok2.call g3) ((e1.trans e2).trans g3.f0) r3 q3⟩⟩
def wCB (f : List Dat → (Dat → Prop) → Prop) (wa : WF) : WE := fun S Q => wa S fun ds S1 => f ds fun d => Q d S1
instance ev_cb {r : List V → Hp → VK → Prop} {f : List Dat → (Dat → Prop) → Prop} {ta : TA} {wa : WF} [o : BV K r f] [a : AV K ta wa] : EV K (tCB r ta) (wCB f wa) := ⟨fun ok hw k =>
  a.run ok hw fun vs F1 H1 S1 ds ok1 e1 r1 q1 => o.run ok1 r1 q1 fun v F2 H2 d ok2 e2 r2 q2 => k v F2 H2 S1 d ok2 (e1.trans e2) r2 q2⟩
def wCBF (f : List Dat → (List Dat → Prop) → Prop) (wa : WF) : WF := fun S Q => wa S fun ds S1 => f ds fun d => Q d S1
instance ef_cb {r : List V → Hp → VK → Prop} {f : List Dat → (List Dat → Prop) → Prop} {ta : TA} {wa : WF} [o : BF K r f] [a : AV K ta wa] : EF K (tCB r ta) (wCBF f wa) := ⟨fun ok hw k =>
  a.run ok hw fun vs F1 H1 S1 ds ok1 e1 r1 q1 => o.run ok1 r1 q1 fun v ws F2 H2 d ok2 e2 r2 q2 => k v ws F2 H2 S1 d ok2 (e1.trans e2) r2 q2⟩
def wBM (t : Dat → Prop) (f : Dat → List Dat → (Dat → Prop) → Prop) (wo : WE) (wa : WF) : WE := fun S Q => wo S fun x S1 => t x ∧ wa S1 fun ds S2 => f x ds fun d => Q d S2
instance ev_bm {ty : String} {r : V → List V → Hp → VK → Prop} {t : Dat → Prop} {f : Dat → List Dat → (Dat → Prop) → Prop} {to : TE} {ta : TA} {wo : WE} {wa : WF} [m : MV K ty r t f] [o : EV K to wo] [a : AV K ta wa] : EV K (tBM K ty r to ta) (wBM t f wo wa) := ⟨fun ok hw k =>
  o.run ok hw fun x F1 H1 S1 d1 ok1 e1 r1 q1 => ⟨m.ty ok1.hp.fh r1 q1.1, a.run ok1 q1.2 fun vs F2 H2 S2 ds ok2 e2 r2 q2 => m.run ok2 (r1.mono e2) r2 q2 fun v F3 H3 d ok3 e3 r3 q3 => k v F3 H3 S2 d ok3 ((e1.trans e2).trans e3) r3 q3⟩⟩
def wBM0 (t : Dat → Prop) (f : Dat → List Dat → (Dat → Prop) → Prop) (wo : WE) : WE := fun S Q => wo S fun x S1 => t x ∧ f x [] fun d => Q d S1
instance ev_bm0 {ty : String} {r : V → List V → Hp → VK → Prop} {t : Dat → Prop} {f : Dat → List Dat → (Dat → Prop) → Prop} {to : TE} {wo : WE} [m : MV K ty r t f] [o : EV K to wo] : EV K (tBM0 K ty r to) (wBM0 t f wo) := ⟨fun ok hw k =>
  o.run ok hw fun x F1 H1 S1 d1 ok1 e1 r1 q1 => ⟨m.ty ok1.hp.fh r1 q1.1, m.run ok1 r1 .nil q1.2 fun v F3 H3 d ok3 e3 r3 q3 => k v F3 H3 S1 d ok3 (e1.trans e3) r3 q3⟩⟩
def tStr (d : Dat) : Prop :=
  match d with
  | .str _ => True
  | _ => False
/-! slices -/
def wNone : WO := fun S Q => Q none S
instance pv_none : PV K tNoPart wNone := ⟨fun {_ _ _ F H _ S _ _ _} ok hw k => k none F H S ok (Ex.refl F) hw⟩
def asI (d : Dat) (Q : Int → Prop) : Prop :=
  match d with
  | .int i => Q i
  | _ => False
theorem asI_of {d : Dat} {Q : Int → Prop} (h : asI d Q) : ∃ b, d = .int b ∧ Q b := by
  cases d with
  | int b => exact ⟨b, rfl, h⟩
  | _ => exact False.elim h
def wPart (we : WE) : WO := fun S Q => we S fun d S1 => asI d fun i => Q (some i) S1
instance pv_some {t : TE} {w : WE} [a : EV K t w] : PV K (tPart t) (wPart w) := ⟨fun ok hw k =>
  a.run ok hw fun v F1 H1 S1 d ok1 e1 r1 q1 => by
    obtain ⟨i, rfl, q⟩ := asI_of q1
    exact ⟨i, r1.int_of, k _ F1 H1 S1 ok1 e1 q⟩⟩
def wSl (f : Dat → Option Int → Option Int → (Dat → Prop) → Prop) (we : WE) (wl wh : WO) : WE := fun S Q => we S fun d S1 => wl S1 fun l S2 => wh S2 fun h S3 => f d l h fun e => Q e S3
instance ev_sl {r : V → Option Int → Option Int → Hp → VK → Prop} {f : Dat → Option Int → Option Int → (Dat → Prop) → Prop} {te : TE} {tl th : TO} {we : WE} {wl wh : WO} [o : CT K r f] [a : EV K te we] [b : PV K tl wl] [c : PV K th wh] :
    EV K (L2.tSl r te tl th) (wSl f we wl wh) := ⟨fun ok hw k =>
  a.run ok hw fun x F1 H1 S1 d1 ok1 e1 r1 q1 => b.run ok1 q1 fun l F2 H2 S2 ok2 e2 q2 => c.run ok2 q2 fun u F3 H3 S3 ok3 e3 q3 => o.run ok3 (r1.mono (e2.trans e3)) q3 fun v F4 H4 d4 ok4 e4 r4 q4 =>
    k v F4 H4 S3 d4 ok4 (((e1.trans e2).trans e3).trans e4) r4 q4⟩
end

/-! ### targets -/
section
variable {K : PySem.W.Frag}
def wgN (i : Nat) : WG := fun d S Q => Q ⟨S.sl.set i (.im d), S.n⟩
instance gv_name {i : Nat} : GV K (gName i) [i] (wgN i) := ⟨fun {_ _ _ F H σ S _ _ _ v d} ok r hw k =>
  k _ _ (ok.setIm r) (fun j hj => by rw [List.getElem?_set_ne (fun e => hj (by simp [e]))]) (List.length_set ..) hw⟩
def wgNil : List Dat → Sx → (Sx → Prop) → Prop := fun ds S Q =>
  match ds with
  | [] => Q S
  | _ :: _ => False
def wgCons (w : WG) (ws : List Dat → Sx → (Sx → Prop) → Prop) : List Dat → Sx → (Sx → Prop) → Prop := fun ds S Q =>
  match ds with
  | [] => False
  | d :: es => w d S fun S1 => ws es S1 Q
instance gsv_nil : GsV K gNil [] wgNil := ⟨fun {_ _ _ F H σ S _ _ _ vs ds} ok r hw k => by
  cases ds with
  | nil => cases r; exact ⟨rfl, k σ S ok (fun _ _ => rfl) rfl hw⟩
  | cons d es => exact hw.elim⟩
instance gsv_cons {g : TG} {gs : TGs} {ix iy : List Nat} {w : WG} {ws : List Dat → Sx → (Sx → Prop) → Prop} [a : GV K g ix w] [b : GsV K gs iy ws] : GsV K (gCons g gs) (ix ++ iy) (wgCons w ws) := ⟨fun {_ _ _ F H σ S _ _ _ vs ds} ok r hw k => by
  cases ds with
  | nil => exact hw.elim
  | cons d es =>
    cases r with
    | cons r1 r2 =>
      refine ⟨_, _, rfl, a.run ok r1 hw fun σ1 S1 ok1 h1 l1 q1 => b.run ok1 r2 q1 fun σ2 S2 ok2 h2 l2 q2 => k σ2 S2 ok2 (fun i hi => ?_) (l2.trans l1) q2⟩
      rw [h2 i fun z => hi (List.mem_append_right _ z), h1 i fun z => hi (List.mem_append_left _ z)]⟩
def wgTup (n : Nat) (ws : List Dat → Sx → (Sx → Prop) → Prop) : WG := fun d S Q =>
  match d with
  | .tup ds => ds.length = n ∧ ws ds S Q
  | _ => False
instance gv_tup {n : Nat} {gs : TGs} {ix : List Nat} {ws : List Dat → Sx → (Sx → Prop) → Prop} [b : GsV K gs ix ws] : GV K (gTup K n gs) ix (wgTup n ws) := ⟨fun {_ _ _ F H σ S _ _ _ v d} ok r hw k => by
  cases d with
  | tup ds =>
    obtain ⟨hl, hw⟩ := hw
    cases r with
    | tup h1 h2 => exact ⟨_, _, rfl, ex_t ok.hp.fh h1, h2.length.trans hl, b.run ok h2 hw k⟩
  | _ => exact hw.elim⟩
end
end Dl
-- part Dn
set_option Elab.async false
set_option linter.all false
set_option maxRecDepth 100000
set_option maxHeartbeats 4000000
namespace Dl
open PySem PySem.Spec PyProof.Rows L2 Evl
variable [LawTabs]

/-! ### statements -/
section
variable {K : PySem.W.Frag} {W : WX}
def wNext : WS := fun D S => D.nx S
instance sv_next : SV K W tNext wNext := ⟨fun ok hw c => c.nx _ _ _ _ ok hw⟩
def wBreak : WS := fun D S => D.bk S
def wContinue : WS := fun D S => D.ct S
instance sv_break : SV K W tBreak wBreak := ⟨fun ok hw c => c.bk _ _ _ _ ok hw⟩
instance sv_cont : SV K W tCont wContinue := ⟨fun ok hw c => c.ct _ _ _ _ ok hw⟩
def wNever : WS := fun _ _ => False
instance sv_never : SV K W tNever wNever := ⟨fun _ hw _ => hw⟩
def wSeq (wa wb : WS) : WS := fun D S => wa { D with nx := fun S1 => wb D S1 } S
instance sv_seq {t u : TS} {wa wb : WS} [a : SV K W t wa] [b : SV K W u wb] : SV K W (tSeq t u) (wSeq wa wb) := ⟨fun {p H0 F0 F H σ S D D'} ok hw c =>
  a.run (D := { D with nx := fun S1 => wb D S1 }) ok hw ⟨fun F1 H1 σ1 S1 ok1 q1 => b.run ok1 q1 c, c.rt, c.rf, c.bk, c.ct, c.xq⟩⟩
def wAsg (we : WE) (wg : WG) : WS := fun D S => we S fun d S1 => wg d S1 fun S2 => D.nx S2
instance sv_asg {te : TE} {g : TG} {we : WE} {ix : List Nat} {wg : WG} [a : EV K te we] [b : GV K g ix wg] : SV K W (tAsg te g) (wAsg we wg) := ⟨fun ok hw c =>
  a.run ok hw fun v F1 H1 S1 d ok1 e1 r1 q1 => b.run ok1 r1 q1 fun σ2 S2 ok2 _ _ q2 => c.nx _ _ _ _ ok2 q2⟩
/-- name = a new list, which becomes the name's own -/
def tOwn (te : TE) (i : Nat) : TS := tAsg te (gName i)
def wOwn (we : WF) (i : Nat) : WS := fun D S => we S fun ds S1 => D.nx ⟨S1.sl.set i (.ow ds), S1.n⟩
instance sv_own {te : TE} {i : Nat} {we : WF} [a : EF K te we] : SV K W (tOwn te i) (wOwn we i) := ⟨fun ok hw c =>
  a.run ok hw fun b vs F1 H1 S1 ds ok1 e1 r1 q1 => c.nx _ _ _ _ (ok1.setOw r1) q1⟩
def wPar (i j : Nat) (wa : WF) : WS := fun D S => wa S fun ds S1 =>
  match ds with
  | [a, b] => D.nx ⟨(S1.sl.set i (.im a)).set j (.im b), S1.n⟩
  | _ => False
instance sv_par {i j : Nat} {ta : TA} {wa : WF} [a : AV K ta wa] : SV K W (tPar i j ta) (wPar i j wa) := ⟨fun ok hw c =>
  a.run ok hw fun vs F1 H1 S1 ds ok1 e1 r1 q1 => by
    match ds, r1, q1 with
    | [x, y], .cons ra (.cons rb .nil), q1 => exact ⟨_, _, rfl, c.nx _ _ _ _ ((ok1.setIm ra).setIm rb) q1⟩⟩
def wIfS (wt : WT) (wa wb : WS) : WS := fun D S => wt S fun b S1 => if b = true then wa D S1 else wb D S1
instance sv_if {t : TT} {ta tb : TS} {wt : WT} {wa wb : WS} [c : TV K t wt] [a : SV K W ta wa] [b : SV K W tb wb] : SV K W (tIfS t ta tb) (wIfS wt wa wb) := ⟨fun ok hw k =>
  c.run ok hw fun k1 F1 H1 S1 ok1 e1 q1 => by
    cases k1 with
    | true => exact a.run ok1 q1 k
    | false => exact b.run ok1 q1 k⟩
def wRet (we : WE) : WS := fun D S => we S fun d S1 => D.rt d S1.n
instance sv_ret {te : TE} {we : WE} [a : EV K te we] : SV K W (tRet te) (wRet we) := ⟨fun ok hw c =>
  a.run ok hw fun v F1 H1 S1 d ok1 e1 r1 q1 => c.rt v F1 H1 d S1.n ok1.hp r1 q1⟩
/-- return of a new list, which is the caller's own then -/
def tRetF (te : TE) : TS := tRet te
def wRetF (we : WF) : WS := fun D S => we S fun ds S1 => D.rf ds S1.n
instance sv_retF {te : TE} {we : WF} [a : EF K te we] : SV K W (tRetF te) (wRetF we) := ⟨fun ok hw c =>
  a.run ok hw fun b vs F1 H1 S1 ds ok1 e1 r1 q1 => c.rf b vs F1 H1 ds S1.n ok1.hp ok1.topT.1 ok1.topT.2.1 ok1.topT.2.2 r1 q1⟩
/-- .. of an own list at a name -/
def tRetO (i : Nat) : TS := tRet (tVar i)
def wRetO (i : Nat) : WS := fun D S =>
  match S.sl[i]? with
  | some (.ow ds) => D.rf ds S.n
  | _ => False
instance sv_retO {i : Nat} : SV K W (tRetO i) (wRetO i) := ⟨fun {p H0 F0 F H σ S D D'} ok hw c => by
  unfold wRetO at hw
  split at hw
  · rename_i ds hd
    obtain ⟨a, vs, h1, h2, h3, h4, h5⟩ := ok.sl i _ hd
    exact ⟨_, h1, c.rf a vs F H ds S.n ok.hp h2 h3 h4 h5 hw⟩
  · exact hw.elim⟩
def wRetN : WS := fun D S => D.rt .non S.n
instance sv_retN : SV K W tRetN wRetN := ⟨fun ok hw c => c.rt _ _ _ _ _ ok.hp .non hw⟩
def wDrop (we : WE) : WS := fun D S => we S fun _ S1 => D.nx S1
instance sv_drop {te : TE} {we : WE} [a : EV K te we] : SV K W (tDrop te) (wDrop we) := ⟨fun ok hw c =>
  a.run ok hw fun v F1 H1 S1 d ok1 e1 r1 q1 => c.nx _ _ _ _ ok1 q1⟩
/-- name += e -/
def wAug (i : Nat) (f : OpD) (we : WE) : WS := fun D S =>
  match S.sl[i]? with
  | some (.im a) => we S fun b S1 => f a b fun d => D.nx ⟨S1.sl.set i (.im d), S1.n⟩
  | _ => False
instance sv_aug {i : Nat} {te : TE} {ti : TIp} {we : WE} {f : OpD} [a : EV K te we] [o : OV K ti f] : SV K W (tAug i te ti) (wAug i f we) := ⟨fun ok hw c => by
  unfold wAug at hw
  split at hw
  · rename_i d hd
    obtain ⟨v, hv, r⟩ := ok.sl i _ hd
    exact ⟨v, hv, a.run ok hw fun y F1 H1 S1 e ok1 e1 r1 q1 => o.run ok1 (r.mono e1) r1 q1 fun z F2 H2 d2 ok2 e2 r2 q2 => c.nx _ _ _ _ (ok2.setIm r2) q2⟩
  · exact hw.elim⟩
/-- xs.append(e), xs a list of one's own -/
def tApp (K : PySem.W.Frag) (i : Nat) (te : TE) : TS := tDrop (tBM K "list" rAppend (tVar i) (tCons te tNil))
def wApp (i : Nat) (we : WE) : WS := fun D S =>
  match S.sl[i]? with
  | some (.ow _) => we S fun d S1 => match S1.sl[i]? with
    | some (.ow ds) => ds.length < 100000 ∧ D.nx ⟨S1.sl.set i (.ow (ds ++ [d])), S1.n⟩
    | _ => False
  | _ => False
instance sv_app {i : Nat} {te : TE} {we : WE} [a : EV K te we] : SV K W (tApp K i te) (wApp i we) := ⟨fun {p H0 F0 F H σ S D D'} ok hw c => by
  unfold wApp at hw
  split at hw
  · rename_i ds0 hd
    obtain ⟨l, vs, h1, h2, h3, h4, h5⟩ := ok.sl i _ hd
    show tDrop (tBM K "list" rAppend (tVar i) (tCons te tNil)) D' σ H
    refine ⟨_, h1, .inl ⟨rfl, vs, sq_of h4⟩, a.run ok hw fun v F1 H1 S1 d ok1 e1 r1 q1 => ?_⟩
    split at q1
    · rename_i ds hd1
      obtain ⟨l', ws, g1, g2, g3, g4⟩ := ok1.updS hd1
      rw [h1] at g1
      cases g1
      exact ⟨l, ws, v, rfl, rfl, g2, sz_lt (by rw [g3.length]; exact q1.1), c.nx _ _ _ _ (g4 _ _ (g3.append (.one r1))) q1.2⟩
    · exact q1.elim
  · exact hw.elim⟩

/-! ### loops -/
def forW (wg : WG) (wb : WS) : List Dat → WS
  | [] => fun D S => D.nx S
  | d :: ds => fun D S => wg d S fun S2 => wb { D with nx := forW wg wb ds D, ct := forW wg wb ds D, bk := D.nx } S2
def wFor (wi : WF) (wg : WG) (wb : WS) : WS := fun D S => wi S fun ds S1 => forW wg wb ds D S1
theorem ItOk.mono {p : Amb} {F F' : Hp} {J : It} {ds : List Dat} (h : ItOk K p F J ds) (e : Ex F F') : ItOk K p F' J ds := fun F2 H2 e1 e2 => h F2 H2 (e.trans e1) e2
/-- the item has come -/
theorem Ok.yield {p : Amb} {H0 F0 F H H' : Hp} {σ : L2.St} {S : Sx} {T : List (Addr × List V)} {x : V} {d : Dat} (ok : Ok K p H0 F0 F H σ S T) (y : Yields K p F H H' x d) : ∃ F', Ok K p H0 F0 F' H' σ S T ∧ Ex F F' ∧ Rep K p F' x d := by
  rcases y with ⟨rfl, r⟩ | ⟨a, vs, ds, ha, rfl, rfl, rfl, r⟩
  · exact ⟨F, ok, Ex.refl F, r⟩
  · have e := Ex.new (o := HO.tup vs) (ok.hp.freeF ha)
    exact ⟨_, ok.lay ha, e, .tup (.inl (.inl upd_same)) (r.mono e)⟩
instance sv_for {wi : TI} {g : TG} {tb : TS} {ww : WF} {ix : List Nat} {wg : WG} {wb : WS} [a : IV K wi ww] [b : GV K g ix wg] [s : SV K W tb wb] : SV K W (tFor wi g tb) (wFor ww wg wb) := ⟨fun {p H0 F0 F H σ S D D'} ok hw c => by
  refine a.run ok hw fun J F1 H1 S1 ds ok1 e1 it q1 => ?_
  refine ⟨fun i m σ2 H2 => m = ds.length - i ∧ i ≤ ds.length ∧ ∃ F2 S2, Ok K p H0 F0 F2 H2 σ2 S2 [] ∧ Ex F1 F2 ∧ forW wg wb (ds.drop i) D S2,
    ⟨ds.length, by simp, Nat.zero_le _, F1, S1, ok1, Ex.refl _, q1⟩, ?_⟩
  rintro i m σ2 H2 ⟨rfl, hi, F2, S2, ok2, e2, q2⟩
  obtain ⟨i1, i2⟩ := it F2 H2 e2 ok2.hp.fh
  by_cases hlt : i < ds.length
  · have hd : ds[i]? = some ds[i] := List.getElem?_eq_getElem hlt
    rw [List.drop_eq_getElem_cons hlt] at q2
    obtain ⟨go, yl⟩ := i1 i _ hd
    refine .inr ⟨go, fun σ3 H3 => ∃ F3 S3, Ok K p H0 F0 F3 H3 σ3 S3 [] ∧ Ex F1 F3 ∧ forW wg wb (ds.drop (i + 1)) D S3, ?_, ?_⟩
    · rintro σ3 H3 ⟨F3, S3, ok3, e3, q3⟩
      exact ⟨ds.length - (i + 1), by omega, rfl, hlt, F3, S3, ok3, e3, q3⟩
    · intro x H3 hy
      obtain ⟨F3, ok3, e3, r3⟩ := ok2.yield (yl x H3 hy)
      refine b.run ok3 r3 q2 fun σ4 S4 ok4 _ _ q4 => ?_
      -- F grows along the body; what is wanted of it is told by Ok alone but for Ex F1
      have bodyC : Cont K p H0 F3 { D with nx := forW wg wb (ds.drop (i + 1)) D, ct := forW wg wb (ds.drop (i + 1)) D, bk := D.nx }
          { D' with nx := fun σ3 H3 => ∃ F3 S3, Ok K p H0 F0 F3 H3 σ3 S3 [] ∧ Ex F1 F3 ∧ forW wg wb (ds.drop (i + 1)) D S3,
                    ct := fun σ3 H3 => ∃ F3 S3, Ok K p H0 F0 F3 H3 σ3 S3 [] ∧ Ex F1 F3 ∧ forW wg wb (ds.drop (i + 1)) D S3, bk := D'.nx } W := by
        have toF0 : ∀ {F5 H5 σ5 S5}, Ok K p H0 F3 F5 H5 σ5 S5 [] → Ok K p H0 F0 F5 H5 σ5 S5 [] := fun {F5 H5 σ5 S5} k5 =>
          ⟨(ok3.hp.back k5.hp), k5.len, k5.sl, k5.own, k5.tm, k5.ot, k5.td⟩
        refine ⟨fun F5 H5 σ5 S5 k5 q5 => ⟨F5, S5, toF0 k5, (e2.trans e3).trans k5.hp.f0, q5⟩, fun v F5 H5 d5 n5 k5 r5 q5 => ?_, fun b us F5 H5 d5 n5 k5 g0 g1 g2 r5 q5 => ?_, fun F5 H5 σ5 S5 k5 q5 => c.nx _ _ _ _ (toF0 k5) q5, fun F5 H5 σ5 S5 k5 q5 => ⟨F5, S5, toF0 k5, (e2.trans e3).trans k5.hp.f0, q5⟩, fun F5 H5 σ5 S5 n5 C5 d5 v5 e5 k5 => c.xq F5 H5 σ5 S5 n5 C5 d5 v5 e5 (toF0 k5)⟩
        · exact c.rt v F5 H5 d5 n5 (ok3.hp.back k5) r5 q5
        · exact c.rf b us F5 H5 d5 n5 (ok3.hp.back k5) g0 g1 g2 r5 q5
      exact s.run (F0 := F3) ⟨(ok4.hp.fore), ok4.len, ok4.sl, ok4.own, ok4.tm, ok4.ot, ok4.td⟩ q4 bodyC
  · have e : i = ds.length := by omega
    subst e
    rw [List.drop_length] at q2
    exact .inl ⟨i2 _ (Nat.le_refl _), c.nx _ _ _ _ ok2 q2⟩⟩
def whileW (wt : WT) (wb : WS) : Nat → WS
  | 0 => fun _ _ => False
  | k + 1 => fun D S => wt S fun b S1 => if b = true then wb { D with nx := whileW wt wb k D, ct := whileW wt wb k D, bk := D.nx } S1 else D.nx S1
def wWhile (wt : WT) (wb : WS) : WS := fun D S => ∃ k, whileW wt wb k D S
instance sv_while {t : TT} {tb : TS} {wt : WT} {wb : WS} [a : TV K t wt] [s : SV K W tb wb] : SV K W (tWhile t tb) (wWhile wt wb) := ⟨fun {p H0 F0 F H σ S D D'} ok hw c => by
  obtain ⟨k, hk⟩ := hw
  refine ⟨fun m σ2 H2 => ∃ F2 S2, Ok K p H0 F0 F2 H2 σ2 S2 [] ∧ whileW wt wb m D S2, ⟨k, F, S, ok, hk⟩, ?_⟩
  rintro m σ2 H2 ⟨F2, S2, ok2, q2⟩
  cases m with
  | zero => exact q2.elim
  | succ m =>
    refine a.run ok2 q2 fun b F3 H3 S3 ok3 e3 q3 => ?_
    cases b with
    | false => exact c.nx _ _ _ _ ok3 q3
    | true =>
      refine ⟨fun σ4 H4 => ∃ F4 S4, Ok K p H0 F0 F4 H4 σ4 S4 [] ∧ whileW wt wb m D S4, fun σ4 H4 h4 => ⟨m, Nat.lt_succ_self m, h4⟩, ?_⟩
      exact s.run ok3 q3 ⟨fun F5 H5 σ5 S5 k5 q5 => ⟨F5, S5, k5, q5⟩, c.rt, c.rf, fun F5 H5 σ5 S5 k5 q5 => c.nx _ _ _ _ k5 q5, fun F5 H5 σ5 S5 k5 q5 => ⟨F5, S5, k5, q5⟩, c.xq⟩⟩

/-! ### what is walked -/
def itemsD (d : Dat) (Q : List Dat → Prop) : Prop :=
  match d with
  | .tup ds => Q ds
  | .lst ds => Q ds
  | _ => False
def wTupIt (we : WE) : WF := fun S Q => we S fun d S1 => match d with
  | .tup ds => Q ds S1
  | _ => False
def wListIt (we : WE) : WF := fun S Q => we S fun d S1 => match d with
  | .lst ds => Q ds S1
  | _ => False
def signsD (z : List Nat) : List Dat := z.map fun c => .str [c]
def wStrIt (we : WE) : WF := fun S Q => we S fun d S1 => match d with
  | .str z => Q (signsD z) S1
  | _ => False
instance iv_tup {te : TE} {we : WE} [a : EV K te we] : IV K (iTup K te) (wTupIt we) := ⟨fun {p H0 F0 F H σ S T Q R} ok hw k =>
  a.run ok hw fun v F1 H1 S1 d ok1 e1 r1 q1 => by
    cases d with
    | tup ds =>
      cases r1 with
      | @tup a vs _ h1 h2 =>
        refine ⟨a, rfl, ⟨vs, ex_t ok1.hp.fh h1⟩, k _ F1 H1 S1 ds ok1 e1 (fun F' H' e e' => ⟨fun i d hd => ?_, fun i hi => ⟨vs, ex_t e' (ex_t e h1), by rw [h2.length]; exact hi⟩⟩) q1⟩
        obtain ⟨v, hv, rv⟩ := h2.getD hd
        exact ⟨⟨vs, v, ex_t e' (ex_t e h1), hv⟩, fun x H'' hy => .inl ⟨hy.1, by
          have q := hy.2 vs (ex_t e' (ex_t e h1))
          rw [hv] at q
          cases q
          exact rv.mono e⟩⟩
    | _ => exact q1.elim⟩
instance iv_list {te : TE} {we : WE} [a : EV K te we] : IV K (iList K te) (wListIt we) := ⟨fun {p H0 F0 F H σ S T Q R} ok hw k =>
  a.run ok hw fun v F1 H1 S1 d ok1 e1 r1 q1 => by
    cases d with
    | lst ds =>
      cases r1 with
      | @lst a vs _ h0 h2 =>
        have h1 : SqL K F1 a vs := .of h0
        refine ⟨a, rfl, ⟨vs, ex_l ok1.hp.fh h1⟩, k _ F1 H1 S1 ds ok1 e1 (fun F' H' e e' => ⟨fun i d hd => ?_, fun i hi => ⟨vs, ex_l e' (ex_l e h1), by rw [h2.length]; exact hi⟩⟩) q1⟩
        obtain ⟨v, hv, rv⟩ := h2.getD hd
        exact ⟨⟨vs, v, ex_l e' (ex_l e h1), hv⟩, fun x H'' hy => .inl ⟨hy.1, by
          have q := hy.2 vs (ex_l e' (ex_l e h1))
          rw [hv] at q
          cases q
          exact rv.mono e⟩⟩
    | _ => exact q1.elim⟩
instance iv_str {te : TE} {we : WE} [a : EV K te we] : IV K (iStr te) (wStrIt we) := ⟨fun {p H0 F0 F H σ S T Q R} ok hw k =>
  a.run ok hw fun v F1 H1 S1 d ok1 e1 r1 q1 => by
    cases d with
    | str z =>
      refine ⟨⟨z.toArray⟩, r1.str_of, k _ F1 H1 S1 (signsD z) ok1 e1 (fun F' H' e e' => ⟨fun i d hd => ?_, fun i hi => ?_⟩) q1⟩
      · unfold signsD at hd
        rw [List.getElem?_map] at hd
        obtain ⟨c, hc, rfl⟩ := Option.map_eq_some_iff.mp hd
        have hc' : z.toArray[i]? = some c := by simpa using hc
        refine ⟨(Array.getElem?_eq_some_iff.mp hc').1, fun x H'' hy => ?_⟩
        obtain ⟨h1, c2, h2, h3⟩ := hy
        rw [hc'] at h2
        cases h2
        exact .inl ⟨h1, by rw [h3]; exact .strL _⟩
      · show z.toArray.size ≤ i
        unfold signsD at hi
        simpa using hi
    | _ => exact q1.elim⟩
def intsD (lo : Int) (n : Nat) : List Dat := (List.range n).map fun (i : Nat) => Dat.int (lo + (i : Int))
def as1 (ds : List Dat) (Q : Dat → Prop) : Prop :=
  match ds with
  | [a] => Q a
  | _ => False
def as2 (ds : List Dat) (Q : Dat → Dat → Prop) : Prop :=
  match ds with
  | [a, b] => Q a b
  | _ => False
theorem as1_of {ds : List Dat} {Q : Dat → Prop} (h : as1 ds Q) : ∃ a, ds = [a] ∧ Q a := by
  cases ds with
  | nil => exact h.elim
  | cons a r =>
    cases r with
    | nil => exact ⟨a, rfl, h⟩
    | cons b r => exact False.elim h
theorem as2_of {ds : List Dat} {Q : Dat → Dat → Prop} (h : as2 ds Q) : ∃ a b, ds = [a, b] ∧ Q a b := by
  cases ds with
  | nil => exact h.elim
  | cons a r =>
    cases r with
    | nil => exact False.elim h
    | cons b r =>
      cases r with
      | nil => exact ⟨a, b, rfl, h⟩
      | cons c r => exact False.elim h
theorem Reps.one_of {p : Amb} {F : Hp} {vs : List V} {d : Dat} (r : Reps K p F vs [d]) : ∃ v, vs = [v] ∧ Rep K p F v d := by
  cases r with
  | cons r s => cases s; exact ⟨_, rfl, r⟩
theorem Reps.two_of {p : Amb} {F : Hp} {vs : List V} {d e : Dat} (r : Reps K p F vs [d, e]) : ∃ v u, vs = [v, u] ∧ Rep K p F v d ∧ Rep K p F u e := by
  cases r with
  | cons r s =>
    obtain ⟨u, rfl, q⟩ := s.one_of
    exact ⟨_, u, rfl, r, q⟩
def wRng1 (wa : WF) : WF := fun S Q => wa S fun ds S1 => as1 ds fun d => asI d fun j => j < 4611686018427387904 ∧ -4611686018427387904 ≤ j ∧ Q (intsD 0 j.toNat) S1
theorem itr_ok {p : Amb} {F : Hp} {lo : Int} {n : Nat} : ItOk K p F (Itr lo n) (intsD lo n) := fun F' H' e e' => by
  refine ⟨fun i d hd => ?_, fun i hi => ?_⟩
  · unfold intsD at hd
    rw [List.getElem?_map] at hd
    obtain ⟨c, hc, rfl⟩ := Option.map_eq_some_iff.mp hd
    obtain ⟨h1, h2⟩ := List.getElem?_eq_some_iff.mp hc
    rw [List.length_range] at h1
    rw [List.getElem_range] at h2
    subst h2
    exact ⟨h1, fun x H'' hy => .inl ⟨hy.1, by rw [hy.2]; exact .int _⟩⟩
  · show n ≤ i
    unfold intsD at hi
    simpa using hi
instance iv_rng1 {ta : TA} {wa : WF} [a : AV K ta wa] : IV K (iRng1 ta) (wRng1 wa) := ⟨fun {p H0 F0 F H σ S T Q R} ok hw k =>
  a.run ok hw fun vs F1 H1 S1 ds ok1 e1 r1 q1 => by
    obtain ⟨d, rfl, q1⟩ := as1_of q1
    obtain ⟨j, rfl, q1⟩ := asI_of q1
    obtain ⟨v, rfl, r⟩ := r1.one_of
    cases r
    exact ⟨j, rfl, by omega, by omega, k _ F1 H1 S1 _ ok1 e1 itr_ok q1.2.2⟩⟩
def wRng2 (wa : WF) : WF := fun S Q => wa S fun ds S1 => as2 ds fun d e => asI d fun i => asI e fun j => (j < 4611686018427387904 ∧ -4611686018427387904 ≤ j ∧ i < 4611686018427387904 ∧ -4611686018427387904 ≤ i) ∧ Q (intsD i (j - i).toNat) S1
instance iv_rng2 {ta : TA} {wa : WF} [a : AV K ta wa] : IV K (iRng2 ta) (wRng2 wa) := ⟨fun {p H0 F0 F H σ S T Q R} ok hw k =>
  a.run ok hw fun vs F1 H1 S1 ds ok1 e1 r1 q1 => by
    obtain ⟨d, e, rfl, q1⟩ := as2_of q1
    obtain ⟨i, rfl, q1⟩ := asI_of q1
    obtain ⟨j, rfl, q1⟩ := asI_of q1
    obtain ⟨v, u, rfl, r, r'⟩ := r1.two_of
    cases r
    cases r'
    exact ⟨i, j, rfl, ⟨by omega, by omega, by omega, by omega⟩, k _ F1 H1 S1 _ ok1 e1 itr_ok q1.2⟩⟩
end
end Dl
-- part Dp
set_option Elab.async false
set_option linter.all false
set_option maxRecDepth 100000
set_option maxHeartbeats 4000000
namespace Dl
open PySem PySem.Spec PyProof.Rows L2 Evl
variable [LawTabs]

/-! ### list comprehensions -/
class MemN (i : Nat) (l : List Nat) : Prop where
  mem : i ∈ l
instance {i : Nat} {l : List Nat} : MemN i (i :: l) := ⟨List.mem_cons_self⟩
instance (priority := low) {i j : Nat} {l : List Nat} [m : MemN i l] : MemN i (j :: l) := ⟨List.mem_cons_of_mem _ m.mem⟩
class SubN (a b : List Nat) : Prop where
  sub : ∀ i ∈ a, i ∈ b
instance {b : List Nat} : SubN [] b := ⟨fun _ h => nomatch h⟩
instance {i : Nat} {a b : List Nat} [m : MemN i b] [s : SubN a b] : SubN (i :: a) b := ⟨fun j h => by
  rcases List.mem_cons.mp h with h | h
  · exact h ▸ m.mem
  · exact s.sub j h⟩
def wipeL (sl : List Sl) : List Nat → List Sl
  | [] => sl
  | v :: vs => (wipeL sl vs).set v .un
def keepIm : Option Sl → Sl
  | some (.im d) => .im d
  | _ => .un
def restL (orig sl : List Sl) : List Nat → List Sl
  | [] => sl
  | v :: vs => (restL orig sl vs).set v (keepIm orig[v]?)
theorem wipeL_length (sl : List Sl) : ∀ vs : List Nat, (wipeL sl vs).length = sl.length
  | [] => rfl
  | v :: vs => by unfold wipeL; rw [List.length_set, wipeL_length sl vs]
theorem restL_length (o sl : List Sl) : ∀ vs : List Nat, (restL o sl vs).length = sl.length
  | [] => rfl
  | v :: vs => by unfold restL; rw [List.length_set, restL_length o sl vs]
theorem wipeL_get {sl : List Sl} {i : Nat} {s : Sl} : ∀ {vs : List Nat}, (wipeL sl vs)[i]? = some s → s = .un ∨ (i ∉ vs ∧ sl[i]? = some s)
  | [], h => .inr ⟨by simp, h⟩
  | v :: vs, h => by
    unfold wipeL at h
    by_cases hv : v = i
    · subst hv
      by_cases hl : v < (wipeL sl vs).length
      · rw [List.getElem?_set_self hl] at h
        exact .inl (Option.some.inj h).symm
      · rw [List.getElem?_eq_none (by rw [List.length_set]; omega)] at h
        cases h
    · rw [List.getElem?_set_ne hv] at h
      rcases wipeL_get h with h | ⟨h1, h2⟩
      · exact .inl h
      · exact .inr ⟨by simp only [List.mem_cons, not_or]; exact ⟨fun e => hv e.symm, h1⟩, h2⟩
theorem restL_get {o sl : List Sl} {i : Nat} {s : Sl} : ∀ {vs : List Nat}, (restL o sl vs)[i]? = some s → s = .un ∨ (∃ d, s = .im d ∧ o[i]? = some (.im d)) ∨ (i ∉ vs ∧ sl[i]? = some s)
  | [], h => .inr (.inr ⟨by simp, h⟩)
  | v :: vs, h => by
    unfold restL at h
    by_cases hv : v = i
    · subst hv
      by_cases hl : v < (restL o sl vs).length
      · rw [List.getElem?_set_self hl] at h
        have e : keepIm o[v]? = s := Option.some.inj h
        cases ho : o[v]? with
        | none => rw [ho] at e; exact .inl e.symm
        | some z =>
          cases z with
          | im d => rw [ho] at e; exact .inr (.inl ⟨d, e.symm, rfl⟩)
          | un => rw [ho] at e; exact .inl e.symm
          | ow d => rw [ho] at e; exact .inl e.symm
          | od d => rw [ho] at e; exact .inl e.symm
          | nw x y d => rw [ho] at e; exact .inl e.symm
      · rw [List.getElem?_eq_none (by rw [List.length_set]; omega)] at h
        cases h
    · rw [List.getElem?_set_ne hv] at h
      rcases restL_get h with h | h | ⟨h1, h2⟩
      · exact .inl h
      · exact .inr (.inl h)
      · exact .inr (.inr ⟨by simp only [List.mem_cons, not_or]; exact ⟨fun e => hv e.symm, h1⟩, h2⟩)
theorem wipe_get {σ : L2.St} {i : Nat} : ∀ {vs : List Nat}, i ∉ vs → (wipe σ vs)[i]? = σ[i]?
  | [], _ => rfl
  | v :: vs, h => by
    unfold wipe
    have hv : v ≠ i := fun e => h (by simp [e])
    rw [List.getElem?_set_ne hv]
    exact wipe_get fun z => h (List.mem_cons_of_mem _ z)
theorem wipe_mem {σ : L2.St} {i : Nat} : ∀ {vs : List Nat}, i ∈ vs → i < σ.length → (wipe σ vs)[i]? = some none
  | [], h, _ => nomatch h
  | v :: vs, h, hl => by
    unfold wipe
    by_cases hv : v = i
    · subst hv
      rw [List.getElem?_set_self (by rw [wipe_length]; exact hl)]
    · rw [List.getElem?_set_ne hv]
      rcases List.mem_cons.mp h with e | h
      · exact absurd e.symm hv
      · exact wipe_mem h hl
theorem wipe_same {σ σ' : L2.St} {vs : List Nat} (h : ∀ i : Nat, i ∉ vs → σ'[i]? = (wipe σ vs)[i]?) (hl : σ'.length = (wipe σ vs).length) : wipe σ' vs = wipe σ vs := by
  refine List.ext_getElem? fun i => ?_
  have hl2 : σ'.length = σ.length := by rw [hl, wipe_length]
  by_cases hi : i ∈ vs
  · by_cases hlt : i < σ.length
    · rw [wipe_mem hi (by omega), wipe_mem hi hlt]
    · rw [List.getElem?_eq_none (by rw [wipe_length]; omega), List.getElem?_eq_none (by rw [wipe_length]; omega)]
  · rw [wipe_get hi, h i hi]
section
variable {K : PySem.W.Frag} {p : Amb} {H0 F0 F H : Hp} {σ : L2.St} {S : Sx} {T : List (Addr × List V)}
theorem Ok.wiped (h : Ok K p H0 F0 F H σ S T) (vs : List Nat) : Ok K p H0 F0 F H (wipe σ vs) ⟨wipeL S.sl vs, S.n⟩ T :=
  h.forget (by rw [wipe_length, wipeL_length]; exact h.len) fun i s q => by
    rcases wipeL_get q with e | ⟨e1, e2⟩
    · exact .inl e
    · exact .inr (.inr ⟨e2, wipe_get e1⟩)
theorem Ok.rested (h : Ok K p H0 F0 F H (wipe σ vs) S T) {o : List Sl} (ho : ∀ (i : Nat) (d : Dat), o[i]? = some (.im d) → SlOk K p H0 F H (.im d) (σ[i]?)) : Ok K p H0 F0 F H σ ⟨restL o S.sl vs, S.n⟩ T :=
  h.forget (by rw [restL_length, ← h.len, wipe_length]) fun i s q => by
    rcases restL_get q with e | ⟨d, e1, e2⟩ | ⟨e1, e2⟩
    · exact .inl e
    · exact .inr (.inl ⟨d, e1, by rw [e1]; exact ho i d e2⟩)
    · exact .inr (.inr ⟨e2, (wipe_get e1).symm⟩)
def lcW (vs : List Nat) (wg : WG) (wt : WT) (we : WE) : List Dat → List Dat → WF
  | [], acc => fun S Q => Q acc S
  | d :: ds, acc => fun S Q => wg d S fun S1 => wt S1 fun b S2 =>
    if b = true then we S2 fun x S3 => acc.length < 100000 ∧ lcW vs wg wt we ds (acc ++ [x]) ⟨wipeL S3.sl vs, S3.n⟩ Q
    else lcW vs wg wt we ds acc ⟨wipeL S2.sl vs, S2.n⟩ Q
def wLc (wi : WF) (vs : List Nat) (wg : WG) (wt : WT) (we : WE) : WF := fun S Q => wi S fun ds S1 => lcW vs wg wt we ds [] ⟨wipeL S1.sl vs, S1.n⟩ fun acc S2 => Q acc ⟨restL S1.sl S2.sl vs, S2.n⟩
instance ef_lc {wi : TI} {g : TG} {tt : TT} {te : TE} {vs ix : List Nat} {ww : WF} {wg : WG} {wt : WT} {we : WE} [a : IV K wi ww] [b : GV K g ix wg] [u : SubN ix vs] [c : TV K tt wt] [e : EV K te we] : EF K (tLc wi g tt te vs) (wLc ww vs wg wt we) := ⟨fun {p H0 F0 F H σ S T Q Q'} ok hw k => by
  refine a.run ok hw fun J F1 H1 S1 ds ok1 e1 it q1 => ?_
  intro D hD
  have okW := ok1.wiped vs
  refine ⟨fun i m H2 => m = ds.length - i ∧ i ≤ ds.length ∧ ∃ F2 S2 acc us, Ok K p H0 F0 F2 H2 (wipe σ vs) S2 ((D, us) :: T) ∧ Ex F1 F2 ∧ Reps K p F2 us acc ∧
      lcW vs wg wt we (ds.drop i) acc S2 fun acc S2 => Q acc ⟨restL S1.sl S2.sl vs, S2.n⟩,
    ⟨ds.length, by simp, Nat.zero_le _, F1, _, [], [], okW.layT hD, Ex.refl _, .nil, q1⟩, ?_⟩
  rintro i m H2 ⟨rfl, hi, F2, S2, acc, us, ok2, e2, r2, q2⟩
  obtain ⟨i1, i2⟩ := it F2 H2 e2 ok2.hp.fh
  by_cases hlt : i < ds.length
  · have hd : ds[i]? = some ds[i] := List.getElem?_eq_getElem hlt
    rw [List.drop_eq_getElem_cons hlt] at q2
    obtain ⟨go, yl⟩ := i1 i _ hd
    refine .inr ⟨go, fun H3 => ∃ F3 S3 acc us, Ok K p H0 F0 F3 H3 (wipe σ vs) S3 ((D, us) :: T) ∧ Ex F1 F3 ∧ Reps K p F3 us acc ∧
      lcW vs wg wt we (ds.drop (i + 1)) acc S3 fun acc S2 => Q acc ⟨restL S1.sl S2.sl vs, S2.n⟩, ?_, ?_⟩
    · rintro H3 ⟨F3, S3, acc3, us3, h3⟩
      exact ⟨ds.length - (i + 1), by omega, rfl, hlt, F3, S3, acc3, us3, h3⟩
    · intro x H3 hy
      obtain ⟨F3, ok3, e3, r3⟩ := ok2.yield (yl x H3 hy)
      refine b.run ok3 r3 q2 fun σ4 S4 ok4 h4 l4 q4 => ?_
      have hws : wipe σ4 vs = wipe σ vs := wipe_same (fun j hj => h4 j fun z => hj (u.sub j z)) l4
      refine ⟨hws, c.run ok4 q4 fun bb F5 H5 S5 ok5 e5 q5 => ?_⟩
      cases bb with
      | false =>
        show ∃ F3 S3 acc us, _
        have ok6 := ok5.wiped vs
        rw [hws] at ok6
        exact ⟨F5, _, acc, us, ok6, (e2.trans e3).trans e5, r2.mono (e3.trans e5), q5⟩
      | true =>
        refine e.run ok5 q5 fun y F6 H6 S6 dy ok6 e6 r6 q6 => ?_
        obtain ⟨t1, t2, t3⟩ := ok6.topT
        have r26 := r2.mono ((e3.trans e5).trans e6)
        refine ⟨us, t3, sz_lt (by rw [r26.length]; exact q6.1), ?_⟩
        have ok7 := (ok6.updT (us ++ [y])).wiped vs
        rw [hws] at ok7
        exact ⟨F6, _, acc ++ [dy], us ++ [y], ok7, ((e2.trans e3).trans e5).trans e6, r26.append (.one r6), q6.2⟩
  · have hii : i = ds.length := by omega
    subst hii
    rw [List.drop_length] at q2
    refine .inl ⟨i2 _ (Nat.le_refl _), ?_⟩
    have ok3 : Ok K p H0 F0 F2 H2 σ ⟨restL S1.sl S2.sl vs, S2.n⟩ ((D, us) :: T) := ok2.rested fun j d hj => by
      obtain ⟨v, h1, h2⟩ := ok1.sl j _ hj
      exact ⟨v, h1, h2.mono e2⟩
    exact k D us F2 H2 _ acc ok3 (e1.trans e2) r2 q2⟩
end
end Dl
-- part Dq
set_option Elab.async false
set_option linter.all false
set_option maxRecDepth 100000
set_option maxHeartbeats 4000000
namespace Dl
open PySem PySem.Spec PyProof.Rows L2 Evl
variable [LawTabs]

/-! ### rules that the layer lacks -/
section
variable {X : Cx}
theorem foldl_app (x : Array Nat) : ∀ (k : Nat) (acc : List Nat), (List.replicate k x).foldl (· ++ ·) acc.toArray = (acc ++ (List.replicate k x.toList).flatten).toArray
  | 0, acc => by simp
  | k + 1, acc => by
    rw [List.replicate_succ, List.foldl_cons, List.replicate_succ, List.flatten_cons]
    have e : acc.toArray ++ x = (acc ++ x.toList).toArray := by apply Array.ext'; simp
    rw [e, foldl_app x k (acc ++ x.toList), List.append_assoc]
theorem flat_len (l : List Nat) : ∀ k : Nat, ((List.replicate k l).flatten).length = l.length * k
  | 0 => by simp
  | k + 1 => by rw [List.replicate_succ, List.flatten_cons, List.length_append, flat_len l k, Nat.mul_succ, Nat.add_comm]
/-- text * int -/
def rMulS : R2 := fun x y H Q => ∃ (z : Str) (i : Int), x = .str z ∧ y = .int i ∧ -4611686018427387904 ≤ i ∧ i ≤ 1000000 ∧ z.cps.toList.length * i.toNat ≤ 1000000 ∧ Q (.str ⟨((List.replicate i.toNat z.cps.toList).flatten).toArray⟩) H
theorem op_mulS : OpR X (binaryOp .Mult) rMulS := by
  intro pins s σ H x y v u Q I rx ry h
  obtain ⟨z, i, rfl, rfl, h0, h1, h2, q⟩ := h
  obtain ⟨t, rfl⟩ := rx
  obtain ⟨t', rfl⟩ := ry
  have hl : z.length = z.cps.toList.length := by simp [Str.length]
  have hs : sizeLine = 16777216 := sizeLine_eq
  refine PySem.P.mul_str ?_ (fun g1 g2 => ?_) (fun g1 g2 => ?_) ?_
  · have e1 : decide (i < -(2 ^ 63 : Int)) = false := decide_eq_false (by omega)
    have e2 : decide (i ≥ 2 ^ 63) = false := decide_eq_false (by omega)
    rw [e1, e2]; rfl
  · intro hgt
    have hi : 1 ≤ i := by omega
    have hz : (z.length : Int) ≤ 1000000 := by
      have : z.cps.toList.length * 1 ≤ z.cps.toList.length * i.toNat := Nat.mul_le_mul_left _ (by omega)
      omega
    have : (1000000 : Int) ≤ (2 ^ 63 - 1) / i := by
      rw [Int.le_ediv_iff_mul_le (by omega)]
      omega
    omega
  · unfold Builtin.Str.tooLong
    exact decide_eq_false (by rw [hl]; omega)
  · split
    · rename_i hn
      have e : i.toNat = 0 := by omega
      rw [e] at q
      exact ⟨by show (0 : Nat) ≤ _; exact Nat.zero_le _, ⟨.str Str.empty, H, I.tok _, ⟨_, rfl⟩, q⟩⟩
    · split
      · rename_i hn hc
        have e : (List.replicate i.toNat z.cps.toList).flatten = z.cps.toList := by
          rcases Bool.or_eq_true_iff.mp hc with hc | hc
          · have : i = 1 := by simpa using hc
            subst this
            simp
          · have e0 : z.cps.toList = [] := by
              have : z.length = 0 := by simpa using hc
              rw [hl] at this
              exact List.length_eq_zero_iff.mp this
            rw [e0]; simp
        rw [e] at q
        exact ⟨.str z, H, I, ⟨t, rfl⟩, q⟩
      · have e : (List.replicate i.toNat z.cps).foldl (fun x1 x2 => x1 ++ x2) #[] = ((List.replicate i.toNat z.cps.toList).flatten).toArray := by
          have := foldl_app z.cps i.toNat []
          simpa using this
        rw [e]
        refine ⟨?_, ⟨.str _, H, I.tok _, ⟨_, rfl⟩, q⟩⟩
        show ((List.replicate i.toNat z.cps.toList).flatten).toArray.size ≤ _
        rw [List.size_toArray, flat_len]
        omega
/-- int ** int of any size, within the line -/
def CPowW (i j : Int) : Prop := 2 ≤ i ∧ 1 ≤ j ∧ Builtin.Int.intTooBig (((Builtin.Int.intBits i : Nat) : Int) * j) = false
theorem op_powW : OpR X (binaryOp .Pow) (rI CPowW fun i j => .int (i ^ j.toNat)) := by
  intro pins s σ H x y v u Q I rx ry h
  obtain ⟨i, j, rfl, rfl, ⟨h1, h2, h3⟩, q⟩ := h
  obtain ⟨t, rfl⟩ := rx
  obtain ⟨t', rfl⟩ := ry
  have n0 : ¬ (i = 0) := by omega
  have n1 : ¬ (i = 1) := by omega
  refine PySem.AutoIntOps.pow_4 (by omega) (by simp; omega) (by simp [n0, n1]) (by simp; omega) (by rw [h3]; exact Bool.false_ne_true) ?_
  exact ⟨.int (i ^ j.toNat), H, I.tok _, ⟨_, rfl⟩, q⟩
/-- list(text) -/
def rListS : List V → Hp → VK → Prop := fun xs H Q => ∃ z : Str, xs = [.str z] ∧ z.length ≤ sizeLine ∧ ∀ l, H l = none → Q (.ref l) (upd H l (.lst (z.cps.toList.map fun c => V.str ⟨#[c]⟩)))
theorem vals_signs {z : Str} {acc : Array Value} (h : ItemsOf (SignAt z) acc z.cps.size) : Vals (z.cps.toList.map fun c => V.str ⟨#[c]⟩) acc.toList := by
  refine vals_of_at (by simp [h.1]) fun j x u hx hu => ?_
  obtain ⟨c, t, hc, e⟩ := h.2 j u (by simpa using hu)
  subst e
  rw [List.getElem?_map] at hx
  have hc' : z.cps.toList[j]? = some c := by simpa using hc
  rw [hc'] at hx
  cases hx
  exact ⟨t, rfl⟩
theorem call_listS (hc : X.calm = true) : CallR X (.type "list") rListS := by
  intro pins s σ H xs us Q I r h
  obtain ⟨z, rfl, hz, q⟩ := h
  obtain ⟨u, rfl, t, rfl⟩ := vals1 r
  refine call_list_str (hn := hz) (I.ok.hd hc) z t fun h' tk acc c hk hS hacc => ?_
  refine ⟨.ref s.heap.objs.size, upd H s.heap.objs.size (.lst (z.cps.toList.map fun c => V.str ⟨#[c]⟩)), I.laid hk (Nat.le_refl _) ⟨?_, acc.toList, c, vals_signs hacc, by rw [Array.toArray_toList]; exact hS⟩, rfl, q _ (I.hok.fresh (Nat.le_refl _))⟩
  rw [List.length_map]
  simpa [Str.length] using hz
variable {CX : CXT} {k : Nat} {f C : Addr} {fd : FuncData} {ps ks : List Str} {sp : Sp} {E : XK} {x m : Str} {p pos apos kpos : Pos} {kws : List Keyword} {tk : TA} {g : List Value → List Value → List Value} {gV : List V → List V → List V}
theorem pe_callK0 (F : FnOk X.prog X.w X.K X.mg X.base CX k f fd ps sp) (hr : Room k X.A) (hg : Gl X x) (hm : X.mg x = some (.ref f)) (hk : PySem.W.keepIn X.K (.ref f) = true) (hb : KBinds X.K fd ps ks g gV) (hx : Passes CX X E)
    (hkw : PK X kws tk) (hall : (backToKw pos (keywordEach kws X.env)).all (·.1.isSome) = true := by rfl) (hks : (backToKw pos (keywordEach kws X.env)).filterMap (·.1) = ks := by rfl)
    (hdb : (x == ("__debug__" : Str)) = false := by decide) (hpl : (backToKw pos (keywordEach kws X.env)).any (·.1.isNone) = false := by rfl) :
    PE X (.Call (.Name x p) [] kws pos) (tCallK sp gV E tNil tk) := by
  refine ⟨fun pins s σ H Q I h => ?_⟩
  refine wpAny_Call_Name_kw (ld_glob I hg hm ?_ hdb)
  refine PySem.W.callWith_KW0 (h₀ := X.base) I.ok.mod.kin hk hall ?_ hpl
  refine thn (hkw.run pos pins s σ H _ I h) fun ws s2 hw => ?_
  obtain ⟨zs, H2, I2, rz, q2⟩ := hw
  refine ⟨I2.kIn, ?_⟩
  rw [hks]
  exact run_fnk F hr hb hx I2 .nil rz q2
end
end Dl
-- part Dr
set_option Elab.async false
set_option linter.all false
set_option maxRecDepth 100000
set_option maxHeartbeats 4000000
namespace Dl
open PySem PySem.Spec PyProof.Rows L2 Evl
variable [LawTabs]

section
variable {K : PySem.W.Frag}
/-! ### how a rule on plain values becomes one on data -/
theorem OV.pure {r : R2} {f : OpD} (h : ∀ {p : Amb} {F H : Hp} {QD : Dat → Prop} {x y : V} {a b : Dat} {Q' : VK}, Ex F H → Rep K p F x a → Rep K p F y b → f a b QD → (∀ v d, Rep K p F v d → QD d → Q' v H) → r x y H Q') : OV K r f :=
  ⟨fun {p _ _ F H _ S T QD Q' x y a b} ok ra rb hf k => h ok.hp.fh ra rb hf fun v d rv q => k v F H d ok (Ex.refl F) rv q⟩
theorem BV.pure {r : List V → Hp → VK → Prop} {f : List Dat → (Dat → Prop) → Prop} (h : ∀ {p : Amb} {F H : Hp} {QD : Dat → Prop} {vs : List V} {ds : List Dat} {Q' : VK}, Ex F H → Reps K p F vs ds → f ds QD → (∀ v d, Rep K p F v d → QD d → Q' v H) → r vs H Q') : BV K r f :=
  ⟨fun {p _ _ F H _ S T QD Q' vs ds} ok ra hf k => h ok.hp.fh ra hf fun v d rv q => k v F H d ok (Ex.refl F) rv q⟩
theorem Rep.tup_of {p : Amb} {F : Hp} {v : V} {l : List Dat} (r : Rep K p F v (.tup l)) : ∃ a vs, v = .ref a ∧ SqT K F a vs ∧ Reps K p F vs l := by
  cases r with
  | tup h1 h2 => exact ⟨_, _, rfl, h1, h2⟩
theorem Rep.lst_of {p : Amb} {F : Hp} {v : V} {l : List Dat} (r : Rep K p F v (.lst l)) : ∃ a vs, v = .ref a ∧ F a = some (.lst vs) ∧ Reps K p F vs l := by
  cases r with
  | lst h1 h2 => exact ⟨_, _, rfl, h1, h2⟩
theorem Rep.fz_of {p : Amb} {F : Hp} {v : V} {l : List Dat} (r : Rep K p F v (.fz l)) : ∃ a vs, v = .ref a ∧ SqL K F a vs ∧ Reps K p F vs l := by
  cases r with
  | fz h1 h2 => exact ⟨_, _, rfl, h1, h2⟩

/-! ### data as the library compares it -/
mutual
def pd : Dat → PyData
  | .non => .none
  | .bl b => .bool b
  | .int i => .int i
  | .str l => .str ⟨l.toArray⟩
  | .tup l => .tuple (pds l)
  | .lst l => .list (pds l)
  | .fz l => .list (pds l)
  | _ => .none
def pds : List Dat → List PyData
  | [] => []
  | d :: ds => pd d :: pds ds
end
mutual
def plain : Dat → Bool
  | .non => true
  | .bl _ => true
  | .int _ => true
  | .str _ => true
  | .tup l => plains l
  | .lst l => plains l
  | .fz l => plains l
  | _ => false
def plains : List Dat → Bool
  | [] => true
  | d :: ds => plain d && plains ds
end
mutual
theorem dp_of {p : Amb} {F H : Hp} (e : Ex F H) : ∀ {d : Dat} {v : V}, Rep K p F v d → plain d = true → Dp K H v (pd d)
  | .non, _, r, _ => by cases r; exact .non
  | .bl b, _, r, _ => by cases r; exact .bl b
  | .int i, _, r, _ => by cases r; exact .int i
  | .str l, _, r, _ => by rw [r.str_of]; exact .str _
  | .tup l, _, r, hp => by
    obtain ⟨a, vs, rfl, h1, h2⟩ := r.tup_of
    exact .tup (ex_t e h1) (dps_of e h2 hp)
  | .lst l, _, r, hp => by
    obtain ⟨a, vs, rfl, h1, h2⟩ := r.lst_of
    exact .lst (.of (e _ _ h1)) (dps_of e h2 hp)
  | .fz l, _, r, hp => by
    obtain ⟨a, vs, rfl, h1, h2⟩ := r.fz_of
    exact .lst (ex_l e h1) (dps_of e h2 hp)
  | .pot, _, _, hp => nomatch hp
  | .ref _, _, _, hp => nomatch hp
  | .dct _, _, _, hp => nomatch hp
  | .ty _, _, _, hp => nomatch hp
theorem dps_of {p : Amb} {F H : Hp} (e : Ex F H) : ∀ {ds : List Dat} {vs : List V}, Reps K p F vs ds → plains ds = true → DpAll K H vs (pds ds)
  | [], _, r, _ => by cases r; exact .nil
  | d :: ds, _, r, hp => by
    have hp' : plain d = true ∧ plains ds = true := by simpa [plains] using hp
    cases r with
    | cons r1 r2 => exact .cons (dp_of e r1 hp'.1) (dps_of e r2 hp'.2)
end
/-- == of data -/
def eqD (a b : Dat) : Bool := PyData.eqv (pd a) (pd b)
def cmpOk (a : Dat) : Prop := plain a = true ∧ SeqAt.shaped (pd a) = true

/-! ### operators -/
def rAddS : R2 := fun x y H Q => ∃ i j, x = .str i ∧ y = .str j ∧ i.length + j.length ≤ sizeLine ∧ Q (.str (i ++ j)) H
def rAddG (K : PySem.W.Frag) : R2 := fun x y H Q => rI0 (fun i j => .int (i + j)) x y H Q ∨ (rAddS x y H Q ∨ (rCatA K x y H Q ∨ rCat x y H Q))
theorem op_addG {X : Cx} : OpR X (binaryOp .Add) (rAddG X.K) := op_add.or (OpR.or (r := rAddS) op_add_str (op_catA.or op_cat))
def aAdd : OpD := fun a b Q =>
  match a with
  | .int i => (match b with | .int j => Q (.int (i + j)) | _ => False)
  | .str x => (match b with | .str y => x.length + y.length ≤ 1000000 ∧ Q (.str (x ++ y)) | _ => False)
  | .tup x => (match b with | .tup y => x.length + y.length ≤ 1000000 ∧ Q (.tup (x ++ y)) | _ => False)
  | .lst x => (match b with | .lst y => x.length + y.length ≤ 1000000 ∧ Q (.lst (x ++ y)) | _ => False)
  | _ => False
theorem line_of {n : Nat} (h : n ≤ 1000000) : n ≤ sizeLine := by
  have := sizeLine_eq; omega
theorem str_len (l : List Nat) : (Str.mk l.toArray).length = l.length := by simp [Str.length]
theorem str_app (a b : List Nat) : (Str.mk a.toArray) ++ (Str.mk b.toArray) = Str.mk (a ++ b).toArray := by
  show Str.mk (a.toArray ++ b.toArray) = _
  simp
instance : OV K (rAddG K) aAdd := ⟨fun {p H0 F0 F H σ S T QD Q' x y a b} ok ra rb hf k => by
  cases a with
  | int i =>
    cases b with
    | int j => rw [ra.int_of, rb.int_of]; exact .inl ⟨i, j, rfl, rfl, k _ F H _ ok (Ex.refl F) (.int _) hf⟩
    | _ => exact hf.elim
  | str i =>
    cases b with
    | str j =>
      rw [ra.str_of, rb.str_of]
      exact .inr (.inl ⟨_, _, rfl, rfl, line_of (by rw [str_len, str_len]; exact hf.1), by rw [str_app]; exact k _ F H _ ok (Ex.refl F) (.strL _) hf.2⟩)
    | _ => exact hf.elim
  | tup l =>
    cases b with
    | tup m =>
      obtain ⟨a, vs, rfl, h1, h2⟩ := ra.tup_of
      obtain ⟨b, ws, rfl, g1, g2⟩ := rb.tup_of
      have l1 := h2.length
      have l2 := g2.length
      refine .inr (.inr (.inl ⟨a, b, vs, ws, rfl, rfl, ex_t ok.hp.fh h1, ex_t ok.hp.fh g1, line_of (by rw [l1, l2]; exact hf.1), fun e => ?_, fun _ e => ?_, fun _ _ p hp => ?_⟩))
      · have : l = [] := List.length_eq_zero_iff.mp (by rw [← l1, e]; rfl)
        subst this
        exact k _ F H _ ok (Ex.refl F) (.tup g1 g2) hf.2
      · have : m = [] := List.length_eq_zero_iff.mp (by rw [← l2, e]; rfl)
        subst this
        have hf2 : QD (.tup (l ++ [])) := hf.2
        rw [List.append_nil] at hf2
        exact k _ F H _ ok (Ex.refl F) (.tup h1 h2) hf2
      · have e := Ex.new (o := HO.tup (vs ++ ws)) (ok.hp.freeF hp)
        exact k _ _ _ _ (ok.lay hp) e (.tup (.inl (.inl upd_same)) ((h2.mono e).append (g2.mono e))) hf.2
    | _ => exact hf.elim
  | lst l =>
    cases b with
    | lst m =>
      obtain ⟨a, vs, rfl, h1, h2⟩ := ra.lst_of
      obtain ⟨b, ws, rfl, g1, g2⟩ := rb.lst_of
      refine .inr (.inr (.inr ⟨a, b, vs, ws, rfl, rfl, ok.hp.fh _ _ h1, ok.hp.fh _ _ g1, line_of (by rw [h2.length, g2.length]; exact hf.1), fun p hp => ?_⟩))
      have e := Ex.new (o := HO.lst (vs ++ ws)) (ok.hp.freeF hp)
      exact k _ _ _ _ (ok.lay hp) e (.lst upd_same ((h2.mono e).append (g2.mono e))) hf.2
    | _ => exact hf.elim
  | _ => exact hf.elim⟩
/-- ints alone -/
def aII (C : Int → Int → Prop) (g : Int → Int → Dat) : OpD := fun a b Q => asI a fun i => asI b fun j => C i j ∧ Q (g i j)
theorem ov_II {C : Int → Int → Prop} {g : Int → Int → V} {gd : Int → Int → Dat} {C' : Int → Int → Prop} (hc : ∀ i j, C' i j → C i j) (hg : ∀ p F i j, C' i j → Rep K p F (g i j) (gd i j)) : OV K (rI C g) (aII C' gd) := .pure fun {p F H QD x y a b Q'} _ ra rb hf k => by
  obtain ⟨i, rfl, f1⟩ := asI_of hf
  obtain ⟨j, rfl, f2⟩ := asI_of f1
  rw [ra.int_of, rb.int_of]
  exact ⟨i, j, rfl, rfl, hc i j f2.1, k _ _ (hg p F i j f2.1) f2.2⟩
def aI0 (g : Int → Int → Dat) : OpD := fun a b Q => asI a fun i => asI b fun j => Q (g i j)
theorem ov_I0 {g : Int → Int → V} {gd : Int → Int → Dat} (hg : ∀ p F i j, Rep K p F (g i j) (gd i j)) : OV K (rI0 g) (aI0 gd) := .pure fun {p F H QD x y a b Q'} _ ra rb hf k => by
  obtain ⟨i, rfl, f1⟩ := asI_of hf
  obtain ⟨j, rfl, f2⟩ := asI_of f1
  rw [ra.int_of, rb.int_of]
  exact ⟨i, j, rfl, rfl, k _ _ (hg p F i j) f2⟩
abbrev aSub : OpD := aI0 fun i j => .int (i - j)
instance : OV K (rI0 fun i j => .int (i - j)) aSub := ov_I0 fun _ _ _ _ => .int _
abbrev aLt : OpD := aI0 fun i j => .bl (decide (i < j))
abbrev aLe : OpD := aI0 fun i j => .bl (decide (i ≤ j))
abbrev aGt : OpD := aI0 fun i j => .bl (decide (j < i))
abbrev aGe : OpD := aI0 fun i j => .bl (decide (j ≤ i))
instance : OV K (rI0 fun i j => .bl (decide (i < j))) aLt := ov_I0 fun _ _ _ _ => .bl _
instance : OV K (rI0 fun i j => .bl (decide (i ≤ j))) aLe := ov_I0 fun _ _ _ _ => .bl _
instance : OV K (rI0 fun i j => .bl (decide (j < i))) aGt := ov_I0 fun _ _ _ _ => .bl _
instance : OV K (rI0 fun i j => .bl (decide (j ≤ i))) aGe := ov_I0 fun _ _ _ _ => .bl _
/-- %, by a positive number -/
abbrev aMod : OpD := aII (fun _ j => 0 < j) fun i j => .int (i % j)
instance : OV K (rI (fun _ j => 0 < j) fun i j => .int (i % j)) aMod := ov_II (fun _ _ h => h) fun _ _ _ _ _ => .int _
/-- //, by a positive number -/
def CFd (_ j : Int) : Prop := 0 < j ∧ j.natAbs.log2 < 9000
abbrev aFd : OpD := aII CFd fun i j => .int (i / j)
instance : OV K (rI CDivW fun i j => .int (i / j)) aFd := ov_II (fun _ _ h => h) fun _ _ _ _ _ => .int _
def CPw (i j : Int) : Prop := CPow i j ∨ CPowW i j
def rPowG : R2 := fun x y H Q => rI CPow (fun i j => .int (i ^ j.toNat)) x y H Q ∨ rI CPowW (fun i j => .int (i ^ j.toNat)) x y H Q
theorem op_powG {X : Cx} : OpR X (binaryOp .Pow) rPowG := op_pow.or op_powW
abbrev aPow : OpD := aII CPw fun i j => .int (i ^ j.toNat)
instance : OV K rPowG aPow := .pure fun {p F H QD x y a b Q'} _ ra rb hf k => by
  obtain ⟨i, rfl, f1⟩ := asI_of hf
  obtain ⟨j, rfl, f2⟩ := asI_of f1
  rw [ra.int_of, rb.int_of]
  rcases f2.1 with h | h
  · exact .inl ⟨i, j, rfl, rfl, h, k _ _ (.int _) f2.2⟩
  · exact .inr ⟨i, j, rfl, rfl, h, k _ _ (.int _) f2.2⟩
/-- * -/
def CMu (i j : Int) : Prop := CMul i j ∨ CMulW i j
def rMulG : R2 := fun x y H Q => rI CMul (fun i j => .int (i * j)) x y H Q ∨ (rI CMulW (fun i j => .int (i * j)) x y H Q ∨ (rMulS x y H Q ∨ rRep x y H Q))
theorem op_mulG {X : Cx} : OpR X (binaryOp .Mult) rMulG := op_mul.or (op_mulW.or (op_mulS.or op_rep))
def repL {α : Type} (l : List α) (n : Nat) : List α := (List.replicate n l).flatten
def aMul : OpD := fun a b Q =>
  match a with
  | .int i => asI b fun j => CMu i j ∧ Q (.int (i * j))
  | .str x => asI b fun j => (-4611686018427387904 ≤ j ∧ j ≤ 1000000 ∧ x.length * j.toNat ≤ 1000000) ∧ Q (.str (repL x j.toNat))
  | .lst x => asI b fun j => (-4611686018427387904 ≤ j ∧ j ≤ 1000000 ∧ x.length * j.toNat ≤ 1000000) ∧ Q (.lst (repL x j.toNat))
  | _ => False
theorem Reps.rep {p : Amb} {F : Hp} {vs : List V} {ds : List Dat} (r : Reps K p F vs ds) : ∀ n : Nat, Reps K p F ((List.replicate n vs).flatten) (repL ds n)
  | 0 => .nil
  | n + 1 => by
    unfold repL
    rw [List.replicate_succ, List.flatten_cons, List.replicate_succ, List.flatten_cons]
    exact r.append (Reps.rep r n)
instance : OV K rMulG aMul := ⟨fun {p H0 F0 F H σ S T QD Q' x y a b} ok ra rb hf k => by
  cases a with
  | int i =>
    obtain ⟨j, rfl, f2⟩ := asI_of hf
    rw [ra.int_of, rb.int_of]
    rcases f2.1 with h | h
    · exact .inl ⟨i, j, rfl, rfl, h, k _ F H _ ok (Ex.refl F) (.int _) f2.2⟩
    · exact .inr (.inl ⟨i, j, rfl, rfl, h, k _ F H _ ok (Ex.refl F) (.int _) f2.2⟩)
  | str l =>
    obtain ⟨j, rfl, ⟨h1, h2, h3⟩, f2⟩ := asI_of hf
    rw [ra.str_of, rb.int_of]
    exact .inr (.inr (.inl ⟨_, j, rfl, rfl, h1, h2, by simpa using h3, k _ F H _ ok (Ex.refl F) (.strL _) f2⟩))
  | lst l =>
    obtain ⟨j, rfl, ⟨h1, h2, h3⟩, f2⟩ := asI_of hf
    obtain ⟨a, vs, rfl, g1, g2⟩ := ra.lst_of
    rw [rb.int_of]
    refine .inr (.inr (.inr ⟨a, j, vs, rfl, rfl, ok.hp.fh _ _ g1, by omega, by omega, line_of (by rw [g2.length]; exact h3), fun q hq => ?_⟩))
    have e := Ex.new (o := HO.lst ((List.replicate j.toNat vs).flatten)) (ok.hp.freeF hq)
    exact k _ _ _ _ (ok.lay hq) e (.lst upd_same ((g2.mono e).rep _)) f2
  | _ => exact hf.elim⟩
/-- -a -/
def aNeg (a : Dat) (Q : Dat → Prop) : Prop := asI a fun i => Q (.int (-i))
instance : UV K (rU fun i => .int (-i)) aNeg := ⟨fun {p H0 F0 F H σ S T QD Q' x a} ok ra hf k => by
  obtain ⟨i, rfl, f1⟩ := asI_of hf
  rw [ra.int_of]
  exact ⟨i, rfl, k _ F H _ ok (Ex.refl F) (.int _) f1⟩⟩
/-! == and != -/
def rEqG (K : PySem.W.Frag) : R2 := fun x y H Q => rEq x y H Q ∨ rEqD K x y H Q
def rNeG (K : PySem.W.Frag) : R2 := fun x y H Q => rNe x y H Q ∨ rNeD K x y H Q
theorem op_eqG {X : Cx} (hu : X.A.units + 64 < cLine) : OpR X (compareOp .Eq) (rEqG X.K) := op_eq.or (op_eqD hu)
theorem op_neG {X : Cx} (hu : X.A.units + 64 < cLine) : OpR X (compareOp .NotEq) (rNeG X.K) := op_ne.or (op_neD hu)
def eqS (a b : Dat) (k : Bool → Prop) : Prop :=
  match a with
  | .int i => (match b with | .int j => k (decide (i = j)) | .non => k false | .str _ => k false | _ => False)
  | .str x => (match b with | .str y => k (decide (x = y)) | .non => k false | .int _ => k false | .bl _ => k false | _ => False)
  | .bl x => (match b with | .bl y => k (decide (x = y)) | .non => k false | .str _ => k false | _ => False)
  | .non => (match b with | .non => k true | .int _ => k false | .str _ => k false | .bl _ => k false | .tup y => cmpOk (.tup y) ∧ k false | _ => False)
  | .tup x => cmpOk (.tup x) ∧ cmpOk b ∧ k (eqD (.tup x) b)
  | .lst x => cmpOk (.lst x) ∧ cmpOk b ∧ k (eqD (.lst x) b)
  | _ => False
def aEq : OpD := fun a b Q => eqS a b fun k => Q (.bl k)
def aNe : OpD := fun a b Q => eqS a b fun k => Q (.bl (!k))
theorem str_inj {x y : List Nat} : decide (V.str ⟨x.toArray⟩ = V.str ⟨y.toArray⟩) = decide (x = y) := by
  rw [Bool.eq_iff_iff]
  simp
theorem eqS_ok {p : Amb} {F H : Hp} {x y : V} {a b : Dat} {k : Bool → Prop} (e : Ex F H) (ra : Rep K p F x a) (rb : Rep K p F y b) (h : eqS a b k) :
    (scal x y = true ∧ k (decide (x = y))) ∨ ∃ d e, Dp K H x d ∧ Dp K H y e ∧ SeqAt.shaped d = true ∧ SeqAt.shaped e = true ∧ k (PyData.eqv d e) := by
  cases a with
  | int i =>
    rw [ra.int_of]
    cases b with
    | int j => rw [rb.int_of]; refine .inl ⟨rfl, ?_⟩; have h : k (decide (i = j)) := h; rw [show decide (V.int i = V.int j) = decide (i = j) by rw [Bool.eq_iff_iff]; simp]; exact h
    | non => cases rb; refine .inl ⟨rfl, ?_⟩; have h : k false := h; simpa using h
    | str j => rw [rb.str_of]; refine .inl ⟨rfl, ?_⟩; have h : k false := h; simpa using h
    | _ => exact (show False from h).elim
  | str i =>
    rw [ra.str_of]
    cases b with
    | str j => rw [rb.str_of]; refine .inl ⟨rfl, ?_⟩; have h : k (decide (i = j)) := h; rw [str_inj]; exact h
    | non => cases rb; refine .inl ⟨rfl, ?_⟩; have h : k false := h; simpa using h
    | int j => rw [rb.int_of]; refine .inl ⟨rfl, ?_⟩; have h : k false := h; simpa using h
    | bl j => rw [rb.bl_of]; refine .inl ⟨rfl, ?_⟩; have h : k false := h; simpa using h
    | _ => exact (show False from h).elim
  | bl i =>
    rw [ra.bl_of]
    cases b with
    | bl j => rw [rb.bl_of]; refine .inl ⟨rfl, ?_⟩; have h : k (decide (i = j)) := h; rw [show decide (V.bl i = V.bl j) = decide (i = j) by rw [Bool.eq_iff_iff]; simp]; exact h
    | non => cases rb; refine .inl ⟨rfl, ?_⟩; have h : k false := h; simpa using h
    | str j => rw [rb.str_of]; refine .inl ⟨rfl, ?_⟩; have h : k false := h; simpa using h
    | _ => exact (show False from h).elim
  | non =>
    cases ra
    cases b with
    | non => cases rb; refine .inl ⟨rfl, ?_⟩; have h : k true := h; simpa using h
    | int j => rw [rb.int_of]; refine .inl ⟨rfl, ?_⟩; have h : k false := h; simpa using h
    | str j => rw [rb.str_of]; refine .inl ⟨rfl, ?_⟩; have h : k false := h; simpa using h
    | bl j => rw [rb.bl_of]; refine .inl ⟨rfl, ?_⟩; have h : k false := h; simpa using h
    | tup j =>
      obtain ⟨h1, h2⟩ : cmpOk (.tup j) ∧ k false := h
      exact .inr ⟨.none, _, .non, dp_of e rb h1.1, by decide, h1.2, h2⟩
    | _ => exact (show False from h).elim
  | tup l =>
    obtain ⟨h1, h2, h3⟩ : cmpOk (.tup l) ∧ cmpOk b ∧ k (eqD (.tup l) b) := h
    exact .inr ⟨_, _, dp_of e ra h1.1, dp_of e rb h2.1, h1.2, h2.2, h3⟩
  | lst l =>
    obtain ⟨h1, h2, h3⟩ : cmpOk (.lst l) ∧ cmpOk b ∧ k (eqD (.lst l) b) := h
    exact .inr ⟨_, _, dp_of e ra h1.1, dp_of e rb h2.1, h1.2, h2.2, h3⟩
  | _ => exact (show False from h).elim
instance : OV K (rEqG K) aEq := .pure fun {p F H QD x y a b Q'} e ra rb hf k => by
  rcases eqS_ok e ra rb hf with ⟨h1, h2⟩ | ⟨d, g, h1, h2, h3, h4, h5⟩
  · exact .inl ⟨h1, k _ _ (.bl _) h2⟩
  · exact .inr ⟨d, g, h1, h2, h3, h4, k _ _ (.bl _) h5⟩
instance : OV K (rNeG K) aNe := .pure fun {p F H QD x y a b Q'} e ra rb hf k => by
  rcases eqS_ok e ra rb hf with ⟨h1, h2⟩ | ⟨d, g, h1, h2, h3, h4, h5⟩
  · exact .inl ⟨h1, k _ _ (.bl _) h2⟩
  · exact .inr ⟨d, g, h1, h2, h3, h4, k _ _ (.bl _) h5⟩
end
end Dl
-- part Ds
set_option Elab.async false
set_option linter.all false
set_option maxRecDepth 100000
set_option maxHeartbeats 4000000
namespace Dl
open PySem PySem.Spec PyProof.Rows L2 Evl
variable [LawTabs]

section
variable {K : PySem.W.Frag}
/-! in, not in -/
def rInS (neg : Bool) : R2 := fun x y H Q => ∃ (c : Nat) (z : Str), x = .str ⟨#[c]⟩ ∧ y = .str z ∧ Q (.bl (if neg then !decide (c ∈ z.cps.toList) else decide (c ∈ z.cps.toList))) H
def rInG (K : PySem.W.Frag) (neg : Bool) : R2 := fun x y H Q => rInS neg x y H Q ∨ rIn K neg x y H Q
theorem op_inG {X : Cx} : OpR X (compareOp .In) (rInG X.K false) := OpR.or (r := rInS false) op_in_sign op_in_seq
theorem op_notInG {X : Cx} : OpR X (compareOp .NotIn) (rInG X.K true) := OpR.or (r := rInS true) op_notIn_sign op_notIn_seq
/-- flat items alone: == of such -/
def flat : Dat → Bool
  | .non => true
  | .bl _ => true
  | .int _ => true
  | .str _ => true
  | _ => false
def eqF : Dat → Dat → Bool
  | .non, .non => true
  | .bl a, .bl b => a == b
  | .bl a, .int b => (if a then 1 else 0) == b
  | .int a, .bl b => a == (if b then 1 else 0)
  | .int a, .int b => a == b
  | .str a, .str b => a == b
  | _, _ => false
theorem flat_of {p : Amb} {F : Hp} {v : V} {d : Dat} (r : Rep K p F v d) (h : flat d = true) : flatV v = true := by
  cases r <;> first | rfl | exact nomatch h
theorem str_beq {s t : Str} : (s == t) = (s.cps.toList == t.cps.toList) := by
  cases s with
  | mk a =>
    cases t with
    | mk b =>
      rw [Bool.eq_iff_iff]
      simp
theorem eqF_of {p : Amb} {F : Hp} {v u : V} {d e : Dat} (r : Rep K p F v d) (q : Rep K p F u e) (h : flat d = true) (g : flat e = true) : eqV v u = eqF d e := by
  cases r <;> (try exact absurd h Bool.false_ne_true) <;> cases q <;> (try exact absurd g Bool.false_ne_true) <;> first
    | rfl
    | exact str_beq
def inF (x : Dat) (l : List Dat) : Bool := l.any fun y => eqF y x
theorem inF_of {p : Amb} {F : Hp} {v : V} {d : Dat} (r : Rep K p F v d) (h : flat d = true) : ∀ {vs : List V} {ds : List Dat}, Reps K p F vs ds → ds.all flat = true → inV v vs = inF d ds ∧ vs.all flatV = true
  | _, _, .nil, _ => ⟨rfl, rfl⟩
  | v' :: vs, d' :: ds, .cons r1 r2, hf => by
    have hf' : flat d' = true ∧ ds.all flat = true := by simpa using hf
    obtain ⟨h1, h2⟩ := inF_of r h r2 hf'.2
    refine ⟨?_, ?_⟩
    · show (eqV v' v || inV v vs) = (eqF d' d || inF d ds)
      rw [eqF_of r1 r hf'.1 h, h1]
    · rw [List.all_cons, flat_of r1 hf'.1, h2]; rfl
def inS (a b : Dat) (k : Bool → Prop) : Prop :=
  match b with
  | .str z => (match a with | .str [c] => k (decide (c ∈ z)) | _ => False)
  | .tup l => flat a = true ∧ l.all flat = true ∧ k (inF a l)
  | .lst l => flat a = true ∧ l.all flat = true ∧ k (inF a l)
  | _ => False
def aIn : OpD := fun a b Q => inS a b fun k => Q (.bl k)
def aNotIn : OpD := fun a b Q => inS a b fun k => Q (.bl (!k))
theorem inS_ok {neg : Bool} {p : Amb} {F H : Hp} {x y : V} {a b : Dat} {k : Bool → Prop} {Q' : VK} (e : Ex F H) (ra : Rep K p F x a) (rb : Rep K p F y b) (h : inS a b k) (hq : ∀ c, k c → Q' (.bl (if neg then !c else c)) H) : rInG K neg x y H Q' := by
  cases b with
  | str z =>
    cases a with
    | str l =>
      match l, h with
      | [c], h =>
        rw [ra.str_of, rb.str_of]
        have h' : k (decide (c ∈ z)) := h
        refine .inl ⟨c, _, rfl, rfl, ?_⟩
        rw [show (Str.mk z.toArray).cps.toList = z from List.toList_toArray]
        exact hq _ h'
    | _ => exact (show False from h).elim
  | tup l =>
    obtain ⟨h1, h2, h3⟩ : flat a = true ∧ l.all flat = true ∧ k (inF a l) := h
    obtain ⟨b, vs, rfl, g1, g2⟩ := rb.tup_of
    obtain ⟨e1, e2⟩ := inF_of ra h1 g2 h2
    exact .inr ⟨b, vs, rfl, .inr (ex_t e g1), flat_of ra h1, e2, by rw [e1]; exact hq _ h3⟩
  | lst l =>
    obtain ⟨h1, h2, h3⟩ : flat a = true ∧ l.all flat = true ∧ k (inF a l) := h
    obtain ⟨b, vs, rfl, g1, g2⟩ := rb.lst_of
    obtain ⟨e1, e2⟩ := inF_of ra h1 g2 h2
    exact .inr ⟨b, vs, rfl, .inl (.of (e _ _ g1)), flat_of ra h1, e2, by rw [e1]; exact hq _ h3⟩
  | _ => exact (show False from h).elim
instance : OV K (rInG K false) aIn := .pure fun e ra rb hf k => inS_ok e ra rb hf fun _ h => k _ _ (.bl _) h
instance : OV K (rInG K true) aNotIn := .pure fun e ra rb hf k => inS_ok e ra rb hf fun _ h => k _ _ (.bl _) h
/-! is None -/
def rIsN : R2 := fun x y H Q => y = .non ∧ Q (.bl (decide (x = .non))) H
def rIsNotN : R2 := fun x y H Q => y = .non ∧ Q (.bl (!decide (x = .non))) H
def isN : Dat → Bool
  | .non => true
  | _ => false
theorem isN_of {p : Amb} {F : Hp} {v : V} {d : Dat} (r : Rep K p F v d) : decide (v = .non) = isN d := by
  cases r <;> first | rfl | exact decide_eq_false (fun z => nomatch z)
def aIsN : OpD := fun a b Q => match b with | .non => Q (.bl (isN a)) | _ => False
def aIsNotN : OpD := fun a b Q => match b with | .non => Q (.bl (!isN a)) | _ => False
theorem op_isNG {X : Cx} : OpR X (compareOp .Is) rIsN := op_isN
theorem op_isNotNG {X : Cx} : OpR X (compareOp .IsNot) rIsNotN := op_notN
instance : OV K rIsN aIsN := .pure fun {p F H QD x y a b Q'} e ra rb hf k => by
  cases b with
  | non => cases rb; exact ⟨rfl, k _ _ (by rw [isN_of ra]; exact .bl _) hf⟩
  | _ => exact hf.elim
instance : OV K rIsNotN aIsNotN := .pure fun {p F H QD x y a b Q'} e ra rb hf k => by
  cases b with
  | non => cases rb; exact ⟨rfl, k _ _ (by rw [isN_of ra]; exact .bl _) hf⟩
  | _ => exact hf.elim
/-! builtins on ints -/
def rAbs : List V → Hp → VK → Prop := fun xs H Q => ∃ i, xs = [.int i] ∧ Q (.int (if i < 0 then -i else i)) H
def rMax2G : List V → Hp → VK → Prop := fun xs H Q => ∃ i j, xs = [.int i, .int j] ∧ Q (.int (if j > i then j else i)) H
def rMin2G : List V → Hp → VK → Prop := fun xs H Q => ∃ i j, xs = [.int i, .int j] ∧ Q (.int (if j < i then j else i)) H
def rInt1 : List V → Hp → VK → Prop := fun xs H Q => (∃ i, xs = [.int i] ∧ Q (.int i) H) ∨ ∃ k, xs = [.bl k] ∧ Q (.int (if k then 1 else 0)) H
theorem call_absG {X : Cx} : CallR X (.builtin "abs") rAbs := call_abs
theorem call_maxG {X : Cx} (hc : X.calm = true) : CallR X (.builtin "max") rMax2G := call_max2 hc
theorem call_minG {X : Cx} (hc : X.calm = true) : CallR X (.builtin "min") rMin2G := call_min2 hc
theorem call_intG {X : Cx} : CallR X (.type "int") rInt1 := call_int1
def aAbs (ds : List Dat) (Q : Dat → Prop) : Prop := as1 ds fun a => asI a fun i => Q (.int (if i < 0 then -i else i))
def aMax (ds : List Dat) (Q : Dat → Prop) : Prop := as2 ds fun a b => asI a fun i => asI b fun j => Q (.int (if j > i then j else i))
def aMin (ds : List Dat) (Q : Dat → Prop) : Prop := as2 ds fun a b => asI a fun i => asI b fun j => Q (.int (if j < i then j else i))
def aInt (ds : List Dat) (Q : Dat → Prop) : Prop := as1 ds fun a =>
  match a with
  | .int i => Q (.int i)
  | .bl b => Q (.int (if b then 1 else 0))
  | _ => False
instance : BV K rAbs aAbs := .pure fun {p F H QD vs ds Q'} e r hf k => by
  obtain ⟨a, rfl, f1⟩ := as1_of hf
  obtain ⟨i, rfl, f2⟩ := asI_of f1
  obtain ⟨v, rfl, rv⟩ := r.one_of
  rw [rv.int_of]
  exact ⟨i, rfl, k _ _ (.int _) f2⟩
instance : BV K rMax2G aMax := .pure fun {p F H QD vs ds Q'} e r hf k => by
  obtain ⟨a, b, rfl, f1⟩ := as2_of hf
  obtain ⟨i, rfl, f2⟩ := asI_of f1
  obtain ⟨j, rfl, f3⟩ := asI_of f2
  obtain ⟨v, u, rfl, rv, ru⟩ := r.two_of
  rw [rv.int_of, ru.int_of]
  exact ⟨i, j, rfl, k _ _ (.int _) f3⟩
instance : BV K rMin2G aMin := .pure fun {p F H QD vs ds Q'} e r hf k => by
  obtain ⟨a, b, rfl, f1⟩ := as2_of hf
  obtain ⟨i, rfl, f2⟩ := asI_of f1
  obtain ⟨j, rfl, f3⟩ := asI_of f2
  obtain ⟨v, u, rfl, rv, ru⟩ := r.two_of
  rw [rv.int_of, ru.int_of]
  exact ⟨i, j, rfl, k _ _ (.int _) f3⟩
instance : BV K rInt1 aInt := .pure fun {p F H QD vs ds Q'} e r hf k => by
  obtain ⟨a, rfl, f1⟩ := as1_of hf
  obtain ⟨v, rfl, rv⟩ := r.one_of
  cases a with
  | int i => rw [rv.int_of]; exact .inl ⟨i, rfl, k _ _ (.int _) f1⟩
  | bl b => rw [rv.bl_of]; exact .inr ⟨b, rfl, k _ _ (.int _) f1⟩
  | _ => exact (show False from f1).elim
/-! len -/
def rLenG (K : PySem.W.Frag) : List V → Hp → VK → Prop := fun xs H Q => ∃ x n, xs = [x] ∧ LenV K x H n ∧ Q (.int n) H
theorem call_lenG {X : Cx} : CallR X (.builtin "len") (rLenG X.K) := call_len
def lenD (a : Dat) (Q : Nat → Prop) : Prop :=
  match a with
  | .str l => l.length ≤ 1000000 ∧ Q l.length
  | .tup l => Q l.length
  | .lst l => Q l.length
  | .fz l => Q l.length
  | _ => False
def aLen (ds : List Dat) (Q : Dat → Prop) : Prop := as1 ds fun a => lenD a fun n => Q (.int (n : Int))
instance : BV K (rLenG K) aLen := .pure fun {p F H QD vs ds Q'} e r hf k => by
  obtain ⟨a, rfl, f1⟩ := as1_of hf
  obtain ⟨v, rfl, rv⟩ := r.one_of
  cases a with
  | str l => rw [rv.str_of]; exact ⟨_, l.length, rfl, ⟨line_of (by rw [str_len]; exact f1.1), by rw [str_len]⟩, k _ _ (.int _) f1.2⟩
  | tup l => obtain ⟨a, ws, rfl, h1, h2⟩ := rv.tup_of; exact ⟨_, l.length, rfl, .inr ⟨ws, ex_t e h1, h2.length.symm⟩, k _ _ (.int _) f1⟩
  | lst l => obtain ⟨a, ws, rfl, h1, h2⟩ := rv.lst_of; exact ⟨_, l.length, rfl, .inl ⟨ws, .of (e _ _ h1), h2.length.symm⟩, k _ _ (.int _) f1⟩
  | fz l => obtain ⟨a, ws, rfl, h1, h2⟩ := rv.fz_of; exact ⟨_, l.length, rfl, .inl ⟨ws, ex_l e h1, h2.length.symm⟩, k _ _ (.int _) f1⟩
  | _ => exact (show False from f1).elim
/-! sum, all, any -/
def listD (a : Dat) (Q : List Dat → Prop) : Prop :=
  match a with
  | .lst l => Q l
  | .fz l => Q l
  | _ => False
theorem listD_of {a : Dat} {Q : List Dat → Prop} (h : listD a Q) : ∃ l, (a = .lst l ∨ a = .fz l) ∧ Q l := by
  cases a with
  | lst l => exact ⟨l, .inl rfl, h⟩
  | fz l => exact ⟨l, .inr rfl, h⟩
  | _ => exact False.elim h
theorem Rep.list_of {p : Amb} {F : Hp} {v : V} {a : Dat} {l : List Dat} (r : Rep K p F v a) (h : a = .lst l ∨ a = .fz l) : ∃ b vs, v = .ref b ∧ SqL K F b vs ∧ Reps K p F vs l := by
  rcases h with rfl | rfl
  · obtain ⟨b, vs, e, h1, h2⟩ := r.lst_of
    exact ⟨b, vs, e, .of h1, h2⟩
  · exact r.fz_of
def isInts : List Dat → Option (List Int)
  | [] => some []
  | .int i :: ds => (isInts ds).map (i :: ·)
  | _ => none
def isBls : List Dat → Option (List Bool)
  | [] => some []
  | .bl i :: ds => (isBls ds).map (i :: ·)
  | _ => none
theorem isInts_map : ∀ l : List Int, isInts (l.map Dat.int) = some l
  | [] => rfl
  | i :: l => by
    show (isInts (l.map Dat.int)).map (i :: ·) = _
    rw [isInts_map l]; rfl
theorem isBls_map : ∀ l : List Bool, isBls (l.map Dat.bl) = some l
  | [] => rfl
  | i :: l => by
    show (isBls (l.map Dat.bl)).map (i :: ·) = _
    rw [isBls_map l]; rfl
theorem Reps.ints_of {p : Amb} {F : Hp} : ∀ {vs : List V} {ds : List Dat} {ns : List Int}, Reps K p F vs ds → isInts ds = some ns → vs = ns.map V.int
  | _, _, _, .nil, h => by cases h; rfl
  | _, d :: ds, _, .cons r1 r2, h => by
    cases d with
    | int i =>
      obtain ⟨ms, h1, rfl⟩ := Option.map_eq_some_iff.mp (show (isInts ds).map (i :: ·) = some _ from h)
      rw [r1.int_of, Reps.ints_of r2 h1]; rfl
    | _ => exact nomatch h
theorem Reps.bls_of {p : Amb} {F : Hp} : ∀ {vs : List V} {ds : List Dat} {ns : List Bool}, Reps K p F vs ds → isBls ds = some ns → vs = ns.map V.bl
  | _, _, _, .nil, h => by cases h; rfl
  | _, d :: ds, _, .cons r1 r2, h => by
    cases d with
    | bl i =>
      obtain ⟨ms, h1, rfl⟩ := Option.map_eq_some_iff.mp (show (isBls ds).map (i :: ·) = some _ from h)
      rw [r1.bl_of, Reps.bls_of r2 h1]; rfl
    | _ => exact nomatch h
def aSum (ds : List Dat) (Q : Dat → Prop) : Prop := as1 ds fun a => listD a fun l => ∃ ns, isInts l = some ns ∧ Q (.int ns.sum)
def aAll (ds : List Dat) (Q : Dat → Prop) : Prop := as1 ds fun a => listD a fun l => ∃ bs, isBls l = some bs ∧ Q (.bl (bs.all id))
def aAny (ds : List Dat) (Q : Dat → Prop) : Prop := as1 ds fun a => listD a fun l => ∃ bs, isBls l = some bs ∧ Q (.bl (bs.any id))
instance : BV K (rSum K) aSum := .pure fun {p F H QD vs ds Q'} e r hf k => by
  obtain ⟨a, rfl, f1⟩ := as1_of hf
  obtain ⟨v, rfl, rv⟩ := r.one_of
  obtain ⟨l, hl, ns, h1, h2⟩ := listD_of f1
  obtain ⟨b, ws, rfl, g1, g2⟩ := rv.list_of hl
  have g3 := g2.ints_of h1
  subst g3
  exact ⟨b, ns, rfl, ex_l e g1, k _ _ (.int _) h2⟩
instance : BV K (rAll K) aAll := .pure fun {p F H QD vs ds Q'} e r hf k => by
  obtain ⟨a, rfl, f1⟩ := as1_of hf
  obtain ⟨v, rfl, rv⟩ := r.one_of
  obtain ⟨l, hl, ns, h1, h2⟩ := listD_of f1
  obtain ⟨b, ws, rfl, g1, g2⟩ := rv.list_of hl
  have g3 := g2.bls_of h1
  subst g3
  exact ⟨b, ns, rfl, ex_l e g1, k _ _ (.bl _) h2⟩
instance : BV K (rAny K) aAny := .pure fun {p F H QD vs ds Q'} e r hf k => by
  obtain ⟨a, rfl, f1⟩ := as1_of hf
  obtain ⟨v, rfl, rv⟩ := r.one_of
  obtain ⟨l, hl, ns, h1, h2⟩ := listD_of f1
  obtain ⟨b, ws, rfl, g1, g2⟩ := rv.list_of hl
  have g3 := g2.bls_of h1
  subst g3
  exact ⟨b, ns, rfl, ex_l e g1, k _ _ (.bl _) h2⟩
/-! isinstance -/
def tyD : Dat → Option String
  | .non => some "NoneType"
  | .bl _ => some "bool"
  | .int _ => some "int"
  | .str _ => some "str"
  | .tup _ => some "tuple"
  | .lst _ => some "list"
  | .dct _ => some "dict"
  | _ => none
def isiB (a n : String) : Bool := a == n || (a == "bool" && n == "int")
theorem kit_all : ∀ a ∈ ["NoneType", "bool", "int", "str", "tuple", "list", "dict"], ∀ n ∈ ["bool", "int", "str", "tuple", "list", "dict"], kitB a n = some (isiB a n) := by decide +kernel
def kinds : List String := ["bool", "int", "str", "tuple", "list", "dict"]
/-- the answer, told by forms -/
def isi (d : Dat) (n : String) : Bool :=
  match d with
  | .bl _ => n == "bool" || n == "int"
  | .int _ => n == "int"
  | .str _ => n == "str"
  | .tup _ => n == "tuple"
  | .lst _ => n == "list"
  | .dct _ => n == "dict"
  | _ => false
def goodTy : Dat → Bool
  | .pot => false
  | .ref _ => false
  | .ty _ => false
  | .fz _ => false
  | .obj _ _ => false
  | .exc _ _ => false
  | .lam _ _ => false
  | .cls _ => false
  | _ => true
def aIsi (ds : List Dat) (Q : Dat → Prop) : Prop := as2 ds fun x c =>
  match c with
  | .ty n => kinds.contains n = true ∧ goodTy x = true ∧ Q (.bl (isi x n))
  | _ => False
theorem tyX_of {p : Amb} {F H : Hp} {v : V} {d : Dat} (e : Ex F H) (r : Rep K p F v d) (h : goodTy d = true) : ∃ a, a ∈ ["NoneType", "bool", "int", "str", "tuple", "list", "dict"] ∧ TyX K H v (.type a) ∧ ∀ n, kinds.contains n = true → isiB a n = isi d n := by
  have nn : ∀ n, kinds.contains n = true → ("NoneType" == n) = false := fun n hn => by
    have : n ∈ kinds := by simpa using hn
    unfold kinds at this
    simp only [List.mem_cons, List.not_mem_nil, or_false] at this
    rcases this with rfl | rfl | rfl | rfl | rfl | rfl <;> decide
  cases r with
  | non => exact ⟨"NoneType", by simp, .base .non, fun n hn => by unfold isiB isi; rw [nn n hn]; rfl⟩
  | bl b => exact ⟨"bool", by simp, .base (.bl b), fun n _ => by
      unfold isiB isi
      rw [show ("bool" == n) = (n == "bool") from BEq.comm, show ("bool" == "bool") = true from rfl, Bool.true_and]⟩
  | int i => exact ⟨"int", by simp, .base (.int i), fun n _ => by
      unfold isiB isi
      rw [show ("int" == n) = (n == "int") from BEq.comm, show ("int" == "bool") = false from rfl, Bool.false_and, Bool.or_false]⟩
  | str s => exact ⟨"str", by simp, .base (.str s), fun n _ => by
      unfold isiB isi
      rw [show ("str" == n) = (n == "str") from BEq.comm, show ("str" == "bool") = false from rfl, Bool.false_and, Bool.or_false]⟩
  | ty n => exact nomatch h
  | tup h1 h2 =>
    refine ⟨"tuple", by simp, ?_, fun n _ => by
      unfold isiB isi
      rw [show ("tuple" == n) = (n == "tuple") from BEq.comm, show ("tuple" == "bool") = false from rfl, Bool.false_and, Bool.or_false]⟩
    rcases h1 with (h1 | ⟨o, h1⟩) | ⟨o, its, n, h1, h3, _⟩
    · exact .base (.tup (e _ _ h1))
    · exact .fTuple (e _ _ h1)
    · exact .kTuple h1 h3
  | lst h1 h2 =>
    exact ⟨"list", by simp, .base (.lst (e _ _ h1)), fun n _ => by
      unfold isiB isi
      rw [show ("list" == n) = (n == "list") from BEq.comm, show ("list" == "bool") = false from rfl, Bool.false_and, Bool.or_false]⟩
  | fz h1 h2 => exact nomatch h
  | pot _ => exact nomatch h
  | ref _ => exact nomatch h
  | obj _ _ _ _ => exact nomatch h
  | exc _ _ _ _ => exact nomatch h
  | lam _ _ => exact nomatch h
  | cls _ => exact nomatch h
  | dct h1 h2 =>
    exact ⟨"dict", by simp, .base (.dK (e _ _ h1)), fun n _ => by
      unfold isiB isi
      rw [show ("dict" == n) = (n == "dict") from BEq.comm, show ("dict" == "bool") = false from rfl, Bool.false_and, Bool.or_false]⟩
instance : BV K (rIsi K) aIsi := .pure fun {p F H QD vs ds Q'} e r hf k => by
  obtain ⟨x, c, rfl, f1⟩ := as2_of hf
  obtain ⟨v, u, rfl, rv, ru⟩ := r.two_of
  cases c with
  | ty n =>
    obtain ⟨h1, h2, h3⟩ : kinds.contains n = true ∧ goodTy x = true ∧ QD (.bl (isi x n)) := f1
    cases ru
    obtain ⟨a, ha, ty, hi⟩ := tyX_of e rv h2
    have hn : n ∈ ["bool", "int", "str", "tuple", "list", "dict"] := by simpa [kinds] using h1
    exact ⟨v, .ty n, _, _, _, rfl, .ty n, ty, kit_ty ((kit_all a ha n hn).trans (congrArg some (hi n h1))), k _ _ (.bl _) h3⟩
  | _ => exact (show False from f1).elim
end
end Dl
-- part Dt
set_option Elab.async false
set_option linter.all false
set_option maxRecDepth 100000
set_option maxHeartbeats 4000000
namespace Dl
open PySem PySem.Spec PyProof.Rows L2 Evl RZ
variable [LawTabs]

section
variable {K : PySem.W.Frag}
/-! ### subscripts, slices -/
theorem atI_len {α β : Type} {xs : List α} {ys : List β} {i : Int} {y : β} (h : xs.length = ys.length) (hy : atI ys i = some y) : ∃ j : Nat, ys[j]? = some y ∧ ∀ x, xs[j]? = some x → atI xs i = some x := by
  unfold atI at hy ⊢
  rw [h]
  cases e : ixN ys.length i with
  | none => rw [e] at hy; exact nomatch hy
  | some j =>
    rw [e] at hy
    exact ⟨j, hy, fun x hx => hx⟩
theorem Reps.at {p : Amb} {F : Hp} {vs : List V} {ds : List Dat} {i : Int} {d : Dat} (r : Reps K p F vs ds) (h : atI ds i = some d) : ∃ v, atI vs i = some v ∧ Rep K p F v d := by
  obtain ⟨j, h1, h2⟩ := atI_len r.length h
  obtain ⟨v, h3, h4⟩ := r.getD h1
  exact ⟨v, h2 v h3, h4⟩
def ixD (a : Dat) (i : Int) (Q : Dat → Prop) : Prop :=
  match a with
  | .tup l => ∃ d, atI l i = some d ∧ Q d
  | .lst l => ∃ d, atI l i = some d ∧ Q d
  | .fz l => ∃ d, atI l i = some d ∧ Q d
  | .str l => l.length ≤ 1000000 ∧ ∃ c, atI l i = some c ∧ Q (.str [c])
  | .pot => if i = 0 then ∀ x, 0 ≤ x → Q (.int x) else if i = 1 then ∀ x, 0 ≤ x → x < 2305843009213693952 → Q (.int x) else i = 2 ∧ ∀ x, 0 ≤ x → x ≤ 1000000 → Q (.int x)
  | _ => False
def aIx : OpD := fun a b Q => asI b fun i => ixD a i Q
instance : OV K (L2.rIx K) aIx := ⟨fun {p H0 F0 F H σ S T QD Q' x y a b} ok ra rb hf k' => by
  have e := ok.hp.fh
  have k : ∀ v d, Rep K p F v d → QD d → Q' v H := fun v d r q => k' v F H d ok (Ex.refl F) r q
  obtain ⟨i, rfl, f1⟩ := asI_of hf
  rw [rb.int_of]
  cases a with
  | tup l =>
    obtain ⟨d, h1, h2⟩ : ∃ d, atI l i = some d ∧ QD d := f1
    obtain ⟨a, vs, rfl, g1, g2⟩ := ra.tup_of
    obtain ⟨v, g3, g4⟩ := g2.at h1
    exact .inr (.inl ⟨a, vs, i, v, rfl, rfl, ex_t e g1, g3, k _ _ g4 h2⟩)
  | lst l =>
    obtain ⟨d, h1, h2⟩ : ∃ d, atI l i = some d ∧ QD d := f1
    obtain ⟨a, vs, rfl, g1, g2⟩ := ra.lst_of
    obtain ⟨v, g3, g4⟩ := g2.at h1
    exact .inl ⟨a, vs, i, v, rfl, rfl, .of (e _ _ g1), g3, k _ _ g4 h2⟩
  | fz l =>
    obtain ⟨d, h1, h2⟩ : ∃ d, atI l i = some d ∧ QD d := f1
    obtain ⟨a, vs, rfl, g1, g2⟩ := ra.fz_of
    obtain ⟨v, g3, g4⟩ := g2.at h1
    exact .inl ⟨a, vs, i, v, rfl, rfl, ex_l e g1, g3, k _ _ g4 h2⟩
  | str l =>
    obtain ⟨h0, c, h1, h2⟩ : l.length ≤ 1000000 ∧ ∃ c, atI l i = some c ∧ QD (.str [c]) := f1
    rw [ra.str_of]
    exact .inr (.inr ⟨_, i, c, rfl, rfl, line_of (by rw [str_len]; exact h0), by simpa using h1, k _ _ (.strL [c]) h2⟩)
  | pot =>
    have f2 : if i = 0 then ∀ x, 0 ≤ x → QD (.int x) else if i = 1 then ∀ x, 0 ≤ x → x < 2305843009213693952 → QD (.int x) else i = 2 ∧ ∀ x, 0 ≤ x → x ≤ 1000000 → QD (.int x) := f1
    cases ra with
    | @pot a hp =>
      obtain ⟨_, _, x, y, z, g1, g2, g3, g4, g5, g6, g7⟩ := ok.hp.pt a hp
      by_cases i0 : i = 0
      · rw [if_pos i0] at f2
        subst i0
        exact .inl ⟨a, _, 0, .int x, rfl, rfl, .of g1, rfl, k _ _ (.int _) (f2 x g2)⟩
      · rw [if_neg i0] at f2
        by_cases i1 : i = 1
        · rw [if_pos i1] at f2
          subst i1
          exact .inl ⟨a, _, 1, .int y, rfl, rfl, .of g1, rfl, k _ _ (.int _) (f2 y g3 g4)⟩
        · rw [if_neg i1] at f2
          obtain ⟨i2, f2⟩ := f2
          subst i2
          exact .inl ⟨a, _, 2, .int z, rfl, rfl, .of g1, rfl, k _ _ (.int _) (f2 z g5 (by omega))⟩
  | _ => exact (show False from f1).elim⟩
def cutN {α : Type} (l : List α) (lo hi : Option Int) : List α := (l.drop (HT.sIx l.length 0 lo)).take (HT.sIx l.length l.length hi - HT.sIx l.length 0 lo)
def rCutG (K : PySem.W.Frag) : V → Option Int → Option Int → Hp → VK → Prop := fun x lo hi H Q => rSlS x lo hi H Q ∨ (rSlL K x lo hi H Q ∨ rSlA K x lo hi H Q)
theorem sl_G {X : Cx} : SlR X (rCutG X.K) := sl_str.or (sl_list.or sl_tupA)
def cutDd (a : Dat) (lo hi : Option Int) (Q : Dat → Prop) : Prop :=
  match a with
  | .str l => l.length ≤ 1000000 ∧ Q (.str (cutN l lo hi))
  | .lst l => Q (.lst (cutN l lo hi))
  | .fz l => Q (.lst (cutN l lo hi))
  | .tup l => Q (.tup (cutN l lo hi))
  | _ => False
theorem cut_len {vs : List V} {ds : List Dat} {p : Amb} {F : Hp} (r : Reps K p F vs ds) (lo hi : Option Int) : Reps K p F (cutV vs lo hi) (cutN ds lo hi) := by
  unfold cutV cutN
  rw [r.length]
  exact (r.drop _).take _
theorem cut_whole {α : Type} {l : List α} {lo hi : Option Int} (h : HT.sIx l.length 0 lo = 0 ∧ HT.sIx l.length l.length hi = l.length) : cutN l lo hi = l := by
  unfold cutN
  rw [h.1, h.2]
  simp
theorem cutS_eq (l : List Nat) (lo hi : Option Int) : cutS ⟨l.toArray⟩ lo hi = ⟨(cutN l lo hi).toArray⟩ := by
  unfold cutS cutN
  rw [str_len]
instance : CT K (rCutG K) cutDd := ⟨fun {p H0 F0 F H σ S T QD Q' x a lo hi} ok ra hf k => by
  cases a with
  | str l =>
    rw [ra.str_of]
    exact .inl ⟨_, rfl, line_of (by rw [str_len]; exact hf.1), by rw [cutS_eq]; exact k _ F H _ ok (Ex.refl F) (.strL _) hf.2⟩
  | lst l =>
    obtain ⟨a, vs, rfl, g1, g2⟩ := ra.lst_of
    refine .inr (.inl ⟨a, vs, rfl, .of (ok.hp.fh _ _ g1), fun q hq => ?_⟩)
    have e := Ex.new (o := HO.lst (cutV vs lo hi)) (ok.hp.freeF hq)
    exact k _ _ _ _ (ok.lay hq) e (.lst upd_same (cut_len (g2.mono e) lo hi)) hf
  | fz l =>
    obtain ⟨a, vs, rfl, g1, g2⟩ := ra.fz_of
    refine .inr (.inl ⟨a, vs, rfl, ex_l ok.hp.fh g1, fun q hq => ?_⟩)
    have e := Ex.new (o := HO.lst (cutV vs lo hi)) (ok.hp.freeF hq)
    exact k _ _ _ _ (ok.lay hq) e (.lst upd_same (cut_len (g2.mono e) lo hi)) hf
  | tup l =>
    obtain ⟨a, vs, rfl, g1, g2⟩ := ra.tup_of
    refine .inr (.inr ⟨a, vs, rfl, ex_t ok.hp.fh g1, fun hw => ?_, fun hw q hq => ?_⟩)
    · rw [g2.length] at hw
      have hf2 : QD (.tup (cutN l lo hi)) := hf
      rw [cut_whole hw] at hf2
      exact k _ F H _ ok (Ex.refl F) (.tup g1 g2) hf2
    · have e := Ex.new (o := HO.tup (cutV vs lo hi)) (ok.hp.freeF hq)
      exact k _ _ _ _ (ok.lay hq) e (.tup (.inl (.inl upd_same)) (cut_len (g2.mono e) lo hi)) hf
  | _ => exact (show False from hf).elim⟩
/-! ### list(..), tuple(..) -/
def rListQ (K : PySem.W.Frag) : List V → Hp → VK → Prop := fun xs H Q => ∃ p ys, xs = [.ref p] ∧ (SqL K H p ys ∨ SqT K H p ys) ∧ ∀ l, H l = none → Q (.ref l) (upd H l (.lst ys))
def rListG (K : PySem.W.Frag) : List V → Hp → VK → Prop := fun xs H Q => rListS xs H Q ∨ rListQ K xs H Q
theorem call_listG {X : Cx} (hc : X.calm = true) : CallR X (.type "list") (rListG X.K) := by
  intro pins s σ H xs us Q I r h
  rcases h with h | h
  · exact call_listS hc pins s σ H xs us Q I r h
  · exact call_list_of pins s σ H xs us Q I r h
def itemsQ (a : Dat) (Q : List Dat → Prop) : Prop :=
  match a with
  | .str l => l.length ≤ 1000000 ∧ Q (signsD l)
  | .tup l => Q l
  | .lst l => Q l
  | .fz l => Q l
  | _ => False
def aListOf (ds : List Dat) (Q : List Dat → Prop) : Prop := as1 ds fun a => itemsQ a Q
theorem reps_signs {p : Amb} {F : Hp} : ∀ l : List Nat, Reps K p F (l.map fun c => V.str ⟨#[c]⟩) (signsD l)
  | [] => .nil
  | c :: l => .cons (.strL [c]) (reps_signs l)
instance : BF K (rListG K) aListOf := ⟨fun {p H0 F0 F H σ S T QD Q' vs ds} ok r hf k => by
  obtain ⟨a, rfl, f1⟩ := as1_of hf
  obtain ⟨v, rfl, rv⟩ := r.one_of
  cases a with
  | str l =>
    rw [rv.str_of]
    refine .inl ⟨_, rfl, line_of (by rw [str_len]; exact f1.1), fun q hq => ?_⟩
    exact k q _ F _ _ (ok.layT hq) (Ex.refl F) (by rw [show (Str.mk l.toArray).cps.toList = l from List.toList_toArray]; exact reps_signs l) f1.2
  | tup l =>
    obtain ⟨a, ws, rfl, g1, g2⟩ := rv.tup_of
    exact .inr ⟨a, ws, rfl, .inr (ex_t ok.hp.fh g1), fun q hq => k q ws F _ _ (ok.layT hq) (Ex.refl F) g2 f1⟩
  | lst l =>
    obtain ⟨a, ws, rfl, g1, g2⟩ := rv.lst_of
    exact .inr ⟨a, ws, rfl, .inl (.of (ok.hp.fh _ _ g1)), fun q hq => k q ws F _ _ (ok.layT hq) (Ex.refl F) g2 f1⟩
  | fz l =>
    obtain ⟨a, ws, rfl, g1, g2⟩ := rv.fz_of
    exact .inr ⟨a, ws, rfl, .inl (ex_l ok.hp.fh g1), fun q hq => k q ws F _ _ (ok.layT hq) (Ex.refl F) g2 f1⟩
  | _ => exact (show False from f1).elim⟩
def rTupG (K : PySem.W.Frag) : List V → Hp → VK → Prop := fun xs H Q => ∃ p ys, xs = [.ref p] ∧ ((SqL K H p ys ∧ ∀ l, H l = none → Q (.ref l) (upd H l (.tup ys))) ∨ (SqT K H p ys ∧ Q (.ref p) H))
theorem call_tupG {X : Cx} : CallR X (.type "tuple") (rTupG X.K) := call_tuple_of
def aTupOf (ds : List Dat) (Q : Dat → Prop) : Prop := as1 ds fun a =>
  match a with
  | .lst l => Q (.tup l)
  | .tup l => Q (.tup l)
  | _ => False
instance : BV K (rTupG K) aTupOf := ⟨fun {p H0 F0 F H σ S T QD Q' vs ds} ok r hf k => by
  obtain ⟨a, rfl, f1⟩ := as1_of hf
  obtain ⟨v, rfl, rv⟩ := r.one_of
  cases a with
  | tup l =>
    obtain ⟨a, ws, rfl, g1, g2⟩ := rv.tup_of
    exact ⟨a, ws, rfl, .inr ⟨ex_t ok.hp.fh g1, k _ F H _ ok (Ex.refl F) (.tup g1 g2) f1⟩⟩
  | lst l =>
    obtain ⟨a, ws, rfl, g1, g2⟩ := rv.lst_of
    refine ⟨a, ws, rfl, .inl ⟨.of (ok.hp.fh _ _ g1), fun q hq => ?_⟩⟩
    have e := Ex.new (o := HO.tup ws) (ok.hp.freeF hq)
    exact k _ _ _ _ (ok.lay hq) e (.tup (.inl (.inl upd_same)) (g2.mono e)) f1
  | _ => exact (show False from f1).elim⟩
/-- list(range(n)) -/
def wListRg (we : WE) : WF := fun S Q => we S fun d S1 => asI d fun n => (0 ≤ n ∧ n ≤ 1000000) ∧ Q (intsD 0 n.toNat) S1
theorem reps_rg {p : Amb} {F : Hp} {lo : Int} (n : Nat) : Reps K p F ((List.range n).map fun (i : Nat) => V.int (lo + (i : Int))) (intsD lo n) := by
  unfold intsD
  induction List.range n with
  | nil => exact .nil
  | cons i l ih => exact .cons (.int _) ih
instance {ta : TE} {wa : WE} [a : EV K ta wa] : EF K (tLstRg (tRg1 ta)) (wListRg wa) := ⟨fun {p H0 F0 F H σ S T Q Q'} ok hw k =>
  a.run ok hw fun v F1 H1 S1 d ok1 e1 r1 q1 => by
    obtain ⟨n, rfl, h1, h2⟩ := asI_of q1
    refine ⟨n, r1.int_of, RgOk.of_le (by omega) (by omega) (by omega) (by omega), fun q hq => k q _ F1 _ _ _ (ok1.layT hq) e1 ?_ h2⟩
    unfold rgV
    rw [Int.sub_zero]
    exact reps_rg _⟩
/-! ### texts -/
def rJoin (K : PySem.W.Frag) : V → List V → Hp → VK → Prop := fun x xs H Q => ∃ a p, ∃ ys : List Str, x = .str a ∧ xs = [.ref p] ∧ (SqL K H p (ys.map V.str) ∨ SqT K H p (ys.map V.str)) ∧
    (ys.map (·.length)).sum + ys.length * a.length ≤ 16777216 ∧ Q (.str (Txt.join a ys)) H
theorem mt_joinG {X : Cx} : MtR X "str.join" (rJoin X.K) := mt_join
def isStrs : List Dat → Option (List (List Nat))
  | [] => some []
  | .str i :: ds => (isStrs ds).map (i :: ·)
  | _ => none
theorem isStrs_map : ∀ l : List (List Nat), isStrs (l.map Dat.str) = some l
  | [] => rfl
  | i :: l => by
    show (isStrs (l.map Dat.str)).map (i :: ·) = _
    rw [isStrs_map l]; rfl
theorem Reps.strs_of {p : Amb} {F : Hp} : ∀ {vs : List V} {ds : List Dat} {ns : List (List Nat)}, Reps K p F vs ds → isStrs ds = some ns → vs = (ns.map fun l => Str.mk l.toArray).map V.str
  | _, _, _, .nil, h => by cases h; rfl
  | _, d :: ds, _, .cons r1 r2, h => by
    cases d with
    | str i =>
      obtain ⟨ms, h1, rfl⟩ := Option.map_eq_some_iff.mp (show (isStrs ds).map (i :: ·) = some _ from h)
      rw [r1.str_of, Reps.strs_of r2 h1]; rfl
    | _ => exact nomatch h
def joinN (s : List Nat) : List (List Nat) → List Nat
  | [] => []
  | [a] => a
  | a :: b :: r => a ++ (s ++ joinN s (b :: r))
theorem join_eq (s : List Nat) (ys : List (List Nat)) : (Txt.join ⟨s.toArray⟩ (ys.map fun l => Str.mk l.toArray)).cps.toList = joinN s ys := by
  rw [TL.join_eq]
  have h := TL.tl_join ⟨s.toArray⟩ (ys.map fun l => Str.mk l.toArray)
  refine h.trans ?_
  rw [List.map_map]
  have e : (TL.tl ∘ fun l : List Nat => Str.mk l.toArray) = id := by funext l; simp [TL.tl]
  rw [e, List.map_id]
  have go : ∀ ys : List (List Nat), TL.joinL s ys = joinN s ys := by
    intro ys
    induction ys with
    | nil => rfl
    | cons a r ih =>
      cases r with
      | nil => rfl
      | cons b r =>
        show a ++ (s ++ TL.joinL s (b :: r)) = a ++ (s ++ joinN s (b :: r))
        rw [ih]
  exact go ys
def joinD (a : Dat) (ds : List Dat) (Q : Dat → Prop) : Prop :=
  match a with
  | .str s => as1 ds fun b => itemsD b fun l => ∃ ys, isStrs l = some ys ∧ ((ys.map (·.length)).sum + ys.length * s.length ≤ 1000000) ∧ Q (.str (joinN s ys))
  | _ => False
theorem itemsD_of {a : Dat} {Q : List Dat → Prop} (h : itemsD a Q) : ∃ l, (a = .lst l ∨ a = .tup l) ∧ Q l := by
  cases a with
  | lst l => exact ⟨l, .inl rfl, h⟩
  | tup l => exact ⟨l, .inr rfl, h⟩
  | _ => exact False.elim h
instance : MV K "str" (rJoin K) tStr joinD where
  ty := fun {p F H x a} e ra hf => by
    cases a with
    | str l => rw [ra.str_of]; exact rfl
    | _ => exact (show False from hf).elim
  run := fun {p H0 F0 F H σ S T QD Q' x a vs ds} ok ra r hf k => by
    cases a with
    | str s =>
      obtain ⟨b, rfl, f1⟩ := as1_of (show as1 ds _ from hf)
      obtain ⟨l, hl, ys, h1, h2, h3⟩ := itemsD_of f1
      obtain ⟨v, rfl, rv⟩ := r.one_of
      rw [ra.str_of]
      have hq : Q' (.str (Txt.join ⟨s.toArray⟩ (ys.map fun l => Str.mk l.toArray))) H := by
        refine k _ F H _ ok (Ex.refl F) ?_ h3
        rw [← join_eq]
        exact .str _
      have hz : ((ys.map fun l => Str.mk l.toArray).map (·.length)).sum + (ys.map fun l => Str.mk l.toArray).length * (Str.mk s.toArray).length ≤ 16777216 := by
        rw [List.map_map, List.length_map, str_len]
        have e : ((fun z : Str => z.length) ∘ fun l : List Nat => Str.mk l.toArray) = fun l => l.length := by
          funext l; exact str_len l
        rw [e]
        omega
      rcases hl with rfl | rfl
      · obtain ⟨b, ws, rfl, g1, g2⟩ := rv.lst_of
        have g3 := g2.strs_of h1
        subst g3
        exact ⟨_, b, _, rfl, rfl, .inl (.of (ok.hp.fh _ _ g1)), hz, hq⟩
      · obtain ⟨b, ws, rfl, g1, g2⟩ := rv.tup_of
        have g3 := g2.strs_of h1
        subst g3
        exact ⟨_, b, _, rfl, rfl, .inr (ex_t ok.hp.fh g1), hz, hq⟩
    | _ => exact (show False from hf).elim
/-- s.index(t), found -/
def rIdxS : V → List V → Hp → VK → Prop := fun x xs H Q => ∃ (a b : Str) (k : Nat), x = .str a ∧ xs = [.str b] ∧ Txt.index0 a b = some k ∧ Q (.int (k : Nat)) H
theorem mt_idxS {X : Cx} (hc : X.calm = true) : MtR X "str.index" rIdxS := fun pins s σ H x xs v us Q I rx rs h => by
  obtain ⟨a, b, k, e1, e2, e3, q⟩ := h
  refine mt_indexX (W := fun _ _ _ _ => False) hc takes0 pins s σ H x xs v us Q I rx rs ⟨a, b, e1, e2, fun j hj => ?_, fun hn => ?_⟩
  · rw [e3] at hj
    cases hj
    exact q
  · rw [e3] at hn
    cases hn
def idxS (a : Dat) (ds : List Dat) (Q : Dat → Prop) : Prop :=
  match a with
  | .str s => as1 ds fun b => match b with
    | .str t => ∃ k, Txt.index0 ⟨s.toArray⟩ ⟨t.toArray⟩ = some k ∧ Q (.int (k : Int))
    | _ => False
  | _ => False
instance : MV K "str" rIdxS tStr idxS where
  ty := fun {p F H x a} e ra hf => by
    cases a with
    | str l => rw [ra.str_of]; exact rfl
    | _ => exact (show False from hf).elim
  run := fun {p H0 F0 F H σ S T QD Q' x a vs ds} ok ra r hf k => by
    cases a with
    | str s =>
      obtain ⟨b, rfl, f1⟩ := as1_of (show as1 ds _ from hf)
      obtain ⟨v, rfl, rv⟩ := r.one_of
      cases b with
      | str t =>
        obtain ⟨j, h1, h2⟩ : ∃ k, Txt.index0 ⟨s.toArray⟩ ⟨t.toArray⟩ = some k ∧ QD (.int (k : Int)) := f1
        rw [ra.str_of, rv.str_of]
        exact ⟨_, _, j, rfl, rfl, h1, k _ F H _ ok (Ex.refl F) (.int _) h2⟩
      | _ => exact (show False from f1).elim
    | _ => exact (show False from hf).elim
/-! ### whatever is walked: a list, a tuple, a text -/
def iAny (K : PySem.W.Frag) (tl : TE) : TI := fun σ H R => tl σ H fun x H1 =>
  (∃ a, x = .ref a ∧ (∃ xs, SqL K H1 a xs) ∧ R (Itl K a) H1) ∨ ((∃ a, x = .ref a ∧ (∃ xs, SqT K H1 a xs) ∧ R (Itt K a) H1) ∨ ∃ z, x = .str z ∧ R (Its z) H1)
theorem pi_any {X : Cx} {tg l : Expr} {tl : TE} (hl : PE X l tl) : PI X tg l (iAny X.K tl) := by
  refine ⟨fun pn s0 st H0 R I0 hw => ?_⟩
  refine thn (hl.run pn s0 st H0 _ I0 hw) fun val s2 hv => ?_
  obtain ⟨x, H2, I2, rx, hx⟩ := hv
  have old : ∀ (b : Addr) (o : Obj) (oo : Obj), s2.heap.get? b = some o → (s2.heap.push oo).get? b = some o := fun b o oo e => Heap.get?_push_of_some _ e
  have only : ∀ b, b ∈ [s2.heap.objs.size] → FpOk X pn H2 b := fun b hb => by
    have hbs : b = s2.heap.objs.size := by simpa using hb
    rw [hbs]
    exact I2.fpOk (Nat.le_refl _) (I2.hok.fresh (Nat.le_refl _))
  rcases hx with ⟨a, rfl, ⟨xs, hq⟩, hR⟩ | ⟨a, rfl, ⟨xs, hq⟩, hR⟩ | ⟨z, rfl, hR⟩
  · cases rx
    obtain ⟨ls, _, pl, _⟩ := I2.list hq
    exact wpAny_pyIter_list pl.isList ⟨_, [s2.heap.objs.size], _, _, H2, rfl, I2.kept (t' := s2.toks) fun b o e => old b o _ e, turn_list a _, ⟨_, Heap.get?_push_size _ rfl, rfl, rfl⟩, only, hR⟩
  · cases rx
    obtain ⟨ls, _, pl, _⟩ := I2.tuple hq
    exact wpAny_pyIter_tuple (show s2.heap.IsTuple a ls.toArray from pl) ⟨_, [s2.heap.objs.size], _, _, H2, rfl, I2.kept (t' := s2.toks) fun b o e => old b o _ e, turn_tuple a _, ⟨_, Heap.get?_push_size _ rfl, rfl, rfl⟩, only, hR⟩
  · obtain ⟨tk0, rfl⟩ := rx
    cases hasc : z.cps.all (· < 128) with
    | true => exact wpAny_pyIter_ascii hasc (pi_one (tk := s2.toks) I2 _ (turn_str _ z tk0 "str_ascii_iterator" (.inl rfl)) ⟨_, Heap.get?_push_size _ rfl, rfl, rfl⟩ hR)
    | false => exact wpAny_pyIter_wide hasc (pi_one (tk := s2.toks) I2 _ (turn_str _ z tk0 "str_iterator" (.inr rfl)) ⟨_, Heap.get?_push_size _ rfl, rfl, rfl⟩ hR)
def wAnyIt (we : WE) : WF := fun S Q => we S fun d S1 =>
  match d with
  | .lst l => Q l S1
  | .fz l => Q l S1
  | .tup l => Q l S1
  | .str l => Q (signsD l) S1
  | _ => False
theorem itl_ok {p : Amb} {F : Hp} {a : Addr} {vs : List V} {l : List Dat} (h1 : SqL K F a vs) (h2 : Reps K p F vs l) : ItOk K p F (Itl K a) l := fun F' H' e e' => by
  have sa : SqL K H' a vs := ex_l e' (ex_l e h1)
  refine ⟨fun i d hd => ?_, fun i hi => ⟨vs, sa, by rw [h2.length]; exact hi⟩⟩
  obtain ⟨v, hv, rv⟩ := h2.getD hd
  refine ⟨⟨vs, v, sa, hv⟩, fun x H'' hy => .inl ⟨hy.1, ?_⟩⟩
  have q := hy.2 vs sa
  rw [hv] at q
  cases q
  exact rv.mono e
theorem itt_ok {p : Amb} {F : Hp} {a : Addr} {vs : List V} {l : List Dat} (h1 : SqT K F a vs) (h2 : Reps K p F vs l) : ItOk K p F (Itt K a) l := fun F' H' e e' => by
  have sa : SqT K H' a vs := ex_t e' (ex_t e h1)
  refine ⟨fun i d hd => ?_, fun i hi => ⟨vs, sa, by rw [h2.length]; exact hi⟩⟩
  obtain ⟨v, hv, rv⟩ := h2.getD hd
  refine ⟨⟨vs, v, sa, hv⟩, fun x H'' hy => .inl ⟨hy.1, ?_⟩⟩
  have q := hy.2 vs sa
  rw [hv] at q
  cases q
  exact rv.mono e
theorem its_ok {p : Amb} {F : Hp} (z : List Nat) : ItOk K p F (Its ⟨z.toArray⟩) (signsD z) := fun F' H' e e' => by
  refine ⟨fun i d hd => ?_, fun i hi => ?_⟩
  · unfold signsD at hd
    rw [List.getElem?_map] at hd
    obtain ⟨c, hc, rfl⟩ := Option.map_eq_some_iff.mp hd
    have hc' : z.toArray[i]? = some c := by simpa using hc
    refine ⟨(Array.getElem?_eq_some_iff.mp hc').1, fun x H'' hy => ?_⟩
    obtain ⟨h1, c2, h2, h3⟩ := hy
    rw [hc'] at h2
    cases h2
    exact .inl ⟨h1, by rw [h3]; exact .strL _⟩
  · show z.toArray.size ≤ i
    unfold signsD at hi
    simpa using hi
instance iv_any {te : TE} {we : WE} [a : EV K te we] : IV K (iAny K te) (wAnyIt we) := ⟨fun {p H0 F0 F H σ S T Q R} ok hw k =>
  a.run ok hw fun v F1 H1 S1 d ok1 e1 r1 q1 => by
    cases d with
    | tup l =>
      obtain ⟨a, vs, rfl, h1, h2⟩ := r1.tup_of
      exact .inr (.inl ⟨a, rfl, ⟨vs, ex_t ok1.hp.fh h1⟩, k _ F1 H1 S1 l ok1 e1 (itt_ok h1 h2) q1⟩)
    | lst l =>
      obtain ⟨a, vs, rfl, h1, h2⟩ := r1.lst_of
      exact .inl ⟨a, rfl, ⟨vs, .of (ok1.hp.fh _ _ h1)⟩, k _ F1 H1 S1 l ok1 e1 (itl_ok (.of h1) h2) q1⟩
    | fz l =>
      obtain ⟨a, vs, rfl, h1, h2⟩ := r1.fz_of
      exact .inl ⟨a, rfl, ⟨vs, ex_l ok1.hp.fh h1⟩, k _ F1 H1 S1 l ok1 e1 (itl_ok h1 h2) q1⟩
    | str z =>
      rw [r1.str_of]
      exact .inr (.inr ⟨_, rfl, k _ F1 H1 S1 _ ok1 e1 (its_ok z) q1⟩)
    | _ => exact q1.elim⟩
/-! ### zip, enumerate -/
def zipD : List Dat → List Dat → List Dat
  | a :: l, b :: m => .tup [a, b] :: zipD l m
  | _, _ => []
theorem zipD_get : ∀ {l m : List Dat} {i : Nat} {d : Dat}, (zipD l m)[i]? = some d → ∃ a b, l[i]? = some a ∧ m[i]? = some b ∧ d = .tup [a, b]
  | [], _, _, _, h => by simp [zipD] at h
  | _ :: _, [], _, _, h => by simp [zipD] at h
  | a :: l, b :: m, 0, d, h => by
    simp [zipD] at h
    exact ⟨a, b, rfl, rfl, h.symm⟩
  | a :: l, b :: m, i + 1, d, h => by
    have h' : (zipD l m)[i]? = some d := by simpa [zipD] using h
    obtain ⟨x, y, h1, h2, h3⟩ := zipD_get h'
    exact ⟨x, y, by simpa using h1, by simpa using h2, h3⟩
theorem zipD_len : ∀ (l m : List Dat), (zipD l m).length = min l.length m.length
  | [], _ => by simp [zipD]
  | _ :: _, [] => by simp [zipD]
  | a :: l, b :: m => by
    show (zipD l m).length + 1 = min (l.length + 1) (m.length + 1)
    rw [zipD_len l m]
    omega
def wZip (wa : WF) : WF := fun S Q => wa S fun ds S1 => as2 ds fun a b =>
  match a with
  | .tup l => (match b with | .tup m => Q (zipD l m) S1 | _ => False)
  | .lst l => (match b with | .lst m => Q (zipD l m) S1 | _ => False)
  | _ => False
theorem itz_l {p : Amb} {F : Hp} {a b : Addr} {vs ws : List V} {l m : List Dat} (ha : F a = some (.lst vs)) (hb : F b = some (.lst ws)) (r1 : Reps K p F vs l) (r2 : Reps K p F ws m) : ItOk K p F (Itz K a b) (zipD l m) := fun F' H' e e' => by
  have sa : SqL K H' a vs := .of (e' _ _ (e _ _ ha))
  have sb : SqL K H' b ws := .of (e' _ _ (e _ _ hb))
  refine ⟨fun i d hd => ?_, fun i hi => ⟨vs, ws, sa, sb, ?_⟩⟩
  · obtain ⟨x, y, h1, h2, rfl⟩ := zipD_get hd
    obtain ⟨v, h3, h4⟩ := r1.getD h1
    obtain ⟨u, h5, h6⟩ := r2.getD h2
    refine ⟨⟨vs, ws, v, u, sa, sb, h3, h5⟩, fun z H'' hy => ?_⟩
    obtain ⟨T, x1, x2, q1, q2, q3, q4, q5⟩ := hy
    have g1 := q4 vs sa
    have g2 := q5 ws sb
    rw [h3] at g1
    rw [h5] at g2
    cases g1
    cases g2
    exact .inr ⟨T, _, _, q2, q3, q1, rfl, .cons (h4.mono e) (.one (h6.mono e))⟩
  · rw [zipD_len] at hi
    rw [r1.length, r2.length]
    omega
theorem itz_t {p : Amb} {F : Hp} {a b : Addr} {vs ws : List V} {l m : List Dat} (ha : SqT K F a vs) (hb : SqT K F b ws) (r1 : Reps K p F vs l) (r2 : Reps K p F ws m) : ItOk K p F (ItzT K a b) (zipD l m) := fun F' H' e e' => by
  have sa : SqT K H' a vs := ex_t e' (ex_t e ha)
  have sb : SqT K H' b ws := ex_t e' (ex_t e hb)
  refine ⟨fun i d hd => ?_, fun i hi => ⟨vs, ws, sa, sb, ?_⟩⟩
  · obtain ⟨x, y, h1, h2, rfl⟩ := zipD_get hd
    obtain ⟨v, h3, h4⟩ := r1.getD h1
    obtain ⟨u, h5, h6⟩ := r2.getD h2
    refine ⟨⟨vs, ws, v, u, sa, sb, h3, h5⟩, fun z H'' hy => ?_⟩
    obtain ⟨T, x1, x2, q1, q2, q3, q4, q5⟩ := hy
    have g1 := q4 vs sa
    have g2 := q5 ws sb
    rw [h3] at g1
    rw [h5] at g2
    cases g1
    cases g2
    exact .inr ⟨T, _, _, q2, q3, q1, rfl, .cons (h4.mono e) (.one (h6.mono e))⟩
  · rw [zipD_len] at hi
    rw [r1.length, r2.length]
    omega
instance iv_zip {ta : TA} {wa : WF} [a : AV K ta wa] : IV K (iZipA K ta) (wZip wa) := ⟨fun {p H0 F0 F H σ S T Q R} ok hw k =>
  a.run ok hw fun vs F1 H1 S1 ds ok1 e1 r1 q1 => by
    obtain ⟨x, y, rfl, f1⟩ := as2_of q1
    obtain ⟨v, u, rfl, rv, ru⟩ := r1.two_of
    cases x with
    | tup l =>
      cases y with
      | tup m =>
        obtain ⟨a, xs, rfl, g1, g2⟩ := rv.tup_of
        obtain ⟨b, ys, rfl, h1, h2⟩ := ru.tup_of
        exact ⟨a, b, xs, ys, rfl, .inr ⟨ex_t ok1.hp.fh g1, ex_t ok1.hp.fh h1, k _ F1 H1 S1 _ ok1 e1 (itz_t g1 h1 g2 h2) f1⟩⟩
      | _ => exact (show False from f1).elim
    | lst l =>
      cases y with
      | lst m =>
        obtain ⟨a, xs, rfl, g1, g2⟩ := rv.lst_of
        obtain ⟨b, ys, rfl, h1, h2⟩ := ru.lst_of
        exact ⟨a, b, xs, ys, rfl, .inl ⟨.of (ok1.hp.fh _ _ g1), .of (ok1.hp.fh _ _ h1), k _ F1 H1 S1 _ ok1 e1 (itz_l g1 h1 g2 h2) f1⟩⟩
      | _ => exact (show False from f1).elim
    | _ => exact (show False from f1).elim⟩
end
end Dl
-- part Du
set_option Elab.async false
set_option linter.all false
set_option maxRecDepth 100000
set_option maxHeartbeats 4000000
namespace Dl
open PySem PySem.Spec PyProof.Rows L2 Evl RZ
variable [LawTabs]

section
variable {K : PySem.W.Frag} {W : WX} {p : Amb} {H0 F0 F H : Hp} {σ : L2.St} {S : Sx} {T : List (Addr × List V)}
/-- the draws' list is written -/
theorem HpOk.setPot {n n' : Nat} (h : HpOk p H0 F0 F H n) {a : Addr} (hp : p.pot = some a) {vs : List V} (hq : PotAt (upd H a (.lst vs)) a n') : HpOk p H0 F0 F (upd H a (.lst vs)) n' := by
  obtain ⟨p1, p2, x0, y0, z0, h3, _⟩ := h.pt a hp
  have nb : ∀ {b : Addr} {ps : Array Value}, H b = some (.tbl ps) → b ≠ a := fun {b ps} q e => by
    rw [e, h3] at q; cases q
  refine ⟨fun b o hb ht q => ?_, fun b ps q => ?_, fun t ht => (h.ts t ht).step (Ex.refl _) fun ps z => by rw [upd_ne (nb z)]; exact z, h.nt, h.f0, h.fr, fun b o q => ?_, fun b hb => ?_⟩
  · rw [upd_ne (fun e => hb (by rw [hp, e]))]
    exact h.e0 b o hb ht q
  · obtain ⟨m, z⟩ := h.tb b ps q
    exact ⟨m, by rw [upd_ne (nb z)]; exact z⟩
  · rw [upd_ne (ne_of_none q p1)]
    exact h.fh b o q
  · have : b = a := by rw [hp] at hb; exact (Option.some.inj hb).symm
    subst this
    exact ⟨p1, p2, hq⟩
theorem Ok.setPot (h : Ok K p H0 F0 F H σ S T) {a : Addr} (hp : p.pot = some a) {n' : Nat} {vs : List V} (hq : PotAt (upd H a (.lst vs)) a n') : Ok K p H0 F0 F (upd H a (.lst vs)) σ ⟨S.sl, n'⟩ T := by
  obtain ⟨_, p2, _⟩ := h.hp.pt a hp
  refine h.stepN (Ex.refl F) (h.hp.setPot hp hq) fun b u _ h1 h2 h3 => ⟨h2, ?_⟩
  have hb : b ≠ a := fun e => by subst e; exact p2 h1
  rw [upd_ne hb]
  exact h3
/-- x[k] = e: the draws' list at 0, or a list of one's own -/
def setW (i : Nat) (k : Int) (d : Dat) (S : Sx) (Q : Sx → Prop) : Prop :=
  match S.sl[i]? with
  | some (.im .pot) => k = 0 ∧ asI d fun x => 0 ≤ x ∧ Q S
  | some (.ow l) => ∃ j, ixN l.length k = some j ∧ Q ⟨S.sl.set i (.ow (l.set j d)), S.n⟩
  | _ => False
def slotSet : Option Sl → Prop
  | some (.im _) => True
  | some (.ow _) => True
  | _ => False
def wSet (i : Nat) (we wk : WE) : WS := fun D S => we S fun d S1 => slotSet S1.sl[i]? ∧ wk S1 fun k S2 => asI k fun k => setW i k d S2 D.nx
theorem Reps.set {vs : List V} {ds : List Dat} {v : V} {d : Dat} (r : Reps K p F vs ds) (q : Rep K p F v d) : ∀ j : Nat, Reps K p F (vs.set j v) (ds.set j d) := fun j => by
  induction j generalizing vs ds with
  | zero =>
    cases r with
    | nil => exact .nil
    | cons r s => exact .cons q s
  | succ j ih =>
    cases r with
    | nil => exact .nil
    | cons r s => exact .cons r (ih s)
/-- the target's name is read ahead of the index -/
instance sv_set {i : Nat} {te tk : TE} {we wk : WE} [a : EV K te we] [b : EV K tk wk] : SV K W (tAsg te (gSub (tVar i) tk rSetL)) (wSet i we wk) := ⟨fun {p H0 F0 F H σ S D D'} ok hw c => by
  refine a.run ok hw fun v F1 H1 S1 d ok1 e1 r1 q1 => ?_
  obtain ⟨q0, q1⟩ := q1
  have hv : ∃ u, σ[i]? = some (some u) := by
    cases hs : S1.sl[i]? with
    | none => rw [hs] at q0; exact q0.elim
    | some s =>
      have := ok1.sl i s hs
      cases s with
      | un => rw [hs] at q0; exact q0.elim
      | im e => obtain ⟨u, h1, _⟩ := this; exact ⟨u, h1⟩
      | ow l => obtain ⟨u, _, h1, _⟩ := this; exact ⟨_, h1⟩
      | od l => rw [hs] at q0; exact q0.elim
      | nw x y l => rw [hs] at q0; exact q0.elim
  obtain ⟨u, hu⟩ := hv
  refine ⟨u, hu, b.run ok1 q1 fun kv F2 H2 S2 kd ok2 e2 r2 q2 => ?_⟩
  obtain ⟨k, rfl, q3⟩ := asI_of q2
  have hk := r2.int_of
  unfold setW at q3
  split at q3
  · rename_i hs
    obtain ⟨rfl, q4⟩ := q3
    obtain ⟨x, rfl, hx, q5⟩ := asI_of q4
    obtain ⟨u2, h1, h2⟩ := ok2.sl i _ hs
    rw [hu] at h1
    cases h1
    cases h2 with
    | @pot b hp =>
      obtain ⟨_, _, x0, y, z, g1, g2, g3, g4, g5, g6, g7⟩ := ok2.hp.pt b hp
      refine ⟨b, _, 0, 0, rfl, hk, g1, rfl, c.nx _ _ _ _ (ok2.setPot (n' := S2.n) hp ⟨x, y, z, ?_, hx, g3, g4, g5, g6, g7⟩) q5⟩
      rw [upd_same, r1.int_of]
      rfl
  · rename_i l hs
    obtain ⟨j, hj, q4⟩ := q3
    obtain ⟨b, vs, h1, h2, h3, h4⟩ := ok2.updS hs
    rw [hu] at h1
    cases h1
    exact ⟨b, vs, k, j, rfl, hk, h2, by rw [h3.length]; exact hj, c.nx _ _ _ _ (h4 _ _ (h3.set (r1.mono e2) j)) q4⟩
  · exact q3.elim⟩
/-- the counter goes up -/
def tInc (K : PySem.W.Frag) (i : Nat) : TS := tAsg (tOp (rAddG K) (tOp (L2.rIx K) (tVar i) (tC (.int 2))) (tC (.int 1))) (gSub (tVar i) (tC (.int 2)) rSetL)
def wInc (i : Nat) : WS := fun D S =>
  match S.sl[i]? with
  | some (.im .pot) => S.n + 1 ≤ 1000000 ∧ D.nx ⟨S.sl, S.n + 1⟩
  | _ => False
instance sv_inc {i : Nat} : SV K W (tInc K i) (wInc i) := ⟨fun {p H0 F0 F H σ S D D'} ok hw c => by
  unfold wInc at hw
  split at hw
  · rename_i hs
    obtain ⟨u, h1, h2⟩ := ok.sl i _ hs
    cases h2 with
    | @pot b hp =>
      obtain ⟨_, _, x, y, z, g1, g2, g3, g4, g5, g6, g7⟩ := ok.hp.pt b hp
      refine ⟨_, h1, .inl ⟨b, _, 2, .int z, rfl, rfl, .of g1, rfl, .inl ⟨z, 1, rfl, rfl, _, h1, b, _, 2, 2, rfl, rfl, g1, rfl, c.nx _ _ _ _ (ok.setPot (n' := S.n + 1) hp ⟨x, y, z + 1, ?_, g2, g3, g4, by omega, by omega, hw.1⟩) hw.2⟩⟩⟩
      rw [upd_same]
      rfl
  · exact hw.elim⟩
/-- f(g(..)), g's list the draws of f -/
def tPot (K : PySem.W.Frag) (f : Fn) (g : FnF) (E E' : XK) (ta : TA) : TE := tCall (spF K f) [] E (tCons (tCall (spFF K g) [] E' ta) tNil)
def wPot (f : Fn) (g : FnF) (wa : WF) : WE := fun S Q => wCallF g wa S fun es S1 =>
  ∃ x y, es = [.int x, .int y, .int 0] ∧ 0 ≤ x ∧ 0 ≤ y ∧ y < 2305843009213693952 ∧ f [.pot] 0 fun d _ => asB d fun b => Q (.bl b) S1
instance ev_pot {f : Fn} {g : FnF} {E E' : XK} {ta : TA} {wa : WF} [a : AV K ta wa] : EV K (tPot K f g E E' ta) (wPot f g wa) := ⟨fun {p H0 F0 F H σ S T Q Q'} ok hw k => by
  refine (ef_call (K := K) (f := g) (E := E') (ta := ta)).run ok hw fun b vs F1 H1 S1 es ok1 e1 r1 q1 => ?_
  obtain ⟨x, y, rfl, h1, h2, h3, q2⟩ := q1
  obtain ⟨t1, t2, t3⟩ := ok1.topT
  have hvs := r1.ints_of (ns := [x, y, 0]) rfl
  subst hvs
  have st : HpOk ⟨some b⟩ H1 F1 F1 H1 0 := .start ok1.hp.fh ok1.hp.nt ok1.hp.ts fun c hc => by cases hc; exact ⟨t2, x, y, 0, t3, h1, h2, h3, by omega, by omega, by omega⟩
  refine ⟨⟨some b⟩, F1, [.pot], 0, _, st, .one (.pot rfl), q2, fun v F2 H2 d n2 g2 r2 q3 => ?_⟩
  obtain ⟨c, rfl, q4⟩ := asB_of q3
  have hF : ∀ c o, F2 c = some o → F1 c = some o ∨ H1 c = none := g2.fr
  have nF : ∀ {d : Addr} {o : HO}, F1 d = none → H1 d = some o → F2 d = none := fun {d o} h1 h2 => by
    cases hq : F2 d with
    | none => rfl
    | some o =>
      rcases hF d o hq with q | q
      · rw [h1] at q; cases q
      · rw [h2] at q; cases q
  have hp2 : HpOk p H0 F0 F2 H2 S1.n := by
    refine ⟨fun d o hd ht q => ?_, fun d ps q => ?_, g2.ts, g2.nt, ok1.hp.f0.trans g2.f0, fun d o q => ?_, g2.fh, fun d hd => ?_⟩
    · exact g2.e0 d o (fun e => by cases e; rw [t1] at q; cases q) ht (ok1.hp.e0 d o hd ht q)
    · obtain ⟨m, z⟩ := ok1.hp.tb d ps q
      exact g2.tb d m z
    · rcases hF d o q with q | q
      · exact ok1.hp.fr d o q
      · exact .inr (ok1.hp.free q)
    · obtain ⟨m1, m2, x', y', z', m3, m4⟩ := ok1.hp.pt d hd
      have hdb : d ≠ b := fun e => by subst e; exact m2 t1
      exact ⟨nF m1 m3, m2, x', y', z', g2.e0 d _ (fun e => hdb (Option.some.inj e).symm) (fun _ z => nomatch z) m3, m4⟩
  have ok2 : Ok K p H0 F0 F2 H2 σ ⟨S1.sl, S1.n⟩ T := ok1.tail.step (x := some b) g2.f0 hp2 (fun d u hx ht q1 q2 q3 => ⟨nF q2 q3, g2.e0 d _ hx ht q3⟩)
    (fun i s c h1 h2 h3 => ok1.topOwn h1 h2 h3) (fun c ws hm e => ok1.topNe hm (Option.some.inj e).symm) (fun c e => by cases e; exact .inl ⟨_, t3⟩)
  exact k v F2 H2 _ _ ok2 (e1.trans g2.f0) (by rw [r2.bl_of]; exact .bl c) q4⟩
end

/-! ### rules under the names by which the transformers know them -/
section
variable {X : Cx}
theorem ps_own {i : Nat} {x : Str} {e : Expr} {te : TE} {pos pos' : Pos} (hN : X.N.Nodup) (hi : X.N[i]? = some x) (hx : Loc X.env.scope x) (he : PE X e te) (hs : swapsWith e (some (.Name x pos')) pos.line X.env = pure false := by rfl) (hf : X.fn x = true ∨ X.env.scope.names.lookup x = some .local := by first | exact .inl rfl | exact .inr rfl | assumption) :
    PS X (.Assign [.Name x pos'] e pos) (tOwn te i) := ps_set hN hi hx he hs hf
theorem ps_ownLc {t : TE} {i : Nat} {st : Stmt} (h : PS X st (tAsg t (gName i))) : PS X st (tOwn t i) := h
theorem ps_app {i : Nat} {te : TE} {st : Stmt} (h : PS X st (tDrop (tBM X.K "list" rAppend (tVar i) (tCons te tNil)))) : PS X st (tApp X.K i te) := h
theorem ps_inc {i : Nat} {st : Stmt} (h : PS X st (tAsg (tOp (rAddG X.K) (tOp (L2.rIx X.K) (tVar i) (tC (.int 2))) (tC (.int 1))) (gSub (tVar i) (tC (.int 2)) rSetL))) : PS X st (tInc X.K i) := h
theorem ps_retO {i : Nat} {st : Stmt} (h : PS X st (tRet (tVar i))) : PS X st (tRetO i) := h
theorem ps_retF {t : TE} {st : Stmt} (h : PS X st (tRet t)) : PS X st (tRetF t) := h
theorem pe_pot {K : PySem.W.Frag} {f : Fn} {g : FnF} {E E' : XK} {ta : TA} {e : Expr} (h : PE X e (tCall (spF K f) [] E (tCons (tCall (spFF K g) [] E' ta) tNil))) : PE X e (tPot K f g E E' ta) := h
theorem fn_none {P : Program} {w : World} {K : PySem.W.Frag} {mg : Str → Option Value} {base : Heap} {CX : CXT} {k : Nat} {f : Addr} {fd : FuncData} {ps : List Str} {G : Fn} (h : ∀ ds n QD, ¬ G ds n QD) : FnOk P w K mg base CX k f fd ps (spF K G) :=
  ⟨fun vs H Q E z => by obtain ⟨_, _, ds, n, QD, _, _, g, _⟩ := z; exact (h ds n QD g).elim, fun A outer s H args us vs Q E _ _ _ _ z => by obtain ⟨_, _, ds, n, QD, _, _, g, _⟩ := z; exact (h ds n QD g).elim⟩
end

/-! ### a def keeps its promise -/
section
variable {P : Program} {w : World} {K : PySem.W.Frag} {mg : Str → Option Value} {base : Heap}
abbrev cxR (P : Program) (w : World) (K : PySem.W.Frag) (mg : Str → Option Value) (base : Heap) (N : List Str) (qual : Str) (scope : Scope) (f : Addr) (cd : Value) (A : Around) (outer : List Env) (s : Shared) (H : Hp) : Cx where
  prog := P
  w := w
  K := K
  mg := mg
  base := base
  A := A.deeper (envOfC qual scope s.heap.objs.size f cd)
  N := N
  s_0 := s
  H_0 := H
  env := envOfC qual scope s.heap.objs.size f cd
  outer := outer
  stack := envOfC qual scope s.heap.objs.size f cd :: outer
  ex := []
  calm := true
  fn := fun _ => true
  pn := []
  xe := fun _ _ => False
/-- the slots at the entry -/
def start0 (np : Nat) (ds : List Dat) (n : Nat) : Sx := ⟨ds.map Sl.im ++ List.replicate (np - ds.length) Sl.un, n⟩
def bodyW (np : Nat) (w : WS) : Fn := fun ds n QD => w { nx := fun S => QD .non S.n, rt := QD } (start0 np ds n)
def bodyF (np : Nat) (w : WS) : FnF := fun ds n QD => w { nx := fun _ => False, rt := fun _ _ => False, rf := QD } (start0 np ds n)
theorem ok_start {p : Amb} {F H : Hp} {n : Nat} {vs : List V} {ds : List Dat} {N : List Str} (h : HpOk p H F F H n) (r : Reps K p F vs ds) : Ok K p H F F H (L2.start N vs) (start0 N.length ds n) [] where
  hp := h
  len := by
    unfold L2.start start0
    rw [List.length_append, List.length_append, List.length_map, List.length_map, List.length_replicate, List.length_replicate, r.length]
  sl := fun i s q => by
    unfold start0 at q
    unfold L2.start
    by_cases hi : i < ds.length
    · have hi2 : i < vs.length := by rw [r.length]; exact hi
      rw [List.getElem?_append_left (by rw [List.length_map]; exact hi), List.getElem?_map] at q
      rw [List.getElem?_append_left (by rw [List.length_map]; exact hi2), List.getElem?_map]
      rw [List.getElem?_eq_getElem hi] at q
      cases q
      obtain ⟨v, h1, h2⟩ := r.getD (List.getElem?_eq_getElem hi)
      rw [h1]
      exact ⟨v, rfl, h2⟩
    · rw [List.getElem?_append_right (by rw [List.length_map]; omega)] at q
      have := List.mem_of_getElem? q
      rw [(List.mem_replicate.mp this).2]
      trivial
  own := fun i j s t a hij q ho _ _ _ _ => by
    have := List.mem_of_getElem? q
    rcases List.mem_append.mp this with h | h
    · obtain ⟨_, _, e⟩ := List.mem_map.mp h
      subst e
      cases ho
    · have := (List.mem_replicate.mp h).2
      subst this
      cases ho
  tm := fun a vs hm => nomatch hm
  ot := fun i s a vs _ _ _ hm => nomatch hm
  td := List.nodup_nil
theorem okD {x qual : Str} {st : Stmt} {f : Addr} {fd : FuncData} {N ps : List Str} {k : Nat} {G : Fn} (F : Fun K x qual st f fd) (S : FnScope N ps (defScope st)) (len : ∀ ds n QD, G ds n QD → ds.length = ps.length)
    (body : ∀ (cdv : Value) (A : Around) (outer : List Env) (s : Shared) (H : Hp), Room k (A.deeper (envOfC qual (defScope st) s.heap.objs.size f cdv)) →
      ∃ t, PSs (cxR P w K mg base N qual (defScope st) f cdv A outer s H) (defBody st) t ∧ ∃ ws, SV K (fun _ _ _ _ => False) t ws ∧ ∀ ds n QD, G ds n QD → bodyW N.length ws ds n QD) : FnOk P w K mg base CX0 (k + 1) f fd ps (spF K G) := by
  refine F.ok S (fun vs H Q E h => ?_) (fun cdv A outer s H vs Q E hr h => ?_)
  · obtain ⟨p, F, ds, n, QD, _, r, hG, _⟩ := h
    rw [r.length]
    exact len ds n QD hG
  · obtain ⟨t, ht, ws, sv, hb⟩ := body cdv A outer s H hr
    refine ⟨t, ht, ?_⟩
    obtain ⟨p, F, ds, n, QD, hh, r, hG, hQ⟩ := h
    exact sv.run (D := { nx := fun S => QD .non S.n, rt := QD }) (ok_start hh r) (hb ds n QD hG) ⟨fun F' H' σ' S' ok q => hQ _ F' H' .non S'.n ok.hp .non q, fun v F' H' d n' g r' q => hQ v F' H' d n' g r' q,
      fun _ _ _ _ _ _ _ _ _ _ _ q => q.elim, fun _ _ _ _ _ q => q.elim, fun _ _ _ _ _ q => q.elim, fun _ _ _ _ _ _ _ _ _ _ _ _ _ q => q.elim⟩
theorem okF {x qual : Str} {st : Stmt} {f : Addr} {fd : FuncData} {N ps : List Str} {k : Nat} {G : FnF} (F : Fun K x qual st f fd) (S : FnScope N ps (defScope st)) (len : ∀ ds n QD, G ds n QD → ds.length = ps.length)
    (body : ∀ (cdv : Value) (A : Around) (outer : List Env) (s : Shared) (H : Hp), Room k (A.deeper (envOfC qual (defScope st) s.heap.objs.size f cdv)) →
      ∃ t, PSs (cxR P w K mg base N qual (defScope st) f cdv A outer s H) (defBody st) t ∧ ∃ ws, SV K (fun _ _ _ _ => False) t ws ∧ ∀ ds n QD, G ds n QD → bodyF N.length ws ds n QD) : FnOk P w K mg base CX0 (k + 1) f fd ps (spFF K G) := by
  refine F.ok S (fun vs H Q E h => ?_) (fun cdv A outer s H vs Q E hr h => ?_)
  · obtain ⟨p, F, ds, n, QD, _, r, hG, _⟩ := h
    rw [r.length]
    exact len ds n QD hG
  · obtain ⟨t, ht, ws, sv, hb⟩ := body cdv A outer s H hr
    refine ⟨t, ht, ?_⟩
    obtain ⟨p, F, ds, n, QD, hh, r, hG, hQ⟩ := h
    exact sv.run (D := { nx := fun _ => False, rt := fun _ _ => False, rf := QD }) (ok_start hh r) (hb ds n QD hG) ⟨fun _ _ _ _ _ q => q.elim, fun _ _ _ _ _ _ _ q => q.elim,
      fun a us F' H' es n' g g0 g1 g2 r' q => hQ a us F' H' es n' g g0 g1 g2 r' q, fun _ _ _ _ _ q => q.elim, fun _ _ _ _ _ q => q.elim, fun _ _ _ _ _ _ _ _ _ _ _ _ _ q => q.elim⟩
/-! a def that draws: the count of draws is told from above -/
theorem PotAt.bump {H : Hp} {a : Addr} {n m : Nat} (h : PotAt H a n) (h1 : n ≤ m) (h2 : m ≤ 1000000) : PotAt H a m := by
  obtain ⟨x, y, z, q1, q2, q3, q4, q5, q6, q7⟩ := h
  exact ⟨x, y, z, q1, q2, q3, q4, q5, by omega, h2⟩
theorem HpOk.bump {p : Amb} {H0 F0 F H : Hp} {n m : Nat} (h : HpOk p H0 F0 F H n) (h1 : n ≤ m) (h2 : m ≤ 1000000) : HpOk p H0 F0 F H m :=
  ⟨h.e0, h.tb, h.ts, h.nt, h.f0, h.fr, h.fh, fun a ha => ⟨(h.pt a ha).1, (h.pt a ha).2.1, (h.pt a ha).2.2.bump h1 h2⟩⟩
def bodyP (np : Nat) (w : WS) : Fn := fun ds n QD => w { nx := fun S => ∃ m, S.n ≤ m ∧ m ≤ 1000000 ∧ QD .non m, rt := fun d k => ∃ m, k ≤ m ∧ m ≤ 1000000 ∧ QD d m } (start0 np ds n)
theorem okP {x qual : Str} {st : Stmt} {f : Addr} {fd : FuncData} {N ps : List Str} {k : Nat} {G : Fn} (F : Fun K x qual st f fd) (S : FnScope N ps (defScope st)) (len : ∀ ds n QD, G ds n QD → ds.length = ps.length)
    (body : ∀ (cdv : Value) (A : Around) (outer : List Env) (s : Shared) (H : Hp), Room k (A.deeper (envOfC qual (defScope st) s.heap.objs.size f cdv)) →
      ∃ t, PSs (cxR P w K mg base N qual (defScope st) f cdv A outer s H) (defBody st) t ∧ ∃ ws, SV K (fun _ _ _ _ => False) t ws ∧ ∀ ds n QD, G ds n QD → bodyP N.length ws ds n QD) : FnOk P w K mg base CX0 (k + 1) f fd ps (spF K G) := by
  refine F.ok S (fun vs H Q E h => ?_) (fun cdv A outer s H vs Q E hr h => ?_)
  · obtain ⟨p, F, ds, n, QD, _, r, hG, _⟩ := h
    rw [r.length]
    exact len ds n QD hG
  · obtain ⟨t, ht, ws, sv, hb⟩ := body cdv A outer s H hr
    refine ⟨t, ht, ?_⟩
    obtain ⟨p, F, ds, n, QD, hh, r, hG, hQ⟩ := h
    exact sv.run (D := { nx := fun S => ∃ m, S.n ≤ m ∧ m ≤ 1000000 ∧ QD .non m, rt := fun d k => ∃ m, k ≤ m ∧ m ≤ 1000000 ∧ QD d m }) (ok_start hh r) (hb ds n QD hG)
      ⟨fun F' H' σ' S' ok q => by obtain ⟨m, m1, m2, q⟩ := q; exact hQ _ F' H' .non m (ok.hp.bump m1 m2) .non q, fun v F' H' d n' g r' q => by obtain ⟨m, m1, m2, q⟩ := q; exact hQ v F' H' d m (g.bump m1 m2) r' q,
      fun _ _ _ _ _ _ _ _ _ _ _ q => q.elim, fun _ _ _ _ _ q => q.elim, fun _ _ _ _ _ q => q.elim, fun _ _ _ _ _ _ _ _ _ _ _ _ _ q => q.elim⟩
/-- what stands at the entry, but for the tables -/
def lowF (H : Hp) : Hp := fun a => match H a with
  | some (.tbl _) => none
  | x => x
theorem lowF_at {H : Hp} {a : Addr} {o : HO} (h : H a = some o) (nb : ∀ ps, o ≠ .tbl ps) : lowF H a = some o := by
  unfold lowF
  rw [h]
  cases o with
  | tbl ps => exact absurd rfl (nb ps)
  | _ => rfl
theorem lowF_ex {H : Hp} : Ex (lowF H) H := fun a o h => by
  unfold lowF at h
  split at h
  · cases h
  · exact h
theorem lowF_nt {H : Hp} : ∀ a ps, lowF H a ≠ some (.tbl ps) := fun a ps h => by
  unfold lowF at h
  split at h
  · cases h
  · rename_i hn
    exact hn ps h
theorem lowF_sq {K : PySem.W.Frag} {H : Hp} {a : Addr} {vs : List V} (h : SqL K H a vs) : SqL K (lowF H) a vs := by
  rcases h with (h | ⟨o, h⟩) | h
  · exact .inl (.inl (lowF_at h fun _ z => by cases z))
  · exact .inl (.inr ⟨o, lowF_at h fun _ z => by cases z⟩)
  · exact .inr h
/-- the law, called with the script alone -/
theorem sp_law {K : PySem.W.Frag} {G : Fn} (h : ∀ ns : List Int, ns.length ≤ 63 → G [.fz (ns.map Dat.int)] 0 fun d _ => d = .bl true) : ∀ (H : Hp) (a : Addr) (ns : List Int), ns.length ≤ 63 → SqL K H a (ns.map V.int) → (∀ t ∈ LawTabs.tabs, H t.1 = some (.tbl #[])) → spF K G [.ref a] H (fun v _ => v = .bl true) fun _ _ _ => False := fun H a ns hl hs ht => by
  refine ⟨⟨none⟩, lowF H, [.fz (ns.map Dat.int)], 0, _, .start lowF_ex lowF_nt (fun t z => ⟨#[], ht t z, True.intro, fun pos cv hc => by
    have z : codeAmong pos [] = some cv := hc
    simp [codeAmong] at z⟩) (fun _ e => nomatch e), .one (.fz (lowF_sq hs) ?_), h ns hl, fun v F' H' d n' g r q => ?_⟩
  · induction ns with
    | nil => exact .nil
    | cons i l ih => exact .cons (.int i) (reps_ints l)
  · subst q
    exact r.bl_of
where
  reps_ints {K : PySem.W.Frag} {p : Amb} {F : Hp} : ∀ l : List Int, Reps K p F (l.map V.int) (l.map Dat.int)
    | [] => .nil
    | i :: l => .cons (.int i) (reps_ints l)
end
end Dl
-- part Dv
set_option Elab.async false
set_option linter.all false
set_option maxRecDepth 100000
set_option maxHeartbeats 4000000
namespace Dl
open PySem PySem.Spec PyProof.Rows L2 Evl RZ
variable [LawTabs]
theorem cmuL {i j : Int} (h : -18446744073709551616 < i ∧ i < 18446744073709551616) : CMu i j := .inl (.inl ⟨by omega, by omega⟩)
theorem cmuR {i j : Int} (h : -18446744073709551616 < j ∧ j < 18446744073709551616) : CMu i j := .inl (.inr ⟨by omega, by omega⟩)
theorem cfdS {i j : Int} (h : 0 < j ∧ j < 1073741824) : CFd i j := by
  refine ⟨h.1, ?_⟩
  have h1 : j.natAbs < 2 ^ 30 := by omega
  have : j.natAbs.log2 < 30 := by
    rw [Nat.log2_lt (by omega)]
    exact h1
  omega
theorem cpwS {i j : Int} (h : (0 ≤ j ∧ j ≤ 1000000) ∧ -18446744073709551616 < i ∧ i < 18446744073709551616) : CPw i j := .inl ⟨h.1.1, h.1.2, by omega⟩
theorem cpwW {i j : Int} (h : (2 ≤ i ∧ 1 ≤ j) ∧ (Builtin.Int.intBits i : Int) * j ≤ 1000000) : CPw i j := by
  refine .inr ⟨h.1.1, h.1.2, ?_⟩
  unfold Builtin.Int.intTooBig
  refine decide_eq_false ?_
  have := h.2
  unfold bitsLine
  omega
theorem asI_int {i : Int} {Q : Int → Prop} : asI (.int i) Q = Q i := rfl
theorem asB_bl {b : Bool} {Q : Bool → Prop} : asB (.bl b) Q = Q b := rfl
theorem as1_one {a : Dat} {Q : Dat → Prop} : as1 [a] Q = Q a := rfl
theorem as2_two {a b : Dat} {Q : Dat → Dat → Prop} : as2 [a, b] Q = Q a b := rfl
theorem sIx_pos {n d : Nat} {k : Int} (h : 0 ≤ k) : HT.sIx n d (some k) = min k.toNat n := by
  have := HT.sIx_nat n d k.toNat
  rwa [Int.toNat_of_nonneg h] at this
theorem cutN_hi {α : Type} {l : List α} {k : Int} (h : 0 ≤ k) : cutN l none (some k) = l.take k.toNat := by
  unfold cutN
  rw [HT.sIx_none, sIx_pos h, List.drop_zero, Nat.sub_zero]
  by_cases hl : k.toNat ≤ l.length
  · rw [Nat.min_eq_left hl]
  · rw [Nat.min_eq_right (by omega), List.take_length, List.take_of_length_le (by omega)]
theorem cutN_lo {α : Type} {l : List α} {k : Int} (h : 0 ≤ k) : cutN l (some k) none = l.drop k.toNat := by
  unfold cutN
  rw [HT.sIx_none, sIx_pos h]
  by_cases hl : k.toNat ≤ l.length
  · rw [Nat.min_eq_left hl]
    exact List.take_of_length_le (by rw [List.length_drop]; omega)
  · rw [Nat.min_eq_right (by omega), List.drop_length, List.drop_of_length_le (by omega), List.take_nil]
theorem isi_bl (b : Bool) (n : String) : isi (.bl b) n = (n == "bool" || n == "int") := rfl
theorem atI_pos {α : Type} {l : List α} {i : Int} (h : 0 ≤ i) : atI l i = l[i.toNat]? := by
  unfold atI ixN
  rw [if_pos h]
  by_cases hl : i < l.length
  · rw [if_pos hl]; rfl
  · rw [if_neg hl, List.getElem?_eq_none (by omega)]; rfl
theorem atI_neg1 {α : Type} {l : List α} : atI l (-1) = l[l.length - 1]? := by
  unfold atI ixN
  rw [if_neg (by decide)]
  by_cases hl : -(l.length : Int) ≤ -1
  · rw [if_pos hl]
    show l[((-1 : Int) + (l.length : Int)).toNat]? = _
    congr 1
    omega
  · rw [if_neg hl, List.getElem?_eq_none (by omega)]; rfl
theorem isBls_nil : isBls [] = some [] := rfl
theorem isBls_bl {b : Bool} {l : List Dat} : isBls (.bl b :: l) = (isBls l).map (b :: ·) := rfl
/-! ### loops and comprehensions in one go -/
/-- each item gives one element, or none, told by f; the slots stay -/
theorem lcW_filter {vs : List Nat} {wg : WG} {wt : WT} {we : WE} (f : Dat → Option Dat) {S0 : Sx} : ∀ (ds acc : List Dat) (Q : List Dat → Sx → Prop), acc.length + ds.length ≤ 100000 →
    (∀ d ∈ ds, ∀ (R : Dat → Sx → Prop) (R0 : Sx → Prop), (∀ x, f d = some x → R x S0) → (f d = none → R0 S0) → wg d S0 fun S1 => wt S1 fun b S2 => if b = true then we S2 fun x S3 => R x ⟨wipeL S3.sl vs, S3.n⟩ else R0 ⟨wipeL S2.sl vs, S2.n⟩) →
    Q (acc ++ ds.filterMap f) S0 → lcW vs wg wt we ds acc S0 Q
  | [], acc, Q, _, _, q => by rw [List.filterMap_nil, List.append_nil] at q; exact q
  | d :: ds, acc, Q, hl, h, q => by
    rw [List.length_cons] at hl
    refine h d List.mem_cons_self (fun x S => acc.length < 100000 ∧ lcW vs wg wt we ds (acc ++ [x]) S Q) (fun S => lcW vs wg wt we ds acc S Q) (fun x hx => ⟨by omega, ?_⟩) (fun hx => ?_)
    · refine lcW_filter f ds (acc ++ [x]) Q (by rw [List.length_append, List.length_singleton]; omega) (fun e he => h e (List.mem_cons_of_mem _ he)) ?_
      rw [List.filterMap_cons, hx] at q
      rw [List.append_assoc]
      exact q
    · refine lcW_filter f ds acc Q (by omega) (fun e he => h e (List.mem_cons_of_mem _ he)) ?_
      rw [List.filterMap_cons, hx] at q
      exact q
theorem lcW_map {vs : List Nat} {wg : WG} {wt : WT} {we : WE} (f : Dat → Dat) {S0 : Sx} (ds : List Dat) (Q : List Dat → Sx → Prop) (hl : ds.length ≤ 100000)
    (h : ∀ d ∈ ds, ∀ (R : Dat → Sx → Prop) (R0 : Sx → Prop), R (f d) S0 → wg d S0 fun S1 => wt S1 fun b S2 => if b = true then we S2 fun x S3 => R x ⟨wipeL S3.sl vs, S3.n⟩ else R0 ⟨wipeL S2.sl vs, S2.n⟩)
    (q : Q (ds.map f) S0) : lcW vs wg wt we ds [] S0 Q := by
  refine lcW_filter (fun d => some (f d)) ds [] Q (by simpa using hl) (fun d hd R R0 h1 _ => h d hd R R0 (h1 _ rfl)) ?_
  have e : ∀ l : List Dat, l.filterMap (fun d => some (f d)) = l.map f := fun l => by
    induction l with
    | nil => rfl
    | cons x l ih => rw [List.filterMap_cons, ih]; rfl
  rw [e, List.nil_append]
  exact q
/-- each item gives one element of which P is known, and takes c draws -/
theorem lcW_draw {vs : List Nat} {wg : WG} {wt : WT} {we : WE} (P : Dat → Prop) (c : Nat) {sl : List Sl} : ∀ (ds acc : List Dat) (n : Nat) (Q : List Dat → Sx → Prop), acc.length + ds.length ≤ 100000 → n + c * ds.length ≤ 1000000 →
    (∀ d ∈ ds, ∀ (n : Nat) (R : Dat → Sx → Prop) (R0 : Sx → Prop), n + c ≤ 1000000 → (∀ x, P x → R x ⟨sl, n + c⟩) → wg d ⟨sl, n⟩ fun S1 => wt S1 fun b S2 => if b = true then we S2 fun x S3 => R x ⟨wipeL S3.sl vs, S3.n⟩ else R0 ⟨wipeL S2.sl vs, S2.n⟩) →
    (∀ xs, xs.length = ds.length → (∀ x ∈ xs, P x) → Q (acc ++ xs) ⟨sl, n + c * ds.length⟩) → lcW vs wg wt we ds acc ⟨sl, n⟩ Q
  | [], acc, n, Q, _, _, _, q => by
    have := q [] rfl (fun _ h => nomatch h)
    rw [List.append_nil] at this
    exact this
  | d :: ds, acc, n, Q, hl, hn, h, q => by
    rw [List.length_cons] at hl
    rw [List.length_cons, Nat.mul_succ] at hn
    refine h d List.mem_cons_self n (fun x S => acc.length < 100000 ∧ lcW vs wg wt we ds (acc ++ [x]) S Q) (fun S => lcW vs wg wt we ds acc S Q) (by omega) (fun x hx => ⟨by omega, ?_⟩)
    refine lcW_draw P c ds (acc ++ [x]) (n + c) Q (by rw [List.length_append, List.length_singleton]; omega) (by omega) (fun e he => h e (List.mem_cons_of_mem _ he)) (fun xs hxs hp => ?_)
    have := q (x :: xs) (by rw [List.length_cons, List.length_cons, hxs]) (fun y hy => by
      rcases List.mem_cons.mp hy with rfl | hy
      · exact hx
      · exact hp y hy)
    rw [List.append_assoc]
    rw [List.length_cons, Nat.mul_succ] at this
    rw [show n + c + c * ds.length = n + (c * ds.length + c) by omega]
    exact this
/-- a loop that is never left: f upon what Inv tells of the slots -/
theorem forW_fold {α : Type} {wg : WG} {wb : WS} (Inv : α → Sx → Prop) (f : α → Dat → α) : ∀ (ds : List Dat) (a : α) (S : Sx) (D : Dx),
    (∀ d ∈ ds, ∀ (a : α) (S : Sx) (D : Dx), Inv a S → (∀ S', Inv (f a d) S' → D.nx S') → wg d S fun S2 => wb D S2) → Inv a S → (∀ S', Inv (ds.foldl f a) S' → D.nx S') → forW wg wb ds D S
  | [], a, S, D, _, hi, q => q S hi
  | d :: ds, a, S, D, h, hi, q =>
    h d List.mem_cons_self a S { D with nx := forW wg wb ds D, ct := forW wg wb ds D, bk := D.nx } hi fun S' hS' => forW_fold Inv f ds (f a d) S' D (fun e he => h e (List.mem_cons_of_mem _ he)) hS' q
theorem isBls_all {l : List Dat} (h : ∀ x ∈ l, x = .bl true) : ∃ bs, isBls l = some bs ∧ bs.all id = true := by
  induction l with
  | nil => exact ⟨[], rfl, rfl⟩
  | cons x l ih =>
    obtain ⟨bs, h1, h2⟩ := ih fun y hy => h y (List.mem_cons_of_mem _ hy)
    rw [h x List.mem_cons_self]
    exact ⟨true :: bs, by rw [isBls_bl, h1]; rfl, by rw [List.all_cons, h2]; rfl⟩
end Dl
-- part Dw
set_option Elab.async false
set_option linter.all false
set_option maxRecDepth 100000
set_option maxHeartbeats 4000000
namespace Dl
open PySem PySem.Spec PyProof.Rows L2 Evl RZ
variable [LawTabs]
/-! ### how transformers go on, by the forms of data -/
section
variable {S : Sx} {r : List Sl} {n i : Nat} {d a b : Dat} {l m : List Dat} {x y : List Nat} {p q : Int} {c c' : Bool} {Q : Dat → Sx → Prop} {QF : List Dat → Sx → Prop} {K : Dat → Prop} {KB : Bool → Prop} {KN : Nat → Prop} {KL : List Dat → Prop} {wa : WE} {lo hi : Option Int}
theorem e_var0 : wVar 0 ⟨.im d :: r, n⟩ Q = Q d ⟨.im d :: r, n⟩ := rfl
theorem e_var0o : wVar 0 ⟨.ow l :: r, n⟩ Q = Q (.lst l) ⟨.im (.lst l) :: r, n⟩ := rfl
theorem e_varS {s : Sl} : wVar (i + 1) ⟨s :: r, n⟩ Q = wVar i ⟨r, n⟩ fun d S' => Q d ⟨s :: S'.sl, S'.n⟩ := by
  unfold wVar
  dsimp only
  rw [List.getElem?_cons_succ]
  cases h : r[i]? with
  | none => rfl
  | some s => cases s <;> rfl
theorem aAdd_i : aAdd (.int p) (.int q) K = K (.int (p + q)) := rfl
theorem aAdd_s : aAdd (.str x) (.str y) K = (x.length + y.length ≤ 1000000 ∧ K (.str (x ++ y))) := rfl
theorem aAdd_t : aAdd (.tup l) (.tup m) K = (l.length + m.length ≤ 1000000 ∧ K (.tup (l ++ m))) := rfl
theorem aAdd_l : aAdd (.lst l) (.lst m) K = (l.length + m.length ≤ 1000000 ∧ K (.lst (l ++ m))) := rfl
theorem aMul_i : aMul (.int p) (.int q) K = (CMu p q ∧ K (.int (p * q))) := rfl
theorem aMul_s : aMul (.str x) (.int q) K = ((-4611686018427387904 ≤ q ∧ q ≤ 1000000 ∧ x.length * q.toNat ≤ 1000000) ∧ K (.str (repL x q.toNat))) := rfl
theorem aMul_l : aMul (.lst l) (.int q) K = ((-4611686018427387904 ≤ q ∧ q ≤ 1000000 ∧ l.length * q.toNat ≤ 1000000) ∧ K (.lst (repL l q.toNat))) := rfl
theorem eqS_i : eqS (.int p) (.int q) KB = KB (decide (p = q)) := rfl
theorem eqS_s : eqS (.str x) (.str y) KB = KB (decide (x = y)) := rfl
theorem eqS_b : eqS (.bl c) (.bl c') KB = KB (decide (c = c')) := rfl
theorem eqS_nn : eqS .non .non KB = KB true := rfl
theorem eqS_ni : eqS .non (.int q) KB = KB false := rfl
theorem eqS_ns : eqS .non (.str y) KB = KB false := rfl
theorem eqS_nt : eqS .non (.tup l) KB = (cmpOk (.tup l) ∧ KB false) := rfl
theorem eqS_in : eqS (.int p) .non KB = KB false := rfl
theorem eqS_sn : eqS (.str x) .non KB = KB false := rfl
theorem eqS_is : eqS (.int p) (.str y) KB = KB false := rfl
theorem eqS_si : eqS (.str x) (.int q) KB = KB false := rfl
theorem eqS_t : eqS (.tup l) b KB = (cmpOk (.tup l) ∧ cmpOk b ∧ KB (eqD (.tup l) b)) := rfl
theorem eqS_l : eqS (.lst l) b KB = (cmpOk (.lst l) ∧ cmpOk b ∧ KB (eqD (.lst l) b)) := rfl
theorem inS_s {k : Nat} : inS (.str [k]) (.str y) KB = KB (decide (k ∈ y)) := rfl
theorem inS_t : inS a (.tup l) KB = (flat a = true ∧ l.all flat = true ∧ KB (inF a l)) := rfl
theorem inS_l : inS a (.lst l) KB = (flat a = true ∧ l.all flat = true ∧ KB (inF a l)) := rfl
theorem lenD_s : lenD (.str x) KN = (x.length ≤ 1000000 ∧ KN x.length) := rfl
theorem lenD_t : lenD (.tup l) KN = KN l.length := rfl
theorem lenD_l : lenD (.lst l) KN = KN l.length := rfl
theorem lenD_z : lenD (.fz l) KN = KN l.length := rfl
theorem ixD_t : ixD (.tup l) p K = ∃ d, atI l p = some d ∧ K d := rfl
theorem ixD_l : ixD (.lst l) p K = ∃ d, atI l p = some d ∧ K d := rfl
theorem ixD_z : ixD (.fz l) p K = ∃ d, atI l p = some d ∧ K d := rfl
theorem ixD_s : ixD (.str x) p K = (x.length ≤ 1000000 ∧ ∃ c, atI x p = some c ∧ K (.str [c])) := rfl
theorem ixD_0 : ixD .pot 0 K = ∀ x, 0 ≤ x → K (.int x) := rfl
theorem ixD_p {i : Int} : ixD .pot i K = if i = 0 then ∀ x, 0 ≤ x → K (.int x) else if i = 1 then ∀ x, 0 ≤ x → x < 2305843009213693952 → K (.int x) else i = 2 ∧ ∀ x, 0 ≤ x → x ≤ 1000000 → K (.int x) := rfl
theorem ixD_1 : ixD .pot 1 K = ∀ x, 0 ≤ x → x < 2305843009213693952 → K (.int x) := by simp [ixD_p]
theorem ixD_2 : ixD .pot 2 K = ∀ x, 0 ≤ x → x ≤ 1000000 → K (.int x) := by simp [ixD_p]
theorem cutDd_s : cutDd (.str x) lo hi K = (x.length ≤ 1000000 ∧ K (.str (cutN x lo hi))) := rfl
theorem cutDd_l : cutDd (.lst l) lo hi K = K (.lst (cutN l lo hi)) := rfl
theorem cutDd_z : cutDd (.fz l) lo hi K = K (.lst (cutN l lo hi)) := rfl
theorem cutDd_t : cutDd (.tup l) lo hi K = K (.tup (cutN l lo hi)) := rfl
theorem listD_l : listD (.lst l) KL = KL l := rfl
theorem listD_z : listD (.fz l) KL = KL l := rfl
theorem itemsD_l : itemsD (.lst l) KL = KL l := rfl
theorem itemsD_t : itemsD (.tup l) KL = KL l := rfl
theorem itemsQ_s : itemsQ (.str x) KL = (x.length ≤ 1000000 ∧ KL (signsD x)) := rfl
theorem itemsQ_l : itemsQ (.lst l) KL = KL l := rfl
theorem itemsQ_z : itemsQ (.fz l) KL = KL l := rfl
theorem itemsQ_t : itemsQ (.tup l) KL = KL l := rfl
theorem aInt_i : aInt [.int p] K = K (.int p) := rfl
theorem aInt_b : aInt [.bl c] K = K (.int (if c then 1 else 0)) := rfl
theorem aTupOf_l : aTupOf [.lst l] K = K (.tup l) := rfl
theorem aTupOf_t : aTupOf [.tup l] K = K (.tup l) := rfl
def anyD (d : Dat) (K : List Dat → Prop) : Prop :=
  match d with
  | .lst l => K l
  | .fz l => K l
  | .tup l => K l
  | .str x => K (signsD x)
  | _ => False
theorem e_anyIt : wAnyIt wa S QF = wa S fun d S1 => anyD d fun l => QF l S1 := by
  unfold wAnyIt anyD
  rfl
theorem anyD_l : anyD (.lst l) KL = KL l := rfl
theorem anyD_z : anyD (.fz l) KL = KL l := rfl
theorem anyD_t : anyD (.tup l) KL = KL l := rfl
theorem anyD_s : anyD (.str x) KL = KL (signsD x) := rfl
def par2 (i j : Nat) (D : Dx) (ds : List Dat) (S1 : Sx) : Prop := as2 ds fun a b => D.nx ⟨(S1.sl.set i (.im a)).set j (.im b), S1.n⟩
theorem e_par {i j : Nat} {wf : WF} {D : Dx} : wPar i j wf D S = wf S fun ds S1 => par2 i j D ds S1 := rfl
theorem joinD_l : joinD (.str x) [.lst l] K = ∃ ys, isStrs l = some ys ∧ ((ys.map (·.length)).sum + ys.length * x.length ≤ 1000000) ∧ K (.str (joinN x ys)) := rfl
theorem joinD_t : joinD (.str x) [.tup l] K = ∃ ys, isStrs l = some ys ∧ ((ys.map (·.length)).sum + ys.length * x.length ≤ 1000000) ∧ K (.str (joinN x ys)) := rfl
def zipQ (a b : Dat) (K : List Dat → Prop) : Prop :=
  match a with
  | .tup l => (match b with | .tup m => K (zipD l m) | _ => False)
  | .lst l => (match b with | .lst m => K (zipD l m) | _ => False)
  | _ => False
theorem e_zip {wf : WF} : wZip wf S QF = wf S fun ds S1 => as2 ds fun a b => zipQ a b fun l => QF l S1 := rfl
theorem zipQ_t : zipQ (.tup l) (.tup m) KL = KL (zipD l m) := rfl
theorem zipQ_l : zipQ (.lst l) (.lst m) KL = KL (zipD l m) := rfl
end
end Dl
-- part Dx
set_option Elab.async false
set_option linter.all false
set_option maxRecDepth 100000
set_option maxHeartbeats 4000000
namespace Dl
open PySem PySem.Spec PyProof.Rows L2 Evl RZ
variable [LawTabs]
theorem vals_getD {vs : List V} {us : List Value} (h : Vals vs us) (i : Nat) : RelV (vs.getD i .non) (us.getD i .none) := by
  induction h generalizing i with
  | nil => cases i <;> exact rfl
  | cons r _ ih =>
    cases i with
    | zero => exact r
    | succ i => exact ih i
theorem reps_getD {K : PySem.W.Frag} {p : Amb} {F : Hp} : ∀ {vs : List V} {ds : List Dat}, Reps K p F vs ds → ∀ i : Nat, Rep K p F (vs.getD i .non) (ds.getD i .non)
  | _, _, .nil, i => by cases i <;> exact .non
  | _, _, .cons r _, 0 => r
  | _, _, .cons _ s, i + 1 => reps_getD s i
theorem rep_str {K : PySem.W.Frag} {p : Amb} {F : Hp} {s : Str} {z : List Nat} (h : s.cps.toList = z) : Rep K p F (.str s) (.str z) := h ▸ .str s
/-- a tuple of the top's -/
theorem cv_tup {K : PySem.W.Frag} {a : Addr} {oc : Option Addr} {its : List Value} {n : Nat} {m : Array (Option Value)} {vs : List V} {ds : List Dat} (l : K.lookup a = some ⟨.type "tuple", oc, .seq its.toArray n, m⟩) (hl : its.length ≤ sizeLine) (hv : Vals vs its)
    (hr : ∀ p F, Reps K p F vs ds) : CV K (.ref a) (.tup ds) := ⟨fun p F => .tup (.inr ⟨_, its.toArray, n, l, rfl, rfl, by simpa using hl, hv⟩) (hr p F)⟩
/-- keywords: n values and m keywords' values -/
def wCallN (n m : Nat) (f : Fn) (gD : List Dat → List Dat → List Dat) (wa wk : WF) : WE := fun S Q => wa S fun ds S1 => wk S1 fun es S2 => ds.length = n ∧ es.length = m ∧ f (gD ds es) S2.n fun d n' => Q d ⟨S2.sl, n'⟩
theorem reps_len {K : PySem.W.Frag} {p : Amb} {F : Hp} : ∀ {vs : List V} {ds : List Dat}, Reps K p F vs ds → vs.length = ds.length
  | _, _, .nil => rfl
  | _, _, .cons _ s => congrArg Nat.succ (reps_len s)
instance ev_callN {K : PySem.W.Frag} {n m : Nat} {f : Fn} {E : XK} {gV : List V → List V → List V} {gD : List Dat → List Dat → List Dat} {ta tk : TA} {wa wk : WF} [g : KPerm gV gD] [a : AV K ta wa] [b : AV K tk wk] : EV K (tCallN n m (spF K f) gV E ta tk) (wCallN n m f gD wa wk) :=
  ⟨fun {p _ _ _ _ _ _ _ _ _} ok hw k => a.run ok hw fun vs F1 H1 S1 ds ok1 e1 r1 q1 => b.run ok1 q1 fun ws F2 H2 S2 es ok2 e2 r2 ⟨l1, l2, q2⟩ =>
    ⟨(reps_len r1).trans l1, (reps_len r2).trans l2, p, F2, gD ds es, S2.n, _, ok2.hp.self, g.rep (r1.mono e2) r2, q2, fun v F3 H3 d n3 g3 r3 q3 => k v F3 H3 _ d (ok2.call g3) ((e1.trans e2).trans g3.f0) r3 q3⟩⟩
section
variable {X : Cx} {CX : CXT} {k : Nat} {f : Addr} {fd : FuncData} {ps ks : List Str} {sp : Sp} {E : XK} {x : Str} {p pos : Pos} {kws : List Keyword} {tk : TA} {g : List Value → List Value → List Value} {gV : List V → List V → List V}
theorem pe_callN0 (F : FnOk X.prog X.w X.K X.mg X.base CX k f fd ps sp) (hr : Room k X.A) (hg : Gl X x) (hm : X.mg x = some (.ref f)) (hk : PySem.W.keepIn X.K (.ref f) = true) (hb : KBn X.K fd ps 0 ks g gV) (hx : Passes CX X E)
    (hkw : PK X kws tk) (hall : (backToKw pos (keywordEach kws X.env)).all (·.1.isSome) = true := by rfl) (hks : (backToKw pos (keywordEach kws X.env)).filterMap (·.1) = ks := by rfl)
    (hdb : (x == ("__debug__" : Str)) = false := by decide) (hpl : (backToKw pos (keywordEach kws X.env)).any (·.1.isNone) = false := by rfl) :
    PE X (.Call (.Name x p) [] kws pos) (tCallN 0 ks.length sp gV E tNil tk) := by
  refine ⟨fun pins s σ H Q I h => ?_⟩
  refine wpAny_Call_Name_kw (ld_glob I hg hm ?_ hdb)
  refine PySem.W.callWith_KW0 (h₀ := X.base) I.ok.mod.kin hk hall ?_ hpl
  refine thn (hkw.run pos pins s σ H _ I h) fun ws s2 hw => ?_
  obtain ⟨zs, H2, I2, rz, l1, l2, q2⟩ := hw
  refine ⟨I2.kIn, ?_⟩
  rw [hks]
  exact run_fnN F hr hb hx I2 .nil rz l1 l2 q2
end
/-- how its arguments bind when some are named -/
theorem kbn {K : PySem.W.Frag} {x qual : Str} {st : Stmt} {f : Addr} {fd : FuncData} (F : Fun K x qual st f fd) {ps : List Str} (n : Nat) (ks : List Str) (g : List Value → List Value → List Value) (gV : List V → List V → List V)
    (h : ∀ (kV doc pm : Value) (an : Option Addr) (cdv ct : Value) (us ws : List Value), us.length = n → ws.length = ks.length → bindArgs (PySem.W.fnOf x qual (defArgs st) (defBody st) (defScope st) .none kV doc pm an cdv ct) ⟨us, ks.zip ws⟩ = pure (ps.zip (g us ws)))
    (r : ∀ {vs : List V} {us : List Value} {zs : List V} {ws : List Value}, Vals vs us → Vals zs ws → Vals (gV vs zs) (g us ws)) : KBn K fd ps n ks g gV := by
  obtain ⟨oc, od, kV, doc, pm, an, cdv, ct, osl, rfl, lk, hcd⟩ := F.ex
  exact ⟨fun s us ws _ l1 l2 => .of_eq (h kV doc pm an cdv ct us ws l1 l2), r⟩
section
variable {X : Cx}
theorem addK (K : PySem.W.Frag) (h : X.K = K := by rfl) : OpR X (binaryOp .Add) (rAddG K) := h ▸ op_addG
theorem inK (K : PySem.W.Frag) (h : X.K = K := by rfl) : OpR X (compareOp .In) (rInG K false) := h ▸ op_inG
theorem notInK (K : PySem.W.Frag) (h : X.K = K := by rfl) : OpR X (compareOp .NotIn) (rInG K true) := h ▸ op_notInG
theorem eqK (K : PySem.W.Frag) (u : X.A.units + 64 < cLine) (h : X.K = K := by rfl) : OpR X (compareOp .Eq) (rEqG K) := h ▸ op_eqG u
theorem neK (K : PySem.W.Frag) (u : X.A.units + 64 < cLine) (h : X.K = K := by rfl) : OpR X (compareOp .NotEq) (rNeG K) := h ▸ op_neG u
theorem ixK (K : PySem.W.Frag) (h : X.K = K := by rfl) : IxR X (L2.rIx K) := h ▸ ix_seq
theorem lenK (K : PySem.W.Frag) (h : X.K = K := by rfl) : CallR X (.builtin "len") (rLenG K) := h ▸ call_lenG
theorem isiK (K : PySem.W.Frag) (h : X.K = K := by rfl) : CallR X (.builtin "isinstance") (rIsi K) := h ▸ call_isi
theorem sumK (K : PySem.W.Frag) (c : X.calm = true) (h : X.K = K := by rfl) : CallR X (.builtin "sum") (rSum K) := h ▸ cr_sum c
theorem allK (K : PySem.W.Frag) (c : X.calm = true) (h : X.K = K := by rfl) : CallR X (.builtin "all") (rAll K) := h ▸ cr_all c
theorem anyK (K : PySem.W.Frag) (c : X.calm = true) (h : X.K = K := by rfl) : CallR X (.builtin "any") (rAny K) := h ▸ cr_any c
theorem slK (K : PySem.W.Frag) (h : X.K = K := by rfl) : SlR X (rCutG K) := h ▸ sl_G
theorem tupK (K : PySem.W.Frag) (h : X.K = K := by rfl) : CallR X (.type "tuple") (rTupG K) := h ▸ call_tupG
theorem listK (K : PySem.W.Frag) (c : X.calm = true) (h : X.K = K := by rfl) : CallR X (.type "list") (rListG K) := h ▸ call_listG c
theorem joinK (K : PySem.W.Frag) (h : X.K = K := by rfl) : MtR X "str.join" (rJoin K) := h ▸ mt_joinG
theorem piK (K : PySem.W.Frag) {tg l : Expr} {tl : TE} (a : PE X l tl) (h : X.K = K := by rfl) : PI X tg l (iAny K tl) := h ▸ pi_any a
theorem zipK (K : PySem.W.Frag) {e e2 : Expr} {ta : TA} {p pos tpos : Pos} {elts : List Expr} {kk : Nat} (hg : Gl X "zip") (hm : X.mg "zip" = none) (a : PA X [e, e2] ta)
    (h1 : starEach [e, e2] X.env = (false, eval e X.env) :: starEach [e2] X.env := by rfl) (h2 : ((backTo pos (starEach [e2] X.env)).any (·.1)) = false := by rfl) (h : X.K = K := by rfl) :
    PI X (.Tuple elts kk tpos) (.Call (.Name "zip" p) [e, e2] [] pos) (iZipA K ta) := h ▸ pi_zipA hg hm a h1 h2
theorem tgK (K : PySem.W.Frag) {pos : Pos} {es : List Expr} {k : Nat} {t : TGs} (n : Nat) (hc : X.calm = true) (a : PGs X es t) (h1 : (assignEach es X.env).length = n := by rfl)
    (h2 : (assignEach es X.env).findIdx? (·.1) = none := by rfl) (h : X.K = K := by rfl) : PG X (.Tuple es k pos) (gTup K n t) := h ▸ pg_tup hc a h1 h2
theorem bmK (K : PySem.W.Frag) {o e : Expr} {es : List Expr} {to : TE} {t : TA} {name : Str} {apos cpos : Pos} {T id : String} {r : V → List V → Hp → VK → Prop} (h1 : PlainAttrs T) (h2 : Slot T name id)
    (h3 : typeOf (.builtin id) = pure (.type "method_descriptor")) (h4 : MtR X id r) (h5 : PE X o to) (h6 : PA X (e :: es) t) (h7 : attributeBase o name X.env (eval o X.env) = eval o X.env := by rfl)
    (h8 : ((backTo cpos (starEach (e :: es) X.env)).all (!·.1) && (backToKw cpos (keywordEach [] X.env)).all (·.1.isSome) && decide ((e :: es).length + ([] : List Keyword).length + (if ([] : List Keyword).isEmpty then 0 else 1) < 30)) = true := by rfl)
    (h9 : (apos.endLine == cpos.line) = true := by decide) (h10 : starEach (e :: es) X.env = (false, eval e X.env) :: starEach es X.env := by rfl) (h11 : ((backTo cpos (starEach es X.env)).any (·.1)) = false := by rfl) (h : X.K = K := by rfl) :
    PE X (.Call (.Attribute o name apos) (e :: es) [] cpos) (tBM K T r to t) := h ▸ pe_bm h1 h2 h3 h4 h5 h6 h7 h8 h9 h10 h11
end
section
variable {X : Cx}
theorem lcK {elt tg iter : Expr} {ifs : List Expr} {scope : Scope} (own : List (Str × Nat)) (vs : List Nat) {pos : Pos} {wi : TI} {g : TG} {tt : TT} {te : TE} (hc : X.calm = true) (hN : X.N.Nodup) (hi : PI X tg iter wi) (ok : BlkOk X.N X.env.scope scope own)
    (hg : ∀ (s : Shared) (H : Hp) (C : Addr) (cl : List (Str × Addr)) (fp : List Addr), PG (X.blk s H scope (compEnvC scope cl C X.env) fp) tg g) (ht : ∀ (s : Shared) (H : Hp) (C : Addr) (cl : List (Str × Addr)) (fp : List Addr), PTs (X.blk s H scope (compEnvC scope cl C X.env) fp) ifs tt)
    (he : ∀ (s : Shared) (H : Hp) (C : Addr) (cl : List (Str × Addr)) (fp : List Addr), PE (X.blk s H scope (compEnvC scope cl C X.env) fp) elt te) (hs : ∀ x, foldedSetIterable iter X.env x = pure x := by intro _; rfl) (hv : own.map (·.2) = vs := by rfl) :
    PE X (.ListComp elt [⟨tg, iter, ifs, 0⟩] scope pos) (tLc wi g tt te vs) := hv ▸ pe_lc hc hN hi ok hg ht he hs
theorem setLcK (i : Nat) {y : Str} {py : Pos} {elt tg iter : Expr} {ifs : List Expr} {scope : Scope} (own : List (Str × Nat)) (vs : List Nat) {pos spos : Pos} {wi : TI} {g : TG} {tt : TT} {te : TE} (hc : X.calm = true) (hN : X.N.Nodup) (hy : X.N[i]? = some y) (hyl : X.env.scope.names.lookup y = some .local)
    (hsw : swapsWith (.ListComp elt [⟨tg, iter, ifs, 0⟩] scope pos) (some (.Name y py)) spos.line X.env = pure true) (hi : PI X tg iter wi) (ok : BlkOk X.N X.env.scope scope own)
    (hg : ∀ (s : Shared) (H : Hp) (C : Addr) (cl : List (Str × Addr)) (fp : List Addr), PG (X.blk s H scope (compEnvC scope cl C X.env) fp) tg g) (ht : ∀ (s : Shared) (H : Hp) (C : Addr) (cl : List (Str × Addr)) (fp : List Addr), PTs (X.blk s H scope (compEnvC scope cl C X.env) fp) ifs tt)
    (he : ∀ (s : Shared) (H : Hp) (C : Addr) (cl : List (Str × Addr)) (fp : List Addr), PE (X.blk s H scope (compEnvC scope cl C X.env) fp) elt te) (hs : ∀ x, foldedSetIterable iter X.env x = pure x := by intro _; rfl) (hv : own.map (·.2) = vs := by rfl) :
    PS X (.Assign [.Name y py] (.ListComp elt [⟨tg, iter, ifs, 0⟩] scope pos) spos) (tAsg (tLc wi g tt te vs) (gName i)) := hv ▸ ps_setLc hc hN hy hyl hsw hi ok hg ht he hs
end
instance subN_app {a b c : List Nat} [x : SubN a c] [y : SubN b c] : SubN (a ++ b) c := ⟨fun j h => by
  rcases List.mem_append.mp h with h | h
  · exact x.sub j h
  · exact y.sub j h⟩
end Dl
-- part Dy
set_option Elab.async false
set_option linter.all false
set_option maxRecDepth 100000
set_option maxHeartbeats 4000000
namespace Dl
open PySem PySem.Spec PyProof.Rows L2 Evl RZ
variable [LawTabs]
section
variable {prog : Program} {w : World} {A : Around} {E : Value → Shared → Prop} {s : Shared} {l : Addr} {its : List Value} {ns : List Int} {Q : Value → Shared → Prop}
theorem old_keptT {h' : Heap} {hl : l < s.heap.objs.size} (hk : ∀ b o, b ∉ [s.heap.objs.size] → (s.heap.push { cls := .type "tuple_iterator", data := .fields #[.ref l, .int 0 0] }).get? b = some o → h'.get? b = some o) :
    ∀ b o, s.heap.get? b = some o → h'.get? b = some o := fun b o e => by
  refine hk b o (fun hm => ?_) (Heap.get?_push_of_some _ e)
  rcases List.mem_cons.mp hm with e1 | hm
  · exact absurd (e1 ▸ Heap.lt_size e) (Nat.lt_irrefl _)
  · cases hm
theorem minT_raw (hh : A.handled = none) (hl : s.heap.IsTuple l its.toArray) (hi : IntsAre its ns) (hne : 0 < ns.length)
    (h : ∀ h' tk M t', (∀ b o, s.heap.get? b = some o → h'.get? b = some o) → M ∈ ns → (∀ a, a ∈ ns → M ≤ a) → Q (.int M t') { s with heap := h', toks := tk }) : wpAny (model prog w) A (call (.builtin "min") [.ref l]) Q E s := by
  obtain ⟨xs, e⟩ := hi.allInts.items
  have hn : numsOf (intItems xs).toList = ns := by rw [← e]; exact hi.numsOf
  rw [nums_intItems] at hn
  subst hn
  rw [e] at hl
  have hsz : 0 < xs.size := by simpa using hne
  have hlt : l < s.heap.objs.size := by obtain ⟨_, e, _⟩ := hl; exact Heap.lt_size e
  refine call_min_walk (wpAny_pyIter_tuple hl ?_)
  refine ⟨_, [_, l], [_], _, _, _, _, rfl, Walks.tuple (A := A.in1) hh _ l (Nat.ne_of_lt hlt) (intItems xs), ⟨⟨_, Heap.get?_push_size _ rfl, rfl, rfl⟩, hl.push _⟩, fun b hb => ?_, by simpa [intItems] using hsz, CmpOf.ints_lt (numAt xs) (fun _ _ => intItems_at), fun v h' tk hP hk => ?_⟩
  · show b < (s.heap.push _).objs.size
    rw [Heap.size_push]
    rcases List.mem_cons.mp hb with rfl | hb
    · exact Nat.lt_succ_self _
    · rcases List.mem_cons.mp hb with rfl | hb
      · exact Nat.lt_succ_of_lt hlt
      · cases hb
  · have hv : (intItems xs)[argBest (fun i j => decide (numAt xs i < numAt xs j)) (xs.size - 1)]? = some v := by simpa [intItems] using hP
    obtain ⟨t, rfl⟩ := intItems_at hv
    obtain ⟨h1, h2⟩ := argBest_lt (numAt xs) (xs.size - 1)
    refine h h' tk _ t (old_keptT (hl := hlt) hk) ?_ fun a ha => ?_
    · rw [numAt_eq]; exact PySem.getD_mem (by rw [List.length_map, Array.length_toList]; omega)
    · obtain ⟨j, hj, rfl⟩ := mem_getD ha
      rw [List.length_map, Array.length_toList] at hj
      rw [← numAt_eq]; exact h2 j (by omega)
theorem maxT_raw (hh : A.handled = none) (hl : s.heap.IsTuple l its.toArray) (hi : IntsAre its ns) (hne : 0 < ns.length)
    (h : ∀ h' tk M t', (∀ b o, s.heap.get? b = some o → h'.get? b = some o) → M ∈ ns → (∀ a, a ∈ ns → a ≤ M) → Q (.int M t') { s with heap := h', toks := tk }) : wpAny (model prog w) A (call (.builtin "max") [.ref l]) Q E s := by
  obtain ⟨xs, e⟩ := hi.allInts.items
  have hn : numsOf (intItems xs).toList = ns := by rw [← e]; exact hi.numsOf
  rw [nums_intItems] at hn
  subst hn
  rw [e] at hl
  have hsz : 0 < xs.size := by simpa using hne
  have hlt : l < s.heap.objs.size := by obtain ⟨_, e, _⟩ := hl; exact Heap.lt_size e
  refine call_max_walk (wpAny_pyIter_tuple hl ?_)
  refine ⟨_, [_, l], [_], _, _, _, _, rfl, Walks.tuple (A := A.in1) hh _ l (Nat.ne_of_lt hlt) (intItems xs), ⟨⟨_, Heap.get?_push_size _ rfl, rfl, rfl⟩, hl.push _⟩, fun b hb => ?_, by simpa [intItems] using hsz, CmpOf.ints_gt (numAt xs) (fun _ _ => intItems_at), fun v h' tk hP hk => ?_⟩
  · show b < (s.heap.push _).objs.size
    rw [Heap.size_push]
    rcases List.mem_cons.mp hb with rfl | hb
    · exact Nat.lt_succ_self _
    · rcases List.mem_cons.mp hb with rfl | hb
      · exact Nat.lt_succ_of_lt hlt
      · cases hb
  · have hv : (intItems xs)[argBest (fun i j => decide (numAt xs i > numAt xs j)) (xs.size - 1)]? = some v := by simpa [intItems] using hP
    obtain ⟨t, rfl⟩ := intItems_at hv
    obtain ⟨h1, h2⟩ := argBest_gt (numAt xs) (xs.size - 1)
    refine h h' tk _ t (old_keptT (hl := hlt) hk) ?_ fun a ha => ?_
    · rw [numAt_eq]; exact PySem.getD_mem (by rw [List.length_map, Array.length_toList]; omega)
    · obtain ⟨j, hj, rfl⟩ := mem_getD ha
      rw [List.length_map, Array.length_toList] at hj
      rw [← numAt_eq]; exact h2 j (by omega)
end
section
variable {X : Cx}
def rMin1 (K : PySem.W.Frag) : List V → Hp → VK → Prop := fun vs H Q => ∃ (a : Addr) (ns : List Int), vs = [V.ref a] ∧ (SqL K H a (ns.map V.int) ∨ SqT K H a (ns.map V.int)) ∧ 0 < ns.length ∧ ∀ m, m ∈ ns → (∀ y, y ∈ ns → m ≤ y) → Q (.int m) H
def rMax1 (K : PySem.W.Frag) : List V → Hp → VK → Prop := fun vs H Q => ∃ (a : Addr) (ns : List Int), vs = [V.ref a] ∧ (SqL K H a (ns.map V.int) ∨ SqT K H a (ns.map V.int)) ∧ 0 < ns.length ∧ ∀ m, m ∈ ns → (∀ y, y ∈ ns → y ≤ m) → Q (.int m) H
theorem minK1 (K : PySem.W.Frag) (hc : X.calm = true) (h : X.K = K := by rfl) : CallR X (.builtin "min") (rMin1 K) := by
  subst h
  intro pins s σ H vs us Q I r h
  obtain ⟨a, ns, rfl, hs, hne, q⟩ := h
  rcases hs with hs | hs
  · obtain ⟨its, rv, hl, _⟩ := I.list hs
    rw [Vals.ref1 r]
    exact min_raw (I.ok.hd hc) hl.isList rv.ints hne fun h' tk m t' hk h1 h2 => ⟨.int _, H, I.kept hk, ⟨_, rfl⟩, q m h1 h2⟩
  · obtain ⟨its, rv, hl, _⟩ := I.tuple hs
    rw [Vals.ref1 r]
    exact minT_raw (I.ok.hd hc) hl rv.ints hne fun h' tk m t' hk h1 h2 => ⟨.int _, H, I.kept hk, ⟨_, rfl⟩, q m h1 h2⟩
theorem maxK1 (K : PySem.W.Frag) (hc : X.calm = true) (h : X.K = K := by rfl) : CallR X (.builtin "max") (rMax1 K) := by
  subst h
  intro pins s σ H vs us Q I r h
  obtain ⟨a, ns, rfl, hs, hne, q⟩ := h
  rcases hs with hs | hs
  · obtain ⟨its, rv, hl, _⟩ := I.list hs
    rw [Vals.ref1 r]
    exact max_raw (I.ok.hd hc) hl.isList rv.ints hne fun h' tk m t' hk h1 h2 => ⟨.int _, H, I.kept hk, ⟨_, rfl⟩, q m h1 h2⟩
  · obtain ⟨its, rv, hl, _⟩ := I.tuple hs
    rw [Vals.ref1 r]
    exact maxT_raw (I.ok.hd hc) hl rv.ints hne fun h' tk m t' hk h1 h2 => ⟨.int _, H, I.kept hk, ⟨_, rfl⟩, q m h1 h2⟩
end
/-- the items of a list or a tuple -/
def partsD (d : Dat) (Q : List Dat → Prop) : Prop :=
  match d with
  | .lst l => Q l
  | .fz l => Q l
  | .tup l => Q l
  | _ => False
theorem partsD_l {l : List Dat} {Q : List Dat → Prop} : partsD (.lst l) Q = Q l := rfl
theorem partsD_z {l : List Dat} {Q : List Dat → Prop} : partsD (.fz l) Q = Q l := rfl
theorem partsD_t {l : List Dat} {Q : List Dat → Prop} : partsD (.tup l) Q = Q l := rfl
theorem partsD_of {a : Dat} {Q : List Dat → Prop} (h : partsD a Q) : ∃ l, ((a = .lst l ∨ a = .fz l) ∨ a = .tup l) ∧ Q l := by
  cases a with
  | lst l => exact ⟨l, .inl (.inl rfl), h⟩
  | fz l => exact ⟨l, .inl (.inr rfl), h⟩
  | tup l => exact ⟨l, .inr rfl, h⟩
  | _ => exact h.elim
def aMin1 (ds : List Dat) (Q : Dat → Prop) : Prop := as1 ds fun a => partsD a fun l => ∃ ns, isInts l = some ns ∧ 0 < ns.length ∧ ∀ m, m ∈ ns → (∀ y, y ∈ ns → m ≤ y) → Q (.int m)
def aMax1 (ds : List Dat) (Q : Dat → Prop) : Prop := as1 ds fun a => partsD a fun l => ∃ ns, isInts l = some ns ∧ 0 < ns.length ∧ ∀ m, m ∈ ns → (∀ y, y ∈ ns → y ≤ m) → Q (.int m)
section
variable {K : PySem.W.Frag}
theorem Rep.parts_of {p : Amb} {F : Hp} {v : V} {a : Dat} {l : List Dat} (r : Rep K p F v a) (h : (a = .lst l ∨ a = .fz l) ∨ a = .tup l) : ∃ b vs, v = .ref b ∧ (SqL K F b vs ∨ SqT K F b vs) ∧ Reps K p F vs l := by
  rcases h with h | h
  · obtain ⟨b, vs, e, g, q⟩ := r.list_of h
    exact ⟨b, vs, e, .inl g, q⟩
  · subst h
    obtain ⟨b, vs, e, g, q⟩ := r.tup_of
    exact ⟨b, vs, e, .inr g, q⟩
instance : BV K (rMin1 K) aMin1 := .pure fun {p F H QD vs ds Q'} e r hf k => by
  obtain ⟨a, rfl, f1⟩ := as1_of hf
  obtain ⟨v, rfl, rv⟩ := r.one_of
  obtain ⟨l, hl, ns, h1, h2, h3⟩ := partsD_of f1
  obtain ⟨b, ws, rfl, g1, g2⟩ := rv.parts_of hl
  have g3 := g2.ints_of h1
  subst g3
  exact ⟨b, ns, rfl, g1.imp (ex_l e) (ex_t e), h2, fun m q1 q2 => k _ _ (.int _) (h3 m q1 q2)⟩
instance : BV K (rMax1 K) aMax1 := .pure fun {p F H QD vs ds Q'} e r hf k => by
  obtain ⟨a, rfl, f1⟩ := as1_of hf
  obtain ⟨v, rfl, rv⟩ := r.one_of
  obtain ⟨l, hl, ns, h1, h2, h3⟩ := partsD_of f1
  obtain ⟨b, ws, rfl, g1, g2⟩ := rv.parts_of hl
  have g3 := g2.ints_of h1
  subst g3
  exact ⟨b, ns, rfl, g1.imp (ex_l e) (ex_t e), h2, fun m q1 q2 => k _ _ (.int _) (h3 m q1 q2)⟩
end
/-! loops -/
/-- a loop that may be left: an invariant for each turn -/
theorem forW_at {wg : WG} {wb : WS} {D : Dx} : ∀ (ds : List Dat) (Iv : Nat → Sx → Prop) (S : Sx),
    (∀ i d S, ds[i]? = some d → Iv i S → ∀ N : Sx → Prop, (∀ S', Iv (i + 1) S' → N S') → wg d S fun S2 => wb { D with nx := N, ct := N, bk := D.nx } S2) →
    Iv 0 S → (∀ S', Iv ds.length S' → D.nx S') → forW wg wb ds D S
  | [], Iv, S, _, h0, h1 => h1 S h0
  | d :: ds, Iv, S, st, h0, h1 => st 0 d S rfl h0 _ fun S' hS' =>
    forW_at ds (fun i => Iv (i + 1)) S' (fun i e S hi => st (i + 1) e S hi) hS' h1
/-- while: an invariant and a measure -/
theorem wWhile_at {wt : WT} {wb : WS} {D : Dx} (Iv : Sx → Prop) (mu : Sx → Nat) {S : Sx}
    (st : ∀ S, Iv S → ∀ N : Sx → Prop, (∀ S', Iv S' → mu S' < mu S → N S') → wt S fun b S1 => if b = true then wb { D with nx := N, ct := N, bk := D.nx } S1 else D.nx S1)
    (h0 : Iv S) : wWhile wt wb D S := by
  refine ⟨mu S + 1, ?_⟩
  have key : ∀ k S, Iv S → mu S < k → whileW wt wb k D S := by
    intro k
    induction k with
    | zero => intro S _ h; omega
    | succ k ih =>
      intro S hS hk
      exact st S hS _ fun S' h1 h2 => ih S' h1 (by omega)
  exact key _ S h0 (Nat.lt_succ_self _)
/-- a comprehension that draws nothing and keeps all: what each element gives is only known by P -/
theorem intsD_get {a : Int} {k i : Nat} {d : Dat} (h : (intsD a k)[i]? = some d) : i < k ∧ d = .int (a + i) := by
  unfold intsD at h
  rw [List.getElem?_map, Option.map_eq_some_iff] at h
  obtain ⟨j, h1, rfl⟩ := h
  have h2 : i < k := by
    by_cases hi : i < k
    · exact hi
    · rw [List.getElem?_eq_none (by simpa using hi)] at h1
      cases h1
  rw [List.getElem?_range h2] at h1
  cases h1
  exact ⟨h2, rfl⟩
end Dl
-- part Dz
set_option Elab.async false
set_option linter.all false
set_option maxRecDepth 100000
set_option maxHeartbeats 4000000
namespace Dl
open PySem PySem.Spec PyProof.Rows L2 Evl RZ
variable [LawTabs]
/-! data that == compares as one expects: no bools -/
def okStr (l : List Nat) : Bool := l.all fun c => decide (c < 1114112)
def nice : Nat → Dat → Bool
  | _, .non => true
  | _, .int _ => true
  | _, .str l => okStr l
  | k + 1, .tup l => l.all (nice k)
  | k + 1, .lst l => l.all (nice k)
  | _, _ => false
theorem nice_tup {k : Nat} {l : List Dat} : nice (k + 1) (.tup l) = l.all (nice k) := by simp only [nice]
theorem nice_lst {k : Nat} {l : List Dat} : nice (k + 1) (.lst l) = l.all (nice k) := by simp only [nice]
theorem nice_str {k : Nat} {l : List Nat} : nice k (.str l) = okStr l := by cases k <;> simp only [nice]
theorem nice_int {k : Nat} {i : Int} : nice k (.int i) = true := by cases k <;> simp only [nice]
theorem nice_non {k : Nat} : nice k .non = true := by cases k <;> simp only [nice]
theorem nice_bad {k : Nat} {x : Dat} (h : nice k x = true) : x = .non ∨ (∃ i, x = .int i) ∨ (∃ l, x = .str l ∧ okStr l = true) ∨ ∃ j l, k = j + 1 ∧ l.all (nice j) = true ∧ (x = .tup l ∨ x = .lst l) := by
  cases x with
  | non => exact .inl rfl
  | int i => exact .inr (.inl ⟨i, rfl⟩)
  | str l => rw [nice_str] at h; exact .inr (.inr (.inl ⟨l, rfl, h⟩))
  | tup l =>
    cases k with
    | zero => simp [nice] at h
    | succ k => rw [nice_tup] at h; exact .inr (.inr (.inr ⟨k, l, rfl, h, .inl rfl⟩))
  | lst l =>
    cases k with
    | zero => simp [nice] at h
    | succ k => rw [nice_lst] at h; exact .inr (.inr (.inr ⟨k, l, rfl, h, .inr rfl⟩))
  | _ => cases k <;> simp [nice] at h
theorem eqvAll_of {k : Nat} (ih : ∀ x y, nice k x = true → nice k y = true → (PyData.eqv (pd x) (pd y) = true ↔ x = y)) : ∀ l m : List Dat, l.all (nice k) = true → m.all (nice k) = true → (PyData.eqvAll (pds l) (pds m) = true ↔ l = m)
  | [], [], _, _ => by simp [pds, PyData.eqvAll]
  | [], _ :: _, _, _ => by simp [pds, PyData.eqvAll]
  | _ :: _, [], _, _ => by simp [pds, PyData.eqvAll]
  | x :: l, y :: m, hl, hm => by
    rw [List.all_cons, Bool.and_eq_true] at hl hm
    simp only [pds, PyData.eqvAll, Bool.and_eq_true, List.cons.injEq]
    rw [ih x y hl.1 hm.1, eqvAll_of ih l m hl.2 hm.2]
theorem eqv_nice : ∀ (k : Nat) (x y : Dat), nice k x = true → nice k y = true → (PyData.eqv (pd x) (pd y) = true ↔ x = y) := by
  intro k
  induction k with
  | zero =>
    intro x y hx hy
    rcases nice_bad hx with rfl | ⟨i, rfl⟩ | ⟨l, rfl, h1⟩ | ⟨j, l, h0, _⟩
    · rcases nice_bad hy with rfl | ⟨j, rfl⟩ | ⟨m, rfl, h2⟩ | ⟨j, m, h0, _⟩ <;> first | omega | simp [pd, PyData.eqv]
    · rcases nice_bad hy with rfl | ⟨j, rfl⟩ | ⟨m, rfl, h2⟩ | ⟨j, m, h0, _⟩ <;> first | omega | simp [pd, PyData.eqv]
    · rcases nice_bad hy with rfl | ⟨j, rfl⟩ | ⟨m, rfl, h2⟩ | ⟨j, m, h0, _⟩ <;> first | omega | simp [pd, PyData.eqv]
    · omega
  | succ k ih =>
    intro x y hx hy
    rcases nice_bad hx with rfl | ⟨i, rfl⟩ | ⟨l, rfl, h1⟩ | ⟨j, l, h0, h1, rfl | rfl⟩
    · rcases nice_bad hy with rfl | ⟨j, rfl⟩ | ⟨m, rfl, h2⟩ | ⟨j, m, h0, _, rfl | rfl⟩ <;> simp [pd, PyData.eqv]
    · rcases nice_bad hy with rfl | ⟨j, rfl⟩ | ⟨m, rfl, h2⟩ | ⟨j, m, h0, _, rfl | rfl⟩ <;> simp [pd, PyData.eqv]
    · rcases nice_bad hy with rfl | ⟨j, rfl⟩ | ⟨m, rfl, h2⟩ | ⟨j, m, h0, _, rfl | rfl⟩ <;> simp [pd, PyData.eqv]
    · obtain rfl : j = k := by omega
      rcases nice_bad hy with rfl | ⟨j, rfl⟩ | ⟨m, rfl, h2⟩ | ⟨j2, m, h0, h2, rfl | rfl⟩
      · simp [pd, PyData.eqv]
      · simp [pd, PyData.eqv]
      · simp [pd, PyData.eqv]
      · obtain rfl : j2 = j := by omega
        simp only [pd, PyData.eqv, Dat.tup.injEq]
        exact eqvAll_of ih l m h1 h2
      · simp [pd, PyData.eqv]
    · obtain rfl : j = k := by omega
      rcases nice_bad hy with rfl | ⟨j, rfl⟩ | ⟨m, rfl, h2⟩ | ⟨j2, m, h0, h2, rfl | rfl⟩
      · simp [pd, PyData.eqv]
      · simp [pd, PyData.eqv]
      · simp [pd, PyData.eqv]
      · simp [pd, PyData.eqv]
      · obtain rfl : j2 = j := by omega
        simp only [pd, PyData.eqv, Dat.lst.injEq]
        exact eqvAll_of ih l m h1 h2
theorem eqD_yes {k : Nat} {x y : Dat} (hx : nice k x = true) (hy : nice k y = true) (h : x = y) : eqD x y = true := (eqv_nice k x y hx hy).mpr h
theorem eqD_no {k : Nat} {x y : Dat} (hx : nice k x = true) (hy : nice k y = true) (h : x ≠ y) : eqD x y = false := by
  rw [Bool.eq_false_iff]
  exact fun e => h ((eqv_nice k x y hx hy).mp e)
theorem okStr_ok {l : List Nat} (h : okStr l = true) : PyData.canLay0 (.str ⟨l.toArray⟩) = true := by
  simp only [PyData.canLay0, PyData.strOk]
  simpa [okStr] using h
theorem canLay_nice : ∀ (k : Nat) (x : Dat), nice k x = true → (pd x).canLay0 = true ∧ (pd x).depth ≤ k ∧ plain x = true := by
  intro k
  induction k with
  | zero =>
    intro x hx
    rcases nice_bad hx with rfl | ⟨i, rfl⟩ | ⟨l, rfl, h1⟩ | ⟨j, l, h0, _⟩
    · simp [pd, PyData.canLay0, PyData.depth, plain]
    · simp [pd, PyData.canLay0, PyData.depth, plain]
    · exact ⟨okStr_ok h1, by simp [pd, PyData.depth], by simp [plain]⟩
    · omega
  | succ k ih =>
    have lists : ∀ l : List Dat, l.all (nice k) = true → PyData.canLayAll0 (pds l) = true ∧ PyData.depthAll (pds l) ≤ k ∧ plains l = true := by
      intro l
      induction l with
      | nil => intro _; simp [pds, PyData.canLayAll0, PyData.depthAll, plains]
      | cons a l ih2 =>
        intro h
        rw [List.all_cons, Bool.and_eq_true] at h
        obtain ⟨a1, a2, a3⟩ := ih a h.1
        obtain ⟨b1, b2, b3⟩ := ih2 h.2
        simp only [pds, PyData.canLayAll0, PyData.depthAll, plains, a1, b1, a3, b3]
        exact ⟨rfl, by omega, rfl⟩
    intro x hx
    rcases nice_bad hx with rfl | ⟨i, rfl⟩ | ⟨l, rfl, h1⟩ | ⟨j, l, h0, h1, h2⟩
    · simp [pd, PyData.canLay0, PyData.depth, plain]
    · simp [pd, PyData.canLay0, PyData.depth, plain]
    · exact ⟨okStr_ok h1, by simp [pd, PyData.depth], by simp [plain]⟩
    · obtain rfl : j = k := by omega
      obtain ⟨b1, b2, b3⟩ := lists l h1
      rcases h2 with rfl | rfl
      · simp only [pd, PyData.canLay0, PyData.depth, plain]
        exact ⟨b1, by omega, b3⟩
      · simp only [pd, PyData.canLay0, PyData.depth, plain]
        exact ⟨b1, by omega, b3⟩
theorem cmpOk_nice {k : Nat} {x : Dat} (hx : nice k x = true) (hk : k ≤ 64 := by decide) : cmpOk x := by
  obtain ⟨h1, h2, h3⟩ := canLay_nice k x hx
  refine ⟨h3, ?_⟩
  unfold SeqAt.shaped
  rw [h1, decide_eq_true (show (pd x).depth ≤ 64 by omega)]
  rfl
theorem eqdT {k : Nat} {x y : Dat} {A B : Prop} (hx : nice k x = true) (hy : nice k y = true) (h : x = y) (a : A) : if eqD x y = true then A else B := by
  rw [if_pos (eqD_yes hx hy h)]
  exact a
theorem eqdN {k : Nat} {x y : Dat} {A B : Prop} (hx : nice k x = true) (hy : nice k y = true) (h : x ≠ y) (b : B) : if eqD x y = true then A else B := by
  rw [eqD_no hx hy h, if_neg Bool.false_ne_true]
  exact b
theorem nedT {k : Nat} {x y : Dat} {A B : Prop} (hx : nice k x = true) (hy : nice k y = true) (h : x ≠ y) (a : A) : if (!eqD x y) = true then A else B := by
  rw [eqD_no hx hy h]
  exact a
theorem nedN {k : Nat} {x y : Dat} {A B : Prop} (hx : nice k x = true) (hy : nice k y = true) (h : x = y) (b : B) : if (!eqD x y) = true then A else B := by
  rw [eqD_yes hx hy h]
  exact b
end Dl
-- part D1
set_option Elab.async false
set_option linter.all false
set_option maxRecDepth 100000
set_option maxHeartbeats 4000000
namespace Dl
open PySem PySem.Spec PyProof.Rows L2 Evl RZ
variable [LawTabs]
/-! is, is not: None or a bool on the right -/
section
variable {X : Cx}
def rIsB (neg : Bool) : R2 := fun x y H Q => ∃ b, y = .bl b ∧ ((∃ a, x = .bl a ∧ Q (.bl (if neg then !decide (a = b) else decide (a = b))) H) ∨ (x = .non ∧ Q (.bl neg) H))
theorem same_bl {M : Model} {A : Around} {E : Value → Shared → Prop} {s : Shared} {a b : Bool} {R : Bool → Shared → Prop} (q : R (decide (a = b)) s) : wpAny M A (isSame (.bool a) (.bool b)) R E s := by
  refine wpAny_isSame_plain rfl ?_
  rw [show (Value.bool a == Value.bool b) = decide (a = b) by cases a <;> cases b <;> rfl]
  exact q
theorem same_nb {M : Model} {A : Around} {E : Value → Shared → Prop} {s : Shared} {b : Bool} {R : Bool → Shared → Prop} (q : R false s) : wpAny M A (isSame .none (.bool b)) R E s := by
  refine wpAny_isSame_plain rfl ?_
  rw [show (Value.none == Value.bool b) = false by rfl]
  exact q
theorem op_isB : OpR X (compareOp .Is) (rIsB false) := by
  intro pins s σ H x y v u Q I rx ry h
  obtain ⟨b, rfl, h⟩ := h
  cases ry
  rcases h with ⟨a, rfl, q⟩ | ⟨rfl, q⟩
  · cases rx
    show wpAny _ _ ((isSame (Value.bool a) (Value.bool b)) >>= fun z => pure (Value.bool z)) _ _ s
    exact wpAny_bind (same_bl (wpAny_pure (fin_bl I q rfl)))
  · cases rx
    show wpAny _ _ ((isSame Value.none (Value.bool b)) >>= fun z => pure (Value.bool z)) _ _ s
    exact wpAny_bind (same_nb (wpAny_pure (fin_bl I q rfl)))
theorem op_isNotB : OpR X (compareOp .IsNot) (rIsB true) := by
  intro pins s σ H x y v u Q I rx ry h
  obtain ⟨b, rfl, h⟩ := h
  cases ry
  rcases h with ⟨a, rfl, q⟩ | ⟨rfl, q⟩
  · cases rx
    show wpAny _ _ ((isSame (Value.bool a) (Value.bool b)) >>= fun z => pure (Value.bool (!z))) _ _ s
    exact wpAny_bind (same_bl (wpAny_pure (fin_bl I q rfl)))
  · cases rx
    show wpAny _ _ ((isSame Value.none (Value.bool b)) >>= fun z => pure (Value.bool (!z))) _ _ s
    exact wpAny_bind (same_nb (wpAny_pure (fin_bl I q rfl)))
def rIsW : R2 := fun x y H Q => rIsN x y H Q ∨ rIsB false x y H Q
def rIsNotW : R2 := fun x y H Q => rIsNotN x y H Q ∨ rIsB true x y H Q
theorem op_isW : OpR X (compareOp .Is) rIsW := op_isNG.or op_isB
theorem op_isNotW : OpR X (compareOp .IsNot) rIsNotW := op_isNotNG.or op_isNotB
end
def isW (a b : Dat) (k : Bool → Prop) : Prop :=
  match b with
  | .non => k (isN a)
  | .bl b => (match a with | .bl a => k (decide (a = b)) | .non => k false | _ => False)
  | _ => False
def aIsW : OpD := fun a b Q => isW a b fun k => Q (.bl k)
def aIsNotW : OpD := fun a b Q => isW a b fun k => Q (.bl (!k))
section
variable {x : Dat} {b c : Bool} {KB : Bool → Prop}
theorem isW_n : isW x .non KB = KB (isN x) := rfl
theorem isW_bb : isW (.bl b) (.bl c) KB = KB (decide (b = c)) := rfl
theorem isW_nb : isW .non (.bl c) KB = KB false := rfl
end
section
variable {K : PySem.W.Frag}
instance : OV K rIsW aIsW := .pure fun {p F H QD x y a b Q'} e ra rb hf k => by
  cases b with
  | non => cases rb; exact .inl ⟨rfl, k _ _ (by rw [isN_of ra]; exact .bl _) hf⟩
  | bl b =>
    rw [rb.bl_of]
    cases a with
    | bl a => rw [ra.bl_of]; exact .inr ⟨b, rfl, .inl ⟨a, rfl, k _ _ (.bl _) hf⟩⟩
    | non => cases ra; exact .inr ⟨b, rfl, .inr ⟨rfl, k _ _ (.bl _) hf⟩⟩
    | _ => exact (show False from hf).elim
  | _ => exact (show False from hf).elim
instance : OV K rIsNotW aIsNotW := .pure fun {p F H QD x y a b Q'} e ra rb hf k => by
  cases b with
  | non => cases rb; exact .inl ⟨rfl, k _ _ (by rw [isN_of ra]; exact .bl _) hf⟩
  | bl b =>
    rw [rb.bl_of]
    cases a with
    | bl a => rw [ra.bl_of]; exact .inr ⟨b, rfl, .inl ⟨a, rfl, k _ _ (.bl _) hf⟩⟩
    | non => cases ra; exact .inr ⟨b, rfl, .inr ⟨rfl, k _ _ (.bl _) hf⟩⟩
    | _ => exact (show False from hf).elim
  | _ => exact (show False from hf).elim
end
/-! text[::-1] -/
theorem filterMap_of {α β : Type} (f : α → Option β) : ∀ (l : List α) (r : List β), l.map f = r.map some → l.filterMap f = r
  | [], [], _ => rfl
  | [], _ :: _, h => nomatch h
  | _ :: _, [], h => nomatch h
  | a :: l, b :: r, h => by
    rw [List.map_cons, List.map_cons, List.cons.injEq] at h
    rw [List.filterMap_cons, h.1, filterMap_of f l r h.2]
theorem rev_picked (z : Array Nat) : ((Builtin.Str.strSliceIndices none none (-1) z.size).filterMap (z[·]?)) = z.toList.reverse := by
  refine filterMap_of _ _ _ ?_
  have e : Builtin.Str.strSliceIndices none none (-1) z.size = (List.range z.size).map fun k => z.size - 1 - k := by
    show sliceRange ((z.size : Int) - 1) (-1) (-1) = _
    unfold sliceRange
    rw [if_neg (by decide)]
    have e2 : (if (z.size : Int) - 1 > -1 then ((z.size : Int) - 1 - -1 - -1 - 1) / - -1 else 0) = (z.size : Int) := by
      rw [show ((z.size : Int) - 1 - -1 - -1 - 1) / - -1 = (z.size : Int) by rw [show (- -1 : Int) = 1 from rfl, Int.ediv_one]; omega]
      split <;> omega
    rw [e2]
    show (List.range (z.size : Int).toNat).map _ = _
    rw [Int.toNat_natCast]
    exact List.map_congr_left fun k _ => by omega
  rw [e, List.map_map]
  refine List.ext_getElem? fun i => ?_
  rw [List.getElem?_map, List.getElem?_map]
  by_cases hi : i < z.size
  · rw [List.getElem?_range hi, List.getElem?_reverse (by simpa using hi)]
    show some (z[z.size - 1 - i]?) = _
    rw [Array.length_toList, Array.getElem?_toList, Array.getElem?_eq_getElem (by omega)]
    rfl
  · rw [List.getElem?_eq_none (by simpa using hi), List.getElem?_eq_none (by simpa using hi)]
    rfl
section
variable {X : Cx} {e st : Expr} {te ts : TE} {pos p2 : Pos}
def tRevS (te ts : TE) : TE := fun σ H Q => te σ H fun x H1 => ts σ H1 fun y H2 => y = .int (-1) ∧ ∃ z : Str, x = .str z ∧ z.length ≤ sizeLine ∧ Q (.str ⟨z.cps.toList.reverse.toArray⟩) H2
theorem pe_revS (he : PE X e te) (hs : PE X st ts) : PE X (.Subscript e (.Slice none none (some st) p2) pos) (tRevS te ts) := by
  refine ⟨fun pins s σ H Q I h => ?_⟩
  refine Subscript_ (thn (he.run pins s σ H _ I h) fun v s1 ⟨x, H1, I1, r1, q1⟩ => ?_)
  refine wpAny_Slice ?_
  rw [evalPart_none]
  refine wpAny_pure (wpAny_pure ?_)
  rw [evalPart_some]
  refine thn (hs.run pins s1 σ H1 _ I1 q1) fun vs s3 ⟨y, H3, I3, ry, hy, z, hz, hl, q3⟩ => ?_
  subst hy
  subst hz
  obtain ⟨t2, rfl⟩ := ry
  obtain ⟨t, rfl⟩ := r1
  have I4 : Inv X pins σ H3 { s3 with heap := s3.heap.push { cls := .type "slice", data := .fields #[.none, .none, .int (-1) t2] } } := I3.kept (t' := s3.toks) fun b ob q => Heap.get?_push_of_some _ q
  show wpAny (model X.prog X.w) X.A (subscriptTail e (.Slice none none (some st) p2) (.str z t) (.ref s3.heap.objs.size)) (EP X pins σ Q) X.xe { s3 with heap := s3.heap.push { cls := .type "slice", data := .fields #[.none, .none, .int (-1) t2] } }
  refine tail_any (T := "str") (ops := [.ref s3.heap.objs.size, .str z t]) (typeIs_str _ _ _) F.slot_str_getitem.lookup ?_ (by with_unfolding_all rfl)
  refine wpAny_getItem_str_slice (l := none) (u := none) (st := some (-1, t2)) ⟨_, Heap.get?_push_size _ rfl, rfl, rfl⟩ rfl ?_
  show Made.post (if ((-1 : Int) == 1 && (Builtin.Str.strSliceIndices none none (-1) z.length).length == z.length) = true then Made.val (.str z t)
    else Made.str ⟨((Builtin.Str.strSliceIndices none none (-1) z.cps.size).filterMap (z.cps[·]?)).toArray⟩) (EP X pins σ Q) _
  rw [if_neg (by simp), rev_picked]
  exact ⟨by show (z.cps.toList.reverse.toArray).size ≤ _; simpa [Str.length] using hl, .str _, H3, I4.tok _, ⟨_, rfl⟩, q3⟩
end
def wRevS (we ws : WE) : WE := fun S Q => we S fun x S1 => ws S1 fun y S2 => match y, x with | .int i, .str z => i = -1 ∧ z.length ≤ 1000000 ∧ Q (.str z.reverse) S2 | _, _ => False
instance {K : PySem.W.Frag} {te ts : TE} {we ws : WE} [a : EV K te we] [b : EV K ts ws] : EV K (tRevS te ts) (wRevS we ws) := ⟨fun ok hw k =>
  a.run ok hw fun x F1 H1 S1 d1 ok1 e1 r1 q1 => b.run ok1 q1 fun y F2 H2 S2 d2 ok2 e2 r2 q2 => by
    cases d2 with
    | int i =>
      cases d1 with
      | str z =>
        obtain ⟨rfl, h2, h3⟩ : i = -1 ∧ z.length ≤ 1000000 ∧ _ := q2
        rw [r2.int_of, r1.str_of]
        exact ⟨rfl, _, rfl, by rw [str_len]; exact line_of h2, k _ F2 H2 S2 (.str z.reverse) ok2 (e1.trans e2) (by simpa using Rep.str (K := K) (⟨z.reverse.toArray⟩ : Str)) h3⟩
      | _ => exact (show False from q2).elim
    | _ => exact (show False from q2).elim⟩
end Dl
-- part D2
set_option Elab.async false
set_option linter.all false
set_option maxRecDepth 100000
set_option maxHeartbeats 4000000
namespace Dl
open PySem PySem.Spec PyProof.Rows L2 Evl RZ
variable [LawTabs]
/-! a dict of the top's: text keys, values that stay -/
inductive KRows (K : PySem.W.Frag) : List DictEntry → List (List Nat × Dat) → Prop
  | nil : KRows K [] []
  | cons {h : Int} {s : Str} {t : Tok} {u : Value} {z : List Nat} {v : V} {d : Dat} {es : List DictEntry} {rs : List (List Nat × Dat)} : s.cps.toList = z → RelV v u → (∀ p F, Rep K p F v d) → KRows K es rs → KRows K (⟨h, .str s t, u⟩ :: es) ((z, d) :: rs)
def tabAt (rs : List (List Nat × Dat)) (z : List Nat) : Option Dat := (rs.find? fun r => decide (r.1 = z)).map (·.2)
theorem str_eq_of {s : Str} {z : List Nat} (h : s.cps.toList = z) : s = ⟨z.toArray⟩ := by
  subst h
  cases s
  simp
theorem isStr_mk {s : Str} {t : Tok} {z a : List Nat} (h : s.cps.toList = a) : (Value.str s t).isStr ⟨z.toArray⟩ = decide (a = z) := by
  rw [str_eq_of h]
  show ((⟨a.toArray⟩ : Str) == ⟨z.toArray⟩) = _
  rw [Bool.eq_iff_iff]
  simp
theorem KRows.at {K : PySem.W.Frag} (z : List Nat) : ∀ {es : List DictEntry} {rs : List (List Nat × Dat)}, KRows K es rs → es.any (·.refKey) = false ∧
    ((∃ e d v, es.find? (·.key.isStr ⟨z.toArray⟩) = some e ∧ tabAt rs z = some d ∧ RelV v e.val ∧ ∀ p F, Rep K p F v d) ∨ (es.find? (·.key.isStr ⟨z.toArray⟩) = none ∧ tabAt rs z = none))
  | _, _, .nil => ⟨rfl, .inr ⟨rfl, rfl⟩⟩
  | _, _, .cons (z := a) (d := d) (v := v) h1 h2 h3 r => by
    obtain ⟨r1, r2⟩ := r.at z
    refine ⟨by rw [List.any_cons, r1]; rfl, ?_⟩
    unfold tabAt
    rw [List.find?_cons, List.find?_cons]
    by_cases e : a = z
    · rw [isStr_mk h1, decide_eq_true e]
      exact .inl ⟨_, d, v, rfl, rfl, h2, h3⟩
    · rw [isStr_mk h1, decide_eq_false e]
      exact r2
class KTab (K : PySem.W.Frag) (w : World) (a : Addr) (rs : outParam (List (List Nat × Dat))) : Prop where
  dict : ∃ es n, KDict K w a es n ∧ KRows K es.toList rs
theorem nsIn_dict {K : PySem.W.Frag} {a : Addr} {c : Value} {o : Option Addr} {es : Array DictEntry} {n : Nat} {sl : Array (Option Value)} (l : K.lookup a = some ⟨c, o, .dict es n, sl⟩) (z : Str) :
    PySem.W.nsIn K a z = match es.toList.find? (·.key.isStr z) with | some e => some (some e.val) | none => if es.toList.any (·.refKey) then none else some none := by
  unfold PySem.W.nsIn
  rw [l]
  rfl
theorem KTab.at {K : PySem.W.Frag} {w : World} {a : Addr} {rs : List (List Nat × Dat)} (T : KTab K w a rs) (z : List Nat) : ∃ es n, KDict K w a es n ∧
    ((∃ d v u, tabAt rs z = some d ∧ PySem.W.nsIn K a ⟨z.toArray⟩ = some (some u) ∧ RelV v u ∧ ∀ p F, Rep K p F v d) ∨ (tabAt rs z = none ∧ PySem.W.nsIn K a ⟨z.toArray⟩ = some none)) := by
  obtain ⟨es, n, D, R⟩ := T.dict
  obtain ⟨r1, r2⟩ := R.at z
  refine ⟨es, n, D, ?_⟩
  rw [nsIn_dict D.at_]
  rcases r2 with ⟨e, d, v, q1, q2, q3, q4⟩ | ⟨q1, q2⟩
  · rw [q1]
    exact .inl ⟨d, v, e.val, q2, rfl, q3, q4⟩
  · rw [q1, r1]
    exact .inr ⟨q2, rfl⟩
section
variable {X : Cx} {K : PySem.W.Frag} {w : World} {a : Addr} {rs : List (List Nat × Dat)}
/-- d[e], e in d -/
def rKIx (K : PySem.W.Frag) (w : World) (a : Addr) : R2 := fun x y H Q => x = .ref a ∧ rIxD K w x y H Q
def rKIn (K : PySem.W.Frag) (w : World) (a : Addr) (neg : Bool) : R2 := fun x y H Q => ∃ es n, KDict K w a es n ∧ ∃ (z : Str) (r : Option Value), x = .str z ∧ y = .ref a ∧ PySem.W.nsIn K a z = some r ∧ Q (.bl (if neg then !r.isSome else r.isSome)) H
theorem ixD_K (K : PySem.W.Frag) (w : World) (a : Addr) (h : X.K = K := by rfl) (h2 : X.w = w := by rfl) : IxR X (rKIx K w a) := by
  subst h
  subst h2
  intro value slice pins s σ H x y v u Q I rx ry q hs
  exact ix_kdict value slice pins s σ H x y v u Q I rx ry q.2 hs
theorem inD_K (K : PySem.W.Frag) (w : World) (a : Addr) (h : X.K = K := by rfl) (h2 : X.w = w := by rfl) : OpR X (compareOp .In) (rKIn K w a false) := by
  subst h
  subst h2
  intro pins s σ H x y v u Q I rx ry q
  obtain ⟨es, n, D, q⟩ := q
  exact op_in_kd D pins s σ H x y v u Q I rx ry q
theorem notInD_K (K : PySem.W.Frag) (w : World) (a : Addr) (h : X.K = K := by rfl) (h2 : X.w = w := by rfl) : OpR X (compareOp .NotIn) (rKIn K w a true) := by
  subst h
  subst h2
  intro pins s σ H x y v u Q I rx ry q
  obtain ⟨es, n, D, q⟩ := q
  exact op_notIn_kd D pins s σ H x y v u Q I rx ry q
end
/-- the table itself, as it is written -/
def wKIx (rs : List (List Nat × Dat)) (we : WE) : WE := fun S Q => we S fun d S1 => match d with | .str z => ∃ r, tabAt rs z = some r ∧ Q r S1 | _ => False
def wKIn (neg : Bool) (rs : List (List Nat × Dat)) (we : WE) : WE := fun S Q => we S fun d S1 => match d with | .str z => Q (.bl (if neg then !(tabAt rs z).isSome else (tabAt rs z).isSome)) S1 | _ => False
instance ev_kix {K : PySem.W.Frag} {w : World} {a : Addr} {rs : List (List Nat × Dat)} {te : TE} {we : WE} [T : KTab K w a rs] [e : EV K te we] : EV K (tOp (rKIx K w a) (tC (.ref a)) te) (wKIx rs we) := ⟨fun {p H0 F0 F H σ S T2 Q Q'} ok hw k => by
  show te σ H fun y H2 => rKIx K w a (.ref a) y H2 Q'
  refine e.run ok hw fun v F1 H1 S1 d ok1 e1 r1 q1 => ?_
  cases d with
  | str z =>
    obtain ⟨r, q2, q3⟩ : ∃ r, tabAt rs z = some r ∧ Q r S1 := q1
    obtain ⟨es, n, D, h⟩ := T.at z
    rcases h with ⟨d, v2, u, h1, h2, h3, h4⟩ | ⟨h1, _⟩
    · rw [q2] at h1
      cases h1
      rw [r1.str_of]
      exact ⟨rfl, a, _, v2, rfl, rfl, ⟨es, n, u, D.at_, D.lit, h2, h3⟩, k _ F1 H1 S1 _ ok1 e1 (h4 _ _) q3⟩
    · rw [q2] at h1
      cases h1
  | _ => exact (show False from q1).elim⟩
instance ev_kin {K : PySem.W.Frag} {w : World} {a : Addr} {neg : Bool} {rs : List (List Nat × Dat)} {te : TE} {we : WE} [T : KTab K w a rs] [e : EV K te we] : EV K (tOp (rKIn K w a neg) te (tC (.ref a))) (wKIn neg rs we) := ⟨fun {p H0 F0 F H σ S T2 Q Q'} ok hw k => by
  show te σ H fun y H2 => rKIn K w a neg y (.ref a) H2 Q'
  refine e.run ok hw fun v F1 H1 S1 d ok1 e1 r1 q1 => ?_
  cases d with
  | str z =>
    have q2 : Q (.bl (if neg then !(tabAt rs z).isSome else (tabAt rs z).isSome)) S1 := q1
    obtain ⟨es, n, D, h⟩ := T.at z
    rw [r1.str_of]
    rcases h with ⟨d, v2, u, h1, h2, h3, h4⟩ | ⟨h1, h2⟩
    · rw [h1] at q2
      exact ⟨es, n, D, _, _, rfl, rfl, h2, k _ F1 H1 S1 _ ok1 e1 (.bl _) q2⟩
    · rw [h1] at q2
      exact ⟨es, n, D, _, _, rfl, rfl, h2, k _ F1 H1 S1 _ ok1 e1 (.bl _) q2⟩
  | _ => exact (show False from q1).elim⟩
theorem ktab_mk {K : PySem.W.Frag} {w : World} {a : Addr} {es : List DictEntry} {n : Nat} {rs : List (List Nat × Dat)} (l : K.lookup a = some ⟨.type "dict", none, .dict es.toArray n, #[]⟩) (lit : PySem.W.KeysLit w.params es) (low : (a == sysModules) = false) (R : KRows K es rs) : KTab K w a rs :=
  ⟨es.toArray, n, ⟨l, lit, low⟩, R⟩
end Dl
-- part D3
set_option Elab.async false
set_option linter.all false
set_option maxRecDepth 100000
set_option maxHeartbeats 4000000
namespace Dl
open PySem PySem.Spec PyProof.Rows L2 Evl RZ
variable [LawTabs]
/-! tuple[::-1] -/
theorem rev_places (n : Nat) : Builtin.Slice.sliceAdjust none none (-1) (n : Int) = ((n : Int) - 1, -1) ∧ Builtin.Slice.slicePlaces ((n : Int) - 1) (-1) (-1) = n := by
  constructor
  · unfold Builtin.Slice.sliceAdjust
    simp
  · unfold Builtin.Slice.slicePlaces
    rw [if_neg (by decide)]
    simp only [show (- -1 : Int) = 1 from rfl, Int.ediv_one]
    split <;> omega
theorem rev_pick (xs : Array Value) : ((List.range xs.size).filterMap fun (m : Nat) => xs[(((xs.size : Int) - 1) + (m : Int) * -1).toNat]?) = xs.toList.reverse := by
  refine filterMap_of _ _ _ ?_
  refine List.ext_getElem? fun i => ?_
  rw [List.getElem?_map, List.getElem?_map]
  by_cases hi : i < xs.size
  · rw [List.getElem?_range hi, List.getElem?_reverse (by simpa using hi)]
    show some (xs[(((xs.size : Int) - 1) + (i : Int) * -1).toNat]?) = _
    rw [show (((xs.size : Int) - 1) + (i : Int) * -1).toNat = xs.size - 1 - i by omega]
    rw [Array.length_toList, Array.getElem?_toList, Array.getElem?_eq_getElem (by omega)]
    rfl
  · rw [List.getElem?_eq_none (by simpa using hi), List.getElem?_eq_none (by simpa using hi)]
    rfl
section
variable {prog : Program} {w : World} {A : Around} {E : Value → Shared → Prop} {s : Shared}
theorem rev_applied {sl : Addr} {t2 : Tok} {n : Nat} {Q : Int × Int × Nat → Shared → Prop} (hs : s.heap.IsSliceOf sl .none .none (.int (-1) t2)) (h : Q ((n : Int) - 1, -1, n) s) :
    wpAny (model prog w) A (Builtin.Slice.sliceApplied (.ref sl) (pure (n : Int))) Q E s := by
  obtain ⟨ob, h1, h2, h3⟩ := id hs
  obtain ⟨a1, a2⟩ := rev_places n
  unfold Builtin.Slice.sliceApplied Builtin.Slice.sliceFields
  refine wpAny_bind (wpAny_bind (wpAny_field h1 h3 (x := .none) rfl (wpAny_bind (wpAny_field h1 h3 (x := .none) rfl (wpAny_bind (wpAny_field h1 h3 (x := .int (-1) t2) rfl (wpAny_pure ?_)))))))
  refine wpAny_bind (HT.slicePart_ (.int (-1) t2) ?_)
  show wpAny _ _ (if ((-1 : Int) == 0) = true then _ else _) _ _ s
  rw [if_neg (by decide)]
  refine wpAny_bind (HT.slicePart_ .none (wpAny_bind (HT.slicePart_ .none (wpAny_bind (wpAny_pure ?_)))))
  show wpAny _ _ (match Builtin.Slice.sliceAdjust none none (-1) (n : Int) with | (lo, hi) => pure (lo, (-1 : Int), Builtin.Slice.slicePlaces lo hi (-1))) _ _ s
  rw [a1]
  show wpAny _ _ (pure ((n : Int) - 1, (-1 : Int), Builtin.Slice.slicePlaces ((n : Int) - 1) (-1) (-1))) _ _ s
  rw [a2]
  exact wpAny_pure h
theorem rev_tuple {t sl : Addr} {its : Array Value} {t2 : Tok} {Q : Value → Shared → Prop} (tt : IsTup s.heap t its) (hs : s.heap.IsSliceOf sl .none .none (.int (-1) t2))
    (h : Q (.ref s.heap.objs.size) { s with heap := s.heap.push { cls := .type "tuple", data := .seq its.toList.reverse.toArray } }) (hz : its.size ≤ sizeLine) : wpAny (model prog w) A (getItem (.ref t) (.ref sl)) Q E s := by
  have hok : sizeOk (.seq its.toList.reverse.toArray) := by
    show its.toList.reverse.toArray.size ≤ sizeLine
    simpa using hz
  obtain ⟨ob, h1, h2, h3⟩ := id hs
  have ts : s.TypeIs (.ref sl) "slice" := ⟨ob, h1, h2⟩
  unfold getItem
  try with_reducible refine wpAny_holding ?_
  first | refine wpAny_bind (wpAny_pure ?_) | skip
  refine wpAny_bind (wpAny_sequenceKey tt.typeIs (by decide) ?_)
  refine wpAny_bind (wpAny_callSpecial?_slot (name := Str.ofString "__getitem__") tt.typeIs PyProof.Rows.slot_tuple_getitem
    (wpAny_call_entry PyProof.Rows.slot_tuple_getitem tt.typeIs entry_tuple_getitem ?_ (args_tuple_getitem _ _)))
  show wpAny _ _ (Builtin.Tuple.tupleItemsOf (.ref t) >>= _) _ _ s
  refine wpAny_bind (tupleItemsOf_ tt ?_)
  refine wpAny_bind (wpAny_typeOf ts ?_)
  rw [if_pos (by decide)]
  refine wpAny_bind (rev_applied (n := its.size) hs ?_)
  have hno : ¬ ((((its.size : Int) - 1) == 0 && (-1 : Int) == 1 && its.size == its.size) = true) := by simp
  show wpAny _ _ (if (((its.size : Int) - 1) == 0 && (-1 : Int) == 1 && its.size == its.size) = true then _ else _) _ _ s
  rw [if_neg hno, rev_pick]
  first
    | exact wpAny_bind (m := Builtin.Tuple.tupleExact _) (wpAny_newObj_type (wpAny_pure ⟨_, rfl, wpAny_pure h⟩) hok)
    | exact wpAny_bind (m := Builtin.Tuple.tupleExact _) (wpAny_newObj_type (wpAny_bind (wpAny_pure (wpAny_pure ⟨_, rfl, wpAny_pure h⟩))) hok)
    | exact wpAny_bind (wpAny_bind (m := Builtin.Tuple.tupleExact _) (wpAny_newObj_type (wpAny_pure (wpAny_pure ⟨_, rfl, wpAny_pure h⟩)) hok))
    | exact wpAny_bind (wpAny_bind (m := Builtin.Tuple.tupleExact _) (wpAny_newObj_type (wpAny_pure ⟨_, rfl, wpAny_pure h⟩) hok))
end
theorem vals_reverse {vs : List V} {us : List Value} (h : Vals vs us) : Vals vs.reverse us.reverse := by
  induction h with
  | nil => exact .nil
  | cons r _ ih =>
    rw [List.reverse_cons, List.reverse_cons]
    exact ih.append (.cons r .nil)
theorem reps_app {K : PySem.W.Frag} {p : Amb} {F : Hp} : ∀ {vs ws : List V} {ds es : List Dat}, Reps K p F vs ds → Reps K p F ws es → Reps K p F (vs ++ ws) (ds ++ es)
  | _, _, _, _, .nil, r => r
  | _, _, _, _, .cons r1 r2, r => .cons r1 (reps_app r2 r)
theorem reps_reverse {K : PySem.W.Frag} {p : Amb} {F : Hp} : ∀ {vs : List V} {ds : List Dat}, Reps K p F vs ds → Reps K p F vs.reverse ds.reverse
  | _, _, .nil => .nil
  | _, _, .cons r1 r2 => by
    rw [List.reverse_cons, List.reverse_cons]
    exact reps_app (reps_reverse r2) (.cons r1 .nil)
section
variable {X : Cx} {e st : Expr} {te ts : TE} {pos p2 : Pos}
def tRevT (K : PySem.W.Frag) (te ts : TE) : TE := fun σ H Q => te σ H fun x H1 => ts σ H1 fun y H2 => y = .int (-1) ∧ ∃ (a : Addr) (xs : List V), x = .ref a ∧ SqT K H2 a xs ∧ ∀ p, H2 p = none → Q (.ref p) (upd H2 p (.tup xs.reverse))
theorem pe_revT (K : PySem.W.Frag) (he : PE X e te) (hs : PE X st ts) (hK : X.K = K := by rfl) : PE X (.Subscript e (.Slice none none (some st) p2) pos) (tRevT K te ts) := by
  subst hK
  refine ⟨fun pins s σ H Q I h => ?_⟩
  refine Subscript_ (thn (he.run pins s σ H _ I h) fun v s1 ⟨x, H1, I1, r1, q1⟩ => ?_)
  refine wpAny_Slice ?_
  rw [evalPart_none]
  refine wpAny_pure (wpAny_pure ?_)
  rw [evalPart_some]
  refine thn (hs.run pins s1 σ H1 _ I1 q1) fun vs s3 ⟨y, H3, I3, ry, hy, a, xs, hz, hx, q3⟩ => ?_
  subst hy
  subst hz
  obtain ⟨t2, rfl⟩ := ry
  cases r1
  have I4 : Inv X pins σ H3 { s3 with heap := s3.heap.push { cls := .type "slice", data := .fields #[.none, .none, .int (-1) t2] } } := I3.kept (t' := s3.toks) fun b ob q => Heap.get?_push_of_some _ q
  show wpAny (model X.prog X.w) X.A (subscriptTail e (.Slice none none (some st) p2) (.ref a) (.ref s3.heap.objs.size)) (EP X pins σ Q) X.xe { s3 with heap := s3.heap.push { cls := .type "slice", data := .fields #[.none, .none, .int (-1) t2] } }
  obtain ⟨its, rv, ht, hl⟩ := I4.tuple hx
  refine tail_any (T := "tuple") (ops := [.ref a, .ref s3.heap.objs.size]) ht.typeIs PyProof.Rows.slot_tuple_getitem.lookup ?_ (by with_unfolding_all rfl)
  have hlen : its.toArray.size = xs.length := by rw [List.size_toArray]; exact rv.length.symm
  refine rev_tuple (t2 := t2) ht (Heap.IsSliceOf.new ..) ?_ (by rw [hlen]; exact hl)
  refine ⟨.ref _, _, I4.laid (t' := s3.toks) (o := .tup xs.reverse) (fun b ob q => Heap.get?_push_of_some _ q) (Nat.le_refl _) ?_, rfl, q3 _ (I4.hok.fresh (Nat.le_refl _))⟩
  refine ⟨by rw [List.length_reverse]; exact hl, its.reverse, vals_reverse rv, ?_⟩
  exact IsTup.new _ _
end
def wRevT (we ws : WE) : WE := fun S Q => we S fun x S1 => ws S1 fun y S2 => match y, x with | .int i, .tup z => i = -1 ∧ Q (.tup z.reverse) S2 | _, _ => False
instance {K : PySem.W.Frag} {te ts : TE} {we ws : WE} [a : EV K te we] [b : EV K ts ws] : EV K (tRevT K te ts) (wRevT we ws) := ⟨fun ok hw k =>
  a.run ok hw fun x F1 H1 S1 d1 ok1 e1 r1 q1 => b.run ok1 q1 fun y F2 H2 S2 d2 ok2 e2 r2 q2 => by
    cases d2 with
    | int i =>
      cases d1 with
      | tup z =>
        obtain ⟨rfl, h3⟩ : i = -1 ∧ _ := q2
        obtain ⟨c, vs, rfl, g1, g2⟩ := (r1.mono e2).tup_of
        rw [r2.int_of]
        refine ⟨rfl, c, vs, rfl, ex_t ok2.hp.fh g1, fun q hq => ?_⟩
        have e := Ex.new (o := HO.tup vs.reverse) (ok2.hp.freeF hq)
        exact k _ _ _ _ _ (ok2.lay hq) ((e1.trans e2).trans e) (.tup (.inl (.inl upd_same)) ((reps_reverse g2).mono e)) h3
      | _ => exact (show False from q2).elim
    | _ => exact (show False from q2).elim⟩
end Dl
-- part D4
set_option Elab.async false
set_option linter.all false
set_option maxRecDepth 100000
set_option maxHeartbeats 4000000
namespace Dl
open PySem PySem.Spec PyProof.Rows L2 Evl RZ
variable [LawTabs]
section
variable {K : PySem.W.Frag} {W : WX}
/-- x, y = e, [..]: the second a list of one's own -/
def tParO (i j : Nat) (te tf : TE) : TS := tPar i j (tCons te (tCons tf tNil))
def wParO (i j : Nat) (we : WE) (wf : WF) : WS := fun D S => we S fun d S1 => wf S1 fun ds S2 => D.nx ⟨(S2.sl.set i (.im d)).set j (.ow ds), S2.n⟩
instance sv_parO {i j : Nat} {te tf : TE} {we : WE} {wf : WF} [a : EV K te we] [b : EF K tf wf] : SV K W (tParO i j te tf) (wParO i j we wf) := ⟨fun ok hw c =>
  a.run ok hw fun v F1 H1 S1 d ok1 e1 r1 q1 => b.run ok1 q1 fun l vs F2 H2 S2 ds ok2 e2 r2 q2 => ⟨_, _, rfl, c.nx _ _ _ _ ((ok2.setIm (r1.mono e2)).setOw r2) q2⟩⟩
/-- both lists of one's own -/
def tParOO (i j : Nat) (te tf : TE) : TS := tPar i j (tCons te (tCons tf tNil))
theorem ps_parO {X : Cx} {i j : Nat} {te tf : TE} {st : Stmt} (h : PS X st (tPar i j (tCons te (tCons tf tNil)))) : PS X st (tParO i j te tf) := h
end
theorem lcW_nil {vs : List Nat} {wg : WG} {wt : WT} {we : WE} {acc : List Dat} {S : Sx} {Q : List Dat → Sx → Prop} : lcW vs wg wt we [] acc S Q = Q acc S := rfl
theorem lcW_cons {vs : List Nat} {wg : WG} {wt : WT} {we : WE} {d : Dat} {ds acc : List Dat} {S : Sx} {Q : List Dat → Sx → Prop} : lcW vs wg wt we (d :: ds) acc S Q = wg d S fun S1 => wt S1 fun b S2 =>
    if b = true then we S2 fun x S3 => acc.length < 100000 ∧ lcW vs wg wt we ds (acc ++ [x]) ⟨wipeL S3.sl vs, S3.n⟩ Q
    else lcW vs wg wt we ds acc ⟨wipeL S2.sl vs, S2.n⟩ Q := rfl
end Dl
-- part D5
set_option Elab.async false
set_option linter.all false
set_option maxRecDepth 100000
set_option maxHeartbeats 4000000
namespace Dl
open PySem PySem.Spec PyProof.Rows L2 Evl RZ
variable [LawTabs]
section
variable {K : PySem.W.Frag} {W : WX}
/-! ### enumerate -/
def enumD (k : Nat) : List Dat → List Dat
  | [] => []
  | d :: l => .tup [.int (k : Nat), d] :: enumD (k + 1) l
theorem enumD_len : ∀ (l : List Dat) (k : Nat), (enumD k l).length = l.length
  | [], _ => rfl
  | _ :: l, k => by rw [enumD, List.length_cons, List.length_cons, enumD_len l]
theorem enumD_get : ∀ {l : List Dat} {k i : Nat} {d : Dat}, (enumD k l)[i]? = some d → ∃ x, l[i]? = some x ∧ d = .tup [.int ((k + i : Nat) : Int), x]
  | [], _, _, _, h => by simp [enumD] at h
  | a :: l, k, 0, d, h => by
    simp [enumD] at h
    exact ⟨a, rfl, h.symm⟩
  | a :: l, k, i + 1, d, h => by
    have h' : (enumD (k + 1) l)[i]? = some d := by simpa [enumD] using h
    obtain ⟨x, h1, h2⟩ := enumD_get h'
    exact ⟨x, by simpa using h1, by rw [h2, Nat.add_assoc, Nat.add_comm 1 i]⟩
def wEnum (wa : WF) : WF := fun S Q => wa S fun ds S1 => as1 ds fun a => listD a fun l => Q (enumD 0 l) S1
theorem ite_ok {p : Amb} {F : Hp} {a : Addr} {vs : List V} {l : List Dat} (ha : SqL K F a vs) (r1 : Reps K p F vs l) : ItOk K p F (Ite K a) (enumD 0 l) := fun F' H' e e' => by
  have sa : SqL K H' a vs := ex_l e' (ex_l e ha)
  refine ⟨fun i d hd => ?_, fun i hi => ⟨vs, sa, ?_⟩⟩
  · obtain ⟨x, h1, rfl⟩ := enumD_get hd
    obtain ⟨v, h3, h4⟩ := r1.getD h1
    refine ⟨⟨vs, v, sa, h3⟩, fun z H'' hy => ?_⟩
    obtain ⟨T, x1, q1, q2, q3, q4⟩ := hy
    have g1 := q4 vs sa
    rw [h3] at g1
    cases g1
    rw [Nat.zero_add]
    exact .inr ⟨T, _, _, q2, q3, q1, rfl, .cons (.int _) (.one (h4.mono e))⟩
  · rw [enumD_len] at hi
    rw [r1.length]
    exact hi
instance iv_enum {ta : TA} {wa : WF} [a : AV K ta wa] : IV K (iEnum K ta) (wEnum wa) := ⟨fun {p H0 F0 F H σ S T Q R} ok hw k =>
  a.run ok hw fun vs F1 H1 S1 ds ok1 e1 r1 q1 => by
    obtain ⟨x, rfl, f1⟩ := as1_of q1
    obtain ⟨v, rfl, rv⟩ := r1.one_of
    obtain ⟨l, hl, q⟩ := listD_of f1
    obtain ⟨b, xs, rfl, g1, g2⟩ := rv.list_of hl
    exact ⟨b, xs, rfl, ex_l ok1.hp.fh g1, k _ F1 H1 S1 _ ok1 e1 (ite_ok g1 g2) q⟩⟩
/-! ### a star in a display -/
def wStar (we : WE) (wr : WF) : WF := fun S Q => we S fun d S1 => partsD d fun l => wr S1 fun ds S2 => Q (l ++ ds) S2
instance av_star {te : TE} {t : TA} {we : WE} {wr : WF} [a : EV K te we] [b : AV K t wr] : AV K (StX.tStar K te t) (wStar we wr) := ⟨fun ok hw k =>
  a.run ok hw fun v F1 H1 S1 d ok1 e1 r1 q1 => by
    obtain ⟨l, hl, q⟩ := partsD_of q1
    obtain ⟨c, xs, rfl, g1, g2⟩ := r1.parts_of hl
    refine ⟨c, xs, rfl, ?_, b.run ok1 q fun vs F2 H2 S2 ds ok2 e2 r2 q2 => k _ F2 H2 S2 _ ok2 (e1.trans e2) ((g2.mono e2).append r2) q2⟩
    rcases g1 with g1 | g1
    · exact .inr (ex_l ok1.hp.fh g1)
    · exact .inl (ex_t ok1.hp.fh g1)⟩
/-! ### a list taken apart -/
def wgLst (n : Nat) (ws : List Dat → Sx → (Sx → Prop) → Prop) : WG := fun d S Q => listD d fun ds => ds.length = n ∧ ws ds S Q
instance gv_unl {n : Nat} {gs : TGs} {ix : List Nat} {ws : List Dat → Sx → (Sx → Prop) → Prop} [b : GsV K gs ix ws] : GV K (gUnl K n gs) ix (wgLst n ws) := ⟨fun {_ _ _ F H σ S _ _ _ v d} ok r hw k => by
  obtain ⟨l, hl, hn, q⟩ := listD_of hw
  obtain ⟨c, xs, rfl, g1, g2⟩ := r.list_of hl
  exact ⟨c, xs, rfl, ex_l ok.hp.fh g1, g2.length.trans hn, b.run ok g2 q k⟩⟩
/-! ### x, y = [..], [..] and three at once -/
def wParOO (i j : Nat) (we wf : WF) : WS := fun D S => (i == j) = false ∧ we S fun es S1 => wf S1 fun ds S2 => D.nx ⟨(S2.sl.set i (.ow es)).set j (.ow ds), S2.n⟩
theorem Ok.swapT {p : Amb} {H0 F0 F H : Hp} {σ : L2.St} {S : Sx} {T : List (Addr × List V)} {a b : Addr × List V} (h : Ok K p H0 F0 F H σ S (a :: b :: T)) : Ok K p H0 F0 F H σ S (b :: a :: T) := by
  refine ⟨h.hp, h.len, h.sl, h.own, fun c vs hm => h.tm c vs ?_, fun i s c vs h1 ho h2 hm => h.ot i s c vs h1 ho h2 ?_, ?_⟩
  · simp only [List.mem_cons] at hm ⊢
    rcases hm with e | e | e
    · exact .inr (.inl e)
    · exact .inl e
    · exact .inr (.inr e)
  · simp only [List.mem_cons] at hm ⊢
    rcases hm with e | e | e
    · exact .inr (.inl e)
    · exact .inl e
    · exact .inr (.inr e)
  · have := h.td
    simp only [List.map_cons, List.nodup_cons, List.mem_cons, not_or] at this ⊢
    exact ⟨⟨fun e => this.1.1 e.symm, this.2.1⟩, this.1.2, this.2.2⟩
instance sv_parOO {i j : Nat} {te tf : TE} {we wf : WF} [a : EF K te we] [b : EF K tf wf] : SV K W (tParOO i j te tf) (wParOO i j we wf) := ⟨fun ok hw c =>
  a.run ok hw.2 fun l vs F1 H1 S1 ds ok1 e1 r1 q1 => b.run ok1 q1 fun l2 ws F2 H2 S2 es ok2 e2 r2 q2 => ⟨_, _, rfl, c.nx _ _ _ _ ((ok2.swapT.setOw (r1.mono e2)).setOw r2) q2⟩⟩
theorem ps_parOO {X : Cx} {i j : Nat} {te tf : TE} {st : Stmt} (h : PS X st (tPar i j (tCons te (tCons tf tNil)))) : PS X st (tParOO i j te tf) := h
def tP3 (i j l : Nat) (te tf : TE) (tg : TE) : TS := tPar3 i j l (tCons te (tCons tf (tCons tg tNil)))
def wP3 (i j l : Nat) (we wf wg : WE) : WS := fun D S => we S fun d S1 => wf S1 fun e S2 => wg S2 fun f S3 => D.nx ⟨((S3.sl.set i (.im d)).set j (.im e)).set l (.im f), S3.n⟩
instance sv_p3 {i j l : Nat} {te tf tg : TE} {we wf wg : WE} [a : EV K te we] [b : EV K tf wf] [g : EV K tg wg] : SV K W (tP3 i j l te tf tg) (wP3 i j l we wf wg) := ⟨fun ok hw c =>
  a.run ok hw fun v F1 H1 S1 d ok1 e1 r1 q1 => b.run ok1 q1 fun u F2 H2 S2 e ok2 e2 r2 q2 => g.run ok2 q2 fun x F3 H3 S3 f ok3 e3 r3 q3 =>
    ⟨_, _, _, rfl, c.nx _ _ _ _ (((ok3.setIm (r1.mono (e2.trans e3))).setIm (r2.mono e3)).setIm r3) q3⟩⟩
def tP3O (i j l : Nat) (te tf : TE) (tg : TE) : TS := tPar3 i j l (tCons te (tCons tf (tCons tg tNil)))
def wP3O (i j l : Nat) (we wf : WE) (wg : WF) : WS := fun D S => we S fun d S1 => wf S1 fun e S2 => wg S2 fun f S3 => D.nx ⟨((S3.sl.set i (.im d)).set j (.im e)).set l (.ow f), S3.n⟩
instance sv_p3O {i j l : Nat} {te tf tg : TE} {we wf : WE} {wg : WF} [a : EV K te we] [b : EV K tf wf] [g : EF K tg wg] : SV K W (tP3O i j l te tf tg) (wP3O i j l we wf wg) := ⟨fun ok hw c =>
  a.run ok hw fun v F1 H1 S1 d ok1 e1 r1 q1 => b.run ok1 q1 fun u F2 H2 S2 e ok2 e2 r2 q2 => g.run ok2 q2 fun x ws F3 H3 S3 f ok3 e3 r3 q3 =>
    ⟨_, _, _, rfl, c.nx _ _ _ _ (((ok3.setIm (r1.mono (e2.trans e3))).setIm (r2.mono e3)).setOw r3) q3⟩⟩
theorem ps_p3 {X : Cx} {i j l : Nat} {te tf tg : TE} {st : Stmt} (h : PS X st (tPar3 i j l (tCons te (tCons tf (tCons tg tNil))))) : PS X st (tP3 i j l te tf tg) := h
theorem ps_p3O {X : Cx} {i j l : Nat} {te tf tg : TE} {st : Stmt} (h : PS X st (tPar3 i j l (tCons te (tCons tf (tCons tg tNil))))) : PS X st (tP3O i j l te tf tg) := h
/-! ### {'a': 1, ..}[k] -/
inductive KC (K : PySem.W.Frag) : List (L2.Key × V) → List (List Nat × Dat) → Prop
  | nil : KC K [] []
  | cons {s : Str} {v : V} {d : Dat} {r : List (L2.Key × V)} {rs : List (List Nat × Dat)} : (∀ p F, Rep K p F v d) → KC K r rs → KC K ((.inr s, v) :: r) ((s.cps.toList, d) :: rs)
theorem KC.len {r : List (L2.Key × V)} {rs : List (List Nat × Dat)} (h : KC K r rs) : r.length = rs.length := by
  induction h with
  | nil => rfl
  | cons _ _ ih => rw [List.length_cons, List.length_cons, ih]
class DC (K : PySem.W.Frag) (trs : List (TE × TE)) (rs : outParam (List (List Nat × Dat))) : Prop where
  run : ∃ kvs, KC K kvs rs ∧ ∀ (σ : L2.St) (H : Hp) (Q : List (V × V) → Hp → Prop), Q (kvs.map fun kv => (kV kv.1, kv.2)) H → tPairs trs σ H Q
instance : DC K [] [] := ⟨[], .nil, fun _ _ _ h => h⟩
instance {s : Str} {v : V} {d : Dat} {trs : List (TE × TE)} {rs : List (List Nat × Dat)} [c : CV K v d] [t : DC K trs rs] : DC K ((tC (.str s), tC v) :: trs) ((s.cps.toList, d) :: rs) := by
  obtain ⟨kvs, h1, h2⟩ := t.run
  exact ⟨(.inr s, v) :: kvs, .cons c.rep h1, fun σ H Q h => h2 σ H _ h⟩
def lastAt (z : List Nat) : List (List Nat × Dat) → Option Dat → Option Dat
  | [], o => o
  | r :: rs, o => lastAt z rs (if r.1 = z then some r.2 else o)
theorem KC.val {p : Amb} {F : Hp} {z : List Nat} {kvs : List (L2.Key × V)} {rs : List (List Nat × Dat)} (h : KC K kvs rs) : ∀ (acc : List (L2.Key × V)) (o : Option Dat) (r : Dat),
    (∀ d, o = some d → ∃ v, valV acc (.inr ⟨z.toArray⟩) = some v ∧ Rep K p F v d) → lastAt z rs o = some r → ∃ v, valV (mergeK acc kvs) (.inr ⟨z.toArray⟩) = some v ∧ Rep K p F v r := by
  induction h with
  | nil => intro acc o r ho hr; exact ho r hr
  | @cons s v d kvs rs hv _ ih =>
    intro acc o r ho hr
    refine ih (putK acc (.inr s) v) _ r (fun d' hd => ?_) hr
    rw [valV_put]
    by_cases hs : s.cps.toList = z
    · rw [if_pos hs] at hd
      cases hd
      rw [if_pos (by rw [str_eq_of hs])]
      exact ⟨v, rfl, hv p F⟩
    · rw [if_neg hs] at hd
      rw [if_neg (fun e => hs (by have := Sum.inr.inj e; rw [← this]))]
      exact ho d' hd
def wDC (rs : List (List Nat × Dat)) (wk : WE) : WE := fun S Q => rs.length ≤ 15 ∧ wk S fun d S1 => match d with | .str z => ∃ r, lastAt z rs none = some r ∧ Q r S1 | _ => False
instance ev_dc {trs : List (TE × TE)} {rs : List (List Nat × Dat)} {te : TE} {we : WE} [t : DC K trs rs] [e : EV K te we] : EV K (tDGet (tDisp trs) te) (wDC rs we) := ⟨fun {p H0 F0 F H σ S T Q Q'} ok hw k => by
  obtain ⟨kvs, h1, h2⟩ := t.run
  show ∀ a, H a = none → tPairs trs σ (upd H a (.dK [])) _
  intro a ha
  refine h2 σ _ _ ⟨upd_same, kvs, rfl, by rw [h1.len]; exact hw.1, ?_⟩
  rw [upd_upd]
  have ok1 := ok.lay (o := .dK (mergeK [] kvs)) ha
  have e0 : Ex F (upd F a (.dK (mergeK [] kvs))) := Ex.new (ok.hp.freeF ha)
  refine e.run ok1 hw.2 fun v F1 H1 S1 d ok2 e2 r2 q2 => ?_
  cases d with
  | str z =>
    obtain ⟨r, hr, q⟩ := q2
    obtain ⟨u, hu, ru⟩ := h1.val (p := p) (F := F1) (z := z) [] none r (fun _ h => nomatch h) hr
    have hd : H1 a = some (.dK (mergeK [] kvs)) := ok2.hp.fh _ _ (e2 _ _ upd_same)
    have ev := r2.str_of
    subst ev
    exact ⟨a, u, rfl, by rw [← hu]; exact DGet.k (k := .inr ⟨z.toArray⟩) hd, k u F1 H1 S1 r ok2 (e0.trans e2) ru q⟩
  | _ => exact q2.elim⟩
end
/-! ### x in (..), data of any depth -/
section
variable {X : Cx}
def rInDp (K : PySem.W.Frag) (neg : Bool) : R2 := fun x y H Q => ∃ d ds, Dp K H x d ∧ (Dp K H y (.list ds) ∨ Dp K H y (.tuple ds)) ∧ SeqAt.shaped d = true ∧ SeqAt.shaped (.list ds) = true ∧ Q (.bl (if neg then !(ds.any fun z => PyData.eqv z d) else ds.any fun z => PyData.eqv z d)) H
theorem inDpK (K : PySem.W.Frag) (hu : X.A.units + 65 < cLine) (hK : X.K = K := by rfl) : OpR X (compareOp .In) (rInDp K false) := by
  subst hK
  intro pins s σ H x y v u Q I rx ry h
  obtain ⟨d, ds, hd, he, sd, se, q⟩ := h
  obtain ⟨as, r1⟩ := Dp.reads I d x v hd rx
  have e1 := SeqAt.canLay_of_shaped se
  have e2 := SeqAt.canLay_of_shaped sd
  have e3 := room_in_shaped (xs := ds) sd hu
  rcases he with he | he
  · obtain ⟨bs, r2⟩ := Dp.reads I (.list ds) y u he ry
    exact SeqAt.in_list_reads r2 r1 e1 e2 e3 ⟨.bl _, H, I, rfl, q⟩
  · obtain ⟨bs, r2⟩ := Dp.reads I (.tuple ds) y u he ry
    exact SeqAt.in_tuple_reads r2 r1 e1 e2 e3 ⟨.bl _, H, I, rfl, q⟩
theorem notInDpK (K : PySem.W.Frag) (hu : X.A.units + 65 < cLine) (hK : X.K = K := by rfl) : OpR X (compareOp .NotIn) (rInDp K true) := by
  subst hK
  intro pins s σ H x y v u Q I rx ry h
  obtain ⟨d, ds, hd, he, sd, se, q⟩ := h
  obtain ⟨as, r1⟩ := Dp.reads I d x v hd rx
  have e1 := SeqAt.canLay_of_shaped se
  have e2 := SeqAt.canLay_of_shaped sd
  have e3 := room_in_shaped (xs := ds) sd hu
  rcases he with he | he
  · obtain ⟨bs, r2⟩ := Dp.reads I (.list ds) y u he ry
    exact SeqAt.notIn_list_reads r2 r1 e1 e2 e3 ⟨.bl _, H, I, rfl, q⟩
  · obtain ⟨bs, r2⟩ := Dp.reads I (.tuple ds) y u he ry
    exact SeqAt.notIn_tuple_reads r2 r1 e1 e2 e3 ⟨.bl _, H, I, rfl, q⟩
end
section
variable {K : PySem.W.Frag} {W : WX}
theorem pds_any (a : Dat) : ∀ l : List Dat, ((pds l).any fun z => PyData.eqv z (pd a)) = l.any fun y => eqD y a
  | [] => by simp [pds]
  | x :: l => by simp only [pds, List.any_cons, pds_any a l, eqD]
def inDp (a b : Dat) (k : Bool → Prop) : Prop := itemsD b fun l => cmpOk a ∧ cmpOk (.lst l) ∧ k (l.any fun y => eqD y a)
def aInDp : OpD := fun a b Q => inDp a b fun k => Q (.bl k)
def aNotInDp : OpD := fun a b Q => inDp a b fun k => Q (.bl (!k))
theorem inDp_ok {neg : Bool} {p : Amb} {F H : Hp} {x y : V} {a b : Dat} {k : Bool → Prop} {Q' : VK} (e : Ex F H) (ra : Rep K p F x a) (rb : Rep K p F y b) (h : inDp a b k) (hq : ∀ c, k c → Q' (.bl (if neg then !c else c)) H) : rInDp K neg x y H Q' := by
  obtain ⟨l, hl, ⟨h1, h2⟩, ⟨h3, h4⟩, h5⟩ := itemsD_of h
  have q := hq _ h5
  rw [← pds_any] at q
  refine ⟨pd a, pds l, dp_of e ra h1, ?_, h2, by simpa only [pd] using h4, q⟩
  rcases hl with rfl | rfl
  · exact .inl (by simpa only [pd] using dp_of e rb h3)
  · exact .inr (by simpa only [pd] using dp_of e rb (by simpa only [plain] using h3))
instance : OV K (rInDp K false) aInDp := .pure fun e ra rb hf k => inDp_ok e ra rb hf fun _ h => k _ _ (.bl _) h
instance : OV K (rInDp K true) aNotInDp := .pure fun e ra rb hf k => inDp_ok e ra rb hf fun _ h => k _ _ (.bl _) h
end
/-! ### rules by K -/
section
variable {X : Cx}
theorem enumK (K : PySem.W.Frag) {e : Expr} {ta : TA} {p pos tpos : Pos} {elts : List Expr} {kk : Nat} (hg : Gl X "enumerate") (hm : X.mg "enumerate" = none) (a : PA X [e] ta)
    (h1 : starEach [e] X.env = [(false, eval e X.env)] := by rfl) (h : X.K = K := by rfl) : PI X (.Tuple elts kk tpos) (.Call (.Name "enumerate" p) [e] [] pos) (iEnum K ta) := h ▸ pi_enum hg hm a h1
theorem starK (K : PySem.W.Frag) {e : Expr} {es : List Expr} {te : TE} {t : TA} {p : Pos} (he : PE X e te) (hr : PA X es t) (hs : starEach (.Starred e p :: es) X.env = (true, eval e X.env) :: starEach es X.env := by rfl) (h : X.K = K := by rfl) :
    PA X (.Starred e p :: es) (StX.tStar K te t) := h ▸ StX.pa_star he hr hs
theorem unlK (K : PySem.W.Frag) {pos : Pos} {es : List Expr} {k : Nat} {t : TGs} (n : Nat) (hc : X.calm = true) (a : PGs X es t) (h1 : (assignEach es X.env).length = n := by rfl)
    (h2 : (assignEach es X.env).findIdx? (·.1) = none := by rfl) (h : X.K = K := by rfl) : PG X (.Tuple es k pos) (gUnl K n t) := h ▸ pg_unl hc a h1 h2
end
theorem _root_.L2.Room.units1 {k : Nat} {A : Around} (r : L2.Room k A) : A.units + 1 < cLine := by have := r.un; omega
theorem _root_.L2.Room.units65 {k : Nat} {A : Around} (r : L2.Room k A) : A.units + 65 < cLine := by have := r.un; omega
/-! ### xs.extend(..), xs one's own -/
section
variable {K : PySem.W.Frag} {W : WX}
def tExt (K : PySem.W.Frag) (i : Nat) (te : TE) : TS := tDrop (tBM K "list" rExtend (tVar i) (tCons te tNil))
def wExt (i : Nat) (we : WE) : WS := fun D S =>
  match S.sl[i]? with
  | some (.ow _) => we S fun d S1 => listL d fun es => match S1.sl[i]? with
    | some (.ow ds) => ds.length + es.length ≤ 100000 ∧ D.nx ⟨S1.sl.set i (.ow (ds ++ es)), S1.n⟩
    | _ => False
  | _ => False
where listL (d : Dat) (Q : List Dat → Prop) : Prop := match d with | .lst l => Q l | _ => False
instance sv_ext {i : Nat} {te : TE} {we : WE} [a : EV K te we] : SV K W (tExt K i te) (wExt i we) := ⟨fun {p H0 F0 F H σ S D D'} ok hw c => by
  unfold wExt at hw
  split at hw
  · rename_i ds0 hd
    obtain ⟨l, vs, h1, h2, h3, h4, h5⟩ := ok.sl i _ hd
    show tDrop (tBM K "list" rExtend (tVar i) (tCons te tNil)) D' σ H
    refine ⟨_, h1, .inl ⟨rfl, vs, sq_of h4⟩, a.run ok hw fun v F1 H1 S1 d ok1 e1 r1 q1 => ?_⟩
    cases d with
    | lst es =>
      have q1' : match S1.sl[i]? with | some (.ow ds) => ds.length + es.length ≤ 100000 ∧ D.nx ⟨S1.sl.set i (.ow (ds ++ es)), S1.n⟩ | _ => False := q1
      split at q1'
      · rename_i ds hd1
        obtain ⟨l', ws, g1, g2, g3, g4⟩ := ok1.updS hd1
        rw [h1] at g1
        cases g1
        obtain ⟨b, zs, rfl, b1, b2⟩ := r1.lst_of
        exact ⟨l, b, ws, zs, rfl, rfl, g2, ok1.hp.fh _ _ b1, sz_of (by have := g3.length; have := b2.length; omega), c.nx _ _ _ _ (g4 _ _ (g3.append b2)) q1'.2⟩
      · exact q1'.elim
    | _ => exact (show False from q1).elim
  · exact hw.elim⟩
theorem ps_ext {X : Cx} {i : Nat} {te : TE} {st : Stmt} (h : PS X st (tDrop (tBM X.K "list" rExtend (tVar i) (tCons te tNil)))) : PS X st (tExt X.K i te) := h
end
end Dl
-- part D6
set_option Elab.async false
set_option linter.all false
set_option maxRecDepth 100000
set_option maxHeartbeats 4000000
namespace Dl
open PySem PySem.Spec PyProof.Rows L2 Evl RZ
variable [LawTabs]
/-! ### sorted(xs, key=f), f a def that tells whole numbers -/
section
variable {X : Cx} {pins : List (Addr × Obj)} {σ : L2.St} {H : Hp} {s : Shared} {k : Nat} {f : Addr} {fd : FuncData} {ps : List Str} {sp : Sp} {E : XK}
/-- a def is called by what stands two calls of the machine further in -/
theorem run_in2 {Q : VK} {u : Value} {v : V} {E2 : Value → Shared → Prop} (F : FnOk X.prog X.w X.K X.mg X.base CX0 k f fd ps sp) (hr : Room (k + 2) X.A) (hb : Binds X.K fd ps []) (I : Inv X pins σ H s) (r : RelV v u) (h : sp [v] H Q E) :
    wpAny (model X.prog X.w) X.A.in1.in1 (call (.ref f) [u]) (EP X pins σ Q) E2 s := by
  have r2 : Vals [v] [u] := .cons r .nil
  refine wpAny_call (codeAny_mono (F.run X.A.in1.in1 X.stack s H ⟨[u], []⟩ [u] [v] Q E hr.in1.in1 I.env0.in1.in1 (hb s [u] I.kIn (F.len _ _ _ _ h)) r2 h) fun r s' hq => ?_)
  cases r with
  | error e => exact False.elim hq
  | ok fl =>
    cases fl with
    | ret u => exact I.after hq
    | next => exact False.elim hq
    | brk => exact False.elim hq
    | cont => exact False.elim hq
/-- how ys comes of xs: by the keys ks -/
def ByKeys {α : Type} (ks : List Int) (xs ys : List α) : Prop := ∃ qs : List (Int × α), qs.Perm (ks.zip xs) ∧ ys = qs.map Prod.snd ∧ qs.Pairwise fun p q => p.1 ≤ q.1
theorem perm_lift {α β : Type} (g : α → β) : ∀ {l m : List β}, l.Perm m → ∀ {zs : List α}, m = zs.map g → ∃ zs' : List α, zs'.Perm zs ∧ l = zs'.map g := by
  intro l m h
  induction h with
  | nil => intro zs e; exact ⟨zs, .refl _, e⟩
  | cons x _ ih =>
    intro zs e
    cases zs with
    | nil => cases e
    | cons z zs =>
      rw [List.map_cons] at e
      injection e with e1 e2
      obtain ⟨zs', h1, h2⟩ := ih e2
      exact ⟨z :: zs', h1.cons z, by rw [List.map_cons, ← h2, e1]⟩
  | swap x y l =>
    intro zs e
    match zs, e with
    | a :: b :: zs, e =>
      rw [List.map_cons, List.map_cons] at e
      injection e with e1 e2
      injection e2 with e2 e3
      exact ⟨b :: a :: zs, .swap a b zs, by rw [List.map_cons, List.map_cons, e1, e2, e3]⟩
  | trans _ _ ih1 ih2 =>
    intro zs e
    obtain ⟨z2, h1, h2⟩ := ih2 e
    obtain ⟨z3, h3, h4⟩ := ih1 h2
    exact ⟨z3, h3.trans h1, h4⟩
/-- the keys' own end: the items, the wish at each, the new list -/
def rSortK (K : PySem.W.Frag) (sp : Sp) (E : XK) (f : Addr) : List V → List V → Hp → VK → Prop := fun vs zs H Q => ∃ (a : Addr) (xs : List V), vs = [V.ref a] ∧ zs = [V.ref f] ∧ SqL K H a xs ∧ ∃ (j : Nat → Hp → Prop) (kz : List Int), kz.length = xs.length ∧ j 0 H ∧
  (∀ i x k H1, xs[i]? = some x → kz[i]? = some k → j i H1 → sp [x] H1 (fun v H2 => v = .int k ∧ j (i + 1) H2) E) ∧ ∀ H1 p ys, j xs.length H1 → ByKeys kz xs ys → H1 p = none → (∀ b, H b ≠ none → b ≠ p) → Q (.ref p) (upd H1 p (.lst ys))
theorem vals_perm {ks : List Int} {xs : List V} {its out : List Value} (r : Vals xs its) (h : KskOut false ks its out) (hl : ks.length = xs.length) : ∃ ys, Vals ys out ∧ ByKeys ks xs ys := by
  obtain ⟨qs, h1, h2, h3⟩ := h
  have hv : ∀ {xs : List V} {its : List Value}, Vals xs its → its = (xs.zip its).map (·.2) ∧ xs = (xs.zip its).map (·.1) ∧ ∀ z ∈ xs.zip its, RelV z.1 z.2 := by
    intro xs its r
    induction r with
    | nil => exact ⟨rfl, rfl, fun z hz => nomatch hz⟩
    | cons r _ ih =>
      obtain ⟨i1, i2, i3⟩ := ih
      refine ⟨by rw [List.zip_cons_cons, List.map_cons, ← i1], by rw [List.zip_cons_cons, List.map_cons, ← i2], fun z hz => ?_⟩
      rw [List.zip_cons_cons] at hz
      rcases List.mem_cons.mp hz with rfl | hz
      · exact r
      · exact i3 z hz
  obtain ⟨e1, e2, e3⟩ := hv r
  have e4 : ks.zip its = (ks.zip (xs.zip its)).map fun z => (z.1, z.2.2) := by
    conv => lhs; rw [e1, List.zip_map_right]
    rfl
  have e5 : ks.zip xs = (ks.zip (xs.zip its)).map fun z => (z.1, z.2.1) := by
    conv => lhs; rw [e2, List.zip_map_right]
    rfl
  obtain ⟨zs, z1, z2⟩ := perm_lift (fun z : Int × V × Value => (z.1, z.2.2)) h1 e4
  have z3 : ∀ z ∈ zs, RelV z.2.1 z.2.2 := fun z hz => e3 _ (List.of_mem_zip (z1.mem_iff.mp hz)).2
  refine ⟨zs.map fun z => z.2.1, ?_, (zs.map fun z => (z.1, z.2.1)), ?_, by rw [List.map_map]; rfl, ?_⟩
  · rw [h2, z2, List.map_map]
    clear z1 z2
    induction zs with
    | nil => exact .nil
    | cons z zs ih => exact .cons (z3 z List.mem_cons_self) (ih fun y hy => z3 y (List.mem_cons_of_mem _ hy))
  · rw [e5]
    exact z1.map _
  · rw [z2, List.pairwise_map] at h3
    rw [List.pairwise_map]
    exact h3
theorem apart_of {a : Addr} (I : Inv X pins σ H s) (h : s.heap.objs.size ≤ a) : X.s_0.heap.objs.size ≤ a ∧ a ≠ X.env.locals ∧ a ∉ X.fs ∧ (∀ x c, X.env.cells.lookup x = some c → c ≠ a) ∧ (∀ p ∈ X.pn ++ pins, p.1 ≠ a) ∧ H a = none := by
  refine ⟨Nat.le_trans I.sz h, Nat.ne_of_gt (Nat.lt_of_lt_of_le I.lt h), I.nofs h, fun x c e z => ?_, fun p hp z => ?_, I.hok.fresh h⟩
  · obtain ⟨v, o, ho, _⟩ := I.cell x c e
    exact absurd (Nat.lt_of_lt_of_le (z ▸ Heap.lt_size ho) h) (Nat.lt_irrefl _)
  · have := (I.pin p hp).1
    exact absurd (Nat.lt_of_lt_of_le (z ▸ Heap.lt_size this) h) (Nat.lt_irrefl _)
theorem Inv.more {pins2 : List (Addr × Obj)} (I : Inv X pins σ H s) (h : ∀ p ∈ pins2, s.heap.get? p.1 = some p.2 ∧ H p.1 = none ∧ p.1 ≠ X.env.locals ∧ p.1 ∉ X.fs ∧ ∀ v, p.2.data ≠ .cell v) : Inv X (pins2 ++ pins) σ H s :=
  I.pins_of fun p hp => (List.mem_append.mp hp).elim (h p) fun z => I.pin p (List.mem_append_right _ z)
theorem Inv.less {pins2 : List (Addr × Obj)} (I : Inv X (pins2 ++ pins) σ H s) : Inv X pins σ H s := I.pins_of fun p hp => I.pin p (List.mem_append_right _ (List.mem_append_right _ hp))
theorem cr_sortK (F : FnOk X.prog X.w X.K X.mg X.base CX0 k f fd ps sp) (hr : Room (k + 2) X.A) (hb : Binds X.K fd ps []) : CallRK X (.builtin "sorted") [Str.ofString "key"] (rSortK X.K sp E f) := by
  intro pins s σ H vs zs us ws Q I r rz h
  obtain ⟨l, xs, rfl, rfl, hs, j, kz, hkl, hj0, hturn, q⟩ := h
  obtain rfl := Vals.ref1 r
  obtain ⟨w1, rfl, e1⟩ := vals1 rz
  obtain rfl : w1 = Value.ref f := e1
  obtain ⟨its, rv, hl, hz⟩ := I.list hs
  have hz' : its.length ≤ sizeLine := by rw [← rv.length]; exact hz
  refine call_function_entry_kw kind_sorted plain_sorted entry_sorted (PyProof.Rows.ksk_s1 _ _) ?_
  unfold Builtin.«sorted»
  refine wpAny_bind (m := checkCount "sorted" 1 1 _) (wpAny_pure ?_)
  refine wpAny_bind (collect_list hl.isList ?_ hz')
  refine wpAny_bind (wpAny_newList ?_ hz')
  have hsz : ((s.heap.push (seqObj "list" #[] 0)).update s.heap.objs.size (Obj.mapSeq (· ++ its.toArray))).objs.size = s.heap.objs.size + 1 := by
    rw [Heap.size_update, size_push']
  have hoL : (((s.heap.push (seqObj "list" #[] 0)).update s.heap.objs.size (Obj.mapSeq (· ++ its.toArray))).push (seqObj "list" its.toArray 0)).get? (s.heap.objs.size + 1) = some (seqObj "list" its.toArray 0) := by
    rw [← hsz]; exact Heap.get?_push_size _ rfl
  have keep : ∀ b o, s.heap.get? b = some o → (((s.heap.push (seqObj "list" #[] 0)).update s.heap.objs.size (Obj.mapSeq (· ++ its.toArray))).push (seqObj "list" its.toArray 0)).get? b = some o := fun b o q => by
    have hlt : b < s.heap.objs.size := Heap.lt_size q
    refine Heap.get?_push_of_some _ ?_
    rw [Heap.get?_update_ne _ _ _ _ (Nat.ne_of_lt hlt)]
    exact Heap.get?_push_of_some _ q
  show wpAny _ _ _ _ _ { s with heap := ((s.heap.push (seqObj "list" #[] 0)).update s.heap.objs.size (Obj.mapSeq (· ++ its.toArray))).push (seqObj "list" its.toArray 0) }
  rw [hsz]
  generalize hh1 : ((s.heap.push (seqObj "list" #[] 0)).update s.heap.objs.size (Obj.mapSeq (· ++ its.toArray))).push (seqObj "list" its.toArray 0) = g1 at hoL keep
  have hg1 : g1.objs.size = s.heap.objs.size + 2 := by rw [← hh1, size_push', hsz]
  obtain ⟨a1, a2, a3, a4, a5, a6⟩ := apart_of I (a := s.heap.objs.size + 1) (Nat.le_succ _)
  refine wpAny_bind (wpAny_holding (wpAny_call_entry_kw slot_list_sort ⟨_, hoL, rfl⟩ entry_list_sort ?body (PyProof.Rows.ksk_l1 _ _)))
  case body =>
    show wpAny (model X.prog X.w) X.A.in1.in1 (Builtin.«list.sort» ⟨[.ref (s.heap.objs.size + 1)], [(Str.ofString "key", .ref f)]⟩) _ _ _
    rw [PyProof.Rows.ksk_t1]
    unfold ksk_tree
    generalize hA : s.heap.objs.size + 1 = A at hoL a1 a2 a3 a4 a5 a6
    have hlt : A < g1.objs.size := Heap.lt_size hoL
    obtain ⟨e1, ho1⟩ : ∃ e1, (g1.update A (Obj.mapSeq fun _ => (#[] : Array Value))).get? A = some (seqObj "list" #[] e1) := ⟨_, get?_update_seq hoL fun _ => #[]⟩
    refine wpAny_bind (listItems_at hoL rfl ?_)
    refine wpAny_bind (listUpdate_at hoL rfl ?_ (by rw [List.size_toArray]; exact hz') (Nat.zero_le _))
    refine wpAny_bind (seqEpoch_at ho1 rfl ?_)
    refine wpAny_bind (wpAny_newTuple ?_ (by show its.length ≤ _; exact hz'))
    refine wpAny_bind (wpAny_newList ?_ (Nat.zero_le _))
    refine wpAny_holding ?_
    have hkS : ((g1.update A (Obj.mapSeq fun _ => (#[] : Array Value))).push (seqObj "tuple" its.toArray 0)).objs.size = g1.objs.size + 1 := by rw [size_push', Heap.size_update]
    show wpAny (model X.prog X.w) X.A.in1.in1 (ksk_rest A (.ref f) false its.toArray e1 (.ref ((g1.update A (Obj.mapSeq fun _ => (#[] : Array Value))).push (seqObj "tuple" its.toArray 0)).objs.size)) _ _ { s with heap := ((g1.update A (Obj.mapSeq fun _ => (#[] : Array Value))).push (seqObj "tuple" its.toArray 0)).push (seqObj "list" #[] 0) }
    have hoK : (((g1.update A (Obj.mapSeq fun _ => (#[] : Array Value))).push (seqObj "tuple" its.toArray 0)).push (seqObj "list" #[] 0)).get? ((g1.update A (Obj.mapSeq fun _ => (#[] : Array Value))).push (seqObj "tuple" its.toArray 0)).objs.size = some (seqObj "list" #[] 0) := Heap.get?_push_size _ rfl
    have hoA : (((g1.update A (Obj.mapSeq fun _ => (#[] : Array Value))).push (seqObj "tuple" its.toArray 0)).push (seqObj "list" #[] 0)).get? A = some (seqObj "list" #[] e1) := Heap.get?_push_of_some _ (Heap.get?_push_of_some _ ho1)
    have keep2 : ∀ b o, s.heap.get? b = some o → (((g1.update A (Obj.mapSeq fun _ => (#[] : Array Value))).push (seqObj "tuple" its.toArray 0)).push (seqObj "list" #[] 0)).get? b = some o := fun b o q => by
      have hb : b ≠ A := Nat.ne_of_lt (Nat.lt_of_lt_of_le (Heap.lt_size q) (by rw [← hA]; exact Nat.le_succ _))
      refine Heap.get?_push_of_some _ (Heap.get?_push_of_some _ ?_)
      rw [Heap.get?_update_ne _ _ _ _ hb]
      exact keep b o q
    rw [hkS] at hoK ⊢
    generalize hB : g1.objs.size + 1 = B at hoK
    generalize ((g1.update A (Obj.mapSeq fun _ => (#[] : Array Value))).push (seqObj "tuple" its.toArray 0)).push (seqObj "list" #[] 0) = g2 at hoK hoA keep2
    obtain ⟨b1, b2, b3, b4, b5, b6⟩ := apart_of I (a := B) (by omega)
    have hAB : B ≠ A := by omega
    have I2 : Inv X pins σ H { s with heap := g2, toks := s.toks } := I.kept keep2
    have I3 : Inv X ([(A, seqObj "list" #[] e1), (B, seqObj "list" #[] 0)] ++ pins) σ H { s with heap := g2, toks := s.toks } := Inv.more I2 fun p hp => by
      rcases List.mem_cons.mp hp with rfl | hp
      · exact ⟨hoA, a6, a2, a3, fun v z => by cases z⟩
      · rw [List.mem_singleton.mp hp]
        exact ⟨hoK, b6, b2, b3, fun v z => by cases z⟩
    unfold ksk_rest
    refine wpAny_bind (wpAny_rule ?_)
    first
      | rw [List.forIn_toArray]
      | (rw [← Array.forIn_toList]; simp only [List.toList_toArray])
      | rw [← Array.forIn_toList]
    refine wpAny_bind (ksk_fold (fun i s' => ∃ H1 kA e, Inv X ([(A, seqObj "list" #[] e1), (B, seqObj "list" kA e)] ++ pins) σ H1 s' ∧ s'.os = s.os ∧ j i H1 ∧ IntsAre kA.toList (kz.take i)) its 0 _
      ⟨H, #[], 0, I3, rfl, hj0, by simpa using IntsAre.nil⟩ ?step ?done)
    case step =>
      rintro i x s' hx ⟨H1, kA, e, J, ho, hj, hk⟩
      simp only [Nat.zero_add] at hj hk ⊢
      have hi : i < its.length := (List.getElem?_eq_some_iff.mp hx).1
      have hi2 : i < xs.length := by rw [rv.length]; exact hi
      obtain ⟨k2, hk2⟩ : ∃ k2, kz[i]? = some k2 := ⟨_, List.getElem?_eq_getElem (by omega)⟩
      obtain ⟨y, hy⟩ : ∃ y, xs[i]? = some y := ⟨_, List.getElem?_eq_getElem hi2⟩
      have hxy : RelV y x := by
        obtain ⟨u, h1, h2⟩ := rv.get (i := i) hy
        rw [hx] at h1
        cases h1
        exact h2
      have hzk : kA.size ≤ its.length := by
        have h1 := hk.length
        rw [Array.length_toList, List.length_take] at h1
        omega
      refine wpAny_bind (wpAny_attempt (wpAny_mono (run_in2 (E2 := fun _ _ => False) F hr hb J hxy (hturn i y k2 H1 hy hk2 hj)) (fun v s'' he => ?_) fun _ _ hF => hF.elim))
      obtain ⟨v2, H2, J2, r2, rfl, hj2⟩ := he
      obtain ⟨t2, rfl⟩ : ∃ t2, v = .int k2 t2 := r2
      try dsimp only
      have nk := (J2.pin (B, seqObj "list" kA e) (List.mem_append_right _ (List.mem_append_left _ (.tail _ (.head _)))))
      have na := (J2.pin (A, seqObj "list" #[] e1) (List.mem_append_right _ (List.mem_append_left _ (.head _))))
      obtain ⟨c2, hc2⟩ : ∃ c2, (s''.heap.update B (Obj.mapSeq (·.push (.int k2 t2)))).get? B = some (seqObj "list" (kA.push (.int k2 t2)) c2) := ⟨_, get?_update_seq nk.1 (·.push (.int k2 t2))⟩
      have ek : kz.take (i + 1) = kz.take i ++ [k2] := by rw [List.take_add_one, hk2]; simp
      have ea : (kA.push (Value.int k2 t2)).toList = kA.toList ++ [Value.int k2 t2] := by simp
      have hSL : sizeLine = 16777216 := sizeLine_eq
      refine wpAny_bind (listUpdate_at nk.1 rfl ?_ (by rw [sizeLine_eq] at hz' ⊢; omega) (Nat.le_trans (Nat.le_of_eq (Array.size_push ..)) (by rw [sizeLine_eq] at hz' ⊢; omega)))
      refine wpAny_pure ⟨rfl, H2, kA.push (.int k2 t2), c2, ?_, ?_, hj2, by rw [ea, ek]; exact ksk_snoc hk⟩
      · have J3 : Inv X pins σ H2 s'' := Inv.less J2
        have J4 : Inv X pins σ H2 { s'' with heap := s''.heap.update B (Obj.mapSeq (·.push (.int k2 t2))), toks := s''.toks } := J3.turned (it := B) (fun b o hb q => by rw [Heap.get?_update_ne _ _ _ _ hb]; exact q) nk.2.1 b2 (.inr b1) b4 b5
        refine Inv.more J4 fun p hp => ?_
        rcases List.mem_cons.mp hp with rfl | hp
        · refine ⟨?_, na.2.1, a2, a3, fun v z => by cases z⟩
          show (s''.heap.update B _).get? A = _
          rw [Heap.get?_update_ne _ _ _ _ hAB.symm]
          exact na.1
        · rw [List.mem_singleton.mp hp]
          exact ⟨hc2, nk.2.1, b2, b3, fun v z => by cases z⟩
      · exact J2.os.trans I.os.symm
    case done =>
      rintro s' ⟨H1, kA, e, J, ho, hj, hk⟩
      have hk' : IntsAre kA.toList kz := by
        have e3 : kz.take (0 + its.length) = kz := List.take_of_length_le (by rw [Nat.zero_add, ← rv.length]; omega)
        rw [e3] at hk
        exact hk
      rw [Nat.zero_add, ← rv.length] at hj
      have nk := (J.pin (B, seqObj "list" kA e) (List.mem_append_right _ (List.mem_append_left _ (.tail _ (.head _)))))
      have na := (J.pin (A, seqObj "list" #[] e1) (List.mem_append_right _ (List.mem_append_left _ (.head _))))
      have J3 : Inv X pins σ H1 s' := Inv.less J
      have gA : X.base.get? A = none := Heap.get?_none_of_le (Nat.le_trans I.ok.bsz a1)
      have gB : X.base.get? B = none := Heap.get?_none_of_le (Nat.le_trans I.ok.bsz b1)
      obtain ⟨m, Fm⟩ := J3.fr
      try dsimp only
      refine wpAny_bind (listItems_at nk.1 rfl ?_)
      refine ksk_end_Any (e := e) (news := (rest X.base s'.heap X.env.locals A).filter fun p => decide (p.1 ≠ B)) Fm (fun p hp => ?_) hAB (fun p hp => of_decide_eq_true (List.mem_filter.mp hp).2) (fun p hp => rest_ne p (List.mem_filter.mp hp).1) hk' (by rw [hkl, rv.length]) hz' fun h3 tk3 out c F3 N3 k3 => ⟨_, rfl, ?_⟩
      · rcases List.mem_append.mp hp with hp | hp
        · exact news_all p (List.mem_filter.mp (List.mem_filter.mp hp).1).1
        · rcases List.mem_cons.mp hp with rfl | hp
          · exact ⟨nk.1, b2, gB⟩
          · rw [List.mem_singleton.mp hp]
            exact ⟨na.1, a2, gA⟩
      · obtain ⟨ys, rv2, hby⟩ := vals_perm rv k3 hkl
        have hA3 : h3.get? A = some (seqObj "list" out c) := (N3 _ (.head _)).1
        have kp : ∀ b o, b ≠ X.env.locals → b ≠ A → b ≠ B → s'.heap.get? b = some o → h3.get? b = some o := fun b o h1 h2 h4 e => by
          cases q : X.base.get? b with
          | some u =>
            have := J3.bk b u q
            rw [e] at this; cases this
            exact F3.keep b _ q
          | none => exact (N3 (b, o) (.tail _ (List.mem_filter.mpr ⟨mem_rest h1 q e h2, decide_eq_true h4⟩))).1
        have hlen : ys.length ≤ sizeLine := by
          obtain ⟨qs, z1, z2, _⟩ := hby
          rw [z2, List.length_map, z1.length_eq, List.length_zip]
          omega
        have J5 : Inv X pins σ (upd H1 A (.lst ys)) { s' with heap := h3, gens := s'.gens, drawn := s'.drawn, toks := tk3 } := by
          refine J3.step (ch := [A, B]) (fun b hb => ?_) (fun b o h1 h2 h4 e n => kp b o h1 (fun z => h4 (by rw [z]; exact .head _)) (fun z => h4 (by rw [z]; exact .tail _ (.head _))) e) (fun b o h1 h2 h4 e n => ⟨o.slots, kp b o h1 (fun z => h4 (by rw [z]; exact .head _)) (fun z => h4 (by rw [z]; exact .tail _ (.head _))) e⟩)
            (fun b o h4 e n => ?_) (fun b o h4 e => ?_) (fun b us e => ?_) (fun b o u e => ?_) (fun b us e => ⟨#[], ?_⟩) (fun m2 hm => ?_) (fun b o e => ?_) J3.bare
          · rcases List.mem_cons.mp hb with rfl | hb
            · exact ⟨.inr a1, a2, a4, a5⟩
            · rw [List.mem_singleton.mp hb]
              exact ⟨.inr b1, b2, b4, b5⟩
          · rw [upd_ne (fun z => h4 (by rw [z]; exact .head _))]
            exact n
          · by_cases hb : b = X.env.locals
            · subst hb
              obtain ⟨o2, _, _, ho2, _⟩ := F3.ns
              exact ⟨o2, ho2⟩
            · exact ⟨o, kp b o hb (fun z => h4 (by rw [z]; exact .head _)) (fun z => h4 (by rw [z]; exact .tail _ (.head _))) e⟩
          · rw [upd_ne (ne_of_none e na.2.1)]; exact e
          · rw [upd_ne (ne_of_none e na.2.1)]; exact e
          · rw [upd_ne (ne_of_none e na.2.1), e]; simp
          · have : m2 = m := funext fun x => hm.agree Fm.ns x
            subst this
            exact F3.ns
          · by_cases hb : b = A
            · subst hb
              rw [upd_same] at e
              cases e
              exact ⟨hlen, out.toList, c, rv2, by rw [Array.toArray_toList]; exact hA3⟩
            · rw [upd_ne hb] at e
              refine (J3.hok b o e).stay (fun d u hd q => kp d u ?_ ?_ ?_ q) (fun d q => by rw [upd_ne (ne_of_none q na.2.1)]; exact q) fun d us q => by rw [upd_ne (ne_of_none q na.2.1)]; exact q
              · rcases hd with rfl | hd
                · exact ne_of_none e J3.free
                · exact ne_of_none hd J3.free
              · rcases hd with rfl | hd
                · exact hb
                · exact ne_of_none hd na.2.1
              · rcases hd with rfl | hd
                · exact ne_of_none e nk.2.1
                · exact ne_of_none hd nk.2.1
        refine wpAny_pure ⟨_, rfl, .ref A, _, J5, rfl, q H1 A ys hj hby na.2.1 fun b hb z => ?_⟩
        rw [z] at hb
        exact hb a6
end
/-! ### by content -/
section
variable {K : PySem.W.Frag} {p : Amb} {F : Hp}
theorem reps_perm {ks : List Int} {xs ys : List V} {ds : List Dat} (r : Reps K p F xs ds) (h : ByKeys ks xs ys) : ∃ es, Reps K p F ys es ∧ ByKeys ks ds es := by
  obtain ⟨qs, h1, h2, h3⟩ := h
  have hv : ∀ {xs : List V} {ds : List Dat}, Reps K p F xs ds → ds = (xs.zip ds).map (·.2) ∧ xs = (xs.zip ds).map (·.1) ∧ ∀ z ∈ xs.zip ds, Rep K p F z.1 z.2 := by
    intro xs
    induction xs with
    | nil => intro ds r; cases r; exact ⟨rfl, rfl, fun z hz => nomatch hz⟩
    | cons x xs ih =>
      intro ds r
      cases r with
      | cons r r' =>
        obtain ⟨i1, i2, i3⟩ := ih r'
        refine ⟨by rw [List.zip_cons_cons, List.map_cons, ← i1], by rw [List.zip_cons_cons, List.map_cons, ← i2], fun z hz => ?_⟩
        rw [List.zip_cons_cons] at hz
        rcases List.mem_cons.mp hz with rfl | hz
        · exact r
        · exact i3 z hz
  obtain ⟨e1, e2, e3⟩ := hv r
  have e4 : ks.zip ds = (ks.zip (xs.zip ds)).map fun z => (z.1, z.2.2) := by
    conv => lhs; rw [e1, List.zip_map_right]
    rfl
  have e5 : ks.zip xs = (ks.zip (xs.zip ds)).map fun z => (z.1, z.2.1) := by
    conv => lhs; rw [e2, List.zip_map_right]
    rfl
  obtain ⟨zs, z1, z2⟩ := perm_lift (fun z : Int × V × Dat => (z.1, z.2.1)) h1 e5
  have z3 : ∀ z ∈ zs, Rep K p F z.2.1 z.2.2 := fun z hz => e3 _ (List.of_mem_zip (z1.mem_iff.mp hz)).2
  refine ⟨zs.map fun z => z.2.2, ?_, (zs.map fun z => (z.1, z.2.2)), ?_, by rw [List.map_map]; rfl, ?_⟩
  · rw [h2, z2, List.map_map]
    clear z1 z2
    induction zs with
    | nil => exact .nil
    | cons z zs ih => exact .cons (z3 z List.mem_cons_self) (ih fun y hy => z3 y (List.mem_cons_of_mem _ hy))
  · rw [e4]
    exact z1.map _
  · rw [z2, List.pairwise_map] at h3
    rw [List.pairwise_map]
    exact h3
/-- sorted(xs, key=g) -/
def tSortK (K : PySem.W.Frag) (g : Fn) (f : Addr) (E : XK) (te : TE) : TE := tCKw (rSortK K (spF K g) E f) (tCons te tNil) (tCons (tC (.ref f)) tNil)
def wSortK (g : Fn) (we : WE) : WF := fun S Q => we S fun d S1 => match d with
  | .lst l => ∃ ks : List Int, ks.length = l.length ∧ (∀ (i : Nat) (d : Dat) (k : Int), l[i]? = some d → ks[i]? = some k → ∀ QD : Dat → Nat → Prop, QD (.int k) S1.n → g [d] S1.n QD) ∧ ∀ l', ByKeys ks l l' → Q l' S1
  | _ => False
instance ef_sortK {g : Fn} {f : Addr} {E : XK} {te : TE} {we : WE} [a : EV K te we] : EF K (tSortK K g f E te) (wSortK g we) := ⟨fun {p H0 F0 F H σ S T Q Q'} ok hw k => by
  refine a.run ok hw fun v F1 H1 S1 d ok1 e1 r1 q1 => ?_
  cases d with
  | lst l =>
    cases r1 with
    | @lst b xs _ hb hr =>
      obtain ⟨ks, hk, hg, hQ⟩ : ∃ ks : List Int, ks.length = l.length ∧ (∀ (i : Nat) (d : Dat) (k : Int), l[i]? = some d → ks[i]? = some k → ∀ QD : Dat → Nat → Prop, QD (.int k) S1.n → g [d] S1.n QD) ∧ ∀ l', ByKeys ks l l' → Q l' S1 := q1
      refine ⟨b, xs, rfl, rfl, .of (ok1.hp.fh _ _ hb), fun _ H2 => ∃ F2, HpOk p H1 F1 F2 H2 S1.n, ks, hk.trans hr.length.symm, ⟨F1, ok1.hp.self⟩, fun i x k H2 hx hk2 hj => ?_, fun H2 c ys hj hy hc hn => ?_⟩
      · obtain ⟨F2, g2⟩ := hj
        obtain ⟨d, hd, hr2⟩ := hr.get hx
        refine ⟨p, F2, [d], S1.n, fun d n => d = .int k ∧ n = S1.n, g2.self, .one (hr2.mono g2.f0), hg i d k hd hk2 _ ⟨rfl, rfl⟩, fun v F3 H3 d3 n3 g3 r3 q3 => ?_⟩
        obtain ⟨rfl, rfl⟩ := q3
        exact ⟨r3.int_of, F3, g2.trans g3⟩
      · obtain ⟨F2, g2⟩ := hj
        obtain ⟨es, re, he⟩ := reps_perm hr hy
        have ok2 := ok1.call g2
        exact k c ys F2 _ S1 es (ok2.layT hc) (e1.trans g2.f0) (re.mono g2.f0) (hQ es he)
  | _ => exact (show False from q1).elim⟩
end
section
variable {X : Cx} {x y : Str} {p p2 pos kpos : Pos} {e : Expr} {g : Fn} {E : XK} {te : TE} {k : Nat} {f : Addr} {fd : FuncData} {ps : List Str}
theorem pe_sortK (F : FnOk X.prog X.w X.K X.mg X.base CX0 k f fd ps (spF X.K g)) (hr : Room (k + 2) X.A) (hb : Binds X.K fd ps []) (hg : Gl X "sorted") (hm : X.mg "sorted" = none) (hgy : Gl X y) (hmy : X.mg y = some (.ref f)) (ha : PE X e te) (hd : (y == ("__debug__" : Str)) = false := by decide)
    (hs : starEach [e] X.env = (false, eval e X.env) :: starEach [] X.env := by rfl) (he : backTo pos (starEach [e] X.env) = (false, eval e X.env) :: backTo pos (starEach [] X.env) := by rfl) (hpl : (backTo pos (starEach [e] X.env)).any (·.1) = false := by rfl)
    (hall : (backToKw pos (keywordEach [⟨some "key", .Name y p2, kpos⟩] X.env)).all (·.1.isSome) = true := by rfl) (hnone : (backToKw pos (keywordEach [⟨some "key", .Name y p2, kpos⟩] X.env)).any (·.1.isNone) = false := by rfl) (hks : (backToKw pos (keywordEach [⟨some "key", .Name y p2, kpos⟩] X.env)).filterMap (·.1) = [Str.ofString "key"] := by rfl) :
    PE X (.Call (.Name "sorted" p) [e] [⟨some "key", .Name y p2, kpos⟩] pos) (tSortK X.K g f E te) :=
  pe_callBK (cr_sortK F hr hb) hg hm (by rfl) (pa_cons ha pa_nil hs) (pk_cons (pe_glob hgy hmy rfl hd) pk_nil) (he := he) (hpl := hpl) (hall := hall) (hnone := hnone) (hks := hks)
end
end Dl
-- part D7
set_option Elab.async false
set_option linter.all false
set_option maxRecDepth 100000
set_option maxHeartbeats 4000000
namespace Dl
open PySem PySem.Spec PyProof.Rows L2 Evl RZ
variable [LawTabs]
/-! ### dicts as data: their keys are texts or whole numbers -/
def keyD : Dat → Option Key
  | .str z => some (.inr ⟨z.toArray⟩)
  | .int i => some (.inl i)
  | _ => none
def valD (kvs : List (Key × Dat)) (k : Key) : Option Dat := (kvs.find? fun kv => decide (kv.1 = k)).map (·.2)
def putD (kvs : List (Key × Dat)) (k : Key) (v : Dat) : List (Key × Dat) := if (kvs.any fun kv => decide (kv.1 = k)) = true then kvs.map (fun kv => if kv.1 = k then (kv.1, v) else kv) else kvs ++ [(k, v)]
def mergeD (kvs more : List (Key × Dat)) : List (Key × Dat) := more.foldl (fun acc kv => putD acc kv.1 kv.2) kvs
section
variable {K : PySem.W.Frag} {p : Amb} {F H : Hp}
theorem Rep.key {v : V} {d : Dat} {k : Key} (r : Rep K p F v d) (h : keyD d = some k) : v = kV k := by
  cases d with
  | str z => cases h; rw [r.str_of]; rfl
  | int i => cases h; rw [r.int_of]; rfl
  | _ => cases h
theorem RepK.val : ∀ {kvs : List (Key × V)} {ds : List (Key × Dat)} {k : Key} {d : Dat}, RepK K p F kvs ds → valD ds k = some d → ∃ v, valV kvs k = some v ∧ Rep K p F v d
  | _, _, _, _, .nil, h => by cases h
  | _, _, k, d, .cons (k := k1) r s, h => by
    unfold valD valV at *
    rw [List.find?_cons] at h ⊢
    by_cases e : k1 = k
    · simp only [e, decide_true, Option.map_some, Option.some.injEq] at h ⊢
      exact ⟨_, rfl, h ▸ r⟩
    · simp only [e, decide_false] at h ⊢
      exact RepK.val s h
theorem RepK.none : ∀ {kvs : List (Key × V)} {ds : List (Key × Dat)} {k : Key}, RepK K p F kvs ds → valD ds k = none → valV kvs k = none
  | _, _, _, .nil, _ => rfl
  | _, _, k, .cons (k := k1) r s, h => by
    unfold valD valV at *
    rw [List.find?_cons] at h ⊢
    by_cases e : k1 = k
    · simp [e] at h
    · simp only [e, decide_false] at h ⊢
      exact RepK.none s h
theorem RepK.any : ∀ {kvs : List (Key × V)} {ds : List (Key × Dat)} (k : Key), RepK K p F kvs ds → (kvs.any fun kv => decide (kv.1 = k)) = ds.any fun kv => decide (kv.1 = k)
  | _, _, _, .nil => rfl
  | _, _, k, .cons r s => by rw [List.any_cons, List.any_cons, RepK.any k s]
theorem RepK.app : ∀ {kvs : List (Key × V)} {ds : List (Key × Dat)} {k : Key} {v : V} {d : Dat}, RepK K p F kvs ds → Rep K p F v d → RepK K p F (kvs ++ [(k, v)]) (ds ++ [(k, d)])
  | _, _, _, _, _, .nil, r => .cons r .nil
  | _, _, _, _, _, .cons r1 s, r => .cons r1 (RepK.app s r)
theorem RepK.map : ∀ {kvs : List (Key × V)} {ds : List (Key × Dat)} {k : Key} {v : V} {d : Dat}, RepK K p F kvs ds → Rep K p F v d → RepK K p F (kvs.map fun kv => if kv.1 = k then (kv.1, v) else kv) (ds.map fun kv => if kv.1 = k then (kv.1, d) else kv)
  | _, _, _, _, _, .nil, _ => .nil
  | _, _, k, v, d, .cons (k := k1) r1 s, r => by
    rw [List.map_cons, List.map_cons]
    by_cases e : k1 = k
    · rw [if_pos e, if_pos e]
      exact .cons r (RepK.map s r)
    · rw [if_neg e, if_neg e]
      exact .cons r1 (RepK.map s r)
theorem RepK.put {kvs : List (Key × V)} {ds : List (Key × Dat)} {k : Key} {v : V} {d : Dat} (s : RepK K p F kvs ds) (r : Rep K p F v d) : RepK K p F (putK kvs k v) (putD ds k d) := by
  unfold putK putD
  rw [s.any k]
  split
  · exact s.map r
  · exact s.app r
theorem RepK.merge : ∀ {more : List (Key × V)} {es : List (Key × Dat)} {kvs : List (Key × V)} {ds : List (Key × Dat)}, RepK K p F kvs ds → RepK K p F more es → RepK K p F (mergeK kvs more) (mergeD ds es)
  | _, _, _, _, s, .nil => s
  | _, _, _, _, s, .cons (k := k) r t => by
    have h := RepK.merge (s.put (k := k) r) t
    exact h
end
/-! d[k] -/
def rIxK : R2 := fun x y H Q => ∃ a kvs k v, x = .ref a ∧ y = kV k ∧ Rd H a (.dK kvs) ∧ valV kvs k = some v ∧ Q v H
theorem ix_dk {X : Cx} : IxR X rIxK := by
  intro value slice pins s σ H x y v u Q I rx ry h hs
  obtain ⟨a, kvs, k, r, rfl, rfl, e, l, q⟩ := h
  obtain rfl : v = Value.ref a := rx
  obtain ⟨z, hd, vs, rel, dd⟩ := dk_rd I.hok e
  obtain ⟨w', hw, rw'⟩ := RelO.some_of (v := r) (o := valueAt vs k) (by rw [← l]; exact rel.val k)
  exact tail_any dd.mapOf.typeIs slot_dict_getitem.lookup (wpAny_getItem_of (kV_is ry) dd.mapOf hw ⟨r, H, I.tok _, rw', q⟩) hs
/-- a subscript: of a sequence, or of a dict -/
def rIxG (K : PySem.W.Frag) : R2 := fun x y H Q => L2.rIx K x y H Q ∨ rIxK x y H Q
theorem ix_G {X : Cx} : IxR X (rIxG X.K) := ix_seq.or ix_dk
def aIxG : OpD := fun a b Q => match a with
  | .dct kvs => ∃ k, keyD b = some k ∧ ∃ d, valD kvs k = some d ∧ Q d
  | _ => aIx a b Q
section
variable {K : PySem.W.Frag}
instance : OV K (rIxG K) aIxG := ⟨fun {p H0 F0 F H σ S T QD Q' x y a b} ok ra rb hf k' => by
  by_cases c : ∃ kvs, a = .dct kvs
  · obtain ⟨kvs, rfl⟩ := c
    obtain ⟨k, h1, d, h2, h3⟩ : ∃ k, keyD b = some k ∧ ∃ d, valD kvs k = some d ∧ QD d := hf
    cases ra with
    | @dct c vs _ hc hr =>
      obtain ⟨v, h4, h5⟩ := hr.val h2
      exact .inr ⟨c, vs, k, v, rfl, rb.key h1, .inl (ok.hp.fh _ _ hc), h4, k' v F H d ok (Ex.refl F) h5 h3⟩
  · have hf' : aIx a b QD := by
      unfold aIxG at hf
      split at hf
      · exact absurd ⟨_, rfl⟩ c
      · exact hf
    exact .inl ((inferInstance : OV K (L2.rIx K) aIx).run ok ra rb hf' k')⟩
/-! dict(xs) of a list of pairs -/
def pairsD : List Dat → Option (List (Key × Dat))
  | [] => some []
  | .tup [a, b] :: ds => match keyD a with
    | some k => (pairsD ds).map ((k, b) :: ·)
    | none => none
  | _ => none
def rDictP (K : PySem.W.Frag) : List V → Hp → VK → Prop := fun xs H Q => ∃ (a : Addr) (ps : List Addr) (kvs : List (Key × V)), xs = [.ref a] ∧ SqL K H a (ps.map V.ref) ∧ Paired (fun p kv => SqT K H p [kV kv.1, kv.2]) ps kvs ∧
    ∀ p, H p = none → Q (.ref p) (upd H p (.dK (mergeK [] kvs)))
theorem call_dictPr {X : Cx} (h : X.calm = true) : CallR X (.type "dict") (rDictP X.K) := call_dictP h
def aDictP (ds : List Dat) (Q : Dat → Prop) : Prop := as1 ds fun a => listD a fun l => ∃ kvs, pairsD l = some kvs ∧ Q (.dct (mergeD [] kvs))
theorem pairs_rep {p : Amb} {F H : Hp} (e : Ex F H) : ∀ {vs : List V} {ds : List Dat} {kvs : List (Key × Dat)}, Reps K p F vs ds → pairsD ds = some kvs → ∃ (ps : List Addr) (ws : List (Key × V)), vs = ps.map V.ref ∧ Paired (fun p kv => SqT K H p [kV kv.1, kv.2]) ps ws ∧ RepK K p F ws kvs
  | _, _, _, .nil, h => by
    cases h
    exact ⟨[], [], rfl, .nil, .nil⟩
  | _, d :: ds, kvs, .cons r s, h => by
    match d, h, r with
    | .tup [a, b], h, r =>
      have h' : (match keyD a with | some k => (pairsD ds).map ((k, b) :: ·) | none => none) = some kvs := h
      split at h'
      · rename_i k hk
        obtain ⟨es, h1, rfl⟩ := Option.map_eq_some_iff.mp h'
        obtain ⟨ps, ws, rfl, h2, h3⟩ := pairs_rep e s h1
        cases r with
        | @tup c us _ hc hr =>
          cases hr with
          | cons ra hr =>
            cases hr with
            | cons rb hr =>
              cases hr
              rw [ra.key hk] at hc
              exact ⟨c :: ps, (k, _) :: ws, rfl, .cons (ex_t e hc) h2, .cons rb h3⟩
      · cases h'
instance bv_dictP : BV K (rDictP K) aDictP := ⟨fun {p H0 F0 F H σ S T QD Q' vs ds} ok r hf k => by
  obtain ⟨a, rfl, f1⟩ := as1_of hf
  obtain ⟨v, rfl, rv⟩ := r.one_of
  obtain ⟨l, hl, kvs, h1, h2⟩ := listD_of f1
  obtain ⟨b, ws, rfl, g1, g2⟩ := rv.list_of hl
  obtain ⟨ps, us, rfl, h3, h4⟩ := pairs_rep ok.hp.fh g2 h1
  refine ⟨b, ps, us, rfl, ex_l ok.hp.fh g1, h3, fun c hc => ?_⟩
  have e := Ex.new (o := HO.dK (mergeK [] us)) (ok.hp.freeF hc)
  exact k _ _ _ _ (ok.lay hc) e (.dct upd_same ((RepK.merge .nil h4).mono e)) h2⟩
end
end Dl
-- part D8
set_option Elab.async false
set_option linter.all false
set_option maxRecDepth 100000
set_option maxHeartbeats 4000000
namespace Dl
open PySem PySem.Spec PyProof.Rows L2 Evl RZ
variable [LawTabs]
/-! ### instances with slots -/
def tabI (tab : List (Str × Nat)) (n : Str) : Option Nat := (tab.find? fun r => decide (r.1 = n)).map (·.2)
/-- a field's places, by the class -/
class FldT (K : PySem.W.Frag) (f : Str) (tab : outParam (List (Str × Nat))) : Prop where
  at_ : ∀ (n : Str) (i : Nat) (C : Addr), tabI tab n = some i → ClsAt K n C → SlX.SCls K C ∧ ∃ p, SlX.Slot1 K C f p i
class ClsN (K : PySem.W.Frag) (C : Addr) (n : outParam Str) : Prop where
  at_ : ClsAt K n C
section
variable {K : PySem.W.Frag} {W : WX}
/-- e.f -/
def wFld (tab : List (Str × Nat)) (we : WE) : WE := fun S Q => we S fun d S1 => match d with
  | .obj n l => ∃ i, tabI tab n = some i ∧ ∃ x, l[i]? = some x ∧ Q x S1
  | _ => False
instance ev_fld {f : Str} {tab : List (Str × Nat)} {te : TE} {we : WE} [T : FldT K f tab] [a : EV K te we] : EV K (SlX.tSl K te f) (wFld tab we) := ⟨fun {p H0 F0 F H σ S T2 Q Q'} ok hw k => by
  refine a.run ok hw fun v F1 H1 S1 d ok1 e1 r1 q1 => ?_
  cases d with
  | obj n l =>
    obtain ⟨i, h1, x, h2, h3⟩ : ∃ i, tabI tab n = some i ∧ ∃ x, l[i]? = some x ∧ Q x S1 := q1
    cases r1 with
    | @obj c C dx _ vs _ hc ha hd hr =>
      obtain ⟨s1, p1, s2⟩ := T.at_ n i C h1 hc
      obtain ⟨v, g1, g2⟩ := hr.getD h2
      refine ⟨c, C, dx, p1, vs.map some, i, v, rfl, .inr ⟨ok1.hp.fh _ _ ha, ok1.hp.fh _ _ hd⟩, s1, s2, ?_, k v F1 H1 S1 x ok1 e1 g2 h3⟩
      rw [List.getElem?_map, g1]
      rfl
  | _ => exact (show False from q1).elim⟩
/-- e.f, f a property of the class at C -/
def wProp (n : Str) (g : Fn) (we : WE) : WE := fun S Q => we S fun d S1 => match d with
  | .obj m l => m = n ∧ g [.obj m l] S1.n fun e n' => Q e ⟨S1.sl, n'⟩
  | _ => False
instance ev_prop {C : Addr} {n : Str} {g : Fn} {E : XK} {te : TE} {we : WE} [c : ClsN K C n] [a : EV K te we] : EV K (SlX.tPropSl C (spF K g) E te) (wProp n g we) := ⟨fun {p H0 F0 F H σ S T2 Q Q'} ok hw k => by
  refine a.run ok hw fun v F1 H1 S1 d ok1 e1 r1 q1 => ?_
  cases d with
  | obj m l =>
    obtain ⟨rfl, h2⟩ : m = n ∧ g [.obj m l] S1.n fun e n' => Q e ⟨S1.sl, n'⟩ := q1
    cases r1 with
    | @obj b C2 dx _ vs _ hc ha hd hr =>
      have e := hc.one c.at_
      subst e
      refine ⟨b, dx, vs.map some, rfl, .inr ⟨ok1.hp.fh _ _ ha, ok1.hp.fh _ _ hd⟩, p, F1, _, S1.n, _, ok1.hp.self, .one (.obj hc ha hd hr), h2, fun v F2 H2 d n2 g2 r2 q2 => k v F2 H2 _ d (ok1.call g2) (e1.trans g2.f0) r2 q2⟩
  | _ => exact (show False from q1).elim⟩
/-! an instance is made -/
abbrev FnI := List Dat → Nat → (List Dat → Nat → Prop) → Prop
def spI (K : PySem.W.Frag) (n : Str) (g : FnI) : Sp := fun vs H Q _ => ∃ (p : Amb) (F H0 : Hp) (x C dx : Addr) (ws : List V) (ds : List Dat) (m : Nat) (QD : List Dat → Nat → Prop), vs = .ref x :: ws ∧ ClsAt K n C ∧ H0 x = none ∧ H0 dx = none ∧ dx ≠ x ∧
  H = upd (upd H0 dx (.own x)) x (.ins C dx []) ∧ HpOk p H0 F F H0 m ∧ Reps K p F ws ds ∧ g ds m QD ∧ ∀ F' H' l m', HpOk p H0 F F' H' m' → Rep K p F' (.ref x) (.obj n l) → QD l m' → Q .non H'
def wMake (n : Str) (g : FnI) (wa : WF) : WE := fun S Q => wa S fun ds S1 => g ds S1.n fun l n' => Q (.obj n l) ⟨S1.sl, n'⟩
instance ev_make {C : Addr} {n : Str} {g : FnI} {E : XK} {ta : TA} {wa : WF} [c : ClsN K C n] [a : AV K ta wa] : EV K (tMake C (spI K n g) [] E ta) (wMake n g wa) := ⟨fun {p H0 F0 F H σ S T2 Q Q'} ok hw k => by
  refine a.run ok hw fun vs F1 H1 S1 ds ok1 e1 r1 q1 => ?_
  intro x dx hx hdx ne
  refine ⟨p, F1, H1, x, C, dx, vs, ds, S1.n, _, by rw [List.append_nil], c.at_, hx, hdx, ne, rfl, ok1.hp.self, r1, q1, fun F' H' l m' g2 r2 q2 => ⟨rfl, k _ F' H' _ _ (ok1.call g2) (e1.trans g2.f0) r2 q2⟩⟩⟩
/-! a slot of one's own instance is stored -/
def putO (i : Nat) (d : Dat) (xs : List (Option Dat)) : List (Option Dat) := (xs ++ List.replicate (i + 1 - xs.length) none).set i (some d)
def noNw : List Sl → Bool
  | [] => true
  | .nw _ _ _ :: _ => false
  | _ :: l => noNw l
def wSto (i : Nat) (tab : List (Str × Nat)) (we : WE) : WS := fun D S => we S fun d S1 => match S1.sl[i]? with
  | some (.nw x n xs) => noNw (S1.sl.set i .un) = true ∧ ∃ j, tabI tab n = some j ∧ D.nx ⟨S1.sl.set i (.nw x n (putO j d xs)), S1.n⟩
  | _ => False
theorem noNw_at {l : List Sl} (h : noNw l = true) {i : Nat} {x : Addr} {n : Str} {xs : List (Option Dat)} : l[i]? ≠ some (.nw x n xs) := by
  induction l generalizing i with
  | nil => simp
  | cons s l ih =>
    cases s with
    | nw y m ys => cases h
    | _ =>
      cases i with
      | zero => simp
      | succ i => exact fun e => ih h (by simpa using e)
theorem RepsO.put {p : Amb} {F : Hp} {vs : List (Option V)} {xs : List (Option Dat)} {v : V} {d : Dat} (r : RepsO K p F vs xs) (q : Rep K p F v d) (i : Nat) : RepsO K p F (SlX.putS i v vs) (putO i d xs) := by
  unfold SlX.putS putO
  refine ⟨by simp [r.1], fun j e h => ?_⟩
  rw [r.1]
  by_cases hj : i = j
  · subst hj
    have hl : i < (vs ++ List.replicate (i + 1 - xs.length) none).length := by rw [List.length_append, List.length_replicate, r.1]; omega
    have hl2 : i < (xs ++ List.replicate (i + 1 - xs.length) none).length := by rw [List.length_append, List.length_replicate]; omega
    rw [List.getElem?_set_self hl2] at h
    rw [List.getElem?_set_self hl]
    cases h
    exact ⟨v, rfl, q⟩
  · rw [List.getElem?_set_ne hj] at h ⊢
    by_cases c : j < xs.length
    · rw [List.getElem?_append_left c] at h
      rw [List.getElem?_append_left (by rw [r.1]; exact c)]
      exact r.2 j e h
    · rw [List.getElem?_append_right (by omega), List.getElem?_replicate] at h
      split at h <;> cases h
theorem Ok.updN {p : Amb} {H0 F0 F H : Hp} {σ : L2.St} {S : Sx} {T : List (Addr × List V)} (h : Ok K p H0 F0 F H σ S T) {i : Nat} {a : Addr} {n : Str} {xs : List (Option Dat)} (hi : S.sl[i]? = some (.nw a n xs)) (hn : noNw (S.sl.set i .un) = true) :
    ∃ C dx vs, σ[i]? = some (some (.ref a)) ∧ ClsAt K n C ∧ SlX.Slt H a C dx vs ∧ ∀ (j : Nat) (y : V) (d : Dat), Rep K p F y d → Ok K p H0 F0 F (SlX.slH H a C dx (SlX.putS j y vs)) σ ⟨S.sl.set i (.nw a n (putO j d xs)), S.n⟩ T := by
  obtain ⟨C, dx, vs, h1, h2, h3, ⟨d1, d2, d3, d4, d5, u, d6, d7⟩, h5⟩ := h.sl i _ hi
  refine ⟨C, dx, vs, h1, d4, d5, fun j y d r => ?_⟩
  obtain ⟨o, o1, o2, o3, o4⟩ := slt_some d5
  have nu : (∀ ps, u ≠ .tbl ps) ∧ (∀ zs, u ≠ .lst zs) ∧ ∀ zs, u ≠ .dK zs := by
    rcases d7 with rfl | rfl
    · exact ⟨(fun _ z => nomatch z), (fun _ z => nomatch z), fun _ z => nomatch z⟩
    · exact ⟨(fun _ z => nomatch z), (fun _ z => nomatch z), fun _ z => nomatch z⟩
  have hp1 : HpOk p H0 F0 F (upd H dx (.xd [])) S.n := h.hp.write d1 d2 d6 nu.1
  have hp2 : HpOk p H0 F0 F (SlX.slH H a C dx (SlX.putS j y vs)) S.n := hp1.write h2 h3 (u := o) (by rw [upd_ne (Ne.symm d3)]; exact o1) o2
  have kp : ∀ (b : Addr) (w : HO), b ≠ a → b ≠ dx → H b = some w → SlX.slH H a C dx (SlX.putS j y vs) b = some w := fun b w q1 q2 q3 => by
    unfold SlX.slH
    rw [upd_ne q1, upd_ne q2]
    exact q3
  have ndx : ∀ (b : Addr) (w : HO), H b = some w → ((∃ zs, w = .lst zs) ∨ ∃ zs, w = .dK zs) → b ≠ dx := fun b w q1 q2 z => by
    subst z
    rw [d6] at q1
    cases q1
    rcases q2 with ⟨zs, q2⟩ | ⟨zs, q2⟩
    · exact nu.2.1 zs q2
    · exact nu.2.2 zs q2
  have hlt : i < S.sl.length := (List.getElem?_eq_some_iff.mp hi).1
  have back : ∀ (k : Nat) (t : Sl), (S.sl.set i (.nw a n (putO j d xs)))[k]? = some t → t.own = true → ∃ t', S.sl[k]? = some t' ∧ t'.own = true := fun k t q ho => by
    by_cases hk : k = i
    · subst hk; exact ⟨_, hi, rfl⟩
    · rw [List.getElem?_set_ne (Ne.symm hk)] at q; exact ⟨t, q, ho⟩
  refine ⟨hp2, by rw [List.length_set]; exact h.len, fun k t q => ?_, fun k l t w b hkl q1 o1' q2 o2' q3 q4 => ?_, fun b ws hm => ?_, fun k t b ws q1 ho q2 hm => ?_, h.td⟩
  · by_cases hk : k = i
    · subst hk
      rw [List.getElem?_set_self hlt] at q
      cases q
      exact ⟨C, dx, _, h1, h2, h3, ⟨d1, d2, d3, d4, SlX.slH_slt d3, .xd [], by unfold SlX.slH; rw [upd_ne d3, upd_same], .inr rfl⟩, h5.put r j⟩
    · rw [List.getElem?_set_ne (Ne.symm hk)] at q
      have hs := h.sl k t q
      have nb : ∀ b, t.own = true → σ[k]? = some (some (.ref b)) → b ≠ a := fun b ho hb z => by
        subst z
        exact h.own k i t _ b hk q ho hi rfl hb h1
      cases t with
      | un => trivial
      | im e => exact hs
      | ow es =>
        obtain ⟨b, ws, g1, g2, g3, g4, g5⟩ := hs
        exact ⟨b, ws, g1, g2, g3, kp b _ (nb b rfl g1) (ndx b _ g4 (.inl ⟨_, rfl⟩)) g4, g5⟩
      | od es =>
        obtain ⟨b, ws, g1, g2, g3, g4, g5⟩ := hs
        exact ⟨b, ws, g1, g2, g3, kp b _ (nb b rfl g1) (ndx b _ g4 (.inr ⟨_, rfl⟩)) g4, g5⟩
      | nw y m ys => exact (noNw_at hn (i := k) (by rw [List.getElem?_set_ne (Ne.symm hk)]; exact q)).elim
  · obtain ⟨t', r1, r2⟩ := back k t q1 o1'
    obtain ⟨w', r3, r4⟩ := back l w q2 o2'
    exact h.own k l t' w' b hkl r1 r2 r3 r4 q3 q4
  · obtain ⟨g1, g2, g3⟩ := h.tm b ws hm
    exact ⟨g1, g2, kp b _ (fun z => by subst z; exact h.ot i _ b ws hi rfl h1 hm) (ndx b _ g3 (.inl ⟨_, rfl⟩)) g3⟩
  · obtain ⟨t', r1, r2⟩ := back k t q1 ho
    exact h.ot k t' b ws r1 r2 q2 hm
instance sv_sto {i : Nat} {f : Str} {tab : List (Str × Nat)} {te : TE} {we : WE} [t : FldT K f tab] [a : EV K te we] : SV K W (SlX.sSl K (tVar i) te f) (wSto i tab we) := ⟨fun {p H0 F0 F H σ S D D'} ok hw c => by
  refine a.run ok hw fun v F1 H1 S1 d ok1 e1 r1 q1 => ?_
  split at q1
  · rename_i b n xs hs
    obtain ⟨q2, j, q3, q4⟩ := q1
    obtain ⟨C, dx, vs, g1, g2, g3, g4⟩ := ok1.updN hs q2
    obtain ⟨s1, p1, s2⟩ := t.at_ n j C q3 g2
    exact ⟨_, g1, b, C, dx, p1, vs, j, rfl, g3, s1, s2, c.nx _ _ _ _ (g4 j v d r1) q4⟩
  · exact q1.elim⟩
/-! the def that makes it -/
def startI (np : Nat) (x : Addr) (c : Str) (ds : List Dat) (n : Nat) : Sx := ⟨(.nw x c [] : Sl) :: (ds.map Sl.im ++ List.replicate (np - 1 - ds.length) Sl.un), n⟩
def bodyI (np : Nat) (c : Str) (w : WS) : FnI := fun ds n QD => ∀ x : Addr, w { nx := fun S => ∃ l : List Dat, S.sl[0]? = some (.nw x c (l.map some)) ∧ l ≠ [] ∧ QD l S.n, rt := fun _ _ => False } (startI np x c ds n)
theorem reps_all {p : Amb} {F : Hp} {vs : List (Option V)} {l : List Dat} (r : RepsO K p F vs (l.map some)) : ∃ ws : List V, vs = ws.map some ∧ Reps K p F ws l := by
  obtain ⟨h1, h2⟩ := r
  rw [List.length_map] at h1
  induction l generalizing vs with
  | nil =>
    have := List.eq_nil_of_length_eq_zero h1
    subst this
    exact ⟨[], rfl, .nil⟩
  | cons d l ih =>
    match vs, h1, h2 with
    | o :: vs, h1, h2 =>
      obtain ⟨v, g1, g2⟩ := h2 0 d rfl
      have g1' : o = some v := by simpa using g1
      obtain ⟨ws, e, r⟩ := ih (by simpa using h1) (fun i e he => h2 (i + 1) e (by simpa using he))
      exact ⟨v :: ws, by rw [g1', e]; rfl, .cons g2 r⟩
theorem okI {P : Program} {w : World} {mg : Str → Option Value} {base : Heap} {x qual c : Str} {st : Stmt} {f : Addr} {fd : FuncData} {N ps : List Str} {k : Nat} {G : FnI} (F : Fun K x qual st f fd) (S : FnScope N ps (defScope st)) (len : ∀ ds n QD, G ds n QD → ds.length + 1 = ps.length)
    (hN : ps.length ≤ N.length)
    (body : ∀ (cdv : Value) (A : Around) (outer : List Env) (s : Shared) (H : Hp), Room k (A.deeper (envOfC qual (defScope st) s.heap.objs.size f cdv)) →
      ∃ t, PSs (cxR P w K mg base N qual (defScope st) f cdv A outer s H) (defBody st) t ∧ ∃ ws, SV K (fun _ _ _ _ => False) t ws ∧ ∀ ds n QD, G ds n QD → bodyI N.length c ws ds n QD) : FnOk P w K mg base CX0 (k + 1) f fd ps (spI K c G) := by
  refine F.ok S (fun vs H Q E h => ?_) (fun cdv A outer s H vs Q E hr h => ?_)
  · obtain ⟨p, F, H0, x, C, dx, ws, ds, n, QD, rfl, _, _, _, _, _, _, r, hG, _⟩ := h
    rw [List.length_cons, r.length]
    exact len ds n QD hG
  · obtain ⟨t, ht, wt, sv, hb⟩ := body cdv A outer s H hr
    refine ⟨t, ht, ?_⟩
    obtain ⟨p, F, H0, x, C, dx, ws, ds, n, QD, rfl, hC, hx, hdx, ne, rfl, hh, r, hG, hQ⟩ := h
    have fx := hh.freeF hx
    have fd' := hh.freeF hdx
    have hh2 : HpOk p H0 F F (upd (upd H0 dx (.own x)) x (.ins C dx [])) n := (hh.new hdx).new (by rw [upd_ne (Ne.symm ne)]; exact hx)
    have st0 : Ok K p H0 F F (upd (upd H0 dx (.own x)) x (.ins C dx [])) (L2.start N (.ref x :: ws)) (startI N.length x c ds n) [] := by
      have ll := len ds n QD hG
      have lr := r.length
      have at0 : (L2.start N (.ref x :: ws))[0]? = some (some (.ref x)) := by
        unfold L2.start
        simp
      refine ⟨hh2, ?_, fun i s q => ?_, fun i j s t b hij q1 o1 q2 o2 q3 q4 => ?_, (fun b vs hm => nomatch hm), (fun i s b vs _ _ _ hm => nomatch hm), List.nodup_nil⟩
      · unfold L2.start startI
        simp
        omega
      · cases i with
        | zero =>
          have : s = .nw x c [] := by
            have : some (Sl.nw x c []) = some s := q
            exact (Option.some.inj this).symm
          subst this
          exact ⟨C, dx, [], at0, hx, fx, ⟨hdx, fd', ne, hC, .inl ⟨upd_same, rfl⟩, .own x, by rw [upd_ne ne, upd_same], .inl rfl⟩, rfl, fun i d h => by simp at h⟩
        | succ i =>
          have q' : (ds.map Sl.im ++ List.replicate (N.length - 1 - ds.length) Sl.un)[i]? = some s := by
            unfold startI at q
            simpa using q
          have at1 : (L2.start N (.ref x :: ws))[i + 1]? = (ws.map some ++ List.replicate (N.length - (ws.length + 1)) none)[i]? := by
            unfold L2.start
            simp
          by_cases c1 : i < ds.length
          · rw [List.getElem?_append_left (by rw [List.length_map]; exact c1), List.getElem?_map, List.getElem?_eq_getElem c1] at q'
            cases q'
            obtain ⟨v, g1, g2⟩ := r.getD (List.getElem?_eq_getElem c1)
            refine ⟨v, ?_, g2⟩
            rw [at1, List.getElem?_append_left (by rw [List.length_map]; omega), List.getElem?_map, g1]
            rfl
          · rw [List.getElem?_append_right (by rw [List.length_map]; omega)] at q'
            have := List.mem_of_getElem? q'
            rw [(List.mem_replicate.mp this).2]
            trivial
      · have only : ∀ (i : Nat) (s : Sl), (startI N.length x c ds n).sl[i]? = some s → s.own = true → i = 0 := fun i s q ho => by
          cases i with
          | zero => rfl
          | succ i =>
            unfold startI at q
            have q' : (ds.map Sl.im ++ List.replicate (N.length - 1 - ds.length) Sl.un)[i]? = some s := by simpa using q
            have := List.mem_of_getElem? q'
            rcases List.mem_append.mp this with h | h
            · obtain ⟨_, _, e⟩ := List.mem_map.mp h
              subst e; cases ho
            · have := (List.mem_replicate.mp h).2
              subst this; cases ho
        exact hij ((only i s q1 o1).trans (only j t q2 o2).symm)
    refine sv.run (D := { nx := fun S => ∃ l : List Dat, S.sl[0]? = some (.nw x c (l.map some)) ∧ l ≠ [] ∧ QD l S.n, rt := fun _ _ => False }) st0 (hb ds n QD hG x) ⟨fun F' H' σ' S' ok q => ?_, fun _ _ _ _ _ _ _ q => q.elim,
      fun _ _ _ _ _ _ _ _ _ _ _ q => q.elim, fun _ _ _ _ _ q => q.elim, fun _ _ _ _ _ q => q.elim, fun _ _ _ _ _ _ _ _ _ _ _ _ _ q => q.elim⟩
    obtain ⟨l, q1, q2, q3⟩ := q
    obtain ⟨C', dx', vs, g1, g2, g3, ⟨d1, d2, d3, d4, d5, u, d6, d7⟩, g5⟩ := ok.sl 0 _ q1
    obtain ⟨us, rfl, ru⟩ := reps_all g5
    have une : us ≠ [] := fun e => by
      subst e
      cases ru
      exact q2 rfl
    rcases d5 with ⟨_, e⟩ | ⟨d5, d8⟩
    · exact (une (by simpa using e)).elim
    have nbx : ∀ ps, SlX.SlO x C' dx' (us.map some) ≠ .tbl ps := fun ps z => by unfold SlX.SlO at z; cases z
    have hp1 := ok.hp.freeze d8 (fun _ z => nomatch z) d1 d2
    have fx1 : upd F' dx' (.xd []) x = none := by rw [upd_ne (Ne.symm d3)]; exact g3
    have hp2 := hp1.freeze d5 nbx g2 fx1
    have e1 : Ex F' (upd (upd F' dx' (.xd [])) x (SlX.SlO x C' dx' (us.map some))) := (Ex.new d2).trans (Ex.new fx1)
    refine hQ _ H' l S'.n hp2 (.obj d4 upd_same ?_ (ru.mono e1)) q3
    rw [upd_ne d3, upd_same]
theorem fnr_of {P : Program} {w : World} {mg : Str → Option Value} {base : Heap} {CX : CXT} {k : Nat} {f : Addr} {fd : FuncData} {ps : List Str} {sp : Sp} (F : FnOk P w K mg base CX k f fd ps sp) (hb : Binds K fd ps []) : FnR P w K mg base CX k f sp :=
  (F.raw hb .nil).imp fun vs H Q E h => by rw [List.append_nil]; exact h
theorem FldT.nil {f : Str} : FldT K f [] := ⟨fun n i C h => by cases h⟩
theorem FldT.cons {f n : Str} {C p : Addr} {i : Nat} {tab : List (Str × Nat)} (a : PySem.W.nsIn K mainGlobals n = some (some (.ref C))) (c : SlX.SCls K C) (s : SlX.Slot1 K C f p i) (t : FldT K f tab) : FldT K f ((n, i) :: tab) := ⟨fun m j D h g => by
  unfold tabI at h
  rw [List.find?_cons] at h
  by_cases e : n = m
  · subst e
    simp only [decide_true, Option.map_some, Option.some.injEq] at h
    subst h
    have := ClsAt.one (show ClsAt K n C from a) g
    subst this
    exact ⟨c, p, s⟩
  · simp only [e, decide_false] at h
    exact t.at_ m j D h g⟩
end
end Dl
-- part D9
set_option Elab.async false
set_option linter.all false
set_option maxRecDepth 100000
set_option maxHeartbeats 4000000
namespace Dl
open PySem PySem.Spec PyProof.Rows L2 Evl RZ
variable [LawTabs]
/-! ### a list of one's own is asked, and stays one's own -/
section
variable {K : PySem.W.Frag}
theorem Ok.borrow {p : Amb} {H0 F0 F H : Hp} {σ : L2.St} {S : Sx} {T : List (Addr × List V)} (h : Ok K p H0 F0 F H σ S T) {i : Nat} {l : List Dat} (hi : S.sl[i]? = some (.ow l)) : ∃ a vs, σ[i]? = some (some (.ref a)) ∧ H a = some (.lst vs) ∧ Reps K p F vs l ∧ ∃ F', Ex F F' ∧ Ex F' H ∧ Rep K p F' (.ref a) (.lst l) := by
  obtain ⟨a, vs, h1, h2, h3, h4, h5⟩ := h.sl i _ hi
  refine ⟨a, vs, h1, h4, h5, upd F a (.lst vs), Ex.new h3, fun b o q => ?_, .lst upd_same (h5.mono (Ex.new h3))⟩
  by_cases hb : b = a
  · subst hb
    rw [upd_same] at q
    rw [h4]
    exact q
  · rw [upd_ne hb] at q
    exact h.hp.fh b o q
/-- e in xs -/
def tOwnIn (K : PySem.W.Frag) (neg : Bool) (i : Nat) (te : TE) : TE := tOp (rInG K neg) te (tVar i)
def wOwnIn (neg : Bool) (i : Nat) (we : WE) : WE := fun S Q => we S fun a S1 => match S1.sl[i]? with
  | some (.ow l) => inS a (.lst l) fun k => Q (.bl (if neg then !k else k)) S1
  | _ => False
instance ev_ownIn {neg : Bool} {i : Nat} {te : TE} {we : WE} [a : EV K te we] : EV K (tOwnIn K neg i te) (wOwnIn neg i we) := ⟨fun {p H0 F0 F H σ S T Q Q'} ok hw k => by
  refine a.run ok hw fun v F1 H1 S1 d ok1 e1 r1 q1 => ?_
  split at q1
  · rename_i l hs
    obtain ⟨b, vs, g1, g2, g3, F', e2, e3, r⟩ := ok1.borrow hs
    exact ⟨_, g1, inS_ok e3 (r1.mono e2) r q1 fun c hc => k _ F1 H1 S1 _ ok1 e1 (.bl _) hc⟩
  · exact q1.elim⟩
/-- len(xs) -/
def tOwnLen (K : PySem.W.Frag) (i : Nat) : TE := tCB (rLenG K) (tCons (tVar i) tNil)
def wOwnLen (i : Nat) : WE := fun S Q => match S.sl[i]? with
  | some (.ow l) => Q (.int (l.length : Nat)) S
  | _ => False
instance ev_ownLen {i : Nat} : EV K (tOwnLen K i) (wOwnLen i) := ⟨fun {p H0 F0 F H σ S T Q Q'} ok hw k => by
  unfold wOwnLen at hw
  split at hw
  · rename_i l hs
    obtain ⟨b, vs, g1, g2, g3, _⟩ := ok.borrow hs
    exact ⟨_, g1, _, l.length, rfl, .inl ⟨vs, .of g2, g3.length.symm⟩, k _ F H S _ ok (Ex.refl F) (.int _) hw⟩
  · exact hw.elim⟩
/-- xs.index(e), of texts -/
def tOwnIdx (K : PySem.W.Frag) (i : Nat) (te : TE) : TE := tBM K "list" (rIndex K) (tVar i) (tCons te tNil)
def wOwnIdx (i : Nat) (we : WE) : WE := fun S Q => match S.sl[i]? with
  | some (.ow _) => we S fun d S1 => match S1.sl[i]? with
    | some (.ow l) => ∃ (zs : List (List Nat)) (z : List Nat) (j : Nat), l = zs.map Dat.str ∧ d = .str z ∧ zs[j]? = some z ∧ (∀ m, m < j → zs[m]? ≠ some z) ∧ Q (.int (j : Nat)) S1
    | _ => False
  | _ => False
theorem Reps.strs {p : Amb} {F : Hp} : ∀ {vs : List V} {zs : List (List Nat)}, Reps K p F vs (zs.map Dat.str) → vs = zs.map fun z => V.str ⟨z.toArray⟩
  | _, [], .nil => rfl
  | _, z :: zs, .cons r s => by rw [r.str_of, Reps.strs s]; rfl
theorem beq_strs (a b : List Nat) : ((⟨a.toArray⟩ : Str) == ⟨b.toArray⟩) = decide (a = b) := by
  rw [Bool.eq_iff_iff]
  simp
instance ev_ownIdx {i : Nat} {te : TE} {we : WE} [a : EV K te we] : EV K (tOwnIdx K i te) (wOwnIdx i we) := ⟨fun {p H0 F0 F H σ S T Q Q'} ok hw k => by
  unfold wOwnIdx at hw
  split at hw
  · rename_i l0 hs0
    obtain ⟨b, vs, g1, g2, g3, _⟩ := ok.borrow hs0
    refine ⟨_, g1, .inl ⟨rfl, vs, sq_of g2⟩, a.run ok hw fun v F1 H1 S1 d ok1 e1 r1 q1 => ?_⟩
    split at q1
    · rename_i l hs
      obtain ⟨zs, z, j, rfl, rfl, h1, h2, h3⟩ := q1
      obtain ⟨c, ws, f1, f2, f3, _⟩ := ok1.borrow hs
      rw [g1] at f1
      cases f1
      have ew := f3.strs
      subst ew
      rw [r1.str_of]
      refine ⟨b, _, _, j, .str ⟨z.toArray⟩, rfl, rfl, .of f2, rfl, ?_, ?_, ?_, fun m y hm hy => ?_, k _ F1 H1 S1 _ ok1 e1 (.int _) h3⟩
      · rw [List.all_map, List.all_eq_true]
        exact fun _ _ => rfl
      · rw [List.getElem?_map, h1]
        rfl
      · show ((⟨z.toArray⟩ : Str) == ⟨z.toArray⟩) = true
        rw [beq_strs, decide_eq_true rfl]
      · rw [List.getElem?_map] at hy
        cases q : zs[m]? with
        | none => rw [q] at hy; cases hy
        | some u =>
          rw [q] at hy
          cases hy
          show ((⟨u.toArray⟩ : Str) == ⟨z.toArray⟩) = false
          rw [beq_strs]
          exact decide_eq_false fun e => h2 m hm (by rw [q, e])
    · exact q1.elim
  · exact hw.elim⟩
end
end Dl
-- part D10
set_option Elab.async false
set_option linter.all false
set_option maxRecDepth 100000
set_option maxHeartbeats 4000000
namespace Dl
open PySem PySem.Spec PyProof.Rows L2 Evl RZ
variable [LawTabs]
/-! ### text.split(c), c one sign -/
def rSplitS : V → List V → Hp → VK → Prop := fun x xs H Q => ∃ a b, x = .str a ∧ xs = [.str b] ∧ (b.length == 0) = false ∧ a.length + 2 ≤ sizeLine ∧ rNewStrs (Txt.split a b) H Q
theorem mt_splitS {X : Cx} : MtR X "str.split" rSplitS := mt_split
def splitN (z b : List Nat) : List (List Nat) := (Txt.split ⟨z.toArray⟩ ⟨b.toArray⟩).map fun y => y.cps.toList
def splitD (a : Dat) (ds : List Dat) (Q : Dat → Prop) : Prop := match a, ds with
  | .str z, [.str b] => b ≠ [] ∧ z.length ≤ 1000000 ∧ Q (.lst ((splitN z b).map Dat.str))
  | _, _ => False
section
variable {K : PySem.W.Frag}
theorem reps_strs {p : Amb} {F : Hp} : ∀ ys : List Str, Reps K p F (ys.map V.str) ((ys.map fun y => y.cps.toList).map Dat.str)
  | [] => .nil
  | y :: ys => .cons (.str y) (reps_strs ys)
instance : MV K "str" rSplitS tStr splitD where
  ty := fun e r h => by
    cases r with
    | str s => exact rfl
    | _ => exact (show False from h).elim
  run := fun {p H0 F0 F H σ S T QD Q' x a vs ds} ok r rs hf k => by
    cases a with
    | str z =>
      match ds, hf, rs with
      | [.str b], hf, rs =>
        obtain ⟨h1, h2, h3⟩ : b ≠ [] ∧ z.length ≤ 1000000 ∧ QD (.lst ((splitN z b).map Dat.str)) := hf
        cases rs with
        | cons r1 rs =>
          cases rs
          rw [r.str_of, r1.str_of]
          refine ⟨_, _, rfl, rfl, ?_, ?_, fun q hq => ?_⟩
          · rw [str_len]
            cases b with
            | nil => exact absurd rfl h1
            | cons c b => rfl
          · rw [str_len]
            have := sizeLine_eq
            omega
          · have e := Ex.new (o := HO.lst ((Txt.split ⟨z.toArray⟩ ⟨b.toArray⟩).map V.str)) (ok.hp.freeF hq)
            exact k _ _ _ _ (ok.lay hq) e (.lst upd_same (reps_strs _)) h3
    | _ => exact (show False from hf).elim
end
theorem split_joinN {c : Nat} {parts : List (List Nat)} (hc : c < 256) (ne : parts ≠ []) (hp : ∀ q ∈ parts, c ∉ q) : splitN (joinN [c] parts) [c] = parts := by
  have e : (⟨(joinN [c] parts).toArray⟩ : Str) = Txt.join ⟨[c].toArray⟩ (parts.map fun l => Str.mk l.toArray) := by
    rw [← join_eq]
  unfold splitN
  rw [e, TL.split_join (s := c) (S := []) rfl (by simp; exact hc) (fun z => ne (List.map_eq_nil_iff.mp z)) (fun q hq => ?_), List.map_map]
  · conv => rhs; rw [← List.map_id parts]
    exact List.map_congr_left fun q _ => by simp
  · obtain ⟨l, hl, rfl⟩ := List.mem_map.mp hq
    have := hp l hl
    show c ∉ (Str.mk l.toArray).cps.toList
    simpa using this
end Dl
-- part D11
set_option Elab.async false
set_option linter.all false
set_option maxRecDepth 100000
set_option maxHeartbeats 4000000
namespace Dl
open PySem PySem.Spec PyProof.Rows L2 Evl RZ
variable [LawTabs]
section
variable {K : PySem.W.Frag} {W : WX}
/-! rules told with K -/
theorem dictPK {X : Cx} (K : PySem.W.Frag) (h : X.K = K := by rfl) (hc : X.calm = true := by rfl) : CallR X (.type "dict") (rDictP K) := h ▸ call_dictPr hc
theorem ixGK {X : Cx} (K : PySem.W.Frag) (h : X.K = K := by rfl) : IxR X (rIxG K) := h ▸ ix_G
/-! three at once, the second one's own; the second and the third -/
def tP3M (i j l : Nat) (te tf tg : TE) : TS := tPar3 i j l (tCons te (tCons tf (tCons tg tNil)))
def wP3M (i j l : Nat) (we : WE) (wf : WF) (wg : WE) : WS := fun D S => we S fun d S1 => wf S1 fun e S2 => wg S2 fun f S3 => D.nx ⟨((S3.sl.set i (.im d)).set j (.ow e)).set l (.im f), S3.n⟩
instance sv_p3M {i j l : Nat} {te tf tg : TE} {we : WE} {wf : WF} {wg : WE} [a : EV K te we] [b : EF K tf wf] [g : EV K tg wg] : SV K W (tP3M i j l te tf tg) (wP3M i j l we wf wg) := ⟨fun ok hw c =>
  a.run ok hw fun v F1 H1 S1 d ok1 e1 r1 q1 => b.run ok1 q1 fun u us F2 H2 S2 e ok2 e2 r2 q2 => g.run ok2 q2 fun x F3 H3 S3 f ok3 e3 r3 q3 =>
    ⟨_, _, _, rfl, c.nx _ _ _ _ (((ok3.setIm (r1.mono (e2.trans e3))).setOw (r2.mono e3)).setIm r3) q3⟩⟩
theorem ps_p3M {X : Cx} {i j l : Nat} {te tf tg : TE} {st : Stmt} (h : PS X st (tPar3 i j l (tCons te (tCons tf (tCons tg tNil))))) : PS X st (tP3M i j l te tf tg) := h
/-! own lists, under their own names -/
theorem pe_ownIn {X : Cx} {e : Expr} {neg : Bool} {i : Nat} {te : TE} (h : PE X e (tOp (rInG X.K neg) te (tVar i))) : PE X e (tOwnIn X.K neg i te) := h
theorem pt_ownIn {X : Cx} {e : Expr} {neg : Bool} {i : Nat} {te : TE} (h : PT X e (tB (tOp (rInG X.K neg) te (tVar i)))) : PT X e (tB (tOwnIn X.K neg i te)) := h
theorem indexK {X : Cx} (K : PySem.W.Frag) (h : X.K = K := by rfl) : MtR X "list.index" (rIndex K) := h ▸ mt_index
theorem pe_ownLen {X : Cx} {e : Expr} {i : Nat} (h : PE X e (tCB (rLenG X.K) (tCons (tVar i) tNil))) : PE X e (tOwnLen X.K i) := h
theorem pe_ownIdx {X : Cx} {e : Expr} {i : Nat} {te : TE} (h : PE X e (tBM X.K "list" (rIndex X.K) (tVar i) (tCons te tNil))) : PE X e (tOwnIdx X.K i te) := h
end
end Dl
-- part D12
set_option Elab.async false
set_option linter.all false
set_option maxRecDepth 100000
set_option maxHeartbeats 4000000
/-! an own error over ValueError whose __init__ says super().__init__(value); self.value = value, and its heirs -/
namespace PlE
open PySem PySem.W PySem.Calls PyProof.Rows PySem.HandSPX
def argsI (p1 p2 : Pos) : Arguments := { posonlyargs := [], args := [⟨"self", none, p1⟩, ⟨"value", none, p2⟩], vararg := none, kwonlyargs := [], kw_defaults := [], kwarg := none, defaults := [] }
def bodyI (a1 a2 a3 a4 a5 a6 b1 b2 b3 b4 : Pos) : List Stmt :=
  [.Expr (.Call (.Attribute (.Call (.Name "super" a1) [] [] a2) "__init__" a3) [.Name "value" a4] [] a5) a6, .Assign [.Attribute (.Name "self" b1) "value" b2] (.Name "value" b3) b4]
def scopeI : Scope := { kind := .function, names := [(PySem.Str.ofString "self", .local), (PySem.Str.ofString "value", .local), (PySem.Str.ofString "__class__", .free), (PySem.Str.ofString "super", .globalImplicit)], isGenerator := false, isCoroutine := false, more := [] }
abbrev veB : List Value := [.type "ValueError", .type "Exception", .type "BaseException", .type "object"]
/-- the base class at D, its __init__ at f1 -/
structure Base (K : Frag) (prog : Program) (mg : Str → Option Value) (D f1 : Addr) : Prop where
  fn : ∃ (oc : Value) (od : Option Addr) (doc pm : Value) (an : Option Addr) (cda cc : Addr) (ct : Value) (osl : Array (Option Value)) (p1 p2 a1 a2 a3 a4 a5 a6 b1 b2 b3 b4 : Pos) (ccl : Value) (cdd : Option Addr) (vs : Array Value) (ccs : Array (Option Value)) (file : Str) (tf : Tok) (cl : Value) (cld : Option Addr) (csl : Array (Option Value)), (a3.endLine == a5.line) = true ∧
    K.lookup f1 = some ⟨oc, od, .func (ksFn "__init__" "PlayError.__init__" (argsI p1 p2) (bodyI a1 a2 a3 a4 a5 a6 b1 b2 b3 b4) scopeI .none .none doc pm an (.ref cda) ct cc), osl⟩ ∧
    codeIn K (.ref cda) "PlayError.__init__" = true ∧ K.lookup cda = some ⟨ccl, cdd, .fields vs, ccs⟩ ∧ vs[2]? = some (.str file tf) ∧ ((prog.main.file : Str) == file) = true ∧ K.lookup cc = some ⟨cl, cld, .cell (some (.ref D)), csl⟩
  hD : ∃ cd, clsIn K D = some cd
  msup : mg "super" = none
  top : (prog.main.scope.names.lookup ("super" : Str)).isSome = false
  stat : nsIn K cStatics "thirdparty.any" = some none
/-- an heir at C -/
structure Heir (K : Frag) (D f1 C : Addr) : Prop where
  o : L2.OexC K C
  iC : findIn K (.ref C) "__init__" = some (some (.ref f1))
  tC : typeIn K (.ref f1) = some (.type "function")
  hsub : mroIn K C (.ref D) = some true
  noV : findIn K (.ref C) "value" = some none
  sup : ks_superIn K C D "__init__" = some (some (.builtin "ValueError.__init__"))
  hB : subIn K (.ref C) (.type "ValueError") = some true
  q : excInitIn K C veB "ValueError.__new__" = true
theorem ev_sup (env : Env) (a1 a2 a3 a4 a5 : Pos) (h : (a3.endLine == a5.line) = true) : eval (.Call (.Attribute (.Call (.Name "super" a1) [] [] a2) "__init__" a3) [.Name "value" a4] [] a5) env = (do
      let ov ← attributeBase (.Call (.Name "super" a1) [] [] a2) "__init__" env (eval (.Call (.Name "super" a1) [] [] a2) env)
      standAt a3.atName
      let (f, first) ← holding [ov] (getMethod ov "__init__" (do return (← importBound (.Call (.Name "super" a1) [] [] a2) env).getD true))
      callWith a5 f first (backTo a5 (starEach [.Name "value" a4] env)) []) := by
  rw [arm_eval_Call]
  unfold methodCall methodCallPos
  have e : (!(methodCallForm ([Expr.Name "value" a4].length + ([] : List Keyword).length) (backTo a5 (starEach [Expr.Name "value" a4] env)) (backToKw a5 (keywordEach [] env))) || a3.endLine == a5.line) = true := by rw [h, Bool.or_true]
  rw [if_pos e]
  rfl
theorem one_sz (v : Value) : [v].length ≤ sizeLine := by
  rw [sizeLine_eq]
  show 1 ≤ 16777216
  decide
theorem sc_nocell : ∀ y ∈ scopeI.names, y.2 ≠ .cell := by decide
section
variable {prog : Program} {w : World} {A : Around} {R : Result → Shared → Prop} {s : Shared} {K : Frag} {mg : Str → Option Value} {base : Heap} {D f1 C : Addr}
theorem inBut {x : Addr} (X : K.In s.heap) (hx : K.lookup x = none) : K.In (hideAll s.heap [x]) := fun a o e =>
  hideAll_get _ (X a o e) (by
    intro z
    rw [List.mem_singleton.mp z, hx] at e
    cases e)
theorem init_run (B : Base K prog mg D f1) (T : Heir K D f1 C) (M : L2.Mod K mg base) (hb : ∀ b o, base.get? b = some o → s.heap.get? b = some o) {x t0 : Addr} {v : Value} (hx : s.heap.get? x = some (excO C t0)) (hnx : K.lookup x = none) (hroom : A.depth < recursionLimit)
    (hq : ∀ h' tk dx t1, (∀ b o, b ≠ x → s.heap.get? b = some o → h'.get? b = some o) → h'.get? x = some (excObj C t1 (some dx) .none) → s.heap.objs.size ≤ dx → dx ≠ x → h'.Ns1 dx (fun y => if y = "value" then some v else none) → R (.ok (.ret .none)) { s with heap := h', toks := tk }) :
    codeAny (model prog w) A (.call (.ref f1) ⟨[.ref x, v], []⟩) R s := by
  obtain ⟨oc, od, doc, pm, an, cda, cc, ct, osl, p1, p2, a1, a2, a3, a4, a5, a6, b1, b2, b3, b4, ccl, cdd, vs, ccs, file, tf, cl, cld, csl, hln, ho, hcd, hcode, hvs, hfile, hcell⟩ := B.fn
  obtain ⟨cdD, hD⟩ := B.hD
  obtain ⟨nm, q, N, bs, bm, sn, sub, ab, col, dd, k0, k1, k2, k3, k5, hC, hbm⟩ := T.o.cls
  have hcl : clsIn K C = some { name := nm, bases := bs, mro := .ref C :: bm, ns := N, qualname := q, hasDict := true, slotNames := sn, subclasses := sub, abstract := ab, collection := col, hasDel := false } := by unfold clsIn; rw [hC] <;> rfl
  have X : K.In s.heap := M.kin.keeps hb
  have lim : s.heap.NoLimit := M.nolimit.keeps hb
  refine ks_codeAny_call_defAt (fd := ksFn "__init__" "PlayError.__init__" (argsI p1 p2) (bodyI a1 a2 a3 a4 a5 a6 b1 b2 b3 b4) scopeI .none .none doc pm an (.ref cda) ct cc) (body := bodyI a1 a2 a3 a4 a5 a6 b1 b2 b3 b4) (binds := [("self", .ref x), ("value", v)])
    hroom (X _ _ ho) rfl lim (codeRec_of X hcd) rfl (BindsTo.of_eq (by first | rfl | with_unfolding_all rfl)) sc_nocell (fun y hy => by
      simp only [List.mem_cons, List.not_mem_nil, or_false] at hy
      rcases hy with rfl | rfl
      · rfl
      · rfl) (fun h₁ hn k => ?_)
  have hxL : x ≠ s.heap.objs.size := Nat.ne_of_lt (Heap.lt_size hx)
  have hnone : (hideAll s.heap [x]).get? x = none := hideAll_none _ List.mem_cons_self
  have F1 : Fr (hideAll s.heap [x]) s.heap.objs.size h₁ (fun y => ([("self", .ref x), ("value", v)] : List (Str × Value)).reverse.lookup y) := ⟨hn, fun b o e => k b o (of_hideAll _ e), Nat.le_of_eq (hideAll_size _ _)⟩
  have N1 : News (hideAll s.heap [x]) s.heap.objs.size h₁ [(x, excObj C t0 none .none)] := fun p hp => by
    rw [List.mem_singleton.mp hp]
    exact ⟨k _ _ hx, hxL, hnone⟩
  have XH : K.In (hideAll s.heap [x]) := inBut X hnx
  have I1 : InstAt h₁ x (excObj C t0 none .none) C none := ⟨k _ _ hx, rfl, rfl, trivial⟩
  have X1 : K.In h₁ := X.keeps k
  obtain ⟨mb, gB, bB⟩ := M.blt
  have kb : ∀ b o, base.get? b = some o → h₁.get? b = some o := fun b o e => k b o (hb b o e)
  refine ks_wpAt_execs_cons (ks_wpAt_Expr_any (ks_wpAt_MethodCall ?_ (ev_sup _ a1 a2 a3 a4 a5 hln)) (by first | rfl | with_unfolding_all rfl) (by first | rfl | with_unfolding_all rfl))
  -- super()
  obtain ⟨oD, hD1, hD2⟩ : ∃ oD, h₁.get? D = some oD ∧ oD.data = .cls cdD := by
    unfold clsIn at hD
    split at hD
    · rename_i c d cd' sl hl
      cases hD
      exact ⟨_, X1 _ _ hl, rfl⟩
    · cases hD
  refine ks_wpAt_super_base (by first | rfl | with_unfolding_all rfl) (by first | rfl | with_unfolding_all rfl) (by decide) rfl (X1 _ _ ho) rfl (by rfl) rfl (X1 _ _ hcode) rfl hvs hfile B.top ?_
  refine ks_loadName_global (by rfl) (by first | rfl | with_unfolding_all rfl) (loadGlobal_builtin (M.glob.keeps kb) B.msup (gB.keeps kb) ((bB _ (by decide)).trans PyProof.Rows.Boot.«super») ⟨rfl, ?_⟩)
  refine wpAny_loadName_free (by rfl) (by first | rfl | with_unfolding_all rfl) (by first | rfl | with_unfolding_all rfl) ⟨_, X1 _ _ hcell, rfl⟩ ?_
  refine wpAny_loadName_local (by rfl) (by first | rfl | with_unfolding_all rfl) F1.ns (v := .ref x) (by first | rfl | with_unfolding_all rfl) ?_
  refine ks_wpAny_isType_cls hD1 hD2 ⟨rfl, ?_⟩
  refine ks_wpAny_call_super hD1 hD2 I1.at_ I1.cls (fun c z => ?_) (looks_mroIn X1 T.hsub) (fun h₂ e₂ k₂ => ?_)
  · cases z
  obtain ⟨F2, N2, l2⟩ := ks_newsPush (s := { s with heap := h₁, toks := s.toks + 2 }) F1 N1 rfl e₂ k₂
  -- .__init__, bound
  refine kxs_method (s := ⟨h₂, s.gens, s.drawn, _, s.os⟩) kxs_ValueError F2 XH N2 List.mem_cons_self (⟨k₂ _ _ I1.at_, rfl, rfl, trivial⟩ : InstAt h₂ x (excObj C t0 none .none) C none) B.stat T.sup T.hB (by decide) (fun u h₃ F3 N3 l3 => ?_)
  refine kxs_callWith1 N3 List.mem_cons_self ?_ (by first | rfl | with_unfolding_all rfl) (by first | rfl | with_unfolding_all rfl)
  refine Calls.spliced_cons (wpAny_Name (wpAny_loadName_local (by rfl) (by first | rfl | with_unfolding_all rfl) F3.ns (v := v) (by first | rfl | with_unfolding_all rfl) ?_) (by decide)) 
  refine Calls.spliced_nil ⟨kxs_at N3 List.mem_cons_self, ?_⟩
  have xs : x ≠ s.heap.objs.size := hxL
  have n1 : h₁.objs.size ≠ x := Nat.ne_of_gt (Heap.lt_size I1.at_)
  have n2 : u ≠ x := Nat.ne_of_gt (l3 (x, excObj C t0 none .none) (List.mem_cons_of_mem _ List.mem_cons_self))
  refine kxs_call F3 XH N3 PySem.F.excBase_ValueError T.q List.mem_cons_self (.tail n2 (.tail n1 (.head (fun p hp => nomatch hp)))) (one_sz v) (fun t1 h₄ F4 N4 l4 => ?_)
  -- self.value = value
  have hx4 : h₄.get? x = some (excObj C t1 none .none) := (N4 (x, excObj C t1 none .none) (by simp)).1
  have X4 : K.In h₄ := XH.keeps F4.keep
  refine ks_wpAt_execs_cons (wpAt_of_wpAny (plainObj_wpAny_Assign_Attribute ?_))
  refine wpAny_Name (wpAny_loadName_local (by rfl) (by first | rfl | with_unfolding_all rfl) F4.ns (v := v) (by first | rfl | with_unfolding_all rfl) ?_) (by decide)
  refine wpAny_Name (wpAny_loadName_local (by rfl) (by first | rfl | with_unfolding_all rfl) F4.ns (v := .ref x) (by first | rfl | with_unfolding_all rfl) ?_) (by decide)
  refine set_plain X4 (ox := excObj C t1 none .none) (od := none) ⟨hx4, rfl, rfl, trivial⟩ T.o.sa ?_
  refine exc_osa X4 hx4 hcl (show refsVE (.ref C :: bm) = true from hbm) rfl T.noV (fun h₅ tk₅ dx k₅ dn dne hx₅ hn₅ => ?_)
  refine wpAt_of_wpAny (wpAny_execs_nil ?_)
  refine hq h₅ tk₅ dx t1 (fun b o hbx e => k₅ b o hbx (F4.keep b o (hideAll_get _ e (by simpa using hbx)))) hx₅ ?_ dne hn₅
  exact Nat.le_of_lt (Nat.lt_of_lt_of_le F4.ns.lt dn)
/-- C(v) made -/
structure Made (h h' : Heap) (e C d : Addr) (v : Value) : Prop where
  keep : ∀ b o, h.get? b = some o → h'.get? b = some o
  new : h.objs.size ≤ e
  obj : ∃ oe vs, h'.get? e = some oe ∧ oe.cls = .ref C ∧ oe.dict = some d ∧ oe.data = .fields vs ∧ vs[1]? = some .none
  dbig : h.objs.size ≤ d
  dne : d ≠ e
  ns : h'.Ns1 d (fun y => if y = "value" then some v else none)
theorem made (B : Base K prog mg D f1) (T : Heir K D f1 C) (M : L2.Mod K mg base) (hb : ∀ b o, base.get? b = some o → s.heap.get? b = some o) {v : Value} (hroom : A.depth + 1 < recursionLimit)
    (hq : ∀ h' tk e d, Made s.heap h' e C d v → R (.ok (.ret (.ref e))) { s with heap := h', toks := tk }) : codeAny (model prog w) A (.call (.ref C) ⟨[v], []⟩) R s := by
  obtain ⟨nm, q, N, bs, bm, sn, sub, ab, col, dd, k0, k1, k2, k3, k5, hC, hbm⟩ := T.o.cls
  have X : K.In s.heap := M.kin.keeps hb
  obtain ⟨hp, g, dr, tk, os⟩ := s
  have k : ∀ b o, hp.get? b = some o → ((hp.push (kdv_tup [v])).push (excO C hp.objs.size)).get? b = some o := fun b o e => Heap.get?_push_of_some _ (Heap.get?_push_of_some _ e)
  have hget : ((hp.push (kdv_tup [v])).push (excO C hp.objs.size)).get? (hp.objs.size + 1) = some (excO C hp.objs.size) := by heap_get
  have hnx : K.lookup (hp.objs.size + 1) = none := by
    cases e : K.lookup (hp.objs.size + 1) with
    | none => rfl
    | some o => exact absurd (Nat.lt_of_succ_lt (Heap.lt_size (show hp.get? (hp.objs.size + 1) = some o from X _ _ e))) (Nat.lt_irrefl _)
  refine call_own F.excBase_ValueError (fun Y => refsVE_contains Y bm hbm) (X _ _ hC) (looks_findIn X T.iC) (fun self => bind_fn X self T.tC) (one_sz v) ?_
  refine init_run (s := ⟨(hp.push (kdv_tup [v])).push (excO C hp.objs.size), g, dr, tk, os⟩) B T M (fun b o e => k b o (hb b o e)) hget hnx ?_ (fun h' tk' dx t1 k' hx dn dne hns => ?_)
  · show A.depth + 1 < recursionLimit
    exact hroom
  · have z : hp.objs.size + 1 + 1 ≤ dx := by
      first
        | (simpa only [Heap.size_push] using dn)
        | exact dn
    exact ⟨rfl, hq h' tk' (hp.objs.size + 1) dx ⟨fun b o e => k' b o (Nat.ne_of_lt (Nat.lt_succ_of_lt (Heap.lt_size e))) (k b o e), Nat.le_succ _, ⟨_, _, hx, rfl, rfl, rfl, rfl⟩, Nat.le_trans (Nat.le_trans (Nat.le_succ _) (Nat.le_succ _)) z, dne, hns⟩⟩
end
end PlE
namespace Dl
open PySem PySem.Spec PyProof.Rows L2 Evl
variable [LawTabs]
section
variable {X : Cx} {D f1 C : Addr}
theorem relO_val {v : V} {v' : Value} (r : RelV v v') (f : Str) : RelO (List.lookup f [(("value" : Str), v)]) (if f = "value" then some v' else none) := by
  by_cases h : f = "value"
  · subst h
    rw [if_pos rfl]
    simpa [List.lookup, RelO] using r
  · rw [if_neg h]
    have q : (f == ("value" : Str)) = false := by simpa using h
    simp [List.lookup, q, RelO]
/-- C(e) -/
def tMkP (C : Addr) (ta : TA) : L2.St → Hp → XK → Prop := fun σ H Q => ta σ H fun vs H1 => ∃ v, vs = [v] ∧ ∀ d, H1 d = none → Q (.ref C) (some d) (upd H1 d (.xd [(("value" : Str), v)]))
theorem pmk_P {a : Expr} {ta : TA} {x : Str} {p pos : Pos} {k : Nat} (B : PlE.Base X.K X.prog X.mg D f1) (T : PlE.Heir X.K D f1 C) (gC : X.mg x = some (.ref C)) (hr : Room k X.A) (ha : PA X [a] ta) (hg : Gl X x := by rfl)
    (hdb : (x == ("__debug__" : Str)) = false := by decide) (he : starEach (a :: []) X.env = (false, eval a X.env) :: starEach [] X.env := by rfl) (hpl : (backTo pos (starEach [] X.env)).any (·.1) = false := by rfl) :
    PMk X (.Call (.Name x p) [a] [] pos) (tMkP C ta) := by
  intro pins s σ H Q I h
  refine wpAny_Call_Name_kw (ld_glob I hg gC ?_ hdb)
  refine PySem.W.callWith_K (h₀ := X.base) I.ok.mod.kin T.o.kC (thn (ha.run pos pins s σ H _ I h) fun us s1 hh => ?_) he hpl
  obtain ⟨vs, H1, I1, r1, v, ev, q1⟩ := hh
  subst ev
  refine ⟨I1.kIn, ?_⟩
  cases r1 with
  | cons rv rn =>
    rename_i v' us'
    cases rn
    show wpAny _ _ (call (.ref C) [v']) _ _ _
    have bk := I1.bk
    obtain ⟨hp, g, dr, tk, os⟩ := s1
    refine wpAny_call (PlE.made B T I1.mod bk (by have := hr.dp; omega) fun h' tk' e d M => ?_)
    obtain ⟨oe, fv, hoe, hc, hd, hdat, h1⟩ := M.obj
    have hns := M.ns
    obtain ⟨G', g1, g2⟩ := restrict h' fun b => decide (b ≠ e)
    have gk : ∀ b, b ≠ e → G'.get? b = h'.get? b := fun b hb => g1 b (decide_eq_true hb)
    have ge : G'.get? e = none := g2 e (by simp)
    have old : ∀ b o, hp.get? b = some o → G'.get? b = some o := fun b o q => (gk b (Nat.ne_of_lt (Nat.lt_of_lt_of_le (Heap.lt_size q) M.new))).trans (M.keep b o q)
    have ob : ObjOk X.prog X.w (upd H1 d (.xd [(("value" : Str), v)])) G' d (.xd [(("value" : Str), v)]) :=
      ⟨_, hns.at (fun o q => (gk d M.dne).trans q), fun f => relO_val rv f⟩
    have J : Inv X pins σ (upd H1 d (.xd [(("value" : Str), v)])) ⟨G', g, dr, tk', os⟩ := I1.laid (t' := tk') old M.dbig ob
    refine ⟨e, oe, fv, ⟨G', g, dr, tk', os⟩, _, .ref C, some d, rfl, J, fun b o q => ?_, ge, hoe, ⟨hc, hd⟩, hdat, h1, ?_, rfl, I1.bare, raises_own T.o.exC T.o.tyC, q1 d (I1.hok.fresh M.dbig)⟩
    · by_cases hb : b = e
      · have q' : G'.get? b = some o := q
        rw [hb, ge] at q'
        cases q'
      · exact (gk b hb).symm.trans q
    · rw [upd_ne (Ne.symm M.dne)]
      exact I1.hok.fresh M.new
end
end Dl
-- part D13
set_option Elab.async false
set_option linter.all false
set_option maxRecDepth 100000
set_option maxHeartbeats 4000000
namespace Dl
open PySem PySem.Spec PyProof.Rows L2 Evl RZ
variable [LawTabs]
/-! ### names of classes -/
theorem ofStr_eq (a b : String) : (Str.ofString a = Str.ofString b) = (a = b) := by
  refine propext ⟨fun h => ?_, fun h => by rw [h]⟩
  rw [Str.ofString_eq_toList, Str.ofString_eq_toList] at h
  have h1 : a.toList.map Char.toNat = b.toList.map Char.toNat := by
    have := congrArg (fun z : Str => z.cps.toList) h
    simpa using this
  have inj : ∀ x y : List Char, x.map Char.toNat = y.map Char.toNat → x = y := by
    intro x
    induction x with
    | nil =>
      intro y e
      cases y with
      | nil => rfl
      | cons c y => cases e
    | cons c x ih =>
      intro y e
      cases y with
      | nil => cases e
      | cons d y =>
        rw [List.map_cons, List.map_cons] at e
        obtain ⟨e1, e2⟩ := List.cons.inj e
        rw [ih y e2]
        have : c = d := Char.ext (UInt32.toNat_inj.mp e1)
        rw [this]
  exact String.toList_inj.mp (inj _ _ h1)
def eqN (a b : Str) : Bool := decide (a = b)
theorem eqN_of (a b : String) : eqN (Str.ofString a) (Str.ofString b) = decide (a = b) := by
  unfold eqN
  exact decide_eq_decide.mpr (by rw [ofStr_eq])
def memN (n : Str) : List Str → Bool
  | [] => false
  | m :: l => eqN n m || memN n l
theorem memN_of {n : Str} : ∀ {l : List Str}, memN n l = true → n ∈ l
  | [], h => by cases h
  | m :: l, h => by
    unfold memN eqN at h
    rcases Bool.or_eq_true_iff.mp h with h | h
    · rw [of_decide_eq_true h]
      exact List.mem_cons_self
    · exact List.mem_cons_of_mem _ (memN_of h)
/-! ### a def that may raise one of the package's errors -/
abbrev FnX := List Dat → Nat → (Dat → Nat → Prop) → (Str → Dat → Nat → Prop) → Prop
/-- the error of the class n with the value d -/
def ErrAt (K : PySem.W.Frag) (p : Amb) (F : Hp) (n : Str) (d : Dat) (cls : Value) (dd : Option Addr) : Prop := ∃ (C e : Addr) (v : V), cls = .ref C ∧ dd = some e ∧ ClsAt K n C ∧ F e = some (.xd [("value", v)]) ∧ Rep K p F v d
def spX (K : PySem.W.Frag) (f : FnX) : Sp := fun vs H Q E => ∃ (p : Amb) (F : Hp) (ds : List Dat) (n : Nat) (QD : Dat → Nat → Prop) (XD : Str → Dat → Nat → Prop), HpOk p H F F H n ∧ Reps K p F vs ds ∧ f ds n QD XD ∧
  (∀ v F' H' d n', HpOk p H F F' H' n' → Rep K p F' v d → QD d n' → Q v H') ∧
  ∀ F' H' n' c d cls dd, HpOk p H F F' H' n' → ErrAt K p F' c d cls dd → XD c d n' → E cls dd H'
def bodyX (np : Nat) (w : WS) : FnX := fun ds n QD XD => w { nx := fun S => QD .non S.n, rt := QD, xq := fun c d S => XD c d S.n } (start0 np ds n)
section
variable {K : PySem.W.Frag} {W : WX}
theorem Cont.xe {p : Amb} {H0 F0 F H : Hp} {σ : L2.St} {S : Sx} {D : Dx} {D' : Ends} {W : WX} (c : Cont K p H0 F0 D D' W) (ok : Ok K p H0 F0 F H σ S []) {n : Str} {d : Dat} {cls : Value} {dd : Option Addr} (h : ErrAt K p F n d cls dd) (q : D.xq n d S) : W cls dd σ H := by
  obtain ⟨C, e, v, rfl, rfl, h1, h2, h3⟩ := h
  exact c.xq F H σ S n C e v d ok h1 h2 h3 q
/-! raise C(e) -/
def tRaiseP (C : Addr) (W : WX) (ta : TA) : TS := fun _ σ H => tMkP C ta σ H fun cls d H' => W cls d σ H'
def wRaise (n : Str) (wa : WF) : WS := fun D S => wa S fun ds S1 => as1 ds fun d => D.xq n d S1
instance sv_raise {C : Addr} {n : Str} {ta : TA} {wa : WF} [c : ClsN K C n] [a : AV K ta wa] : SV K W (tRaiseP C W ta) (wRaise n wa) := ⟨fun {p H0 F0 F H σ S D D'} ok hw k =>
  a.run ok hw fun vs F1 H1 S1 ds ok1 e1 r1 q1 => by
    obtain ⟨d, rfl, q1⟩ := as1_of q1
    obtain ⟨v, rfl, r⟩ := r1.one_of
    refine ⟨v, rfl, fun e he => ?_⟩
    have x := Ex.new (o := HO.xd [(("value" : Str), v)]) (ok1.hp.freeF he)
    exact k.xq _ _ σ S1 n C e v d (ok1.lay he) c.at_ upd_same (r.mono x) q1⟩
theorem ps_raiseP {X : Cx} {W : WX} {a : Expr} {ta : TA} {x : Str} {p pos pos2 : Pos} {k : Nat} {D f1 C : Addr} (hc : X.calm = true) (tk : Takes X W) (B : PlE.Base X.K X.prog X.mg D f1) (T : PlE.Heir X.K D f1 C) (gC : X.mg x = some (.ref C)) (hr : Room k X.A) (ha : PA X [a] ta) (hg : Gl X x := by rfl)
    (hdb : (x == ("__debug__" : Str)) = false := by decide) (he : starEach (a :: []) X.env = (false, eval a X.env) :: starEach [] X.env := by rfl) (hpl : (backTo pos (starEach [] X.env)).any (·.1) = false := by rfl) :
    PS X (.Raise (some (.Call (.Name x p) [a] [] pos)) none pos2) (tRaiseP C W ta) := ps_raise hc tk (pmk_P B T gC hr ha hg hdb he hpl)
/-! calls that may raise, as statements -/
section
variable {p : Amb} {H0 F0 F H : Hp} {σ : L2.St} {S : Sx} {D : Dx} {D' : Ends} {f : FnX} {E : XK}
theorem callX_run {vs : List V} {ds : List Dat} {Q : VK} {QD : Dat → Nat → Prop} (ok : Ok K p H0 F0 F H σ S []) (r : Reps K p F vs ds) (c : Cont K p H0 F0 D D' fun cls d _ H => E cls d H) (h : f ds S.n QD fun c v n' => D.xq c v ⟨S.sl, n'⟩)
    (hq : ∀ v F' H' d n', Ok K p H0 F0 F' H' σ ⟨S.sl, n'⟩ [] → Ex F F' → Rep K p F' v d → QD d n' → Q v H') : spX K f vs H Q E :=
  ⟨p, F, ds, S.n, QD, _, ok.hp.self, r, h, fun v F' H' d n' g r' q => hq v F' H' d n' (ok.call g) g.f0 r' q, fun F' H' n' m d cls dd g he q => c.xe (ok.call g) he q⟩
end
def wDropX (f : FnX) (wa : WF) : WS := fun D S => wa S fun ds S1 => f ds S1.n (fun _ n' => D.nx ⟨S1.sl, n'⟩) fun c v n' => D.xq c v ⟨S1.sl, n'⟩
def wRetX (f : FnX) (wa : WF) : WS := fun D S => wa S fun ds S1 => f ds S1.n D.rt fun c v n' => D.xq c v ⟨S1.sl, n'⟩
def wAsgX (f : FnX) (wa : WF) (wg : WG) : WS := fun D S => wa S fun ds S1 => f ds S1.n (fun d n' => wg d ⟨S1.sl, n'⟩ fun S2 => D.nx S2) fun c v n' => D.xq c v ⟨S1.sl, n'⟩
instance sv_dropX {f : FnX} {E : XK} {ta : TA} {wa : WF} [a : AV K ta wa] : SV K (fun cls d _ H => E cls d H) (tDrop (tCall (spX K f) [] E ta)) (wDropX f wa) := ⟨fun ok hw c =>
  a.run ok hw fun vs F1 H1 S1 ds ok1 e1 r1 q1 => callX_run ok1 (by rw [List.append_nil]; exact r1) c q1 fun v F2 H2 d n2 ok2 e2 r2 q2 => c.nx _ _ _ _ ok2 q2⟩
instance sv_retX {f : FnX} {E : XK} {ta : TA} {wa : WF} [a : AV K ta wa] : SV K (fun cls d _ H => E cls d H) (tRet (tCall (spX K f) [] E ta)) (wRetX f wa) := ⟨fun ok hw c =>
  a.run ok hw fun vs F1 H1 S1 ds ok1 e1 r1 q1 => callX_run ok1 (by rw [List.append_nil]; exact r1) c q1 fun v F2 H2 d n2 ok2 e2 r2 q2 => c.rt v F2 H2 d n2 ok2.hp r2 q2⟩
instance sv_asgX {f : FnX} {E : XK} {ta : TA} {wa : WF} {g : TG} {ix : List Nat} {wg : WG} [a : AV K ta wa] [b : GV K g ix wg] : SV K (fun cls d _ H => E cls d H) (tAsg (tCall (spX K f) [] E ta) g) (wAsgX f wa wg) := ⟨fun ok hw c =>
  a.run ok hw fun vs F1 H1 S1 ds ok1 e1 r1 q1 => callX_run ok1 (by rw [List.append_nil]; exact r1) c q1 fun v F2 H2 d n2 ok2 e2 r2 q2 => b.run ok2 r2 q2 fun σ3 S3 ok3 _ _ q3 => c.nx _ _ _ _ ok3 q3⟩
def wRetXN (n m : Nat) (f : FnX) (gD : List Dat → List Dat → List Dat) (wa wk : WF) : WS := fun D S => wa S fun ds S1 => wk S1 fun es S2 => ds.length = n ∧ es.length = m ∧ f (gD ds es) S2.n D.rt fun c v n' => D.xq c v ⟨S2.sl, n'⟩
instance sv_retXN {f : FnX} {E : XK} {n m : Nat} {gV : List V → List V → List V} {gD : List Dat → List Dat → List Dat} {ta tk : TA} {wa wk : WF} [g : KPerm gV gD] [a : AV K ta wa] [b : AV K tk wk] : SV K (fun cls d _ H => E cls d H) (tRet (tCallN n m (spX K f) gV E ta tk)) (wRetXN n m f gD wa wk) := ⟨fun ok hw c =>
  a.run ok hw fun vs F1 H1 S1 ds ok1 e1 r1 q1 => b.run ok1 q1 fun ws F2 H2 S2 es ok2 e2 r2 ⟨l1, l2, q2⟩ =>
    ⟨(reps_len r1).trans l1, (reps_len r2).trans l2, callX_run ok2 (g.rep (r1.mono e2) r2) c q2 fun v F3 H3 d n3 ok3 e3 r3 q3 => c.rt v F3 H3 d n3 ok3.hp r3 q3⟩⟩
end
/-! the def -/
section
variable {P : Program} {w : World} {K : PySem.W.Frag} {mg : Str → Option Value} {base : Heap}
theorem okX {x qual : Str} {st : Stmt} {f : Addr} {fd : FuncData} {N ps : List Str} {k : Nat} {G : FnX} (F : Fun K x qual st f fd) (S : FnScope N ps (defScope st)) (len : ∀ ds n QD XD, G ds n QD XD → ds.length = ps.length)
    (body : ∀ (cdv : Value) (A : Around) (outer : List Env) (s : Shared) (H : Hp) (E : XK), Room k (A.deeper (envOfC qual (defScope st) s.heap.objs.size f cdv)) →
      ∃ t, PSs (cxOf (L2.CX P w) P w K mg base N qual (defScope st) f cdv A outer s H E) (defBody st) t ∧ ∃ ws, SV K (fun cls d _ H => E cls d H) t ws ∧ ∀ ds n QD XD, G ds n QD XD → bodyX N.length ws ds n QD XD) : FnOk P w K mg base (L2.CX P w) (k + 1) f fd ps (spX K G) := by
  refine F.okX S (fun vs H Q E h => ?_) (fun cdv A outer s H vs Q E hr h => ?_)
  · obtain ⟨p, F, ds, n, QD, XD, _, r, hG, _⟩ := h
    rw [r.length]
    exact len ds n QD XD hG
  · obtain ⟨t, ht, ws, sv, hb⟩ := body cdv A outer s H E hr
    refine ⟨t, ht, ?_⟩
    obtain ⟨p, F, ds, n, QD, XD, hh, r, hG, hQ, hX⟩ := h
    exact sv.run (D := { nx := fun S => QD .non S.n, rt := QD, xq := fun c d S => XD c d S.n }) (ok_start hh r) (hb ds n QD XD hG) ⟨fun F' H' σ' S' ok q => hQ _ F' H' .non S'.n ok.hp .non q, fun v F' H' d n' g r' q => hQ v F' H' d n' g r' q,
      fun _ _ _ _ _ _ _ _ _ _ _ q => q.elim, fun _ _ _ _ _ q => q.elim, fun _ _ _ _ _ q => q.elim, fun F' H' σ' S' m C e v d ok h1 h2 h3 q => hX F' H' S'.n m d _ _ ok.hp ⟨C, e, v, rfl, rfl, h1, h2, h3⟩ q⟩
end
/-! ### isinstance(x, C), C a class of one's own -/
structure ExcK (K : PySem.W.Frag) (C : Addr) : Prop where
  hcl : (PySem.W.clsIn K C).isSome = true
  hga : PySem.W.findIn K (.ref C) "__getattribute__" = some (some (.builtin "BaseException.__getattribute__"))
  hgt : PySem.W.findIn K (.ref C) "__getattr__" = some none
  hsub : PySem.W.subIn K (.ref C) (.type "BaseException") = some true
  ha : PySem.W.findIn K (.ref C) "__class__" = some (some (.builtin "object.__class__"))
  hn : PySem.W.specialIn K (.builtin "object.__class__") "__get__" = some (some (.builtin "getset_descriptor.__get__"))
  ht : PySem.W.takesIn K (.builtin "object.__class__") = some true
  hm : PySem.W.mroIn K C (.type "object") = some true
  hd : PySem.W.hasDictIn K C = true
  nov : PySem.W.findIn K (.ref C) "value" = some none
/-- the errors' classes that the law knows -/
class PlK (K : PySem.W.Frag) (ns : outParam (List Str)) : Prop where
  exc : ∀ n ∈ ns, ∀ C, ClsAt K n C → ExcK K C
  isi : ∀ m ∈ ns, ∀ n ∈ ns, ∀ C D, ClsAt K m C → ClsAt K n D → PySem.W.kitOne K (.ref C) (.ref D) = some (eqN m n)
  ty : ∀ n ∈ ns, ∀ D, ClsAt K n D → (PySem.W.clsIn K D).isSome = true ∧ PySem.W.typeIn K (.ref D) = some (.type "type")
section
variable {K : PySem.W.Frag}
theorem fast_no : ∀ a ∈ ["NoneType", "bool", "int", "str", "tuple", "list", "dict"], ∃ l, PySem.fastBuiltinMro a = some l ∧ ∀ D : Addr, l.contains (Value.ref D) = false := by
  intro a ha
  have key : ∀ l : List Value, (l.all fun v => match v with | .ref _ => false | _ => true) = true → ∀ D : Addr, l.contains (Value.ref D) = false := by
    intro l hl D
    induction l with
    | nil => rfl
    | cons v l ih =>
      rw [List.all_cons, Bool.and_eq_true] at hl
      rw [List.contains_cons, ih hl.2, Bool.or_false]
      cases v <;> first | rfl | (simp at hl)
  simp only [List.mem_cons, List.not_mem_nil, or_false] at ha
  rcases ha with rfl | rfl | rfl | rfl | rfl | rfl | rfl
  all_goals exact ⟨_, rfl, key _ (by decide +kernel)⟩
def rIsiC (K : PySem.W.Frag) : List V → Hp → VK → Prop := fun xs H Q => L2.rIsi K xs H Q ∨ ∃ (a C e : Addr) (D : Addr) (b : Bool), xs = [.ref a, .ref D] ∧ H a = some (ExcO C e a) ∧ (∃ o, H e = some (.xd o)) ∧ ExcK K C ∧ PySem.W.kitOne K (.ref C) (.ref D) = some b ∧ Q (.bl b) H
theorem call_isiC {X : Cx} : CallR X (.builtin "isinstance") (rIsiC X.K) := by
  intro pins s σ H xs us Q I r h
  rcases h with h | h
  · exact call_isi pins s σ H xs us Q I r h
  obtain ⟨a, C, e, D, b, rfl, ha, ⟨o, he⟩, T, hk, q⟩ := h
  obtain ⟨u1, u2, rfl, r1, r2⟩ := vals2 r
  obtain rfl : u1 = Value.ref a := r1
  obtain rfl : u2 = Value.ref D := r2
  obtain ⟨⟨oe, vs, g1, g2, g3, g4⟩, _, _⟩ : ObjOk X.prog X.w H s.heap a (ExcO C e a) := I.hok a _ ha
  obtain ⟨mA, hns, _⟩ : ObjOk X.prog X.w H s.heap e (.xd o) := I.hok e _ he
  obtain ⟨od, _, _, ho, _⟩ := hns
  have J : PySem.W.InstAt s.heap a oe C (some od) := ⟨g1, g2, by unfold PySem.W.notCls; rw [g4] <;> rfl, by rw [g3]; exact ho⟩
  exact PySem.W.kia_one (PySem.W.kitx_exc T.hcl T.hga T.hgt T.hsub T.ha T.hn T.ht T.hm) I.kIn J hk (fun z => nomatch z) fun tk => ⟨.bl b, H, I.tok tk, rfl, q⟩
theorem isiCK {X : Cx} (K : PySem.W.Frag) (h : X.K = K := by rfl) : CallR X (.builtin "isinstance") (rIsiC K) := h ▸ call_isiC
def aIsiC (ns : List Str) (ds : List Dat) (Q : Dat → Prop) : Prop := as2 ds fun x c =>
  match c with
  | .cls n => memN n ns = true ∧ match x with
    | .exc m _ => memN m ns = true ∧ Q (.bl (eqN m n))
    | x => goodTy x = true ∧ Q (.bl false)
  | _ => False
theorem isiC_pure {ns : List Str} [T : PlK K ns] {p : Amb} {F H : Hp} {QD : Dat → Prop} {vs : List V} {ds : List Dat} {Q' : VK} (e : Ex F H) (r : Reps K p F vs ds) (hf : aIsiC ns ds QD) (k : ∀ v d, Rep K p F v d → QD d → Q' v H) : rIsiC K vs H Q' := by
  obtain ⟨x, c, rfl, f1⟩ := as2_of hf
  obtain ⟨v, u, rfl, rv, ru⟩ := r.two_of
  cases c with
  | cls n =>
    obtain ⟨h1, h2⟩ : memN n ns = true ∧ _ := f1
    cases ru with
    | @cls D _ hD =>
      have plain : goodTy x = true → QD (.bl false) → rIsiC K [v, .ref D] H Q' := fun g1 g2 => by
        obtain ⟨a, ha, ty, _⟩ := tyX_of e rv g1
        obtain ⟨l, hl1, hl2⟩ := fast_no a ha
        obtain ⟨t1, t2⟩ := T.ty n (memN_of h1) D hD
        refine .inl ⟨v, .ref D, .type a, .ref D, false, rfl, .own D, ty, ?_, k _ _ (.bl _) g2⟩
        show (if (Value.type a == Value.ref D) = true then some true else PySem.W.kitCls K (.type a) (.ref D)) = some false
        rw [if_neg (by simp)]
        show (if ((PySem.W.clsIn K D).isSome && PySem.W.typeIn K (.ref D) == some (.type "type")) = true then PySem.W.subIn K (.type a) (.ref D) else none) = some false
        rw [if_pos (by rw [t1, t2]; rfl)]
        show (PySem.fastBuiltinMro a).map (·.contains (Value.ref D)) = some false
        rw [hl1, Option.map_some, hl2]
      by_cases c1 : ∃ m d, x = .exc m d
      · obtain ⟨m, d, rfl⟩ := c1
        obtain ⟨h3, h4⟩ : memN m ns = true ∧ QD (.bl (eqN m n)) := h2
        cases rv with
        | @exc a C dd _ w _ hC ha hd hr => exact .inr ⟨a, C, dd, D, _, rfl, e _ _ ha, ⟨_, e _ _ hd⟩, T.exc m (memN_of h3) C hC, T.isi m (memN_of h3) n (memN_of h1) C D hC hD, k _ _ (.bl _) h4⟩
      · cases x with
        | exc m d => exact absurd ⟨m, d, rfl⟩ c1
        | _ => exact plain (And.left h2) (And.right h2)
  | _ => exact (show False from f1).elim
instance {ns : List Str} [T : PlK K ns] : BV K (rIsiC K) (aIsiC ns) := .pure fun e r hf k => isiC_pure e r hf k
/-! ### e.value, e an error that was caught -/
def tXv (K : PySem.W.Frag) (te : TE) : TE := fun σ H Q => te σ H fun x H1 => ∃ (a C e : Addr) (v : V), x = .ref a ∧ H1 a = some (ExcO C e a) ∧ H1 e = some (.xd [("value", v)]) ∧ ExcK K C ∧ Q v H1
theorem pe_xv {X : Cx} {e : Expr} {te : TE} {pos : Pos} (he : PE X e te) (hb : attributeBase e "value" X.env (eval e X.env) = eval e X.env := by rfl) : PE X (.Attribute e "value" pos) (tXv X.K te) := by
  refine ⟨fun pins s σ H Q I h => ?_⟩
  refine attr_of hb (thn (he.run pins s σ H _ I h) fun u s1 ⟨x, H1, I1, rx, a, C, dd, v, ex, ea, ed, T, q⟩ => ?_)
  subst ex
  obtain rfl : u = Value.ref a := rx
  obtain ⟨⟨oe, vs, g1, g2, g3, g4⟩, _, _⟩ : ObjOk X.prog X.w H1 s1.heap a (ExcO C dd a) := I1.hok a _ ea
  obtain ⟨mA, hns, hr⟩ : ObjOk X.prog X.w H1 s1.heap dd (.xd [("value", v)]) := I1.hok dd _ ed
  obtain ⟨od, ho, hl⟩ := lookIn_ns hns
  have l : List.lookup ("value" : Str) [(("value" : Str), v)] = some v := by simp [List.lookup]
  obtain ⟨u, hu, ru⟩ := RelO.some_of (v := v) (o := mA "value") (by rw [← l]; exact hr "value")
  have J : PySem.W.InstAt s1.heap a oe C (some od) := ⟨g1, g2, by unfold PySem.W.notCls; rw [g4] <;> rfl, by rw [g3]; exact ho⟩
  exact HandSPX.exc_get I1.kIn J T.hga T.hgt T.hsub (PySem.W.findObj_own T.hd T.nov rfl (by rw [hl, hu])) (handed_of ru) ⟨v, H1, I1.tok _, ru, q⟩
def wXv (ns : List Str) (we : WE) : WE := fun S Q => we S fun d S1 => match d with
  | .exc n x => memN n ns = true ∧ Q x S1
  | _ => False
instance ev_xv {ns : List Str} {te : TE} {we : WE} [T : PlK K ns] [a : EV K te we] : EV K (tXv K te) (wXv ns we) := ⟨fun {p H0 F0 F H σ S T2 Q Q'} ok hw k => by
  refine a.run ok hw fun v F1 H1 S1 d ok1 e1 r1 q1 => ?_
  cases d with
  | exc n x =>
    obtain ⟨h1, h2⟩ : memN n ns = true ∧ Q x S1 := q1
    cases r1 with
    | @exc b C dd _ w _ hC ha hd hr => exact ⟨b, C, dd, w, rfl, ok1.hp.fh _ _ ha, ok1.hp.fh _ _ hd, T.exc n (memN_of h1) C hC, k w F1 H1 S1 x ok1 e1 hr h2⟩
  | _ => exact (show False from q1).elim⟩
/-! a class as a value -/
instance cv_cls {C : Addr} {n : Str} [c : ClsN K C n] : CV K (.ref C) (.cls n) := ⟨fun _ _ => .cls c.at_⟩
end
end Dl
-- part D14
set_option Elab.async false
set_option linter.all false
set_option maxRecDepth 100000
set_option maxHeartbeats 4000000
namespace Dl
open PySem PySem.Spec PyProof.Rows L2 Evl RZ
variable [LawTabs]
section
variable {X : Cx}
/-- an error that was caught is tracked from now on -/
theorem inv_hold {pins : List (Addr × Obj)} {σ : L2.St} {H : Hp} {s : Shared} {e C dd : Addr} {oe : Obj} {vs : Array Value} (I : Inv X pins σ H s) (ne : H e = none) (he : s.heap.get? e = some oe) (hc : oe.cls = .ref C) (hd : oe.dict = some dd) (hv : oe.data = .fields vs)
    (n0 : ∀ b o, X.s_0.heap.get? b = some o → b ≠ e) (np : ∀ q ∈ X.pn ++ pins, q.1 ≠ e) : Inv X pins σ (upd H e (ExcO C dd e)) s := by
  have nH : ∀ b u, H b = some u → b ≠ e := fun b u z => ne_of_none z ne
  have nL : X.env.locals ≠ e := fun z => by
    obtain ⟨m, ⟨o, es, ep, ho, h2, _⟩, _⟩ := id I.loc
    rw [z, he] at ho
    cases ho
    rw [hv] at h2
    cases h2
  refine ⟨I.ok, I.os, I.bare, ⟨I.base.keep, I.base.slot, fun b o z1 z2 z3 => ?_, I.base.there, fun b xs z => ?_, fun b o u z => ?_, fun b ps z => ?_⟩, I.loc, I.cell, ?_, fun x c z => ?_, fun q hq => ?_, fun b o z => ?_, I.len⟩
  · rw [upd_ne (n0 b o z1)]
    exact I.base.free b o z1 z2 z3
  · have y := I.base.tups b xs z
    rw [upd_ne (nH b _ y)]
    exact y
  · have y := I.base.frzs b o u z
    rw [upd_ne (nH b _ y)]
    exact y
  · obtain ⟨m, y⟩ := I.base.tbls b ps z
    exact ⟨m, by rw [upd_ne (nH b _ y)]; exact y⟩
  · rw [upd_ne nL]
    exact I.free
  · rw [upd_ne]
    · exact I.freeC x c z
    · intro y
      obtain ⟨w, o, ho, hcell⟩ := I.cell x c z
      rw [y, he] at ho
      cases ho
      rw [hv] at hcell
      cases hcell
  · obtain ⟨h1, h2, h3⟩ := I.pin q hq
    exact ⟨h1, by rw [upd_ne (np q hq)]; exact h2, h3⟩
  · by_cases hb : b = e
    · subst hb
      rw [upd_same] at z
      cases z
      exact ⟨⟨oe, vs, he, hc, hd, hv⟩, ⟨oe, he⟩, fun h1 h2 x k => by
        obtain ⟨o2, v2, y1, y2, y3, y4⟩ := x
        exact ⟨o2, v2, k _ y1, y2, y3, y4⟩⟩
    · rw [upd_ne hb] at z
      exact (I.hok b o z).stay (fun c u hc r => r) (fun c r => by rw [upd_ne (nH c _ r)]; exact r) fun c xs r => by rw [upd_ne (nH c _ r)]; exact r
/-- the wish of: except X as n: m = n (n at i, m at j) -/
def wHold (K : PySem.W.Frag) (c : Value) (i j : Nat) (Wout : WX) (D : Ends) : WX := fun cls d σ H =>
  ∃ b, PySem.W.exmOne K cls c = some b ∧ (b = true → ∃ C dd, cls = .ref C ∧ d = some dd ∧ ∀ e, H e = none → D.nx ((σ.set j (some (.ref e))).set i none) (upd H e (ExcO C dd e))) ∧ (b = false → Wout cls d σ H)
theorem ps_try_hold {x n m : Str} {c : Value} {i j : Nat} {body : List Stmt} {np mp np2 ap pos pos' : Pos} {tb : WX → TS} {Wout : WX}
    (hs : X.stack = X.env :: X.outer) (hf : X.env.frame = some X.env.locals) (hex : X.ex = []) (hN : X.N.Nodup) (hi : X.N[i]? = some n) (hj : X.N[j]? = some m) (hij : i ≠ j) (hln : X.env.kindOf n = some .local) (hlm : X.env.kindOf m = some .local) (hc : Names X x c) (tk : Takes X Wout)
    (hb : ∀ (W : WX) (pn : List (Addr × Obj)) (xe : Value → Shared → Prop), Takes (X.tr pn xe) W → PassesOwn (model X.prog X.w) X.A X.env xe → PSs (X.tr pn xe) body (tb W)) (hdn : (n == ("__debug__" : Str)) = false := by decide) (hcd : (n == ("__classdict__" : Str)) = false := by decide)
    (hsw : swapsWith (.Name n np2) (some (.Name m mp)) ap.line X.env = pure false := by rfl) :
    PS X (.Try body [.ExceptHandler (some (.Name x np)) (some n) [.Assign [.Name m mp] (.Name n np2) ap] pos'] [] [] pos) (fun D σ H => tb (wHold X.K c i j Wout D) D σ H) := by
  refine ⟨fun pins s σ H D I h => ?_⟩
  have good := I.ok
  have hfr : X.A.frames = some (X.env :: X.outer) := by rw [good.frames, hs]
  have locN : Loc X.env.scope n := .inl hln
  have locM : Loc X.env.scope m := .inl hlm
  refine wpAny_Try_except ?_
  refine wpAny_mono ((hb (wHold X.K c i j Wout D) (X.pn ++ pins) (fun e₀ s₁ => wpAny (model X.prog X.w) X.A (noteFrame e₀ X.env) (fun _ s₂ => wpAny (model X.prog X.w) X.A (setFlight e₀ none) (fun _ s₃ =>
    wpAny (model X.prog X.w) X.A (handleBy e₀ X.env [.ExceptHandler (some (.Name x np)) (some n) [.Assign [.Name m mp] (.Name n np2) ap] pos']) (SP X pins D) X.xe s₃) X.xe s₂) X.xe s₁) (fun u s' xx => ?_) PassesOwn.looking).run [] s σ H D (I.toTry _) h) (fun f s1 hsp => ?_) (fun e₀ s1 he => he)
  · obtain ⟨e, B, sI, pinsB, σB, HB, cls, d, rfl, JB, nb, up, sky0, ne, os, ag, b, hb1, hyes, hno⟩ := xx
    have JJ : Inv X pins σB HB sI := JB.ofTry good
    have sky : Sky B (X.env :: X.outer) e (Zc cls d) X.env.locals s'.heap := by rw [← hs]; exact sky0
    show wpAny (model X.prog X.w) X.A (noteFrame (.ref e) X.env) _ _ _
    refine Sky.land Zc.steady hfr hf sky fun h3 fl3 up3 => ?_
    have J3 : Inv X pins σB HB { s' with heap := h3 } := JJ.landed nb fl3.1 (up.trans up3) os ag
    obtain ⟨oe3, vs3, he3, hz3, hd3⟩ := fl3.there
    have notFr : ∀ {hh : Heap} {o : Obj} {vs : Array Value}, hh.FunFrames B (X.env :: X.outer) → hh.get? e = some o → o.data = .fields vs → e ∉ frs (X.env :: X.outer) := fun {hh o vs} ff z dd hm => by
      obtain ⟨_, o', z', hnf⟩ := ff.mem hm
      rw [z] at z'
      cases z'
      exact hnf _ dd
    have nfr := notFr fl3.2.2.1 he3 hd3
    have nL : e ≠ X.env.locals := fun z => nfr (List.mem_filterMap.mpr ⟨X.env, List.mem_cons_self, by rw [hf, z]⟩)
    have nF : e ∉ X.fs := fun hm => by
      obtain ⟨v, hv, q⟩ := List.mem_filterMap.mp hm
      exact nfr (List.mem_filterMap.mpr ⟨v, List.mem_cons_of_mem _ hv, q⟩)
    have nB : B.get? e = none := fl3.2.1
    -- what stood ahead is another object
    have old : ∀ b o, sI.heap.get? b = some o → b ≠ e := fun b o z y => by
      rw [y] at z
      have := nb e o z (by rw [hs]; exact nfr)
      rw [nB] at this
      cases this
    have n0 : ∀ b o, X.s_0.heap.get? b = some o → b ≠ e := fun b o z => by
      obtain ⟨o', z'⟩ := JJ.base.there b o z (by rw [hex]; simp)
      exact old b o' z'
    have np0 : ∀ q ∈ X.pn ++ pins, q.1 ≠ e := fun q hq => old q.1 _ (JJ.pin q hq).1
    have S3 := J3.suite he3 hd3 ne nL nF
    refine wpAny_handleBy_cons (codeAny_handlers_test ?_) (by intro q; cases q)
    have LT : PySem.W.Looks (model X.prog X.w) h3 (typeOf (.ref e)) cls := fun A Q E s k q => wpAny_typeOf_ref (k _ _ he3) (by rw [hz3.1]; exact q)
    have LM := PySem.W.exm_one (M := model X.prog X.w) (J3.kIn) LT hb1
    have test : ∀ {Q : Value → Shared → Prop} {E : Value → Shared → Prop}, Q c { s' with heap := h3 } → wpAny (model X.prog X.w) (X.A.mark (some (.ref e))) (eval (.Name x np) X.env) Q E { s' with heap := h3 } := fun {Q E} q => by
      obtain ⟨hg, hdbg, hm | ⟨hm, hv, hnn⟩⟩ := hc
      · exact ld_glob (X := X.suite e ((e, oe3) :: (X.pn ++ pins))) S3 hg hm q hdbg
      · exact ld_blt (X := X.suite e ((e, oe3) :: (X.pn ++ pins))) S3 hg hm hv q hnn hdbg
    refine test (LM.here ?_)
    cases b with
    | true =>
      obtain ⟨C, dd, rfl, rfl, hk⟩ := hyes rfl
      refine codeAny_handlers_suite_as ?_
      refine HandSPX.lands_againZ fl3 fun h4 fl4 up4 => ?_
      have J4 : Inv X pins σB HB { s' with heap := h4 } := JJ.landed nb fl4.1 ((up.trans up3).trans up4) os ag
      obtain ⟨oe4, vs4, he4, hz4, hd4⟩ := fl4.there
      have S4 := J4.suite he4 hd4 ne nL nF
      refine store_ok (X := X.suite e ((e, oe4) :: (X.pn ++ pins))) (v := .ref e) S4 hN hi locN rfl (fun s5 S5 => ?_) (.inr hln)
      -- m = n
      have as_ : PS (X.suite e ((e, oe4) :: (X.pn ++ pins))) (.Assign [.Name m mp] (.Name n np2) ap) (tAsg (tVar i) (gName j)) := ps_set hN hj locM (pe_var hi (.inl hln) hdn hcd) hsw (.inr hlm)
      have hlen : i < σB.length := by
        rw [J4.len]
        exact (List.getElem?_eq_some_iff.mp hi).1
      refine wpAny_mono ((pss_one as_).run [] s5 _ HB { nx := fun σ6 H6 => σ6 = (σB.set i (some (.ref e))).set j (some (.ref e)) ∧ H6 = HB, rt := fun _ _ => False } S5 ⟨.ref e, List.getElem?_set_self hlen, rfl, rfl⟩) (fun f s6 hsp => ?_) (fun _ _ z => False.elim z)
      cases f with
      | next =>
        obtain ⟨σ6, H6, S6, rfl, rfl⟩ := hsp
        have hpin := (S6.pin (e, oe4) (List.mem_append_left _ List.mem_cons_self)).1
        have J6 : Inv X pins _ H6 s6 := S6.unsuite good
        have J7 := inv_hold J6 ne hpin hz4.1 hz4.2 hd4 n0 np0
        refine gone_ok J7 hN hi hln fun s7 J8 => ⟨_, _, J8, ?_⟩
        have ee : (((σB.set i (some (.ref e))).set j (some (.ref e))).set i none : L2.St) = (σB.set j (some (.ref e))).set i none := by
          rw [List.set_comm _ _ hij, List.set_set]
        rw [ee]
        exact hk e ne
      | brk =>
        obtain ⟨_, _, _, z⟩ := hsp
        exact False.elim z
      | cont =>
        obtain ⟨_, _, _, z⟩ := hsp
        exact False.elim z
      | ret u =>
        obtain ⟨_, _, _, _, _, z⟩ := hsp
        exact False.elim z
    | false =>
      show wpAny _ X.A (handleBy (.ref e) X.env []) _ _ _
      refine wpAny_handleBy_nil ?_
      obtain ⟨k1, k2, k3, oe, vs, T, oT, ts', he, hz, hd, h1, hr⟩ := id fl3
      unfold PySem.passOn
      refine wpAny_bind (wpAny_field he hd h1 ?_)
      rw [if_neg (by simp)]
      have fin : wpAny (model X.prog X.w) X.A (setFlight (.ref e) X.env.frame) (fun _ s4 => wpAny (model X.prog X.w) X.A (throw (.ref e) : Sem Flow) (SP X pins D) X.xe s4) X.xe { s' with heap := h3 } := by
        rw [hf]
        exact HandSPX.setFlight_upZ fl3 fun h4 hh4 up4 => wpAny_throw (tk _ _ ⟨e, B, sI, pins, σB, HB, cls, d, rfl, JJ, nb, (up.trans up3).trans up4, .inr (.inr (by rw [hs]; exact hh4)), ne, os, ag, hno rfl⟩)
      first
        | exact wpAny_bind (wpAny_pure (wpAny_bind fin))
        | exact wpAny_bind fin
  · cases f with
    | next =>
      obtain ⟨σB, HB, JB, q⟩ := hsp
      exact wpAny_execs_nil ⟨σB, HB, JB.ofTry good, q⟩
    | brk =>
      obtain ⟨σB, HB, JB, q⟩ := hsp
      exact ⟨σB, HB, JB.ofTry good, q⟩
    | cont =>
      obtain ⟨σB, HB, JB, q⟩ := hsp
      exact ⟨σB, HB, JB.ofTry good, q⟩
    | ret u =>
      obtain ⟨v, σB, HB, JB, r, q⟩ := hsp
      exact ⟨v, σB, HB, JB.ofTry good, r, q⟩
end
end Dl
-- part D15
set_option Elab.async false
set_option linter.all false
set_option maxRecDepth 100000
set_option maxHeartbeats 4000000
namespace Dl
open PySem PySem.Spec PyProof.Rows L2 Evl RZ
variable [LawTabs]
/-! ### what holds no draws' list means the same anywhere -/
mutual
def noPot : Dat → Bool
  | .pot => false
  | .tup l => noPots l
  | .lst l => noPots l
  | .fz l => noPots l
  | .dct l => noPotK l
  | .obj _ l => noPots l
  | .exc _ d => noPot d
  | _ => true
def noPots : List Dat → Bool
  | [] => true
  | d :: l => noPot d && noPots l
def noPotK : List (Key × Dat) → Bool
  | [] => true
  | (_, d) :: l => noPot d && noPotK l
end
section
variable {K : PySem.W.Frag} {p p' : Amb} {F : Hp}
mutual
theorem Rep.anyp : ∀ {v : V} {d : Dat}, Rep K p F v d → noPot d = true → Rep K p' F v d
  | _, _, .non, _ => .non
  | _, _, .bl b, _ => .bl b
  | _, _, .int i, _ => .int i
  | _, _, .str s, _ => .str s
  | _, _, .ty n, _ => .ty n
  | _, _, .tup h r, q => .tup h (Reps.anyp r (by simpa [noPot] using q))
  | _, _, .lst h r, q => .lst h (Reps.anyp r (by simpa [noPot] using q))
  | _, _, .fz h r, q => .fz h (Reps.anyp r (by simpa [noPot] using q))
  | _, _, .pot h, q => by simp [noPot] at q
  | _, _, .ref a, _ => .ref a
  | _, _, .dct h r, q => .dct h (RepK.anyp r (by simpa [noPot] using q))
  | _, _, .obj c h g r, q => .obj c h g (Reps.anyp r (by simpa [noPot] using q))
  | _, _, .exc c h g r, q => .exc c h g (Rep.anyp r (by simpa [noPot] using q))
  | _, _, .lam a h, _ => .lam a h
  | _, _, .cls c, _ => .cls c
theorem Reps.anyp : ∀ {v : List V} {d : List Dat}, Reps K p F v d → noPots d = true → Reps K p' F v d
  | _, _, .nil, _ => .nil
  | _, _, .cons r s, q => by
    have q' := Bool.and_eq_true_iff.mp (show (noPot _ && noPots _) = true from by simpa [noPots] using q)
    exact .cons (Rep.anyp r q'.1) (Reps.anyp s q'.2)
theorem RepK.anyp : ∀ {v : List (Key × V)} {d : List (Key × Dat)}, RepK K p F v d → noPotK d = true → RepK K p' F v d
  | _, _, .nil, _ => .nil
  | _, _, .cons r s, q => by
    have q' := Bool.and_eq_true_iff.mp (show (noPot _ && noPotK _) = true from by simpa [noPotK] using q)
    exact .cons (Rep.anyp r q'.1) (RepK.anyp s q'.2)
end
end
/-! ### a def without parameters that was handed in: what a call of it does, at any later state -/
structure LamP (P : Program) (w : World) (K : PySem.W.Frag) (mg : Str → Option Value) (base : Heap) (kl : Nat) (tl : Hp → VK → XK → Prop) (fs : List Addr) (s : Shared) (H : Hp) (f : Addr) : Prop where
  non : H f = none
  out : f ∉ fs
  at_ : ∃ x q ps body sc cl pm c ctv, s.heap.get? f = some (PySem.W.kla_obj x q ps body sc cl pm c ctv)
  run : ∀ (A : Around) (outer : List Env) (s1 : Shared) (H1 : Hp) (Q : VK) (E : XK), Un fs [] H H1 s.heap s1.heap → Env0 P w K mg base A outer s1 H1 → Room (kl + 1) A → tl H1 Q E → codeAny (model P w) A (.call (.ref f) ⟨[], []⟩) (CR (L2.CX P w) outer P w H1 s1 Q E) s1
section
variable {P : Program} {w : World} {K : PySem.W.Frag} {mg : Str → Option Value} {base : Heap} {kl : Nat} {tl tl' : Hp → VK → XK → Prop} {fs fs' : List Addr} {s s1 : Shared} {H H1 H2 : Hp} {f : Addr} {h h1 h2 : Heap}
/-- further frames, which were not there at first, change nothing -/
theorem un_more (u : Un fs [] H H1 h h1) (v : Un fs' [] H1 H2 h1 h2) (hs : ∀ b ∈ fs', b ∈ fs ∨ h.get? b = none) : Un fs [] H H2 h h2 where
  keep := fun b o z n hb _ => v.keep b o (u.keep b o z n hb (by simp)) (u.free b o z n (by simp)) (fun y => (hs b y).elim hb fun e => by rw [z] at e; cases e) (by simp)
  slot := fun b o z n hb _ => by
    obtain ⟨sl, e1⟩ := u.slot b o z n hb (by simp)
    obtain ⟨sl2, e2⟩ := v.any e1 (u.free b o z n (by simp)) (by simp)
    exact ⟨sl2, e2⟩
  free := fun b o z n _ => by
    obtain ⟨o', e1⟩ := u.there b o z (by simp)
    exact v.free b o' e1 (u.free b o z n (by simp)) (by simp)
  there := fun b o z _ => by
    obtain ⟨o', e1⟩ := u.there b o z (by simp)
    exact v.there b o' e1 (by simp)
  tups := fun b xs z => v.tups b xs (u.tups b xs z)
  frzs := fun b o xs z => v.frzs b o xs (u.frzs b o xs z)
  tbls := fun b ps z => by
    obtain ⟨m1, e1⟩ := u.tbls b ps z
    obtain ⟨m2, e2⟩ := v.tbls b _ e1
    exact ⟨m1 ++ m2, by rw [e2, Array.append_assoc]⟩
theorem LamP.step (L : LamP P w K mg base kl tl fs s H f) (u : Un fs [] H H1 s.heap s1.heap) (hs : ∀ b ∈ fs', b ∈ fs ∨ s.heap.get? b = none) : LamP P w K mg base kl tl fs' s1 H1 f := by
  obtain ⟨x, q, ps, body, sc, cl, pm, c, ctv, hf⟩ := L.at_
  exact ⟨u.free f _ hf L.non (by simp), fun z => (hs f z).elim L.out (fun e => by rw [hf] at e; cases e), ⟨x, q, ps, body, sc, cl, pm, c, ctv, u.keep f _ hf L.non L.out (by simp)⟩,
    fun A outer s2 H2 Q E v e0 hr h => L.run A outer s2 H2 Q E (un_more u v hs) e0 hr h⟩
theorem LamP.imp (L : LamP P w K mg base kl tl fs s H f) (h : ∀ H Q E, tl' H Q E → tl H Q E) : LamP P w K mg base kl tl' fs s H f :=
  ⟨L.non, L.out, L.at_, fun A outer s1 H1 Q E u e0 hr z => L.run A outer s1 H1 Q E u e0 hr (h _ _ _ z)⟩
end
/-! ### told by data -/
abbrev FnL := Nat → (Dat → Nat → Prop) → (Str → Dat → Nat → Prop) → Prop
def spL (K : PySem.W.Frag) (G : Hp) (fl : FnL) : Hp → VK → XK → Prop := fun H Q E => ∃ (p : Amb) (F : Hp) (n : Nat) (QD : Dat → Nat → Prop) (XD : Str → Dat → Nat → Prop), Ex G F ∧ HpOk p H F F H n ∧ fl n QD XD ∧
  (∀ v F' H' d n', HpOk p H F F' H' n' → Rep K p F' v d → QD d n' → Q v H') ∧ ∀ F' H' n' c d cls dd, HpOk p H F F' H' n' → ErrAt K p F' c d cls dd → XD c d n' → E cls dd H'
/-- x(), x in slot i -/
def tAct (i : Nat) (f : Addr) (tl : Hp → VK → XK → Prop) (W : WX) : TE := fun σ H Q => σ[i]? = some (some (.ref f)) ∧ tl H Q fun cls d H' => W cls d σ H'
def wAct (i : Nat) (G : Hp) (f : Addr) (fl : FnL) (wg : WG) : WS := fun D S => S.sl[i]? = some (.im (.lam G f)) ∧ fl S.n (fun d n' => wg d ⟨S.sl, n'⟩ fun S2 => D.nx S2) fun c v n' => D.xq c v ⟨S.sl, n'⟩
section
variable {K : PySem.W.Frag} {W : WX}
instance sv_act {i : Nat} {f : Addr} {G : Hp} {fl : FnL} {g : TG} {ix : List Nat} {wg : WG} [b : GV K g ix wg] : SV K W (tAsg (tAct i f (spL K G fl) W) g) (wAct i G f fl wg) := ⟨fun {p H0 F0 F H σ S D D'} ok hw c => by
  obtain ⟨hi, hf⟩ := hw
  obtain ⟨v, hv, r⟩ := ok.sl i _ hi
  cases r with
  | lam a hx =>
    refine ⟨hv, p, F, S.n, _, _, hx, ok.hp.self, hf, fun v F' H' d n' g r' q => ?_, fun F' H' n' m d cls dd g he q => c.xe (ok.call g) he q⟩
    exact b.run (ok.call g) r' q fun σ3 S3 ok3 _ _ q3 => c.nx _ _ _ _ ok3 q3⟩
end
/-- a def that calls what it got first; sp tells it by what that does -/
structure FnLk (P : Program) (w : World) (K : PySem.W.Frag) (mg : Str → Option Value) (base : Heap) (gd : Bool) (k kl : Nat) (g : Addr) (fd : FuncData) (ps : List Str) (sp : (Hp → VK → XK → Prop) → Addr → Sp) : Prop where
  len : ∀ tl f vs H Q E, sp tl f vs H Q E → vs.length = ps.length
  run : ∀ (A : Around) (outer : List Env) (s : Shared) (H : Hp) (args : Args) (us : List Value) (vs : List V) (Q : VK) (f : Addr) (tl : Hp → VK → XK → Prop), Room k A → (gd = true → A.guards = some []) → Env0 P w K mg base A outer s H → BindsTo s fd args (ps.zip us) → Vals vs us →
    LamP P w K mg base kl tl (frs outer) s H f → sp tl f vs H Q (fun _ _ _ => False) → codeAny (model P w) A (.call (.ref g) args) (CR CX0 outer P w H s Q fun _ _ _ => False) s
def spLF (K : PySem.W.Frag) (Gg : Hp → Addr → FnL → Fn) : (Hp → VK → XK → Prop) → Addr → Sp := fun tl f vs H Q _ => ∃ (p : Amb) (F G : Hp) (fl : FnL) (ds : List Dat) (n : Nat) (QD : Dat → Nat → Prop),
  (∀ H Q E, spL K G fl H Q E → tl H Q E) ∧ HpOk p H F F H n ∧ Reps K p F vs ds ∧ Gg G f fl ds n QD ∧ ∀ v F' H' d n', HpOk p H F F' H' n' → Rep K p F' v d → QD d n' → Q v H'
section
variable {P : Program} {w : World} {K : PySem.W.Frag} {mg : Str → Option Value} {base : Heap}
theorem okL {x qual : Str} {st : Stmt} {g : Addr} {fd : FuncData} {N ps : List Str} {gd : Bool} {k kl : Nat} {Gg : Hp → Addr → FnL → Fn} (F : Fun K x qual st g fd) (S : FnScope N ps (defScope st)) (len : ∀ G f fl ds n QD, Gg G f fl ds n QD → ds.length = ps.length)
    (body : ∀ (cdv : Value) (A : Around) (outer : List Env) (s : Shared) (H : Hp) (f : Addr) (G : Hp) (fl : FnL), Room k (A.deeper (envOfC qual (defScope st) s.heap.objs.size g cdv)) → (gd = true → (A.deeper (envOfC qual (defScope st) s.heap.objs.size g cdv)).guards = some []) → LamP P w K mg base kl (spL K G fl) (frs outer) s H f →
      ∃ t, PSs (cxR P w K mg base N qual (defScope st) g cdv A outer s H) (defBody st) t ∧ ∃ ws, SV K (fun _ _ _ _ => False) t ws ∧ ∀ ds n QD, Gg G f fl ds n QD → bodyW N.length ws ds n QD) : FnLk P w K mg base gd (k + 1) kl g fd ps (spLF K Gg) := by
  obtain ⟨oc, od, kV, doc, pm, an, cdv, ct, osl, rfl, lk, hcd⟩ := F.ex
  refine ⟨fun tl f vs H Q E h => ?_, fun A outer s H args us vs Q f tl hr hgd e0 hb r L h => ?_⟩
  · obtain ⟨p, F, G, fl, ds, n, QD, _, _, r, hG, _⟩ := h
    rw [r.length]
    exact len G f fl ds n QD hG
  · obtain ⟨p, F1, G, fl, ds, n, QD, himp, hh, rr, hG, hQ⟩ := h
    refine LamX.run_ofS lk hcd S hr e0 hb r (by rw [rr.length]; exact len G f fl ds n QD hG) fun hr' => ?_
    obtain ⟨t, ht, ws, sv, hw⟩ := body cdv A outer s H f G fl hr' hgd (L.imp himp)
    refine ⟨t, ht.nox, ?_⟩
    exact sv.run (D := { nx := fun S => QD .non S.n, rt := QD }) (ok_start hh rr) (hw ds n QD hG) ⟨fun F' H' σ' S' ok q => hQ _ F' H' .non S'.n ok.hp .non q, fun v F' H' d n' g r' q => hQ v F' H' d n' g r' q,
      fun _ _ _ _ _ _ _ _ _ _ _ q => q.elim, fun _ _ _ _ _ q => q.elim, fun _ _ _ _ _ q => q.elim, fun _ _ _ _ _ _ _ _ _ _ _ _ _ q => q.elim⟩
end
section
variable {X : Cx} {kl : Nat} {tl : Hp → VK → XK → Prop} {f : Addr}
theorem pe_act {i : Nat} {a : Str} {W : WX} {p1 p2 : Pos} (hex : X.ex = []) (L : LamP X.prog X.w X.K X.mg X.base kl tl X.fs X.s_0 X.H_0 f) (tk : Takes X W) (hr : Room (kl + 1) X.A) (hN : X.N[i]? = some a) (hv : Vis X.env.scope a)
    (hd : (a == ("__debug__" : Str)) = false := by decide) (hcd : (a == ("__classdict__" : Str)) = false := by decide) : PE X (.Call (.Name a p1) [] [] p2) (tAct i f tl W) := by
  refine ⟨fun pins s σ H Q I h => ?_⟩
  obtain ⟨hs, ht⟩ := h
  refine wpAny_Call_Name_kw (thn ((pe_var (pos := p1) (i := i) hN hv hd hcd).run pins s σ H (fun v H1 => v = .ref f ∧ H1 = H) I ⟨.ref f, hs, rfl, rfl⟩) fun u s1 ⟨v, H1, I1, r1, ev, eH⟩ => ?_)
  subst ev
  subst eH
  obtain rfl : u = Value.ref f := r1
  have un : Un X.fs [] X.H_0 H1 X.s_0.heap s1.heap := by
    have := I1.base
    rw [hex] at this
    exact this
  obtain ⟨x, q, ps, body, sc, cl, pm, c, ctv, hf⟩ := L.at_
  refine PySem.W.callWith_F0 ⟨_, _, _, _, un.keep f _ hf L.non L.out (by simp)⟩ ?_
  refine wpAny_call (codeAny_mono (L.run X.A X.stack s1 H1 Q _ un I1.env0 hr ht) fun r s' hq => ?_)
  cases r with
  | error e => exact tk e s' (XE.of_call I1 (fun _ _ _ h => h) hq)
  | ok fl =>
    cases fl with
    | ret u => exact I1.after hq
    | next => exact False.elim hq
    | brk => exact False.elim hq
    | cont => exact False.elim hq
end
end Dl
-- part D16
set_option Elab.async false
set_option linter.all false
set_option maxRecDepth 100000
set_option maxHeartbeats 4000000
namespace Dl
open PySem PySem.Spec PyProof.Rows L2 Evl RZ
variable [LawTabs]
/-! ### g(x, ..), x in a slot, the def that was handed in -/
section
variable {X : Cx} {gd : Bool} {k kl : Nat} {tl : Hp → VK → XK → Prop} {f g : Addr} {fd : FuncData} {ps : List Str} {sp : (Hp → VK → XK → Prop) → Addr → Sp}
theorem run_lk {pins : List (Addr × Obj)} {σ : L2.St} {H : Hp} {s : Shared} {Q : VK} {us : List Value} {vs : List V} {fs : List Addr} (F : FnLk X.prog X.w X.K X.mg X.base gd k kl g fd ps sp) (hgd : gd = true → X.A.guards = some []) (hr : Room k X.A) (hb : Binds X.K fd ps []) (L : LamP X.prog X.w X.K X.mg X.base kl tl (frs X.stack) s H f)
    (I : Inv X pins σ H s) (r : Vals vs us) (h : sp tl f vs H Q (fun _ _ _ => False)) : wpAny (model X.prog X.w) X.A (call (.ref g) us) (EP X pins σ Q) X.xe s := by
  have hl : us.length = ps.length := by
    rw [← r.length]
    exact F.len _ _ _ _ _ _ h
  refine wpAny_call (codeAny_mono (F.run X.A X.stack s H ⟨us, []⟩ us vs Q f tl hr hgd I.env0 (by have := hb s us I.kIn (by simpa using hl); simpa using this) r L h) fun r s' hq => ?_)
  cases r with
  | error e => exact (pass0 pins σ H s e s' I hq)
  | ok fl =>
    cases fl with
    | ret u => exact I.after hq
    | next => exact False.elim hq
    | brk => exact False.elim hq
    | cont => exact False.elim hq
theorem pe_hand {x : Str} {p pos : Pos} {e : Expr} {es : List Expr} {ta : TA} {fs : List Addr} (F : FnLk X.prog X.w X.K X.mg X.base gd k kl g fd ps sp) (hgd : gd = true → X.A.guards = some []) (hex : X.ex = []) (hs : X.stack = X.env :: X.outer) (L : LamP X.prog X.w X.K X.mg X.base kl tl X.fs X.s_0 X.H_0 f) (hr : Room k X.A) (hg : Gl X x) (hm : X.mg x = some (.ref g)) (hk : PySem.W.keepIn X.K (.ref g) = true) (hb : Binds X.K fd ps [])
    (ha : PA X (e :: es) ta) (hdb : (x == ("__debug__" : Str)) = false := by decide) (he : starEach (e :: es) X.env = (false, eval e X.env) :: starEach es X.env := by rfl) (hpl : (backTo pos (starEach es X.env)).any (·.1) = false := by rfl) :
    PE X (.Call (.Name x p) (e :: es) [] pos) (tCall (sp tl f) [] (fun _ _ _ => False) ta) := by
  refine ⟨fun pins s σ H Q I h => ?_⟩
  refine wpAny_Call_Name_kw (ld_glob I hg hm ?_ hdb)
  refine PySem.W.callWith_K (h₀ := X.base) I.ok.mod.kin hk (thn (ha.run pos pins s σ H _ I h) fun us s1 ⟨vs, H1, I1, r, q⟩ => ⟨I1.kIn, ?_⟩) he hpl
  have un : Un X.fs [] X.H_0 H1 X.s_0.heap s1.heap := by
    have := I1.base
    rw [hex] at this
    exact this
  have q' : sp tl f (vs ++ []) H1 Q (fun _ _ _ => False) := q
  rw [List.append_nil] at q'
  refine run_lk (fs := fs) F hgd hr hb (L.step un fun b hb' => ?_) I1 r q'
  rcases List.mem_cons.mp (I1.stkSub b hb') with z | z
  · refine .inr ?_
    cases y : X.s_0.heap.get? b with
    | none => rfl
    | some o =>
      have h1 := Heap.lt_size y
      have h2 := I1.ok.above
      rw [z] at h1
      exact absurd (Nat.lt_of_lt_of_le h1 h2) (Nat.lt_irrefl _)
  · exact .inl z
end
/-! ### a lambda is made -/
def TabH (H : Hp) (P : Addr) (q : Str) (ps : Array Value) : Prop := H P = some (.tbl ps) ∧ TriplesOk ps.toList ∧ ∀ (pos : Pos) (cv : Value), codeAmong pos ps.toList = some cv → ∃ c, cv = .ref c ∧ H c = some (LamX.CodeO c q)
def LamMade (H : Hp) (P : Addr) (q : Str) (ps : Array Value) (H1 : Hp) (c' : Addr) : Prop :=
  (H1 = H ∧ ∃ pos, codeAmong pos ps.toList = some (.ref c')) ∨ (H c' = none ∧ ∃ more : Array Value, TriplesOk (ps ++ more).toList ∧ (∀ (pos : Pos) (cv : Value), codeAmong pos (ps ++ more).toList = some cv → codeAmong pos ps.toList = some cv ∨ cv = .ref c') ∧
    H1 = upd (upd H P (.tbl (ps ++ more))) c' (LamX.CodeO c' q))
section
variable {X : Cx} {pins : List (Addr × Obj)} {σ : L2.St} {H : Hp} {s : Shared}
theorem lam_mk {c P : Addr} {params : Arguments} {body : Expr} {scope : Scope} {pos : Pos} {ps : Array Value} {E : Value → Shared → Prop} {Q : Value → Shared → Prop} (I : Inv X pins σ H s) (TB : LamX.TabB X.base X.mg c P) (hcode : X.env.code = .ref c)
    (hT : TabH H P (X.env.qual ++ "<lambda>") ps) (hdef : defaultsOf params X.env = ([], [])) (hfree : ∀ y ∈ scope.names, y.2 = .free → ∃ c, X.env.cells.lookup y.1 = some c)
    (h : ∀ (f c' : Addr) (pm ctv : Value) (H1 : Hp) (s' : Shared), Inv X pins σ H1 s' → LamMade H P (X.env.qual ++ "<lambda>") ps H1 c' →
      s'.heap.get? f = some (PySem.W.kla_obj "<lambda>" (X.env.qual ++ "<lambda>") params body scope (cloFrom X.env.cells scope.names []) pm c' ctv) → H1 f = none → f ∉ frs X.stack → f ≠ X.env.locals → f ∉ X.fs → Q (.ref f) s') :
    wpAny (model X.prog X.w) X.A (eval (.Lambda params body scope pos) X.env) Q E s := by
  obtain ⟨hP, ht, ha⟩ := hT
  refine PySem.W.kla_eval hdef ?_
  have bP : s.heap.BuiltinsAt X.mg P := TB.bm.keeps I.bk
  have hP' : s.heap.get? P = some { cls := .none, data := .fields ps } := I.hok P _ hP
  have big : ∀ f, s.heap.objs.size ≤ f → f ∉ frs X.stack ∧ f ≠ X.env.locals ∧ f ∉ X.fs := fun f hf => by
    have hl : f ≠ X.env.locals := fun z => absurd (Nat.lt_of_lt_of_le I.lt (z ▸ hf)) (Nat.lt_irrefl _)
    refine ⟨fun z => ?_, hl, I.nofs hf⟩
    rcases List.mem_cons.mp (I.stkSub _ z) with e | e
    · exact hl e
    · exact I.nofs hf e
  cases hc : codeAmong pos ps.toList with
  | none =>
    refine PySem.W.kla_makeFunction (mg := X.mg) (c := c) (P := P) (ps := ps) (closure_ok hfree) I.ok.glob (I.mod.glob.keeps I.bk) hcode (TB.code.keeps I.bk) hP' ht hc TB.gP bP (fun c' ctv h' tk hx hge hlt hrec htb => ?_)
    obtain ⟨c2, oc, vs, t, e2, hoc, hd, hv⟩ := hrec
    cases e2
    have hsz : s.heap.objs.size ≤ h'.objs.size := Nat.le_trans hge (Nat.le_of_lt hlt)
    have nC : H c' = none := I.hok.fresh hge
    have I1 := LamX.inv_table (t' := tk) (more := #[rawInt pos.line, rawInt pos.col, .ref c']) (h' := h'.push (PySem.W.kla_obj "<lambda>" (X.env.qual ++ "<lambda>") params body scope (cloFrom X.env.cells scope.names []) ((X.mg "__name__").getD .none) c' ctv)) I hP
      (fun b o hb e => Heap.get?_push_of_some _ (hx b o hb e)) (Heap.get?_push_of_some _ htb) hge ⟨oc, vs, t, Heap.get?_push_of_some _ hoc, hd, hv⟩
    have eL : (ps ++ #[rawInt pos.line, rawInt pos.col, .ref c']).toList = ps.toList ++ [rawInt pos.line, rawInt pos.col, .ref c'] := by simp
    obtain ⟨b1, b2, b3⟩ := big _ hsz
    refine h h'.objs.size c' ((X.mg "__name__").getD .none) ctv _ _ I1 (.inr ⟨nC, _, by rw [eL]; exact PySem.TriplesOk_snoc _ _ _ _ ht, fun p' cv hcv => ?_, rfl⟩) (Heap.get?_push_size _ rfl) ?_ b1 b2 b3
    · rw [eL] at hcv
      exact LamX.among_app _ ht hcv
    · rw [upd_ne (Nat.ne_of_gt hlt), upd_ne (Nat.ne_of_gt (Nat.lt_of_lt_of_le (Heap.lt_size hP') hsz))]
      exact I.hok.fresh hsz
  | some cv =>
    obtain ⟨c', e, hco⟩ := ha pos cv hc
    subst e
    refine PySem.W.kla_makeFunctionHit (mg := X.mg) (c := c) (P := P) (ps := ps) (closure_ok hfree) I.ok.glob (I.mod.glob.keeps I.bk) hcode (TB.code.keeps I.bk) hP' ht hc bP (fun ctv h' tk hx hsz => ?_)
    obtain ⟨b1, b2, b3⟩ := big _ hsz
    have I1 : Inv X pins σ H { s with heap := h'.push (PySem.W.kla_obj "<lambda>" (X.env.qual ++ "<lambda>") params body scope (cloFrom X.env.cells scope.names []) ((X.mg "__name__").getD .none) c' ctv), toks := tk } := I.kept fun b o e => Heap.get?_push_of_some _ (hx b o e)
    exact h h'.objs.size c' ((X.mg "__name__").getD .none) ctv H _ I1 (.inl ⟨rfl, pos, hc⟩) (Heap.get?_push_size _ rfl) (I.hok.fresh hsz) b1 b2 b3
/-- it may be called -/
theorem lam_p {params : Arguments} {body : Expr} {scope : Scope} {f c' : Addr} {pm ctv : Value} {kl : Nat} {tb : XK → TE} (I : Inv X pins σ H s) (L : LamX.LamS X.env.scope scope)
    (hf : s.heap.get? f = some (PySem.W.kla_obj "<lambda>" (X.env.qual ++ "<lambda>") params body scope (cloFrom X.env.cells scope.names []) pm c' ctv)) (hfn : H f = none) (hfr : f ∉ frs X.stack)
    (hbind : bindArgs (PySem.W.kla_fn "<lambda>" (X.env.qual ++ "<lambda>") params body scope (cloFrom X.env.cells scope.names []) pm (.ref c') ctv) ⟨[], []⟩ = pure [])
    (hbody : ∀ (A : Around) (outer : List Env) (s : Shared) (H : Hp) (E : XK), Room kl (A.deeper (LamX.lamEnv X scope s.heap.objs.size f c')) → PE (LamX.lamCx X A outer s H E scope f c') body (tb E)) :
    LamP X.prog X.w X.K X.mg X.base kl (fun H' Q' E' => H' c' = some (LamX.CodeO c' (X.env.qual ++ "<lambda>")) ∧ tb E' σ H' Q') (frs X.stack) s H f := by
  refine ⟨hfn, hfr, ⟨_, _, _, _, _, _, _, _, _, hf⟩, fun A outer s1 HZ Q E un e0 hr ht => ?_⟩
  have of1 := un.keep f _ hf hfn hfr (by simp)
  obtain ⟨⟨oc, vs, t, hoc, hdc, hvc⟩, _, _⟩ := e0.hok c' _ ht.1
  refine PySem.W.kla_callFunE hr.depth of1 rfl L.co L.gen rfl ⟨c', oc, vs, t, rfl, hoc, hdc, hvc⟩ ?_
  rw [hbind]
  have lim : s1.heap.NoLimit := e0.mod.nolimit.keeps fun b o e => (e0.bs b o e).1
  refine wpAny_pure (wpAny_newFunctionEnv (fun y hy => (L.own y hy).2) (fun y hy => absurd hy (by simp)) (fun h₁ hns hsb => ⟨lim.fresh _ hsb, ?_⟩) L.kind)
  show codeAny _ _ (.expr body (LamX.lamEnv X scope s1.heap.objs.size f c')) _ _
  have kp : ∀ b o, s1.heap.get? b = some o → h₁.get? b = some o := fun b o e => hsb.extBut b o (Nat.ne_of_lt (Heap.lt_size e)) (Heap.get?_push_of_some _ e)
  have J : Inv (LamX.lamCx X A outer s1 HZ E scope f c') [] σ HZ { s1 with heap := h₁, toks := s1.toks + ([] : List (Str × Value)).length } := LamX.lam_start2 I L e0 hr.hd un hns kp
  refine PySem.W.kla_codeExpr (wpAny_mono ((hbody A outer s1 HZ E (hr.deeper _)).run [] _ _ HZ Q J ht.2) (fun v s' hq => ?_) fun e s' hq => hq)
  obtain ⟨w', H', J', rv, q⟩ := hq
  exact ⟨w', H', J'.os, J'.bare, J'.base, J'.hok, rv, q⟩
end
/-- g(lambda: body, ..) -/
def tLamR (cap : List Nat) (P : Addr) (q : Str) (tb : XK → TE) (sp : (Hp → VK → XK → Prop) → Addr → Sp) (ta : TA) : TE := fun σ H Q => ∃ ps, TabH H P q ps ∧ ∀ (f c' : Addr) (H1 : Hp), LamMade H P q ps H1 c' →
  ta σ H1 fun vs H2 => H2 f = none → sp (fun H' Q' E' => H' c' = some (LamX.CodeO c' q) ∧ tb E' σ H' Q') f (.ref f :: vs) H2 Q fun _ _ _ => False
section
variable {X : Cx} {gd : Bool} {k kl : Nat} {g : Addr} {fd : FuncData} {ps : List Str} {sp : (Hp → VK → XK → Prop) → Addr → Sp}
theorem pe_lamR (cap : List Nat) {x : Str} {c P : Addr} {p lpos pos : Pos} {params : Arguments} {body : Expr} {scope : Scope} {tb : XK → TE} {es : List Expr} {ta : TA} (F : FnLk X.prog X.w X.K X.mg X.base gd k kl g fd ps sp) (hgd : gd = true → X.A.guards = some []) (hr : Room k X.A) (hg : Gl X x) (hm : X.mg x = some (.ref g)) (hk : PySem.W.keepIn X.K (.ref g) = true) (hb : Binds X.K fd ps [])
    (TB : LamX.TabB X.base X.mg c P) (hcode : X.env.code = .ref c) (L : LamX.LamS X.env.scope scope) (hdef : defaultsOf params X.env = ([], []))
    (hbind : ∀ (q : Str) (cl : List (Str × Addr)) (pm cv ctv : Value), bindArgs (PySem.W.kla_fn "<lambda>" q params body scope cl pm cv ctv) ⟨[], []⟩ = pure [])
    (hbody : ∀ (A : Around) (outer : List Env) (s : Shared) (H : Hp) (E : XK) (f c' : Addr), Room kl (A.deeper (LamX.lamEnv X scope s.heap.objs.size f c')) → PE (LamX.lamCx X A outer s H E scope f c') body (tb E)) (ha : PA X es ta)
    (hdb : (x == ("__debug__" : Str)) = false := by decide) (hst : starEach (.Lambda params body scope lpos :: es) X.env = (false, eval (.Lambda params body scope lpos) X.env) :: starEach es X.env := by rfl) (hpl : (backTo pos (starEach es X.env)).any (·.1) = false := by rfl) :
    PE X (.Call (.Name x p) (.Lambda params body scope lpos :: es) [] pos) (tLamR cap P (X.env.qual ++ "<lambda>") tb sp ta) := by
  refine ⟨fun pins s σ H Q I h => ?_⟩
  obtain ⟨ps0, hT, h⟩ := h
  refine wpAny_Call_Name_kw (ld_glob I hg hm ?_ hdb)
  refine PySem.W.callWith_K (h₀ := X.base) I.ok.mod.kin hk ?_ hst hpl
  rw [hst]
  refine Calls.spliced_cons (lam_mk I TB hcode hT hdef (L.has I.ok) (fun f c' pm' ctv H1 s' I1 hmade hf hfn hfr hfL hfF => ?_))
  have Ip : Inv X ((f, PySem.W.kla_obj "<lambda>" (X.env.qual ++ "<lambda>") params body scope (cloFrom X.env.cells scope.names []) pm' c' ctv) :: pins) σ H1 s' := I1.pins_of fun q hq => by
    rcases List.mem_cons.mp hq with e | e
    · rw [e]
      exact ⟨hf, hfn, hfL, hfF, fun v z => nomatch z⟩
    · exact I1.pin q (List.mem_append_right _ e)
  refine thn (ha.run pos _ s' σ H1 _ Ip (h f c' H1 hmade)) fun us s2 ⟨vs, H2, I2, r, q⟩ => ?_
  obtain ⟨hf2, hn2, _⟩ := I2.pin _ (List.mem_append_right _ List.mem_cons_self)
  have I3 : Inv X pins σ H2 s2 := I2.pins_of fun q hq => I2.pin q (List.mem_append_right _ (List.mem_cons_of_mem _ hq))
  refine ⟨I3.kIn, ?_⟩
  exact run_lk (fs := []) F hgd hr hb (lam_p I3 L hf2 hn2 hfr (hbind _ _ _ _ _) fun A outer s H E hr2 => hbody A outer s H E f c' hr2) I3 (vs := .ref f :: vs) (.cons rfl r) (q hn2)
end
end Dl
-- part D17
set_option Elab.async false
set_option linter.all false
set_option maxRecDepth 100000
set_option maxHeartbeats 4000000
namespace Dl
open PySem PySem.Spec PyProof.Rows L2 Evl RZ
variable [LawTabs]
class TabIn (P : Addr) (q : Str) : Prop where
  mem : (P, q) ∈ LawTabs.tabs
  uni : ∀ t ∈ LawTabs.tabs, t.1 = P → t.2 = q
theorem code_nt {c : Addr} {q : Str} (ps : Array Value) : LamX.CodeO c q ≠ .tbl ps := fun z => by
  unfold LamX.CodeO at z
  cases z
theorem HpOk.lamNew {p : Amb} {H0 F0 F H : Hp} {n : Nat} {P c' : Addr} {q : Str} {ps more : Array Value} (h : HpOk p H0 F0 F H n) (m : TabIn P q) (hP : H P = some (.tbl ps)) (hF : ∀ (pos : Pos) (cv : Value), codeAmong pos ps.toList = some cv → ∃ c, cv = .ref c ∧ F c = some (LamX.CodeO c q)) (hn : H c' = none)
    (ht : TriplesOk (ps ++ more).toList) (hc : ∀ (pos : Pos) (cv : Value), codeAmong pos (ps ++ more).toList = some cv → codeAmong pos ps.toList = some cv ∨ cv = .ref c') :
    HpOk p H0 F0 (upd F c' (LamX.CodeO c' q)) (upd (upd H P (.tbl (ps ++ more))) c' (LamX.CodeO c' q)) n := by
  have nF : F c' = none := h.freeF hn
  have nPc : P ≠ c' := ne_of_none hP hn
  have at_ : ∀ b, b ≠ P → b ≠ c' → upd (upd H P (.tbl (ps ++ more))) c' (LamX.CodeO c' q) b = H b := fun b h1 h2 => by rw [upd_ne h2, upd_ne h1]
  have atP : upd (upd H P (.tbl (ps ++ more))) c' (LamX.CodeO c' q) P = some (.tbl (ps ++ more)) := by rw [upd_ne nPc, upd_same]
  have nt : ∀ b o, H b = some o → (∀ ps, o ≠ .tbl ps) → b ≠ P ∧ b ≠ c' := fun b o z ho => ⟨fun e => by rw [e, hP] at z; exact ho ps (Option.some.inj z).symm, ne_of_none z hn⟩
  refine ⟨fun a o hp ho z => ?_, fun a qs z => ?_, fun t ht' => ?_, fun a qs z => ?_, h.f0.trans (Ex.new nF), fun a o z => ?_, fun a o z => ?_, fun a ha => ?_⟩
  · have y := h.e0 a o hp ho z
    obtain ⟨n1, n2⟩ := nt a o y ho
    rw [at_ a n1 n2]
    exact y
  · obtain ⟨m0, y⟩ := h.tb a qs z
    by_cases e : a = P
    · exact ⟨_, by rw [e]; exact atP⟩
    · exact ⟨m0, by rw [at_ a e (ne_of_none y hn)]; exact y⟩
  · obtain ⟨qs, g1, g2, g3⟩ := h.ts t ht'
    have keepF : ∀ c, F c = some (LamX.CodeO c t.2) → upd F c' (LamX.CodeO c' q) c = some (LamX.CodeO c t.2) := fun c z => by rw [upd_ne (ne_of_none z nF)]; exact z
    by_cases e : t.1 = P
    · have e2 := m.uni t ht' e
      refine ⟨ps ++ more, by rw [e]; exact atP, ht, fun pos cv z => ?_⟩
      rcases hc pos cv z with z | z
      · obtain ⟨c, y1, y2⟩ := hF pos cv z
        exact ⟨c, y1, keepF c (by rw [e2]; exact y2)⟩
      · exact ⟨c', z, by rw [upd_same, e2]⟩
    · refine ⟨qs, by rw [at_ _ e (ne_of_none g1 hn)]; exact g1, g2, fun pos cv z => ?_⟩
      obtain ⟨c, y1, y2⟩ := g3 pos cv z
      exact ⟨c, y1, keepF c y2⟩
  · by_cases e : a = c'
    · rw [e, upd_same] at z
      exact code_nt qs (Option.some.inj z)
    · rw [upd_ne e] at z
      exact h.nt a qs z
  · by_cases e : a = c'
    · exact .inr (by rw [e]; exact h.free hn)
    · rw [upd_ne e] at z
      exact h.fr a o z
  · by_cases e : a = c'
    · rw [e, upd_same] at z
      rw [e, upd_same]
      exact z
    · rw [upd_ne e] at z
      have y := h.fh a o z
      obtain ⟨n1, n2⟩ := nt a o y (fun qs w => h.nt a qs (w ▸ z))
      rw [at_ a n1 n2]
      exact y
  · obtain ⟨h1, h2, x, y, w, h3, h4⟩ := h.pt a ha
    obtain ⟨n1, n2⟩ := nt a _ h3 (fun _ z => nomatch z)
    exact ⟨by rw [upd_ne n2]; exact h1, h2, x, y, w, by rw [at_ a n1 n2]; exact h3, h4⟩
theorem Ok.lamMade {K : PySem.W.Frag} {p : Amb} {H0 F0 F H H1 : Hp} {σ : L2.St} {S : Sx} {T : List (Addr × List V)} {P c' : Addr} {q : Str} {ps : Array Value} (h : Ok K p H0 F0 F H σ S T) (m : TabIn P q) (hP : H P = some (.tbl ps))
    (hF : ∀ (pos : Pos) (cv : Value), codeAmong pos ps.toList = some cv → ∃ c, cv = .ref c ∧ F c = some (LamX.CodeO c q)) (hm : LamMade H P q ps H1 c') : ∃ F1, Ok K p H0 F0 F1 H1 σ S T ∧ Ex F F1 ∧ F1 c' = some (LamX.CodeO c' q) := by
  rcases hm with ⟨rfl, pos, hc⟩ | ⟨hn, more, ht, hc, rfl⟩
  · obtain ⟨c, e, hf⟩ := hF pos _ hc
    cases e
    exact ⟨F, h, Ex.refl F, hf⟩
  · have nF := h.hp.freeF hn
    refine ⟨upd F c' (LamX.CodeO c' q), ?_, Ex.new nF, upd_same⟩
    exact h.stepN (n' := S.n) (Ex.new nF) (h.hp.lamNew m hP hF hn ht hc) fun b u hu h1 h2 h3 => by
      have e1 : b ≠ c' := ne_of_none h3 hn
      have e2 : b ≠ P := fun e => by
        rw [e, hP] at h3
        exact hu ps (Option.some.inj h3).symm
      exact ⟨by rw [upd_ne e1]; exact h2, by rw [upd_ne e1, upd_ne e2]; exact h3⟩
/-! ### what a lambda holds of its maker's names -/
def capL (cap : List Nat) : Nat → List Sl → List Sl
  | _, [] => []
  | i, s :: l => (if cap.contains i then s else .un) :: capL cap (i + 1) l
def capsOk : List Sl → Prop
  | [] => True
  | .un :: l => capsOk l
  | .im d :: l => noPot d = true ∧ capsOk l
  | _ :: _ => False
theorem capL_len (cap : List Nat) : ∀ (i : Nat) (l : List Sl), (capL cap i l).length = l.length
  | _, [] => rfl
  | i, s :: l => by
    show (capL cap (i + 1) l).length + 1 = l.length + 1
    rw [capL_len cap (i + 1) l]
theorem capL_at {cap : List Nat} : ∀ {l : List Sl} {i j : Nat} {d : Dat}, (capL cap i l)[j]? = some (.im d) → l[j]? = some (.im d)
  | [], _, _, _, h => by
    unfold capL at h
    simp at h
  | s :: l, i, 0, d, h => by
    unfold capL at h
    simp only [List.getElem?_cons_zero, Option.some.injEq] at h ⊢
    split at h
    · exact h
    · cases h
  | s :: l, i, j + 1, d, h => by
    unfold capL at h
    rw [List.getElem?_cons_succ] at h ⊢
    exact capL_at h
theorem capsOk_at : ∀ {l : List Sl} {j : Nat} {s : Sl}, capsOk l → l[j]? = some s → s = .un ∨ ∃ d, s = .im d ∧ noPot d = true
  | [], _, _, _, h => by simp at h
  | x :: l, 0, s, hc, h => by
    simp only [List.getElem?_cons_zero, Option.some.injEq] at h
    subst h
    cases x with
    | un => exact .inl rfl
    | im d => exact .inr ⟨d, rfl, hc.1⟩
    | ow _ => exact (show False from hc).elim
    | od _ => exact (show False from hc).elim
    | nw _ _ _ => exact (show False from hc).elim
  | x :: l, j + 1, s, hc, h => by
    rw [List.getElem?_cons_succ] at h
    cases x with
    | un => exact capsOk_at (show capsOk l from hc) h
    | im d => exact capsOk_at hc.2 h
    | ow _ => exact (show False from hc).elim
    | od _ => exact (show False from hc).elim
    | nw _ _ _ => exact (show False from hc).elim
def flOf (wb : WS) (cap : List Nat) (sl : List Sl) : FnL := fun n QD XD => wb { nx := fun _ => False, rt := QD, xq := fun c d S => XD c d S.n } ⟨capL cap 0 sl, n⟩
def wHand (Gg : FnL → Fn) (fl : FnL) (wa : WF) : WE := fun S Q => wa S fun ds S1 => Gg fl ds S1.n fun d n' => Q d ⟨S1.sl, n'⟩
def wLam (cap : List Nat) (Gg : Hp → Addr → FnL → Fn) (wb : WS) (wa : WF) : WE := fun S Q => capsOk (capL cap 0 S.sl) ∧ ∀ (G : Hp) (f : Addr), wa S fun ds S1 => Gg G f (flOf wb cap S.sl) (.lam G f :: ds) S1.n fun d n' => Q d ⟨S1.sl, n'⟩
section
variable {K : PySem.W.Frag}
instance ev_hand {Gg : Hp → Addr → FnL → Fn} {G : Hp} {f : Addr} {fl : FnL} {E : XK} {ta : TA} {wa : WF} [a : AV K ta wa] : EV K (tCall (spLF K Gg (spL K G fl) f) [] E ta) (wHand (Gg G f) fl wa) := ⟨fun {p _ _ _ _ _ _ _ _ _} ok hw k =>
  a.run ok hw fun vs F1 H1 S1 ds ok1 e1 r1 q1 => ⟨p, F1, G, fl, ds, S1.n, _, fun _ _ _ z => z, ok1.hp.self, by rw [List.append_nil]; exact r1, q1, fun v F2 H2 d n2 g2 r2 q2 => k v F2 H2 _ d (ok1.call g2) (e1.trans g2.f0) r2 q2⟩⟩
instance ev_lamR {cap : List Nat} {P : Addr} {q : Str} {tb : XK → TE} {Gg : Hp → Addr → FnL → Fn} {ta : TA} {wa : WF} {wb : WS} [m : TabIn P q] [sv : ∀ E : XK, SV K (fun cls d _ H => E cls d H) (tRet (tb E)) wb] [a : AV K ta wa] : EV K (tLamR cap P q tb (spLF K Gg) ta) (wLam cap Gg wb wa) := ⟨fun {p H0 F0 F H σ S T Q Q'} ok hw k => by
  obtain ⟨hcap, hw⟩ := hw
  obtain ⟨ps, t1, t2, t3⟩ := ok.hp.ts _ m.mem
  refine ⟨ps, ⟨t1, t2, fun pos cv z => ?_⟩, fun f c' H1 hm => ?_⟩
  · obtain ⟨c, y1, y2⟩ := t3 pos cv z
    exact ⟨c, y1, ok.hp.fh _ _ y2⟩
  · obtain ⟨F1, ok1, e1, hc1⟩ := ok.lamMade m t1 t3 hm
    refine a.run ok1 (hw F1 f) fun vs F2 H2 S2 ds ok2 e2 r2 q2 hfn => ?_
    refine ⟨p, F2, F1, flOf wb cap S.sl, _, S2.n, _, fun H' Q1 E' hz => ?_, ok2.hp.self, .cons (.lam f e2) r2, q2, fun v F3 H3 d n3 g3 r3 q3 => k v F3 H3 _ d (ok2.call g3) ((e1.trans e2).trans g3.f0) r3 q3⟩
    obtain ⟨p', F', n', QD, XD, hx, hh, hf, hr, he⟩ := hz
    refine ⟨hh.fh _ _ (hx _ _ hc1), ?_⟩
    have st : Ok K p' H' F' F' H' σ ⟨capL cap 0 S.sl, n'⟩ [] := by
      refine ⟨hh, by rw [capL_len]; exact ok1.len, fun i s hs => ?_, fun i j s t b hij q1 o1 z1 o3 z3 z4 => ?_, (fun b vs hm => nomatch hm), (fun i s b vs _ _ _ hm => nomatch hm), List.nodup_nil⟩
      · rcases capsOk_at hcap hs with e | ⟨d, e, hd⟩
        · subst e
          trivial
        · subst e
          obtain ⟨v, y1, y2⟩ := ok1.sl i _ (capL_at hs)
          exact ⟨v, y1, (y2.mono hx).anyp hd⟩
      · rcases capsOk_at hcap q1 with e | ⟨d, e, _⟩
        · subst e; cases o1
        · subst e; cases o1
    exact (sv E').run (D := { nx := fun _ => False, rt := QD, xq := fun c d S => XD c d S.n }) (D' := { nx := fun _ _ => False, rt := Q1 }) st hf ⟨fun _ _ _ _ _ z => z.elim, fun v F3 H3 d n3 g3 r3 q3 => hr v F3 H3 d n3 g3 r3 q3,
      fun _ _ _ _ _ _ _ _ _ _ _ z => z.elim, fun _ _ _ _ _ z => z.elim, fun _ _ _ _ _ z => z.elim, fun F3 H3 σ3 S3 c C e v d ok3 y1 y2 y3 z => he F3 H3 S3.n c d _ _ ok3.hp ⟨C, e, v, rfl, rfl, y1, y2, y3⟩ z⟩⟩
/-! ### try: .. except X as n: m = n -/
class HeirsP (K : PySem.W.Frag) (P : Addr) (ns : outParam (List Str)) : Prop where
  exm : ∀ n ∈ ns, ∀ C, ClsAt K n C → PySem.W.exmOne K (.ref C) (.ref P) = some true
def tTryH (K : PySem.W.Frag) (c : Value) (i j : Nat) (tb : WX → TS) (Wout : WX) : TS := fun D σ H => tb (wHold K c i j Wout D) D σ H
def wTryH (ns : List Str) (i j : Nat) (wb : WS) : WS := fun D S => wb { D with xq := fun n d S1 => memN n ns = true ∧ D.nx ⟨(S1.sl.set j (.im (.exc n d))).set i .un, S1.n⟩ } S
theorem Ok.setUn {p : Amb} {H0 F0 F H : Hp} {σ : L2.St} {S : Sx} {T : List (Addr × List V)} (h : Ok K p H0 F0 F H σ S T) (i : Nat) : Ok K p H0 F0 F H (σ.set i none) ⟨S.sl.set i .un, S.n⟩ T :=
  h.forget (by rw [List.length_set, List.length_set]; exact h.len) fun j s q => by
    by_cases e : i = j
    · subst e
      rw [List.getElem?_set] at q
      split at q
      · split at q
        · cases q
          exact .inl rfl
        · cases q
      · contradiction
    · rw [List.getElem?_set_ne e] at q ⊢
      exact .inr (.inr ⟨q, rfl⟩)
instance sv_tryH {W : WX} {P : Addr} {ns : List Str} {i j : Nat} {tb : WX → TS} {wb : WS} [T : HeirsP K P ns] [b : ∀ W : WX, SV K W (tb W) wb] : SV K W (tTryH K (.ref P) i j tb W) (wTryH ns i j wb) := ⟨fun {p H0 F0 F H σ S D D'} ok hw c =>
  (b (wHold K (.ref P) i j W D')).run ok hw ⟨c.nx, c.rt, c.rf, c.bk, c.ct, fun F1 H1 σ1 S1 n C dd v d ok1 hC hdd r q =>
    ⟨true, T.exm n (memN_of q.1) C hC, fun _ => ⟨C, dd, rfl, rfl, fun e he => by
      have x := Ex.new (o := ExcO C dd e) (ok1.hp.freeF he)
      have ok2 := ok1.lay (o := ExcO C dd e) he (by intro _ z; unfold ExcO at z; cases z)
      exact c.nx _ _ _ _ ((ok2.setIm (i := j) (.exc hC upd_same (x _ _ hdd) (r.mono x))).setUn i) q.2⟩, fun z => nomatch z⟩⟩⟩
end
end Dl
-- part D18
set_option Elab.async false
set_option linter.all false
set_option maxRecDepth 100000
set_option maxHeartbeats 4000000
namespace Dl
open PySem PySem.Spec PyProof.Rows L2 Evl RZ
variable [LawTabs]
section
variable {P : Program} {w : World} {K : PySem.W.Frag} {mg : Str → Option Value} {base : Heap}
/-- a def whose code object is known by its address -/
theorem okC {x qual : Str} {st : Stmt} {f : Addr} {fd : FuncData} {N ps : List Str} {k : Nat} {sp : Sp} (F : Fun K x qual st f fd) (S : FnScope N ps (defScope st)) (len : ∀ vs H Q E, sp vs H Q E → vs.length = ps.length)
    (hbody : ∀ (cdv : Value) (A : Around) (outer : List Env) (s : Shared) (H : Hp) (vs : List V) (Q : VK) (E : XK), fd.code = cdv → Room k (A.deeper (envOfC qual (defScope st) s.heap.objs.size f cdv)) → sp vs H Q E →
      ∃ t, PSs (cxR P w K mg base N qual (defScope st) f cdv A outer s H) (defBody st) t ∧ t { nx := fun _ H' => Q .non H', rt := Q } (L2.start N vs) H) : FnOk P w K mg base CX0 (k + 1) f fd ps sp := by
  obtain ⟨oc, od, kV, doc, pm, an, cdv, ct, osl, rfl, lk, hcd⟩ := F.ex
  refine L2.fn_of lk hcd S len (fun A outer s H vs Q E hr hsp => ?_)
  obtain ⟨t, h, q⟩ := hbody cdv A outer s H vs Q E rfl hr hsp
  exact ⟨t, h.nox, q⟩
theorem okDC {x qual : Str} {st : Stmt} {f : Addr} {fd : FuncData} {N ps : List Str} {k : Nat} {G : Fn} (F : Fun K x qual st f fd) (S : FnScope N ps (defScope st)) (len : ∀ ds n QD, G ds n QD → ds.length = ps.length)
    (body : ∀ (cdv : Value) (A : Around) (outer : List Env) (s : Shared) (H : Hp), fd.code = cdv → Room k (A.deeper (envOfC qual (defScope st) s.heap.objs.size f cdv)) →
      ∃ t, PSs (cxR P w K mg base N qual (defScope st) f cdv A outer s H) (defBody st) t ∧ ∃ ws, SV K (fun _ _ _ _ => False) t ws ∧ ∀ ds n QD, G ds n QD → bodyW N.length ws ds n QD) : FnOk P w K mg base CX0 (k + 1) f fd ps (spF K G) := by
  refine okC F S (fun vs H Q E h => ?_) (fun cdv A outer s H vs Q E hcd hr h => ?_)
  · obtain ⟨p, F, ds, n, QD, _, r, hG, _⟩ := h
    rw [r.length]
    exact len ds n QD hG
  · obtain ⟨t, ht, ws, sv, hb⟩ := body cdv A outer s H hcd hr
    refine ⟨t, ht, ?_⟩
    obtain ⟨p, F, ds, n, QD, hh, r, hG, hQ⟩ := h
    exact sv.run (D := { nx := fun S => QD .non S.n, rt := QD }) (ok_start hh r) (hb ds n QD hG) ⟨fun F' H' σ' S' ok q => hQ _ F' H' .non S'.n ok.hp .non q, fun v F' H' d n' g r' q => hQ v F' H' d n' g r' q,
      fun _ _ _ _ _ _ _ _ _ _ _ q => q.elim, fun _ _ _ _ _ q => q.elim, fun _ _ _ _ _ q => q.elim, fun _ _ _ _ _ _ _ _ _ _ _ _ _ q => q.elim⟩
theorem okPC {x qual : Str} {st : Stmt} {f : Addr} {fd : FuncData} {N ps : List Str} {k : Nat} {G : Fn} (F : Fun K x qual st f fd) (S : FnScope N ps (defScope st)) (len : ∀ ds n QD, G ds n QD → ds.length = ps.length)
    (body : ∀ (cdv : Value) (A : Around) (outer : List Env) (s : Shared) (H : Hp), fd.code = cdv → Room k (A.deeper (envOfC qual (defScope st) s.heap.objs.size f cdv)) →
      ∃ t, PSs (cxR P w K mg base N qual (defScope st) f cdv A outer s H) (defBody st) t ∧ ∃ ws, SV K (fun _ _ _ _ => False) t ws ∧ ∀ ds n QD, G ds n QD → bodyP N.length ws ds n QD) : FnOk P w K mg base CX0 (k + 1) f fd ps (spF K G) := by
  refine okC F S (fun vs H Q E h => ?_) (fun cdv A outer s H vs Q E hcd hr h => ?_)
  · obtain ⟨p, F, ds, n, QD, _, r, hG, _⟩ := h
    rw [r.length]
    exact len ds n QD hG
  · obtain ⟨t, ht, ws, sv, hb⟩ := body cdv A outer s H hcd hr
    refine ⟨t, ht, ?_⟩
    obtain ⟨p, F, ds, n, QD, hh, r, hG, hQ⟩ := h
    exact sv.run (D := { nx := fun S => ∃ m, S.n ≤ m ∧ m ≤ 1000000 ∧ QD .non m, rt := fun d k => ∃ m, k ≤ m ∧ m ≤ 1000000 ∧ QD d m }) (ok_start hh r) (hb ds n QD hG)
      ⟨fun F' H' σ' S' ok q => by obtain ⟨m, m1, m2, q⟩ := q; exact hQ _ F' H' .non m (ok.hp.bump m1 m2) .non q, fun v F' H' d n' g r' q => by obtain ⟨m, m1, m2, q⟩ := q; exact hQ v F' H' d m (g.bump m1 m2) r' q,
      fun _ _ _ _ _ _ _ _ _ _ _ q => q.elim, fun _ _ _ _ _ q => q.elim, fun _ _ _ _ _ q => q.elim, fun _ _ _ _ _ _ _ _ _ _ _ _ _ q => q.elim⟩
end
theorem ps_tryH {X : Cx} {x n m : Str} {Pa : Addr} {i j : Nat} {body : List Stmt} {np mp np2 ap pos pos' : Pos} {tb : WX → TS} {Wout : WX}
    (hs : X.stack = X.env :: X.outer) (hf : X.env.frame = some X.env.locals) (hex : X.ex = []) (hN : X.N.Nodup) (hi : X.N[i]? = some n) (hj : X.N[j]? = some m) (hij : i ≠ j) (hln : X.env.kindOf n = some .local) (hlm : X.env.kindOf m = some .local) (hc : Names X x (.ref Pa)) (tk : Takes X Wout)
    (hb : ∀ (W : WX) (pn : List (Addr × Obj)) (xe : Value → Shared → Prop), Takes (X.tr pn xe) W → PassesOwn (model X.prog X.w) X.A X.env xe → PSs (X.tr pn xe) body (tb W)) (hdn : (n == ("__debug__" : Str)) = false := by decide) (hcd : (n == ("__classdict__" : Str)) = false := by decide)
    (hsw : swapsWith (.Name n np2) (some (.Name m mp)) ap.line X.env = pure false := by rfl) :
    PS X (.Try body [.ExceptHandler (some (.Name x np)) (some n) [.Assign [.Name m mp] (.Name n np2) ap] pos'] [] [] pos) (tTryH X.K (.ref Pa) i j tb Wout) := ps_try_hold hs hf hex hN hi hj hij hln hlm hc tk hb hdn hcd hsw
/-- the end of a law with tables -/
theorem walk_tabs {l : PySem.W.OpenLaw} {n k : Nat} {q : Program} {loose : List Str} {XP : (Str → Option Value) → Heap → Prop} {YP : World → Heap → Prop} {d : DefRec} {K : Params → PySem.W.Frag} {x : Str}
    (hn : l.most = some n) (hn2 : n ≤ sizeLine) (hdf : d.params.defaults = []) (hr : Room k callerA) (hY : ∀ (w : World) (h : Heap), YP w h → (K w.params).In h)
    (F : ∀ (w : World) (mg : Str → Option Value) (fa : Addr) (h : Heap), (K w.params).In h → h.Ns mainGlobals mg → mg d.name = some (.ref fa) →
      ∃ (fd : FuncData) (cs : List (Str × Addr × Addr)) (sp : Sp), (∀ t ∈ cs, PySem.W.tabIn (K w.params) t.1 = some t.2 ∧ (K w.params).lookup t.2.2 = none ∧ ((recsOf q).find? (fun e => e.name == t.1)).isSome = true) ∧ (∀ (s : Shared) (u : Value), BindsTo s fd ⟨[u], []⟩ [(x, u)]) ∧
        (∀ (H : Hp) (a : Addr) (ns : List Int), ns.length ≤ n → (∀ t ∈ cs, H t.2.2 = some (.tbl #[])) → SqL (K w.params) H a (ns.map V.int) → sp [.ref a] H (fun v _ => v = .bl true) fun _ _ _ => False) ∧
        ∀ base : Heap, (K w.params).In base → base.Ns mainGlobals mg → (∀ t ∈ cs, LamX.TabB base mg t.2.1 t.2.2) → FnOk l.prog w (K w.params) mg base CX0 k fa fd [x] sp) :
    PySem.W.WalkO q loose XP YP l.row.toRowW d [] (fun f vs => PySem.call f vs) := by
  refine Att.attach_callB hn hdf (fun w s₀ s₁ mg mb fa o pm cd doc a vs ns G Y ho hd hcd hmg hobj hints hlen hbits hg => ?_)
  have KX := hY w _ Y
  obtain ⟨fd, cs, sp, hcs, hb, hsp, hF⟩ := F w mg fa _ KX G.T.g hmg
  have tb : ∀ t ∈ cs, PySem.W.CodeHd s₁.heap t.2.1 t.2.2 ∧ s₁.heap.get? t.2.2 = some (PySem.W.tabObj #[]) := fun t ht => by
    obtain ⟨h1, _, h3⟩ := hcs t ht
    obtain ⟨d', hd'⟩ := Option.isSome_iff_exists.mp h3
    exact PySem.W.tab_of G.T KX hd' h1
  have mem : ∀ p ∈ cs.map (·.2), ∃ t ∈ cs, t.2 = p := fun p hp => List.mem_map.mp hp
  refine LamX.law_callTs (cs := cs.map (·.2)) (CX := CX0) KX G.T.g G.T.b G.T.builtins G.T.nolimit hg (fun p hp => ?_) (fun p hp => ?_) (fun p hp => ?_) G.T.bmain hobj hints (Nat.le_trans hlen hn2) hr (fun base hK hN hT => hF base hK hN fun t ht => hT _ (List.mem_map.mpr ⟨t, ht, rfl⟩)) hb
    (fun H hH hS => hsp H a ns hlen (fun t ht => hH _ (List.mem_map.mpr ⟨t, ht, rfl⟩)) hS) fun H e s' z => z
  · obtain ⟨t, ht, rfl⟩ := mem p hp
    exact (tb t ht).2
  · obtain ⟨t, ht, rfl⟩ := mem p hp
    exact (hcs t ht).2.1
  · obtain ⟨t, ht, rfl⟩ := mem p hp
    exact (tb t ht).1
/-- the code of a def whose table is known -/
theorem code_of {K : PySem.W.Frag} {x : Str} {c P f : Addr} {fd : FuncData} {oc : Value} {od : Option Addr} {osl : Array (Option Value)} (ht : PySem.W.tabIn K x = some (c, P)) (hn : PySem.W.nsIn K mainGlobals x = some (some (.ref f))) (hl : K.lookup f = some ⟨oc, od, .func fd, osl⟩) : fd.code = .ref c := by
  unfold PySem.W.tabIn at ht
  rw [hn] at ht
  simp only [hl] at ht
  split at ht
  · rename_i c₂ hc
    split at ht
    · split at ht
      · cases ht
        exact hc
      · cases ht
    · cases ht
  · cases ht
end Dl
-- part D19
set_option Elab.async false
set_option linter.all false
set_option maxRecDepth 100000
set_option maxHeartbeats 4000000
namespace Dl
open PySem PySem.Spec PyProof.Rows L2 Evl RZ
variable [LawTabs]
theorem pe_lamQ {X : Cx} {gd : Bool} {k kl : Nat} {g : Addr} {fd : FuncData} {ps : List Str} {sp : (Hp → VK → XK → Prop) → Addr → Sp} (cap : List Nat) (q : Str) {x : Str} {c P : Addr} {p lpos pos : Pos} {params : Arguments} {body : Expr} {scope : Scope} {tb : XK → TE} {es : List Expr} {ta : TA} (F : FnLk X.prog X.w X.K X.mg X.base gd k kl g fd ps sp) (hgd : gd = true → X.A.guards = some []) (hr : Room k X.A) (hg : Gl X x) (hm : X.mg x = some (.ref g)) (hk : PySem.W.keepIn X.K (.ref g) = true) (hb : Binds X.K fd ps [])
    (TB : LamX.TabB X.base X.mg c P) (hcode : X.env.code = .ref c) (L : LamX.LamS X.env.scope scope) (hdef : defaultsOf params X.env = ([], []))
    (hbind : ∀ (q : Str) (cl : List (Str × Addr)) (pm cv ctv : Value), bindArgs (PySem.W.kla_fn "<lambda>" q params body scope cl pm cv ctv) ⟨[], []⟩ = pure [])
    (hbody : ∀ (A : Around) (outer : List Env) (s : Shared) (H : Hp) (E : XK) (f c' : Addr), Room kl (A.deeper (LamX.lamEnv X scope s.heap.objs.size f c')) → PE (LamX.lamCx X A outer s H E scope f c') body (tb E)) (ha : PA X es ta) (hq : X.env.qual ++ "<lambda>" = q := by rfl)
    (hdb : (x == ("__debug__" : Str)) = false := by decide) (hst : starEach (.Lambda params body scope lpos :: es) X.env = (false, eval (.Lambda params body scope lpos) X.env) :: starEach es X.env := by rfl) (hpl : (backTo pos (starEach es X.env)).any (·.1) = false := by rfl) :
    PE X (.Call (.Name x p) (.Lambda params body scope lpos :: es) [] pos) (tLamR cap P q tb sp ta) := hq ▸ pe_lamR cap F hgd hr hg hm hk hb TB hcode L hdef hbind hbody ha hdb hst hpl
/-! ### the facts of the errors' classes, out of the written part -/
theorem along_ve (K : PySem.W.Frag) : PySem.W.alongIn K "__init__" PlE.veB = some (some (.builtin "ValueError.__init__")) := by kernel_rfl
section
variable {K : PySem.W.Frag} {D f1 C : Addr} {nm q : Str} {N : Addr} {bs sub : List Value} {sn : List Str} {ab : Bool} {col : Option Bool} {dd : Option Addr} {k0 k1 k2 k3 k5 : Option Value}
theorem heir_mk (xL : K.lookup C = some (excClassObj nm q C N bs [.ref D, .type "ValueError", .type "Exception", .type "BaseException", .type "object"] true sn sub ab col dd k0 k1 k2 k3 k5 "ValueError.__new__")) (sa : PySem.W.findIn K (.ref C) "__setattr__" = some (some (.builtin "object.__setattr__")))
    (ga : PySem.W.findIn K (.ref C) "__getattribute__" = some (some (.builtin "BaseException.__getattribute__"))) (gg : PySem.W.findIn K (.ref C) "__getattr__" = some none) (nb : PySem.W.findIn K (.ref C) "value" = some none) (iC : PySem.W.findIn K (.ref C) "__init__" = some (some (.ref f1))) (tI : PySem.W.typeIn K (.ref f1) = some (.type "function"))
    (kC : PySem.W.keepIn K (.ref C) = true) (eC : PySem.W.subIn K (.ref C) (.type "BaseException") = some true) (tC : PySem.W.typeIn K (.ref C) = some (.type "type")) (hC : PySem.W.hasDictIn K C = true) (cl : PySem.W.findIn K (.ref C) "__class__" = some (some (.builtin "object.__class__"))) (mo : PySem.W.mroIn K C (.type "object") = some true)
    (vB : PySem.W.subIn K (.ref C) (.type "ValueError") = some true) (ip : PySem.W.isClsIn K C = true) (sR : PySem.W.subIn K (.ref C) (.ref D) = some true) (ne : (C == D) = false)
    (hn : PySem.W.specialIn K (.builtin "object.__class__") "__get__" = some (some (.builtin "getset_descriptor.__get__"))) (ht : PySem.W.takesIn K (.builtin "object.__class__") = some true) : PlE.Heir K D f1 C ∧ ExcK K C := by
  have hne : C ≠ D := by simpa using ne
  refine ⟨⟨⟨⟨nm, q, N, bs, _, sn, sub, ab, col, dd, k0, k1, k2, k3, k5, xL, rfl⟩, sa, eC, tC, kC⟩, iC, tI, sR, nb, ?_, vB, ?_⟩, ⟨ip, ga, gg, eC, cl, hn, ht, mo, hC, nb⟩⟩
  · unfold PySem.W.ks_superIn PySem.W.clsIn
    rw [xL]
    show PySem.W.alongIn K "__init__" (([Value.ref C, .ref D, .type "ValueError", .type "Exception", .type "BaseException", .type "object"].dropWhile (· != .ref D)).drop 1) = _
    have e : ([Value.ref C, .ref D, .type "ValueError", .type "Exception", .type "BaseException", .type "object"].dropWhile (· != .ref D)).drop 1 = PlE.veB := by
      rw [List.dropWhile_cons, if_pos (by simp [hne]), List.dropWhile_cons, if_neg (by simp)]
      rfl
    rw [e]
    exact along_ve K
  · unfold PySem.W.excInitIn
    rw [xL]
    show (C == C && "ValueError.__new__" == "ValueError.__new__" && !false && PySem.W.excTail PlE.veB [.ref D, .type "ValueError", .type "Exception", .type "BaseException", .type "object"]) = true
    rw [show (C == C) = true from by simp]
    rfl
theorem base_mk {P : Program} {mg : Str → Option Value} {h : Heap} (X : K.In h) (G : h.Ns mainGlobals mg) {oc : Value} {od : Option Addr} {doc pm : Value} {an : Option Addr} {cda cc : Addr} {ct : Value} {osl : Array (Option Value)} {p1 p2 a1 a2 a3 a4 a5 a6 b1 b2 b3 b4 : Pos} {ccl : Value} {cdd : Option Addr} {vs : Array Value} {ccs : Array (Option Value)} {file : Str} {tf : Tok} {cl : Value} {cld : Option Addr} {csl : Array (Option Value)}
    (h1 : (a3.endLine == a5.line) = true) (l : K.lookup f1 = some ⟨oc, od, .func (PySem.W.ksFn "__init__" "PlayError.__init__" (PlE.argsI p1 p2) (PlE.bodyI a1 a2 a3 a4 a5 a6 b1 b2 b3 b4) PlE.scopeI .none .none doc pm an (.ref cda) ct cc), osl⟩) (c : PySem.W.codeIn K (.ref cda) "PlayError.__init__" = true)
    (lc : K.lookup cda = some ⟨ccl, cdd, .fields vs, ccs⟩) (hv : vs[2]? = some (.str file tf)) (hf : ((P.main.file : Str) == file) = true) (lcc : K.lookup cc = some ⟨cl, cld, .cell (some (.ref D)), csl⟩) (ip : PySem.W.isClsIn K D = true) (zs : PySem.W.nsIn K mainGlobals "super" = some none) (tp : (P.main.scope.names.lookup ("super" : Str)).isSome = false)
    (st : PySem.W.nsIn K cStatics "thirdparty.any" = some none) : PlE.Base K P mg D f1 :=
  ⟨⟨oc, od, doc, pm, an, cda, cc, ct, osl, p1, p2, a1, a2, a3, a4, a5, a6, b1, b2, b3, b4, ccl, cdd, vs, ccs, file, tf, cl, cld, csl, h1, l, c, lc, hv, hf, lcc⟩, Option.isSome_iff_exists.mp ip, PySem.W.mg_none_of X G zs, tp, st⟩
end
def AllRaw {α : Type} (p : α → Prop) : List α → Prop
  | [] => True
  | a :: l => p a ∧ AllRaw p l
theorem AllRaw.mem {α : Type} {p : α → Prop} : ∀ {l : List α}, AllRaw p l → ∀ a ∈ l, p a
  | [], _, a, h => by cases h
  | b :: l, hh, a, h => by
    rcases List.mem_cons.mp h with e | h
    · rw [e]
      exact hh.1
    · exact AllRaw.mem hh.2 a h
section
variable {K : PySem.W.Frag}
theorem plk_of (rows : List (Str × Addr)) (h1 : AllRaw (fun r => ClsAt K r.1 r.2 ∧ ExcK K r.2 ∧ PySem.W.typeIn K (.ref r.2) = some (.type "type")) rows) (h2 : AllRaw (fun r => AllRaw (fun t => PySem.W.kitOne K (.ref r.2) (.ref t.2) = some (eqN r.1 t.1)) rows) rows) : PlK K (rows.map (·.1)) := by
  have at_ : ∀ n ∈ rows.map (·.1), ∀ C, ClsAt K n C → ∃ r ∈ rows, r.1 = n ∧ r.2 = C := fun n hn C hC => by
    obtain ⟨r, hr, e⟩ := List.mem_map.mp hn
    have q := (h1.mem r hr).1
    rw [e] at q
    exact ⟨r, hr, e, q.one hC⟩
  refine ⟨fun n hn C hC => ?_, fun m hm n hn C D hC hD => ?_, fun n hn D hD => ?_⟩
  · obtain ⟨r, hr, _, rfl⟩ := at_ n hn C hC
    exact (h1.mem r hr).2.1
  · obtain ⟨r, hr, rfl, rfl⟩ := at_ m hm C hC
    obtain ⟨t, ht, rfl, rfl⟩ := at_ n hn D hD
    exact (h2.mem r hr).mem t ht
  · obtain ⟨r, hr, _, rfl⟩ := at_ n hn D hD
    exact ⟨(h1.mem r hr).2.1.hcl, (h1.mem r hr).2.2⟩
theorem heirs_of {P : Addr} (rows : List (Str × Addr)) (h1 : AllRaw (fun r => ClsAt K r.1 r.2 ∧ PySem.W.subIn K (.ref r.2) (.ref P) = some true) rows) (eP : PySem.W.subIn K (.ref P) (.type "BaseException") = some true) (iP : PySem.W.isClsIn K P = true) (tP : PySem.W.typeIn K (.ref P) = some (.type "type")) : HeirsP K P (rows.map (·.1)) := ⟨fun n hn C hC => by
  obtain ⟨r, hr, e⟩ := List.mem_map.mp hn
  have q := (h1.mem r hr).1
  rw [e] at q
  have e2 := q.one hC
  have s := (h1.mem r hr).2
  rw [e2] at s
  have iP' : (PySem.W.clsIn K P).isSome = true := iP
  unfold PySem.W.exmOne PySem.W.kitCls
  rw [eP]
  simp only [beq_self_eq_true, if_true]
  rw [iP', tP]
  simpa using s⟩
theorem kit_same {C : Addr} {n : Str} : PySem.W.kitOne K (.ref C) (.ref C) = some (eqN n n) := by
  unfold PySem.W.kitOne eqN
  rw [if_pos (by simp), decide_eq_true rfl]
theorem kit_ne {C D : Addr} {a b : String} (ne : (C == D) = false) (iD : PySem.W.isClsIn K D = true) (tD : PySem.W.typeIn K (.ref D) = some (.type "type")) (s : PySem.W.subIn K (.ref C) (.ref D) = some false) (hab : decide (a = b) = false) : PySem.W.kitOne K (.ref C) (.ref D) = some (eqN (Str.ofString a) (Str.ofString b)) := by
  rw [eqN_of, hab]
  have h : C ≠ D := by simpa using ne
  have iD' : (PySem.W.clsIn K D).isSome = true := iD
  unfold PySem.W.kitOne PySem.W.kitCls
  rw [if_neg (by simp [h])]
  show (if ((PySem.W.clsIn K D).isSome && PySem.W.typeIn K (.ref D) == some (.type "type")) = true then PySem.W.subIn K (.ref C) (.ref D) else none) = some false
  rw [iD', tD]
  simpa using s
theorem tab_in {x : Str} {f c P : Addr} {fd : FuncData} {oc cc : Value} {od cd : Option Addr} {osl csl : Array (Option Value)} {vs : Array Value} (hn : PySem.W.nsIn K mainGlobals x = some (some (.ref f))) (hl : K.lookup f = some ⟨oc, od, .func fd, osl⟩) (hc : fd.code = .ref c) (lc : K.lookup c = some ⟨cc, cd, .fields vs, csl⟩) (hv : vs[11]? = some (.ref P)) : PySem.W.tabIn K x = some (c, P) := by
  unfold PySem.W.tabIn
  rw [hn]
  simp only [hl, hc, lc, hv]
end
end Dl
-- part D20
set_option Elab.async false
set_option linter.all false
set_option maxRecDepth 100000
set_option maxHeartbeats 4000000
namespace Dl
open PySem PySem.Spec PyProof.Rows L2 Evl RZ
variable [LawTabs]
/-! ### defs that may ask for a repr: nothing is being shown when they are called -/
structure FnG (P : Program) (w : World) (K : PySem.W.Frag) (mg : Str → Option Value) (base : Heap) (k : Nat) (g : Addr) (fd : FuncData) (ps : List Str) (sp : Sp) : Prop where
  len : ∀ vs H Q E, sp vs H Q E → vs.length = ps.length
  run : ∀ (A : Around) (outer : List Env) (s : Shared) (H : Hp) (args : Args) (us : List Value) (vs : List V) (Q : VK), Room k A → A.guards = some [] → Env0 P w K mg base A outer s H → BindsTo s fd args (ps.zip us) → Vals vs us →
    sp vs H Q (fun _ _ _ => False) → codeAny (model P w) A (.call (.ref g) args) (CR CX0 outer P w H s Q fun _ _ _ => False) s
section
variable {P : Program} {w : World} {K : PySem.W.Frag} {mg : Str → Option Value} {base : Heap}
theorem FnG.mono {j k : Nat} {g : Addr} {fd : FuncData} {ps : List Str} {sp : Sp} (F : FnG P w K mg base j g fd ps sp) (h : j ≤ k) : FnG P w K mg base k g fd ps sp :=
  ⟨F.len, fun A outer s H args us vs Q hr => F.run A outer s H args us vs Q (hr.mono h)⟩
theorem okG {x qual : Str} {st : Stmt} {g : Addr} {fd : FuncData} {N ps : List Str} {k : Nat} {sp : Sp} (F : Fun K x qual st g fd) (S : FnScope N ps (defScope st)) (len : ∀ vs H Q E, sp vs H Q E → vs.length = ps.length)
    (hbody : ∀ (cdv : Value) (A : Around) (outer : List Env) (s : Shared) (H : Hp) (vs : List V) (Q : VK) (E : XK), fd.code = cdv → Room k (A.deeper (envOfC qual (defScope st) s.heap.objs.size g cdv)) → (A.deeper (envOfC qual (defScope st) s.heap.objs.size g cdv)).guards = some [] → sp vs H Q E →
      ∃ t, PSs (cxR P w K mg base N qual (defScope st) g cdv A outer s H) (defBody st) t ∧ t { nx := fun _ H' => Q .non H', rt := Q } (L2.start N vs) H) : FnG P w K mg base (k + 1) g fd ps sp := by
  obtain ⟨oc, od, kV, doc, pm, an, cdv, ct, osl, rfl, lk, hcd⟩ := F.ex
  refine ⟨len, fun A outer s H args us vs Q hr hgd e0 hb r hsp => ?_⟩
  refine LamX.run_ofS lk hcd S hr e0 hb r (len _ _ _ _ hsp) fun hr' => ?_
  obtain ⟨t, h, q⟩ := hbody cdv A outer s H vs Q _ rfl hr' hgd hsp
  exact ⟨t, h.nox, q⟩
theorem okGD {x qual : Str} {st : Stmt} {f : Addr} {fd : FuncData} {N ps : List Str} {k : Nat} {G : Fn} (F : Fun K x qual st f fd) (S : FnScope N ps (defScope st)) (len : ∀ ds n QD, G ds n QD → ds.length = ps.length)
    (body : ∀ (cdv : Value) (A : Around) (outer : List Env) (s : Shared) (H : Hp), fd.code = cdv → Room k (A.deeper (envOfC qual (defScope st) s.heap.objs.size f cdv)) → (A.deeper (envOfC qual (defScope st) s.heap.objs.size f cdv)).guards = some [] →
      ∃ t, PSs (cxR P w K mg base N qual (defScope st) f cdv A outer s H) (defBody st) t ∧ ∃ ws, SV K (fun _ _ _ _ => False) t ws ∧ ∀ ds n QD, G ds n QD → bodyW N.length ws ds n QD) : FnG P w K mg base (k + 1) f fd ps (spF K G) := by
  refine okG F S (fun vs H Q E h => ?_) (fun cdv A outer s H vs Q E hcd hr hgd h => ?_)
  · obtain ⟨p, F, ds, n, QD, _, r, hG, _⟩ := h
    rw [r.length]
    exact len ds n QD hG
  · obtain ⟨t, ht, ws, sv, hb⟩ := body cdv A outer s H hcd hr hgd
    refine ⟨t, ht, ?_⟩
    obtain ⟨p, F, ds, n, QD, hh, r, hG, hQ⟩ := h
    exact sv.run (D := { nx := fun S => QD .non S.n, rt := QD }) (ok_start hh r) (hb ds n QD hG) ⟨fun F' H' σ' S' ok q => hQ _ F' H' .non S'.n ok.hp .non q, fun v F' H' d n' g r' q => hQ v F' H' d n' g r' q,
      fun _ _ _ _ _ _ _ _ _ _ _ q => q.elim, fun _ _ _ _ _ q => q.elim, fun _ _ _ _ _ q => q.elim, fun _ _ _ _ _ _ _ _ _ _ _ _ _ q => q.elim⟩
theorem okGP {x qual : Str} {st : Stmt} {f : Addr} {fd : FuncData} {N ps : List Str} {k : Nat} {G : Fn} (F : Fun K x qual st f fd) (S : FnScope N ps (defScope st)) (len : ∀ ds n QD, G ds n QD → ds.length = ps.length)
    (body : ∀ (cdv : Value) (A : Around) (outer : List Env) (s : Shared) (H : Hp), fd.code = cdv → Room k (A.deeper (envOfC qual (defScope st) s.heap.objs.size f cdv)) → (A.deeper (envOfC qual (defScope st) s.heap.objs.size f cdv)).guards = some [] →
      ∃ t, PSs (cxR P w K mg base N qual (defScope st) f cdv A outer s H) (defBody st) t ∧ ∃ ws, SV K (fun _ _ _ _ => False) t ws ∧ ∀ ds n QD, G ds n QD → bodyP N.length ws ds n QD) : FnG P w K mg base (k + 1) f fd ps (spF K G) := by
  refine okG F S (fun vs H Q E h => ?_) (fun cdv A outer s H vs Q E hcd hr hgd h => ?_)
  · obtain ⟨p, F, ds, n, QD, _, r, hG, _⟩ := h
    rw [r.length]
    exact len ds n QD hG
  · obtain ⟨t, ht, ws, sv, hb⟩ := body cdv A outer s H hcd hr hgd
    refine ⟨t, ht, ?_⟩
    obtain ⟨p, F, ds, n, QD, hh, r, hG, hQ⟩ := h
    exact sv.run (D := { nx := fun S => ∃ m, S.n ≤ m ∧ m ≤ 1000000 ∧ QD .non m, rt := fun d k => ∃ m, k ≤ m ∧ m ≤ 1000000 ∧ QD d m }) (ok_start hh r) (hb ds n QD hG)
      ⟨fun F' H' σ' S' ok q => by obtain ⟨m, m1, m2, q⟩ := q; exact hQ _ F' H' .non m (ok.hp.bump m1 m2) .non q, fun v F' H' d n' g r' q => by obtain ⟨m, m1, m2, q⟩ := q; exact hQ v F' H' d m (g.bump m1 m2) r' q,
      fun _ _ _ _ _ _ _ _ _ _ _ q => q.elim, fun _ _ _ _ _ q => q.elim, fun _ _ _ _ _ q => q.elim, fun _ _ _ _ _ _ _ _ _ _ _ _ _ q => q.elim⟩
end
section
variable {X : Cx} {k : Nat} {f : Addr} {fd : FuncData} {ps : List Str} {sp : Sp} {E : XK} {x : Str} {p pos : Pos} {e : Expr} {es : List Expr} {t : TA}
theorem pe_callG (F : FnG X.prog X.w X.K X.mg X.base k f fd ps sp) (hgd : X.A.guards = some []) (hr : Room k X.A) (hg : Gl X x) (hm : X.mg x = some (.ref f)) (hk : PySem.W.keepIn X.K (.ref f) = true) (hb : Binds X.K fd ps []) (ha : PA X (e :: es) t)
    (hdb : (x == ("__debug__" : Str)) = false := by decide) (he : starEach (e :: es) X.env = (false, eval e X.env) :: starEach es X.env := by rfl) (hpl : (backTo pos (starEach es X.env)).any (·.1) = false := by rfl) :
    PE X (.Call (.Name x p) (e :: es) [] pos) (tCall sp [] (fun _ _ _ => False) t) := by
  refine ⟨fun pins s σ H Q I h => ?_⟩
  refine wpAny_Call_Name_kw (ld_glob I hg hm ?_ hdb)
  refine PySem.W.callWith_K (h₀ := X.base) I.ok.mod.kin hk (thn (ha.run pos pins s σ H _ I h) fun us s1 ⟨vs, H1, I1, r, q⟩ => ⟨I1.kIn, ?_⟩) he hpl
  have q' : sp (vs ++ []) H1 Q (fun _ _ _ => False) := q
  rw [List.append_nil] at q'
  have hl : us.length = ps.length := by
    rw [← r.length]
    exact F.len _ _ _ _ q'
  refine wpAny_call (codeAny_mono (F.run X.A X.stack s1 H1 ⟨us, []⟩ us vs Q hr hgd I1.env0 (by have := hb s1 us I1.kIn (by simpa using hl); simpa using this) r q') fun r s' hq => ?_)
  cases r with
  | error e => exact (pass0 pins σ H1 s1 e s' I1 hq)
  | ok fl =>
    cases fl with
    | ret u => exact I1.after hq
    | next => exact False.elim hq
    | brk => exact False.elim hq
    | cont => exact False.elim hq
end
/-! ### the end of a law whose defs ask for reprs -/
/-- what is tracked at the law's call: the script's list (if it is not of the written part) and the empty tables -/
def lawHp (K : PySem.W.Frag) (tb : List Addr) (a : Addr) (u : HO) : Hp := fun b => if b ∈ tb then some (.tbl #[]) else if b = a ∧ K.lookup a = none then some u else none
section
variable {K : PySem.W.Frag} {tb : List Addr} {a : Addr} {u : HO}
theorem lawHp_tb {b : Addr} (h : b ∈ tb) : lawHp K tb a u b = some (.tbl #[]) := if_pos h
theorem lawHp_some {b : Addr} {o : HO} (h : lawHp K tb a u b = some o) : (b ∈ tb ∧ o = .tbl #[]) ∨ (b ∉ tb ∧ b = a ∧ K.lookup a = none ∧ o = u) := by
  unfold lawHp at h
  split at h
  · rename_i q
    exact .inl ⟨q, (Option.some.inj h).symm⟩
  · rename_i q
    split at h
    · rename_i q2
      exact .inr ⟨q, q2.1, q2.2, (Option.some.inj h).symm⟩
    · cases h
theorem lawHp_none {b : Addr} (h1 : b ∉ tb) (h2 : b = a → K.lookup a ≠ none) : lawHp K tb a u b = none := by
  unfold lawHp
  rw [if_neg h1, if_neg fun z => h2 z.1 z.2]
end
theorem law_callG {P : Program} {w : World} {K : PySem.W.Frag} {mg mb : Str → Option Value} {k : Nat} {fa a : Addr} {cs : List (Addr × Addr)} {fd : FuncData} {x : Str} {sp : Sp} {s₁ : Shared} {vs : List Value} {ns : List Int}
    (KX : K.In s₁.heap) (hns : s₁.heap.Ns mainGlobals mg) (hb : s₁.heap.Ns builtinsNs mb) (hbb : ∀ x : Str, x ≠ "__name__" → mb x = bootBuiltins x) (hlim : s₁.heap.NoLimit) (hg : s₁.gens = #[])
    (hT : ∀ p ∈ cs, s₁.heap.get? p.2 = some { cls := .none, data := .fields #[] }) (nT : ∀ p ∈ cs, K.lookup p.2 = none) (C : ∀ p ∈ cs, PySem.W.CodeHd s₁.heap p.1 p.2)
    (hbm : ∃ (bm : Addr) (ob : Obj), mg "__builtins__" = some (.ref bm) ∧ bm ≠ builtinsNs ∧ s₁.heap.get? bm = some ob ∧ ob.cls = .type "module" ∧ ob.dict = some builtinsNs ∧ ob.data = .plain)
    (ha : s₁.heap.get? a = some { cls := .type "list", data := .seq vs.toArray }) (hi : IntsAre vs ns) (hl : ns.length ≤ sizeLine) (hr : Room k callerA)
    (F : ∀ base : Heap, K.In base → base.Ns mainGlobals mg → (∀ p ∈ cs, LamX.TabB base mg p.1 p.2) → FnG P w K mg base k fa fd [x] sp) (hbind : ∀ (s : Shared) (u : Value), BindsTo s fd ⟨[u], []⟩ [(x, u)])
    (hsp : ∀ H : Hp, (∀ p ∈ cs, H p.2 = some (.tbl #[])) → SqL K H a (ns.map V.int) → sp [.ref a] H (fun v _ => v = .bl true) fun _ _ _ => False) :
    codeAny (model P w) callerA (.call (.ref fa) ⟨[.ref a], []⟩) (fun r s' => r = .ok (.ret (.bool true)) ∧ OldK s₁.heap s'.heap ∧ s'.os = s₁.os ∧ AllBare s'.gens) s₁ := by
  have lenV : vs.length = ns.length := hi.length
  let tb := cs.map (·.2)
  have inTb : ∀ p ∈ cs, p.2 ∈ tb := fun p hp => List.mem_map.mpr ⟨p, hp, rfl⟩
  have tbObj : ∀ b ∈ tb, s₁.heap.get? b = some { cls := .none, data := .fields #[] } := fun b hm => by
    obtain ⟨p, hp, rfl⟩ := List.mem_map.mp hm
    exact hT p hp
  have aTb : a ∉ tb := fun z => by
    have e := (tbObj a z).symm.trans ha
    cases e
  let H := lawHp K tb a (.frz { cls := .type "list", data := .seq vs.toArray } (.lst (ns.map V.int)))
  -- what neither is the script's list nor a table is not tracked
  have free : ∀ {b : Addr} {o : Obj}, s₁.heap.get? b = some o → (∀ vs n, o.data ≠ .seq vs n) → o.data ≠ .fields #[] → H b = none := fun {b o} e h1 h2 => by
    refine lawHp_none (fun hm => ?_) fun hba => ?_
    · rw [tbObj b hm] at e
      cases e
      exact (h2 rfl).elim
    · rw [hba, ha] at e
      cases e
      exact (h1 _ _ rfl).elim
  have hok : HOk P w H s₁.heap := fun b o z => by
    rcases lawHp_some z with ⟨hm, rfl⟩ | ⟨_, rfl, _, rfl⟩
    · exact tbObj b hm
    · exact ⟨ha, by rw [List.length_map]; exact hl, vs, _, vals_ints hi, ha⟩
  have nsB : ∀ {b : Addr} {m : Str → Option Value}, s₁.heap.Ns b m → (hidT s₁.heap H).Ns b m := fun {b m} ⟨o, es, ep, e, d, r⟩ =>
    ⟨o, es, ep, hidT_get e (free e (fun vs n z => by rw [d] at z; cases z) fun z => by rw [d] at z; cases z), d, r⟩
  have kB : K.In (hidT s₁.heap H) := fun b o e => hidT_get (KX b o e) (lawHp_none (fun hm => by
    obtain ⟨p, hp, ep⟩ := List.mem_map.mp hm
    rw [← ep, nT p hp] at e
    cases e) fun hba z => by
      rw [hba, z] at e
      cases e)
  have mB : L2.Mod K mg (hidT s₁.heap H) := ⟨kB, nsB hns, ⟨mb, nsB hb, hbb⟩, hlim.imp fun mc q => ⟨nsB q.1, q.2⟩⟩
  have TB : ∀ p ∈ cs, LamX.TabB (hidT s₁.heap H) mg p.1 p.2 := fun p hp => by
    refine ⟨?_, ?_, fun z => ?_⟩
    · obtain ⟨o, us, file, tf, flags, tg, inF, text, tt, e1, r1, r2, r3, r⟩ := C p hp
      refine ⟨o, us, file, tf, flags, tg, inF, text, tt, hidT_get e1 (free e1 (fun vs n z => by rw [r2] at z; cases z) fun z => ?_), r1, r2, r3, r⟩
      rw [r2] at z
      cases z
      simp at r3
    · obtain ⟨bm, ob, b1, b2, b3, b4, b5, b6⟩ := hbm
      refine ⟨bm, ob, b1, b2, fun q => ?_, fun q => ?_, hidT_get b3 (free b3 (fun vs n z => by rw [b6] at z; cases z) fun z => by rw [b6] at z; cases z), b4, b5, b6⟩
      · obtain ⟨o, es, ep, e, hd, _⟩ := hns
        rw [← q, b3] at e
        cases e
        rw [b6] at hd
        cases hd
      · have e := b3
        rw [q, hT p hp] at e
        cases e
        cases b6
    · obtain ⟨o, es, ep, e, hd, _⟩ := hns
      rw [z, hT p hp] at e
      cases e
      cases hd
  have hS : SqL K H a (ns.map V.int) := by
    cases hk : K.lookup a with
    | none => exact .inl (.inr ⟨_, (if_neg aTb).trans (if_pos ⟨rfl, hk⟩)⟩)
    | some o =>
      have e := KX a o hk
      rw [ha] at e
      cases e
      exact .inr ⟨_, vs.toArray, _, hk, rfl, rfl, rfl, by rw [List.size_toArray, lenV]; exact hl, by simpa using vals_ints hi⟩
  have e0 : Env0 P w K mg (hidT s₁.heap H) callerA [] s₁ H := ⟨rfl, mB, fun b o e => of_hidT e, Nat.le_of_eq (hidT_size _ _), trivial, fun b hm => (nomatch (show b ∈ ([] : List Addr) from hm)), hok, .of_eq hg⟩
  refine codeAny_mono ((F _ kB (nsB hns) TB).run callerA [] s₁ H ⟨[.ref a], []⟩ [.ref a] [.ref a] _ hr rfl e0 (hbind s₁ (.ref a)) (.cons rfl .nil) (hsp H (fun p hp => lawHp_tb (inTb p hp)) hS)) fun r s' h => ?_
  cases r with
  | error e => exact (show False from h).elim
  | ok fl =>
    cases fl with
    | ret u =>
      obtain ⟨v, H', os, bare, un, hok', hu, rfl⟩ := h
      obtain rfl : u = Value.bool true := hu
      -- the tables have grown, all else stands
      have same : ∀ b o, b ∉ tb → s₁.heap.get? b = some o → s'.heap.get? b = some o := fun b o nb e => by
        cases q : H b with
        | none => exact un.keep b o e q (fun z => (nomatch (show b ∈ ([] : List Addr) from z))) (by simp)
        | some u =>
          rcases lawHp_some q with ⟨z, _⟩ | ⟨_, _, _, rfl⟩
          · exact absurd z nb
          · have e1 := (hok b _ q).1
            have e2 := (hok' b _ (un.frzs b _ _ q)).1
            rw [e1] at e
            cases e
            exact e2
      have more : ∀ p ∈ cs, ∃ m : Array Value, s'.heap.get? p.2 = some { cls := .none, data := .fields m } := fun p hp => by
        obtain ⟨m, z⟩ := un.tbls p.2 #[] (lawHp_tb (inTb p hp))
        exact ⟨_, hok' p.2 _ z⟩
      refine ⟨rfl, ⟨fun b o e => ?_, fun b o e => ?_⟩, os, bare⟩
      · by_cases hm : b ∈ tb
        · obtain ⟨p, hp, rfl⟩ := List.mem_map.mp hm
          obtain ⟨m, z⟩ := more p hp
          rw [hT p hp] at e
          cases e
          exact .inr (.inl ⟨((C p hp).tab (hT p hp)).isCodeTable, rfl, #[], m, rfl, by rw [Array.empty_append]; exact z⟩)
        · exact .inl (same b o hm e)
      · by_cases hm : b ∈ tb
        · obtain ⟨p, hp, rfl⟩ := List.mem_map.mp hm
          obtain ⟨m, z⟩ := more p hp
          exact ⟨_, z⟩
        · exact ⟨o, same b o hm e⟩
    | next => exact (show False from h).elim
    | brk => exact (show False from h).elim
    | cont => exact (show False from h).elim
theorem walk_tabsG {l : PySem.W.OpenLaw} {n k : Nat} {q : Program} {loose : List Str} {XP : (Str → Option Value) → Heap → Prop} {YP : World → Heap → Prop} {d : DefRec} {K : Params → PySem.W.Frag} {x : Str}
    (hn : l.most = some n) (hn2 : n ≤ sizeLine) (hdf : d.params.defaults = []) (hr : Room k callerA) (hY : ∀ (w : World) (h : Heap), YP w h → (K w.params).In h)
    (F : ∀ (w : World) (mg : Str → Option Value) (fa : Addr) (h : Heap), (K w.params).In h → h.Ns mainGlobals mg → mg d.name = some (.ref fa) →
      ∃ (fd : FuncData) (cs : List (Str × Addr × Addr)) (sp : Sp), (∀ t ∈ cs, PySem.W.tabIn (K w.params) t.1 = some t.2 ∧ (K w.params).lookup t.2.2 = none ∧ ((recsOf q).find? (fun e => e.name == t.1)).isSome = true) ∧ (∀ (s : Shared) (u : Value), BindsTo s fd ⟨[u], []⟩ [(x, u)]) ∧
        (∀ (H : Hp) (a : Addr) (ns : List Int), ns.length ≤ n → (∀ t ∈ cs, H t.2.2 = some (.tbl #[])) → SqL (K w.params) H a (ns.map V.int) → sp [.ref a] H (fun v _ => v = .bl true) fun _ _ _ => False) ∧
        ∀ base : Heap, (K w.params).In base → base.Ns mainGlobals mg → (∀ t ∈ cs, LamX.TabB base mg t.2.1 t.2.2) → FnG l.prog w (K w.params) mg base k fa fd [x] sp) :
    PySem.W.WalkO q loose XP YP l.row.toRowW d [] (fun f vs => PySem.call f vs) := by
  refine Att.attach_callB hn hdf (fun w s₀ s₁ mg mb fa o pm cd doc a vs ns G Y ho hd hcd hmg hobj hints hlen hbits hg => ?_)
  have KX := hY w _ Y
  obtain ⟨fd, cs, sp, hcs, hb, hsp, hF⟩ := F w mg fa _ KX G.T.g hmg
  have tb : ∀ t ∈ cs, PySem.W.CodeHd s₁.heap t.2.1 t.2.2 ∧ s₁.heap.get? t.2.2 = some (PySem.W.tabObj #[]) := fun t ht => by
    obtain ⟨h1, _, h3⟩ := hcs t ht
    obtain ⟨d', hd'⟩ := Option.isSome_iff_exists.mp h3
    exact PySem.W.tab_of G.T KX hd' h1
  have mem : ∀ p ∈ cs.map (·.2), ∃ t ∈ cs, t.2 = p := fun p hp => List.mem_map.mp hp
  refine law_callG (cs := cs.map (·.2)) KX G.T.g G.T.b G.T.builtins G.T.nolimit hg (fun p hp => ?_) (fun p hp => ?_) (fun p hp => ?_) G.T.bmain hobj hints (Nat.le_trans hlen hn2) hr (fun base hK hN hT => hF base hK hN fun t ht => hT _ (List.mem_map.mpr ⟨t, ht, rfl⟩)) hb
    (fun H hH hS => hsp H a ns hlen (fun t ht => hH _ (List.mem_map.mpr ⟨t, ht, rfl⟩)) hS)
  · obtain ⟨t, ht, rfl⟩ := mem p hp
    exact (tb t ht).2
  · obtain ⟨t, ht, rfl⟩ := mem p hp
    exact (hcs t ht).2.1
  · obtain ⟨t, ht, rfl⟩ := mem p hp
    exact (tb t ht).1
end Dl
-- part D21
set_option Elab.async false
set_option linter.all false
set_option maxRecDepth 100000
set_option maxHeartbeats 4000000
namespace Dl
open PySem PySem.Spec PyProof.Rows L2 Evl RZ
variable [LawTabs]
/-! ### data and how Python shows it -/
def pyKey : Key → PyData
  | .inl i => .int i
  | .inr x => .str x
mutual
def pyD : Dat → PyData
  | .bl b => .bool b
  | .int i => .int i
  | .str z => .str ⟨z.toArray⟩
  | .tup l => .tuple (pyDs l)
  | .lst l => .list (pyDs l)
  | .dct l => .dict (pyK l)
  | _ => .none
def pyDs : List Dat → List PyData
  | [] => []
  | d :: l => pyD d :: pyDs l
def pyK : List (Key × Dat) → List (PyData × PyData)
  | [] => []
  | (k, d) :: l => (pyKey k, pyD d) :: pyK l
end
def plKey : Key → Bool
  | .inl i => decide (-1000000000000 < i ∧ i < 1000000000000)
  | .inr x => x.cps.toList.all fun c => decide (c < 1114112)
mutual
/-- plain data: lists and no dicts (true), dicts and no lists (false) -/
def plD (b : Bool) : Dat → Bool
  | .non => true
  | .bl _ => true
  | .int i => decide (-1000000000000 < i ∧ i < 1000000000000)
  | .str z => z.all fun c => decide (c < 1114112)
  | .tup l => plDs b l
  | .lst l => b && plDs b l
  | .dct l => !b && plK b l
  | _ => false
def plDs (b : Bool) : List Dat → Bool
  | [] => true
  | d :: l => plD b d && plDs b l
def plK (b : Bool) : List (Key × Dat) → Bool
  | [] => true
  | (k, d) :: l => plKey k && plD b d && plK b l
end
def szKey : Key → Nat
  | .inl _ => 0
  | .inr x => x.cps.size
mutual
def szD : Dat → Nat
  | .str z => z.length
  | .tup l => szDs l
  | .lst l => szDs l
  | .dct l => szK l
  | _ => 0
def szDs : List Dat → Nat
  | [] => 0
  | d :: l => szD d + 1 + szDs l
def szK : List (Key × Dat) → Nat
  | [] => 0
  | (k, d) :: l => szKey k + szD d + 2 + szK l
end
mutual
def dpD : Dat → Nat
  | .tup l => dpDs l + 1
  | .lst l => dpDs l + 1
  | .dct l => dpK l + 1
  | _ => 0
def dpDs : List Dat → Nat
  | [] => 0
  | d :: l => max (dpD d) (dpDs l)
def dpK : List (Key × Dat) → Nat
  | [] => 0
  | (_, d) :: l => max (dpD d) (dpK l)
end
structure ShOk (d : Dat) : Prop where
  pl : plD true d = true ∨ plD false d = true
  sz : szD d ≤ 100000
  dp : dpD d ≤ 100
def shT (d : Dat) : List Nat := (pyD d).shown.cps.toList
mutual
theorem bulk_eq (b : Bool) : ∀ d : Dat, plD b d = true → (pyD d).bulk = szD d
  | .non, _ => rfl
  | .bl _, _ => rfl
  | .int _, _ => rfl
  | .str z, _ => by simp [pyD, szD, PyData.bulk]
  | .tup l, h => by simpa [pyD, szD, PyData.bulk] using bulks_eq b l (by simpa [plD] using h)
  | .lst l, h => by simpa [pyD, szD, PyData.bulk] using bulks_eq b l (by simp [plD] at h; exact h.2)
  | .dct l, h => by simpa [pyD, szD, PyData.bulk] using bulkK_eq b l (by simp [plD] at h; exact h.2)
theorem bulks_eq (b : Bool) : ∀ l : List Dat, plDs b l = true → PyData.bulkAll (pyDs l) = szDs l
  | [], _ => rfl
  | d :: l, h => by
    simp only [plDs, Bool.and_eq_true] at h
    simp [pyDs, szDs, PyData.bulkAll, bulk_eq b d h.1, bulks_eq b l h.2]
theorem bulkK_eq (b : Bool) : ∀ l : List (Key × Dat), plK b l = true → PyData.bulkKv (pyK l) = szK l
  | [], _ => rfl
  | (k, d) :: l, h => by
    simp only [plK, Bool.and_eq_true] at h
    have e : (pyKey k).bulk = szKey k := by cases k <;> rfl
    simp [pyK, szK, PyData.bulkKv, bulk_eq b d h.1.2, bulkK_eq b l h.2, e]
end
mutual
theorem depth_eq (b : Bool) : ∀ d : Dat, plD b d = true → (pyD d).depth = dpD d
  | .non, _ => rfl
  | .bl _, _ => rfl
  | .int _, _ => rfl
  | .str z, _ => rfl
  | .tup l, h => by simpa [pyD, dpD, PyData.depth] using depths_eq b l (by simpa [plD] using h)
  | .lst l, h => by simpa [pyD, dpD, PyData.depth] using depths_eq b l (by simp [plD] at h; exact h.2)
  | .dct l, h => by simpa [pyD, dpD, PyData.depth] using depthK_eq b l (by simp [plD] at h; exact h.2)
theorem depths_eq (b : Bool) : ∀ l : List Dat, plDs b l = true → PyData.depthAll (pyDs l) = dpDs l
  | [], _ => rfl
  | d :: l, h => by
    simp only [plDs, Bool.and_eq_true] at h
    simp [pyDs, dpDs, PyData.depthAll, depth_eq b d h.1, depths_eq b l h.2]
theorem depthK_eq (b : Bool) : ∀ l : List (Key × Dat), plK b l = true → PyData.depthKv (pyK l) = dpK l
  | [], _ => rfl
  | (k, d) :: l, h => by
    simp only [plK, Bool.and_eq_true] at h
    have e : (pyKey k).depth = 0 := by cases k <;> rfl
    simp [pyK, dpK, PyData.depthKv, depth_eq b d h.1.2, depthK_eq b l h.2, e]
end
theorem int_short {i : Int} (h : -1000000000000 < i ∧ i < 1000000000000) : (Str.ofString (toString i)).length ≤ 13 := by
  have := int_text_length_le10 (a := i) (k := 12) (by decide) (by omega)
  rw [PySem.ofString_length]
  omega
theorem int_log {i : Int} (h : -1000000000000 < i ∧ i < 1000000000000) : i.natAbs.log2 < 1920 := by
  by_cases z : i.natAbs = 0
  · rw [z]; decide
  · exact Nat.lt_trans ((Nat.log2_lt z).mpr (show i.natAbs < 2 ^ 40 by omega)) (by decide)
theorem chars_short {l : List Nat} (h : (l.all fun c => decide (c < 1114112)) = true) : (l.all fun c => decide (c < 16 ^ 8)) = true := by
  rw [List.all_eq_true] at h ⊢
  intro c hc
  have := h c hc
  simp only [decide_eq_true_eq] at this ⊢
  omega
theorem key_fits : ∀ {k : Key}, plKey k = true → (pyKey k).leavesShort 13 = true ∧ (pyKey k).showable = true
  | .inl i, h => by
    have h' : -1000000000000 < i ∧ i < 1000000000000 := of_decide_eq_true h
    exact ⟨decide_eq_true (int_short h'), decide_eq_true (int_log h')⟩
  | .inr x, h => ⟨chars_short h, rfl⟩
mutual
theorem fits_of (b : Bool) : ∀ d : Dat, plD b d = true → (pyD d).leavesShort 13 = true ∧ (pyD d).showable = true
  | .non, _ => ⟨rfl, rfl⟩
  | .bl _, _ => ⟨rfl, rfl⟩
  | .int i, h => by
    have h' : -1000000000000 < i ∧ i < 1000000000000 := of_decide_eq_true h
    exact ⟨decide_eq_true (int_short h'), decide_eq_true (int_log h')⟩
  | .str z, h => ⟨by simpa [pyD, PyData.leavesShort] using chars_short (show (z.all fun c => decide (c < 1114112)) = true from h), rfl⟩
  | .tup l, h => by simpa [pyD, PyData.leavesShort, PyData.showable] using fitss_of b l (by simpa [plD] using h)
  | .lst l, h => by simpa [pyD, PyData.leavesShort, PyData.showable] using fitss_of b l (by simp [plD] at h; exact h.2)
  | .dct l, h => by simpa [pyD, PyData.leavesShort, PyData.showable] using fitsK_of b l (by simp [plD] at h; exact h.2)
theorem fitss_of (b : Bool) : ∀ l : List Dat, plDs b l = true → PyData.leavesShortAll 13 (pyDs l) = true ∧ PyData.showableAll (pyDs l) = true
  | [], _ => ⟨rfl, rfl⟩
  | d :: l, h => by
    simp only [plDs, Bool.and_eq_true] at h
    obtain ⟨h1, h2⟩ := fits_of b d h.1
    obtain ⟨h3, h4⟩ := fitss_of b l h.2
    simp [pyDs, PyData.leavesShortAll, PyData.showableAll, h1, h2, h3, h4]
theorem fitsK_of (b : Bool) : ∀ l : List (Key × Dat), plK b l = true → PyData.leavesShortKv 13 (pyK l) = true ∧ PyData.showableKv (pyK l) = true
  | [], _ => ⟨rfl, rfl⟩
  | (k, d) :: l, h => by
    simp only [plK, Bool.and_eq_true] at h
    obtain ⟨h1, h2⟩ := fits_of b d h.1.2
    obtain ⟨h3, h4⟩ := fitsK_of b l h.2
    obtain ⟨h5, h6⟩ := key_fits h.1.1
    simp [pyK, PyData.leavesShortKv, PyData.showableKv, h1, h2, h3, h4, h5, h6]
end
mutual
theorem noDict_of : ∀ d : Dat, plD true d = true → (pyD d).hasDict = false
  | .non, _ => rfl
  | .bl _, _ => rfl
  | .int _, _ => rfl
  | .str _, _ => rfl
  | .tup l, h => by simpa [pyD, PyData.hasDict] using noDicts_of l (by simpa [plD] using h)
  | .lst l, h => by simpa [pyD, PyData.hasDict] using noDicts_of l (by simpa [plD] using h)
  | .dct l, h => by simp [plD] at h
theorem noDicts_of : ∀ l : List Dat, plDs true l = true → PyData.hasDictAll (pyDs l) = false
  | [], _ => rfl
  | d :: l, h => by
    simp only [plDs, Bool.and_eq_true] at h
    simp [pyDs, PyData.hasDictAll, noDict_of d h.1, noDicts_of l h.2]
end
theorem ShOk.more {d : Dat} (h : ShOk d) : (pyD d).showable = true ∧ (pyD d).depth ≤ 100 ∧ (pyD d).shown.length ≤ sizeLine := by
  have key : ∀ b, plD b d = true → (pyD d).showable = true ∧ (pyD d).depth ≤ 100 ∧ (pyD d).shown.length ≤ sizeLine := fun b hb => by
    obtain ⟨h1, h2⟩ := fits_of b d hb
    refine ⟨h2, by rw [depth_eq b d hb]; exact h.dp, ?_⟩
    have := PyData.shown_le_bulk 13 (by decide) (pyD d) h1
    rw [bulk_eq b d hb] at this
    have := h.sz
    rw [sizeLine_eq]
    omega
  rcases h.pl with q | q
  · exact key true q
  · exact key false q
/-! ### what the heap says of plain data -/
section
variable {X : Cx} {pins : List (Addr × Obj)} {σ : L2.St} {H F : Hp} {s : Shared} {p : Amb}
mutual
theorem reads_of (I : Inv X pins σ H s) (e : Ex F H) (b : Bool) : ∀ {v : V} {d : Dat}, Rep X.K p F v d → plD b d = true → ∀ {u : Value}, RelV v u → ∃ as, Reads s.heap u (pyD d) as ∧ (b = false → sysModules ∉ as)
  | _, _, .non, _, u, r => by
    obtain rfl : u = Value.none := r
    exact ⟨[], .none, fun _ => by simp⟩
  | _, _, .bl c, _, u, r => by
    obtain rfl : u = Value.bool c := r
    exact ⟨[], .bool c, fun _ => by simp⟩
  | _, _, .int i, _, u, r => by
    obtain ⟨t, rfl⟩ := r
    exact ⟨[], .int i t, fun _ => by simp⟩
  | _, _, .str z, _, u, r => by
    obtain ⟨t, rfl⟩ := r
    exact ⟨[], by simpa [pyD] using Reads.str z t, fun _ => by simp⟩
  | _, _, .tup (a := a) h rs, hp, u, r => by
    obtain rfl : u = Value.ref a := r
    obtain ⟨its, rv, ⟨o, ho, hc, n, hd⟩, _⟩ := I.tuple (ex_t e h)
    obtain ⟨as, h1, h2⟩ := readss_of I e b rs (by simpa [plD] using hp) rv
    exact ⟨as, by simpa [pyD] using Reads.tuple ho hc hd (by simpa using h1), h2⟩
  | _, _, .lst (a := a) h rs, hp, u, r => by
    obtain rfl : u = Value.ref a := r
    obtain ⟨_, its, n, rv, ho⟩ : ObjOk X.prog X.w H s.heap a (.lst _) := I.hok a _ (e _ _ h)
    have hp' := Bool.and_eq_true_iff.mp (show (b && plDs b _) = true by simpa [plD] using hp)
    obtain ⟨as, h1, h2⟩ := readss_of I e b rs hp'.2 rv
    refine ⟨a :: as, by simpa [pyD] using Reads.list ho rfl rfl (by simpa using h1), fun z => ?_⟩
    rw [hp'.1] at z
    cases z
  | _, _, .dct (a := a) h rs, hp, u, r => by
    obtain rfl : u = Value.ref a := r
    obtain ⟨_, na, kvs, rk, o, es, ep, ho, hx, hd, _, hpr, _⟩ : ObjOk X.prog X.w H s.heap a (.dK _) := I.hok a _ (e _ _ h)
    have hp' := Bool.and_eq_true_iff.mp (show (!b && plK b _) = true by simpa [plD] using hp)
    obtain ⟨as, h1, h2, h3⟩ := readsK_of I e b rs hp'.2 rk hpr
    refine ⟨a :: [] ++ as, by simpa [pyD] using Reads.dict ho hx.1 hd h1 h2, fun z => ?_⟩
    have na' : a ≠ sysModules := by simpa using na
    simp only [List.cons_append, List.nil_append, List.mem_cons, not_or]
    exact ⟨fun q => na' q.symm, h3 z⟩
  | _, _, .fz h rs, hp, u, r => by simp [plD] at hp
  | _, _, .pot h, hp, u, r => by simp [plD] at hp
  | _, _, .ref a, hp, u, r => by simp [plD] at hp
  | _, _, .ty n, hp, u, r => by simp [plD] at hp
  | _, _, .obj c h g rs, hp, u, r => by simp [plD] at hp
  | _, _, .exc c h g rs, hp, u, r => by simp [plD] at hp
  | _, _, .lam a h, hp, u, r => by simp [plD] at hp
  | _, _, .cls c, hp, u, r => by simp [plD] at hp
theorem readss_of (I : Inv X pins σ H s) (e : Ex F H) (b : Bool) : ∀ {vs : List V} {ds : List Dat}, Reps X.K p F vs ds → plDs b ds = true → ∀ {us : List Value}, Vals vs us → ∃ as, ReadsAll s.heap us (pyDs ds) as ∧ (b = false → sysModules ∉ as)
  | _, _, .nil, _, us, r => by
    cases r
    exact ⟨[], .nil, fun _ => by simp⟩
  | _, _, .cons r1 r2, hp, us, r => by
    simp only [plDs, Bool.and_eq_true] at hp
    cases r with
    | cons q1 q2 =>
      obtain ⟨as, h1, h2⟩ := reads_of I e b r1 hp.1 q1
      obtain ⟨bs, h3, h4⟩ := readss_of I e b r2 hp.2 q2
      exact ⟨as ++ bs, .cons h1 h3, fun z => by simp [h2 z, h4 z]⟩
theorem readsK_of (I : Inv X pins σ H s) (e : Ex F H) (b : Bool) : ∀ {vs : List (Key × V)} {ds : List (Key × Dat)}, RepK X.K p F vs ds → plK b ds = true → ∀ {us : List (Key × Value)} {es : List DictEntry}, KV vs us → Pairs (mixKind X.prog X.w) es us →
    ∃ as, ReadsAll s.heap (es.map (·.key)) ((pyK ds).map (·.1)) [] ∧ ReadsAll s.heap (es.map (·.val)) ((pyK ds).map (·.2)) as ∧ (b = false → sysModules ∉ as)
  | _, _, .nil, _, us, es, r, rp => by
    cases r
    cases rp
    exact ⟨[], .nil, .nil, fun _ => by simp⟩
  | _, _, .cons (k := k) r1 r2, hp, us, es, r, rp => by
    simp only [plK, Bool.and_eq_true] at hp
    cases r with
    | cons q1 q2 =>
      cases rp with
      | @cons en _ _ _ k1 k2 k3 =>
        obtain ⟨e1, e2⟩ := q1
        rw [← k2] at e2
        obtain ⟨as, h1, h2⟩ := reads_of I e b r1 hp.1.2 e2
        obtain ⟨bs, h3, h4, h5⟩ := readsK_of I e b r2 hp.2 q2 k3
        have e1' : k = _ := e1
        rw [← e1'] at k1
        have hk : Reads s.heap en.key (pyKey k) [] := by
          rcases keyIs_shape k1 with ⟨i, t, ek, ev⟩ | ⟨x, t, ek, ev⟩
          · rw [ek, ev]
            exact .int i t
          · rw [ek, ev]
            exact .str x t
        exact ⟨as ++ bs, .cons (as := []) (bs := []) hk h3, .cons h1 h4, fun z => by simp [h2 z, h5 z]⟩
end
/-! ### repr -/
def rRepr (K : PySem.W.Frag) : List V → Hp → VK → Prop := fun xs H Q => ∃ (p : Amb) (F : Hp) (v : V) (d : Dat), xs = [v] ∧ Ex F H ∧ Rep K p F v d ∧ ShOk d ∧ Q (.str (pyD d).shown) H
theorem call_repr {k : Nat} (hgd : X.A.guards = some []) (hr : Room k X.A) : CallR X (.builtin "repr") (rRepr X.K) := by
  intro pins s σ H xs us Q I r h
  obtain ⟨p, F, v, d, rfl, e, rd, hs, q⟩ := h
  obtain ⟨u, rfl, rv⟩ := vals1 r
  obtain ⟨h1, h2, h3⟩ := hs.more
  have hu := hr.un
  have done : ∀ (h' : Heap) (t : Tok) (tk : Nat), (∀ b o, s.heap.get? b = some o → h'.get? b = some o) → EP X pins σ Q (.str (pyD d).shown t) { s with heap := h', toks := tk } := fun h' t tk hk =>
    ⟨.str (pyD d).shown, H, I.kept hk, ⟨t, rfl⟩, q⟩
  have rd2 : ∃ as, Reads s.heap u (pyD d) as ∧ ((pyD d).hasDict = true → sysModules ∉ as) := by
    rcases hs.pl with z | z
    · obtain ⟨as, g1, g2⟩ := reads_of I e true rd z rv
      exact ⟨as, g1, fun w => by rw [noDict_of d z] at w; cases w⟩
    · obtain ⟨as, g1, g2⟩ := reads_of I e false rd z rv
      exact ⟨as, g1, fun _ => g2 rfl⟩
  obtain ⟨as, g1, g2⟩ := rd2
  generalize pyD d = y at *
  cases g1 with
  | none => exact P.repr_of_none (done s.heap _ _ fun _ _ z => z)
  | bool b => exact P.repr_of_bool (done s.heap _ _ fun _ _ z => z)
  | int i t => exact P.repr_of_int (of_decide_eq_true h1) (done s.heap _ _ fun _ _ z => z)
  | str x t => exact P.repr_of_str (done s.heap _ _ fun _ _ z => z) h3
  | list a1 a2 a3 a4 => exact repr_of_reads' (.list a1 a2 a3 a4) h1 g2 hgd (by omega) (fun _ _ z => z) (fun h' t tk hk => done h' t tk hk) h3
  | tuple a1 a2 a3 a4 => exact repr_of_reads' (.tuple a1 a2 a3 a4) h1 g2 hgd (by omega) (fun _ _ z => z) (fun h' t tk hk => done h' t tk hk) h3
  | dict a1 a2 a3 a4 a5 => exact repr_of_reads' (.dict a1 a2 a3 a4 a5) h1 g2 hgd (by omega) (fun _ _ z => z) (fun h' t tk hk => done h' t tk hk) h3
theorem reprK (K : PySem.W.Frag) {k : Nat} (hgd : X.A.guards = some []) (hr : Room k X.A) (h : X.K = K := by rfl) : CallR X (.builtin "repr") (rRepr K) := h ▸ call_repr hgd hr
end
def aRepr (ds : List Dat) (Q : Dat → Prop) : Prop := as1 ds fun d => ShOk d ∧ Q (.str (shT d))
instance {K : PySem.W.Frag} : BV K (rRepr K) aRepr := .pure fun {p F H QD vs ds Q'} e r hf k => by
  obtain ⟨d, rfl, h1, h2⟩ := as1_of hf
  obtain ⟨v, rfl, rv⟩ := r.one_of
  exact ⟨p, F, v, d, rfl, e, rv, h1, k _ _ (by simpa [shT] using Rep.str (pyD d).shown) h2⟩
end Dl
-- part D22
set_option Elab.async false
set_option linter.all false
set_option maxRecDepth 100000
set_option maxHeartbeats 4000000
namespace Dl
open PySem PySem.Spec PyProof.Rows L2 Evl RZ
variable [LawTabs]
/-! ### values that are told with nothing new made -/
class PuV (K : PySem.W.Frag) (te : TE) (we : outParam (Sx → (Dat → Prop) → Prop)) : Prop where
  run : ∀ {p : Amb} {H0 F0 F H H' : Hp} {σ : L2.St} {S : Sx} {T : List (Addr × List V)} {Q : Dat → Prop} {Q' : VK}, Ok K p H0 F0 F H σ S T → Ex F H' → we S Q → (∀ v d, Rep K p F v d → Q d → Q' v H') → te σ H' Q'
class PuA (K : PySem.W.Frag) (te : TA) (we : outParam (Sx → (List Dat → Prop) → Prop)) : Prop where
  run : ∀ {p : Amb} {H0 F0 F H H' : Hp} {σ : L2.St} {S : Sx} {T : List (Addr × List V)} {Q : List Dat → Prop} {Q' : List V → Hp → Prop}, Ok K p H0 F0 F H σ S T → Ex F H' → we S Q → (∀ vs ds, Reps K p F vs ds → Q ds → Q' vs H') → te σ H' Q'
class BPu (K : PySem.W.Frag) (r : List V → Hp → VK → Prop) (f : outParam (List Dat → (Dat → Prop) → Prop)) : Prop where
  run : ∀ {p : Amb} {F H : Hp} {QD : Dat → Prop} {vs : List V} {ds : List Dat} {Q' : VK}, Ex F H → Reps K p F vs ds → f ds QD → (∀ v d, Rep K p F v d → QD d → Q' v H) → r vs H Q'
def uC (d : Dat) : Sx → (Dat → Prop) → Prop := fun _ Q => Q d
def uVar (i : Nat) : Sx → (Dat → Prop) → Prop := fun S Q => match S.sl[i]? with
  | some (.im d) => Q d
  | _ => False
def uNil : Sx → (List Dat → Prop) → Prop := fun _ Q => Q []
def uCons (a : Sx → (Dat → Prop) → Prop) (b : Sx → (List Dat → Prop) → Prop) : Sx → (List Dat → Prop) → Prop := fun S Q => a S fun d => b S fun ds => Q (d :: ds)
def uCB (f : List Dat → (Dat → Prop) → Prop) (a : Sx → (List Dat → Prop) → Prop) : Sx → (Dat → Prop) → Prop := fun S Q => a S fun ds => f ds Q
section
variable {K : PySem.W.Frag}
instance {v : V} {d : Dat} [c : CV K v d] : PuV K (tC v) (uC d) := ⟨fun {p _ _ F _ _ _ _ _ _ _} ok e h k => k v d (c.rep p F) h⟩
instance {i : Nat} : PuV K (tVar i) (uVar i) := ⟨fun {p H0 F0 F H H' σ S T Q Q'} ok e h k => by
  unfold uVar at h
  split at h
  · rename_i d hd
    obtain ⟨v, h1, h2⟩ := ok.sl i _ hd
    exact ⟨v, h1, k v d h2 h⟩
  · exact h.elim⟩
instance : PuA K tNil uNil := ⟨fun ok e h k => k [] [] .nil h⟩
instance {ta : TE} {tr : TA} {wa : Sx → (Dat → Prop) → Prop} {wr : Sx → (List Dat → Prop) → Prop} [a : PuV K ta wa] [b : PuA K tr wr] : PuA K (tCons ta tr) (uCons wa wr) := ⟨fun ok e h k =>
  a.run ok e h fun v d r q => b.run ok e q fun vs ds rs q2 => k (v :: vs) (d :: ds) (.cons r rs) q2⟩
instance {r : List V → Hp → VK → Prop} {f : List Dat → (Dat → Prop) → Prop} {ta : TA} {wa : Sx → (List Dat → Prop) → Prop} [o : BPu K r f] [a : PuA K ta wa] : PuV K (tCB r ta) (uCB f wa) := ⟨fun ok e h k =>
  a.run ok e h fun vs ds rs q => o.run e rs q k⟩
instance {ns : List Str} [T : PlK K ns] : BPu K (rIsiC K) (aIsiC ns) := ⟨fun e r hf k => isiC_pure e r hf k⟩
/-! ### dicts -/
class DPs (K : PySem.W.Frag) (trs : List (TE × TE)) (ks : outParam (List Key)) (ws : outParam (Sx → (List Dat → Prop) → Prop)) : Prop where
  run : ∀ {p : Amb} {H0 F0 F H H' : Hp} {σ : L2.St} {S : Sx} {T : List (Addr × List V)} {Q : List Dat → Prop} {Q' : List (V × V) → Hp → Prop}, Ok K p H0 F0 F H σ S T → Ex F H' → ws S Q →
    (∀ vs ds, Reps K p F vs ds → ds.length = ks.length → Q ds → Q' ((ks.zip vs).map fun kv => (kV kv.1, kv.2)) H') → tPairs trs σ H' Q'
instance : DPs K [] [] uNil := ⟨fun ok e h k => k [] [] .nil rfl h⟩
instance dps_s {s : Str} {tv : TE} {wv : Sx → (Dat → Prop) → Prop} {trs : List (TE × TE)} {ks : List Key} {ws : Sx → (List Dat → Prop) → Prop} [a : PuV K tv wv] [t : DPs K trs ks ws] : DPs K ((tC (.str s), tv) :: trs) (.inr s :: ks) (uCons wv ws) := ⟨fun ok e h k =>
  a.run ok e h fun v d r q => t.run ok e q fun vs ds rs hl q2 => k (v :: vs) (d :: ds) (.cons r rs) (by rw [List.length_cons, List.length_cons, hl]) q2⟩
theorem putK_new {kvs : List (Key × V)} {k : Key} {v : V} (h : k ∉ kvs.map (·.1)) : putK kvs k v = kvs ++ [(k, v)] := by
  unfold putK
  rw [if_neg]
  simp only [List.any_eq_true, decide_eq_true_eq, not_exists, not_and]
  intro kv hkv e
  exact h (List.mem_map.mpr ⟨kv, hkv, e⟩)
theorem mergeK_new : ∀ (more acc : List (Key × V)), (more.map (·.1)).Nodup → (∀ k ∈ more.map (·.1), k ∉ acc.map (·.1)) → mergeK acc more = acc ++ more
  | [], acc, _, _ => by simp [mergeK]
  | (k, v) :: r, acc, h, hd => by
    simp only [List.map_cons, List.nodup_cons] at h
    have e := putK_new (v := v) (hd k (by simp))
    show mergeK (putK acc k v) r = _
    rw [e, mergeK_new r _ h.2 fun k' hk' => ?_, List.append_assoc]
    · rfl
    · simp only [List.map_append, List.map_cons, List.map_nil, List.mem_append, List.mem_cons, List.not_mem_nil, or_false, not_or]
      exact ⟨hd k' (by simp [hk']), fun z => h.1 (by rw [← z]; exact hk')⟩
theorem repK_zip {p : Amb} {F : Hp} : ∀ {ks : List Key} {vs : List V} {ds : List Dat}, Reps K p F vs ds → RepK K p F (ks.zip vs) (ks.zip ds)
  | [], _, _, _ => by simpa using RepK.nil
  | _ :: _, _, _, .nil => by simpa using RepK.nil
  | _ :: _, _, _, .cons r rs => .cons r (repK_zip rs)
theorem zip_keys {ks : List Key} {vs : List V} (h : vs.length = ks.length) : (ks.zip vs).map (·.1) = ks := by
  rw [List.map_fst_zip]
  omega
/-- {}, never written -/
def wDNew : WE := fun S Q => Q (.dct []) S
instance ev_dnew : EV K tDNewK wDNew := ⟨fun {p H0 F0 F H σ S T Q Q'} ok hw k => by
  intro a ha
  exact k _ _ _ _ _ (ok.lay (o := .dK []) ha) (Ex.new (ok.hp.freeF ha)) (.dct upd_same .nil) hw⟩
/-- {k: v, ..}, never written -/
def wDisp (ks : List Key) (ws : Sx → (List Dat → Prop) → Prop) : WE := fun S Q => ks.Nodup ∧ ks.length ≤ 15 ∧ ws S fun ds => Q (.dct (ks.zip ds)) S
instance ev_disp {trs : List (TE × TE)} {ks : List Key} {ws : Sx → (List Dat → Prop) → Prop} [t : DPs K trs ks ws] : EV K (tDisp trs) (wDisp ks ws) := ⟨fun {p H0 F0 F H σ S T Q Q'} ok hw k => by
  obtain ⟨h1, h2, hw⟩ := hw
  intro a ha
  have eF := ok.hp.freeF ha
  have e0 : Ex F (upd H a (.dK [])) := fun b o z => by
    rw [upd_ne (ne_of_none z eF)]
    exact ok.hp.fh b o z
  refine t.run ok e0 hw fun vs ds r hl q => ⟨upd_same, ks.zip vs, rfl, ?_, ?_⟩
  · have := List.length_zip (l₁ := ks) (l₂ := vs)
    omega
  · have hv : vs.length = ks.length := by rw [r.length]; exact hl
    rw [upd_upd, mergeK_new _ _ (by rw [zip_keys hv]; exact h1) (by simp), List.nil_append]
    have x := Ex.new (o := HO.dK (ks.zip vs)) eF
    exact k _ _ _ _ _ (ok.lay (o := .dK (ks.zip vs)) ha) x (.dct upd_same (repK_zip (r.mono x))) q⟩
/-! ### xs.pop(e), xs a list of one's own -/
def tPopAt (K : PySem.W.Frag) (i : Nat) (te : TE) : TE := tBM K "list" rPopAt (tVar i) (tCons te tNil)
def wPopAt (i : Nat) (we : WE) : WE := fun S Q =>
  match S.sl[i]? with
  | some (.ow _) => we S fun d S1 => match S1.sl[i]?, d with
    | some (.ow l), .int j => ∃ (m : Nat) (x : Dat), j = m ∧ l[m]? = some x ∧ m ≤ 1000000 ∧ Q x ⟨S1.sl.set i (.ow (l.eraseIdx m)), S1.n⟩
    | _, _ => False
  | _ => False
theorem Reps.erase {p : Amb} {F : Hp} : ∀ {vs : List V} {ds : List Dat} (m : Nat), Reps K p F vs ds → Reps K p F (vs.eraseIdx m) (ds.eraseIdx m)
  | _, _, _, .nil => .nil
  | _, _, 0, .cons r rs => rs
  | _, _, m + 1, .cons r rs => .cons r (Reps.erase m rs)
theorem Reps.atN {p : Amb} {F : Hp} : ∀ {vs : List V} {ds : List Dat} {m : Nat} {d : Dat}, Reps K p F vs ds → ds[m]? = some d → ∃ v, vs[m]? = some v ∧ Rep K p F v d
  | _, _, _, _, .nil, h => by simp at h
  | _, _, 0, _, .cons r rs, h => by
    simp only [List.getElem?_cons_zero, Option.some.injEq] at h
    subst h
    exact ⟨_, rfl, r⟩
  | _, _, m + 1, _, .cons r rs, h => by
    rw [List.getElem?_cons_succ] at h ⊢
    exact Reps.atN rs h
instance ev_popAt {i : Nat} {te : TE} {we : WE} [a : EV K te we] : EV K (tPopAt K i te) (wPopAt i we) := ⟨fun {p H0 F0 F H σ S T Q Q'} ok hw k => by
  unfold wPopAt at hw
  split at hw
  · rename_i ds0 hd
    obtain ⟨l, vs, h1, h2, h3, h4, h5⟩ := ok.sl i _ hd
    show tBM K "list" rPopAt (tVar i) (tCons te tNil) σ H Q'
    refine ⟨_, h1, .inl ⟨rfl, vs, sq_of h4⟩, a.run ok hw fun v F1 H1 S1 d ok1 e1 r1 q1 => ?_⟩
    split at q1
    · rename_i ds j hd1
      obtain ⟨m, x, rfl, hx, hm, q⟩ := q1
      cases r1
      obtain ⟨l', ws, g1, g2, g3, g4⟩ := ok1.updS hd1
      rw [h1] at g1
      cases g1
      obtain ⟨y, hy, ry⟩ := Reps.atN g3 hx
      have hlt : m < ws.length := (List.getElem?_eq_some_iff.mp hy).1
      refine ⟨l, ws, m, m, y, rfl, rfl, g2, by omega, by omega, ?_, hy, k y _ _ _ x (g4 _ _ (g3.erase m)) e1 ry q⟩
      unfold seqIndex?
      simp
      omega
    · exact q1.elim
  · exact hw.elim⟩
/-! ### str(i) -/
def intT (i : Int) : List Nat := (Str.ofString (toString i)).cps.toList
def rStrI : List V → Hp → VK → Prop := fun xs H Q => ∃ i, xs = [.int i] ∧ i.natAbs.log2 < 1920 ∧ Q (.str (toString i)) H
def aStrI (ds : List Dat) (Q : Dat → Prop) : Prop := as1 ds fun d => match d with
  | .int i => (-1000000000000 < i ∧ i < 1000000000000) ∧ Q (.str (intT i))
  | _ => False
theorem strIK {X : Cx} : CallR X (.type "str") rStrI := call_str_int
instance : BV K rStrI aStrI := .pure fun {p F H QD vs ds Q'} e r hf k => by
  obtain ⟨d, rfl, h⟩ := as1_of hf
  obtain ⟨v, rfl, rv⟩ := r.one_of
  cases d with
  | int i =>
    cases rv
    exact ⟨i, rfl, int_log h.1, k _ _ (.str _) h.2⟩
  | _ => exact h.elim
/-! ### x.upper(), of letters -/
def tUpper (te : TE) : TE := fun σ H Q => te σ H fun v H1 => ∃ z : Str, v = .str z ∧ z.length ≤ 5592405 ∧ Q (.str (Txt.upper z)) H1
theorem pe_upperZ {X : Cx} {o : Expr} {to : TE} {p1 p2 : Pos} (ho : PE X o to) (hbase : attributeBase o "upper" X.env (eval o X.env) = eval o X.env := by rfl) (hline : (p1.endLine == p2.line) = true := by decide) : PE X (.Call (.Attribute o "upper" p1) [] [] p2) (tUpper to) := by
  refine ⟨fun pins s σ H Q I h => ?_⟩
  refine J1.ev_upper hbase hline (thn (ho.run pins s σ H _ I h) fun u s1 ⟨v, H1, I1, r, z, ez, hz, q⟩ => ?_)
  subst ez
  obtain ⟨t, rfl⟩ := r
  exact ⟨z, t, rfl, hz, fun t' k => ⟨.str _, H1, I1.tok _, ⟨_, rfl⟩, q⟩⟩
theorem upper_one : Unicode.upperOf 110 = [78] ∧ Unicode.upperOf 102 = [70] ∧ Unicode.upperOf 115 = [83] := by decide +kernel
theorem upper_lets (z : List Nat) (h : ∀ c ∈ z, c = 110 ∨ c = 102 ∨ c = 115) : (Txt.upper ⟨z.toArray⟩).cps.toList = z.map (· - 32) := by
  obtain ⟨u1, u2, u3⟩ := upper_one
  show (placed ⟨z.toArray⟩ fun _ c => Unicode.upperOf c).toList = _
  unfold placed
  rw [Array.toList_flatten, Array.toList_mapIdx]
  have e : ∀ (z : List Nat), (∀ c ∈ z, c = 110 ∨ c = 102 ∨ c = 115) → ∀ f : Nat → Nat → Array Nat, (∀ i, ∀ c ∈ z, f i c = #[c - 32]) → ((z.mapIdx f).map Array.toList).flatten = z.map (· - 32) := by
    intro z
    induction z with
    | nil => intro _ f _; rfl
    | cons c z ih =>
      intro hz f hf
      rw [List.mapIdx_cons, List.map_cons, List.flatten_cons, List.map_cons, hf 0 c List.mem_cons_self, ih (fun c hc => hz c (List.mem_cons_of_mem _ hc)) _ fun i c hc => hf (i + 1) c (List.mem_cons_of_mem _ hc)]
      rfl
  refine e z h _ fun i c hc => ?_
  rcases h c hc with rfl | rfl | rfl
  · show (Unicode.upperOf 110).toArray = _
    rw [u1]
  · show (Unicode.upperOf 102).toArray = _
    rw [u2]
  · show (Unicode.upperOf 115).toArray = _
    rw [u3]
def wUpper (we : WE) : WE := fun S Q => we S fun d S1 => match d with
  | .str z => (∀ c ∈ z, c = 110 ∨ c = 102 ∨ c = 115) ∧ z.length ≤ 1000000 ∧ Q (.str (z.map (· - 32))) S1
  | _ => False
instance ev_upperW {te : TE} {we : WE} [a : EV K te we] : EV K (tUpper te) (wUpper we) := ⟨fun {p H0 F0 F H σ S T Q Q'} ok hw k =>
  a.run ok hw fun v F1 H1 S1 d ok1 e1 r1 q1 => by
    cases d with
    | str z =>
      obtain ⟨h1, h2, q⟩ := q1
      have ev := r1.str_of
      subst ev
      refine ⟨_, rfl, ?_, k _ F1 H1 S1 _ ok1 e1 ?_ q⟩
      · show z.toArray.size ≤ _
        rw [List.size_toArray]
        omega
      · have := Rep.str (K := K) (p := p) (H := F1) (Txt.upper ⟨z.toArray⟩)
        rwa [upper_lets z h1] at this
    | _ => exact q1.elim⟩
theorem pe_popAt {X : Cx} {e : Expr} {i : Nat} {te : TE} (h : PE X e (tBM X.K "list" rPopAt (tVar i) (tCons te tNil))) : PE X e (tPopAt X.K i te) := h
/-! x = g(f(..)), f raises -/
def wAsgCX (g : Fn) (f : FnX) (wa : WF) (wg : WG) : WS := fun D S => wa S fun ds S1 => f ds S1.n (fun d n1 => g [d] n1 fun d2 n2 => wg d2 ⟨S1.sl, n2⟩ fun S2 => D.nx S2) fun c v n' => D.xq c v ⟨S1.sl, n'⟩
instance sv_asgCX {g : Fn} {f : FnX} {E E' : XK} {ta : TA} {wa : WF} {tg : TG} {ix : List Nat} {wg : WG} [a : AV K ta wa] [b : GV K tg ix wg] : SV K (fun cls d _ H => E cls d H) (tAsg (tCall (spF K g) [] E' (tCons (tCall (spX K f) [] E ta) tNil)) tg) (wAsgCX g f wa wg) := ⟨fun {p H0 F0 F H σ S D D'} ok hw c =>
  a.run ok hw fun vs F1 H1 S1 ds ok1 e1 r1 q1 => callX_run ok1 (by rw [List.append_nil]; exact r1) c q1 fun v F2 H2 d n2 ok2 e2 r2 q2 =>
    ⟨p, F2, [d], n2, _, ok2.hp.self, .cons r2 .nil, q2, fun v3 F3 H3 d3 n3 g3 r3 q3 => b.run (ok2.call g3) r3 q3 fun σ4 S4 ok4 _ _ q4 => c.nx _ _ _ _ ok4 q4⟩⟩
/-! xs + ys, a list of one's own -/
def wCat (wa wb : WE) : WF := fun S Q => wa S fun x S1 => wb S1 fun y S2 => match x, y with
  | .lst l, .lst m => l.length + m.length ≤ 100000 ∧ Q (l ++ m) S2
  | _, _ => False
instance ef_cat {ta tb : TE} {wa wb : WE} [a : EV K ta wa] [b : EV K tb wb] : EF K (tOp (rAddG K) ta tb) (wCat wa wb) := ⟨fun {p H0 F0 F H σ S T Q Q'} ok hw k =>
  a.run ok hw fun x F1 H1 S1 d1 ok1 e1 r1 q1 => b.run ok1 q1 fun y F2 H2 S2 d2 ok2 e2 r2 q2 => by
    cases d1 with
    | lst l =>
      cases d2 with
      | lst m =>
        obtain ⟨a1, vs, rfl, h1, h2⟩ := r1.lst_of
        obtain ⟨b1, ws, rfl, g1, g2⟩ := r2.lst_of
        refine .inr (.inr (.inr ⟨a1, b1, vs, ws, rfl, rfl, ok2.hp.fh _ _ (e2 _ _ h1), ok2.hp.fh _ _ g1, ?_, fun q hq => ?_⟩))
        · have l1 := h2.length
          have l2 := g2.length
          exact line_of (by rw [l1, l2]; omega)
        · exact k q (vs ++ ws) F2 _ S2 (l ++ m) (ok2.layT hq) (e1.trans e2) ((h2.mono e2).append g2) q2.2
      | _ => exact q2.elim
    | _ => exact q2.elim⟩
/-! x or y, of any kind -/
def tOrT (K : PySem.W.Frag) (ta tb : TE) : TE := fun σ H Q => ta σ H fun x H1 => ∃ k, L2.TruV K x H1 k ∧ if k = true then Q x H1 else tb σ H1 Q
theorem pe_orT {X : Cx} {a b : Expr} {rest : List Expr} {ta tb : TE} {pos : Pos} (ha : PE X a ta) (hb : PE X (.BoolOp .Or (b :: rest) pos) tb) : PE X (.BoolOp .Or (a :: b :: rest) pos) (tOrT X.K ta tb) := by
  refine ⟨fun pins s σ H Q I h => ?_⟩
  refine BoolOp_or (thn (ha.run pins s σ H _ I h) fun v s1 ⟨x, H1, I1, r1, k, hk, q1⟩ => ?_)
  refine thn (tru_ok pins s1 σ H1 x v (fun c H2 => c = k ∧ H2 = H1) I1 r1 ⟨k, hk, rfl, rfl⟩) fun c s2 ⟨H2, I2, ec, eH⟩ => ?_
  subst ec eH
  cases c with
  | false => exact hb.run pins s2 σ H2 Q I2 q1
  | true => exact ⟨x, H2, I2, r1, q1⟩
def truD : Dat → Option Bool
  | .non => some false
  | .bl b => some b
  | .tup l => some (!l.isEmpty)
  | .lst l => some (!l.isEmpty)
  | _ => none
def wOrT (wa wb : WE) : WE := fun S Q => wa S fun d S1 => match truD d with
  | some k => if k = true then Q d S1 else wb S1 Q
  | none => False
theorem reps_empty {p : Amb} {F : Hp} {vs : List V} {ds : List Dat} (r : Reps K p F vs ds) : vs.isEmpty = ds.isEmpty := by
  cases r <;> rfl
instance ev_orT {ta tb : TE} {wa wb : WE} [a : EV K ta wa] [b : EV K tb wb] : EV K (tOrT K ta tb) (wOrT wa wb) := ⟨fun {p H0 F0 F H σ S T Q Q'} ok hw k =>
  a.run ok hw fun v F1 H1 S1 d ok1 e1 r1 q1 => by
    have go : ∀ c, L2.TruV K v H1 c → (if c = true then Q d S1 else wb S1 Q) → ∃ k, L2.TruV K v H1 k ∧ if k = true then Q' v H1 else tb σ H1 Q' := fun c hc q => ⟨c, hc, by
      cases c with
      | true => exact k v F1 H1 S1 d ok1 e1 r1 q
      | false => exact b.run ok1 q fun v2 F2 H2 S2 d2 ok2 e2 r2 q2 => k v2 F2 H2 S2 d2 ok2 (e1.trans e2) r2 q2⟩
    cases d with
    | non =>
      cases r1
      exact go false rfl q1
    | bl c =>
      cases r1
      exact go c rfl q1
    | tup l =>
      cases r1 with
      | tup h rs => exact go (!l.isEmpty) (.inr (.inl ⟨_, ex_t ok1.hp.fh h, by rw [reps_empty rs]⟩)) q1
    | lst l =>
      cases r1 with
      | lst h rs => exact go (!l.isEmpty) (.inl ⟨_, sq_of (ok1.hp.fh _ _ h), by rw [reps_empty rs]⟩) q1
    | _ => exact q1.elim⟩
end
end Dl
-- part D23
set_option Elab.async false
set_option linter.all false
set_option maxRecDepth 100000
set_option maxHeartbeats 4000000
namespace Dl
open PySem PySem.Spec PyProof.Rows L2 Evl RZ
variable [LawTabs]
/-! ### d.update(e) -/
def rUpd : V → List V → Hp → VK → Prop := fun x vs H Q => ∃ (a b : Addr) (kvs more : List (Key × V)), x = .ref a ∧ vs = [.ref b] ∧ a ≠ b ∧ H a = some (.dK kvs) ∧ H b = some (.dK more) ∧ kvs.length + more.length ≤ 1000 ∧ Q .non (upd H a (.dK (mergeK kvs more)))
theorem mt_update {X : Cx} : MtM X "dict.update" rUpd := by
  intro pins s σ H x vs v us Q I rx rv h
  obtain ⟨a, b, kvs, more, rfl, rfl, hne, ha, hb, hl, q⟩ := h
  obtain rfl : v = Value.ref a := rx
  obtain ⟨u, rfl, ru⟩ := rv.one
  obtain rfl : u = Value.ref b := ru
  obtain ⟨z1, n1, ws, r1, d1⟩ := dk_of I.hok ha
  obtain ⟨z2, n2, ms, r2, d2⟩ := dk_of I.hok hb
  have l1 := Paired.length r1
  have l2 := Paired.length r2
  have hsz : ws.length + ms.length ≤ sizeLine := by rw [sizeLine_eq]; omega
  refine call_meetsIn PySem.F.slot_dict_update d1.typeIs PySem.F.entry_dict_update (PySem.F.args_dict_update_2 _ _) (meets_dict_update (mixKind X.prog X.w) a b hne n2) ⟨ws, ms, d1, d2, hsz, fun h' hm _ hs => ?_⟩
  have he : ∃ q, h'.get? a = some q := let ⟨q, _, _, hq, _⟩ := hm; ⟨q, hq⟩
  have hz : (mergeK kvs more).length ≤ sizeLine := by
    have := length_mergeK more kvs
    rw [sizeLine_eq]; omega
  exact ⟨.non, _, d_write I (by rw [ha]; exact True.intro) hs he (dk_new hz n1 (r2.merge r1) hm), rfl, q⟩
section
variable {K : PySem.W.Frag} {W : WX}
/-! d = {k: v, ..}, written later -/
def tOwnD (trs : List (TE × TE)) (i : Nat) : TS := tAsg (tDisp trs) (gName i)
def wOwnD (ks : List Key) (ws : Sx → (List Dat → Prop) → Prop) (i : Nat) : WS := fun D S => i < S.sl.length ∧ ks.Nodup ∧ ks.length ≤ 15 ∧ ws S fun ds => D.nx ⟨S.sl.set i (.od (ks.zip ds)), S.n⟩
instance sv_ownD {trs : List (TE × TE)} {ks : List Key} {ws : Sx → (List Dat → Prop) → Prop} {i : Nat} [t : DPs K trs ks ws] : SV K W (tOwnD trs i) (wOwnD ks ws i) := ⟨fun {p H0 F0 F H σ S D D'} ok hw c => by
  obtain ⟨hi, h1, h2, hw⟩ := hw
  intro a ha
  have eF := ok.hp.freeF ha
  have e0 : Ex F (upd H a (.dK [])) := fun b o z => by
    rw [upd_ne (ne_of_none z eF)]
    exact ok.hp.fh b o z
  refine t.run ok e0 hw fun vs ds r hl q => ⟨upd_same, ks.zip vs, rfl, ?_, ?_⟩
  · have := List.length_zip (l₁ := ks) (l₂ := vs)
    omega
  · have hv : vs.length = ks.length := by rw [r.length]; exact hl
    rw [upd_upd, mergeK_new _ _ (by rw [zip_keys hv]; exact h1) (by simp), List.nil_append]
    have ok1 := ok.layN (o := .dK (ks.zip vs)) ha
    have ok2 := ok1.setOd (i := i) (ds := ks.zip ds) (ok.hp.free ha) eF upd_same (fun j t q1 q2 q3 => by
      obtain ⟨_, _, o, z, _⟩ := ok.ownAt q1 q2 q3
      rw [ha] at z
      cases z) (repK_zip r)
    exact c.nx _ _ _ _ ok2 q⟩
theorem RepK.keys {p : Amb} {F : Hp} : ∀ {vs : List (Key × V)} {ds : List (Key × Dat)}, RepK K p F vs ds → vs.map (·.1) = ds.map (·.1)
  | _, _, .nil => rfl
  | _, _, .cons r s => by rw [List.map_cons, List.map_cons, RepK.keys s]
theorem RepK.app2 {p : Amb} {F : Hp} : ∀ {vs : List (Key × V)} {ds : List (Key × Dat)} {ws : List (Key × V)} {es : List (Key × Dat)}, RepK K p F vs ds → RepK K p F ws es → RepK K p F (vs ++ ws) (ds ++ es)
  | _, _, _, _, .nil, t => t
  | _, _, _, _, .cons r s, t => .cons r (RepK.app2 s t)
/-- d.update({k: v, ..}) -/
def tUpd (K : PySem.W.Frag) (i : Nat) (trs : List (TE × TE)) : TS := tDrop (tBM K "dict" rUpd (tVar i) (tCons (tDisp trs) tNil))
def wUpd (i : Nat) (ks : List Key) (ws : Sx → (List Dat → Prop) → Prop) : WS := fun D S => match S.sl[i]? with
  | some (.od l) => (l.map (·.1) ++ ks).Nodup ∧ ks.length ≤ 15 ∧ l.length ≤ 900 ∧ ws S fun ds => D.nx ⟨S.sl.set i (.od (l ++ ks.zip ds)), S.n⟩
  | _ => False
instance sv_upd {i : Nat} {trs : List (TE × TE)} {ks : List Key} {ws : Sx → (List Dat → Prop) → Prop} [t : DPs K trs ks ws] : SV K W (tUpd K i trs) (wUpd i ks ws) := ⟨fun {p H0 F0 F H σ S D D'} ok hw c => by
  unfold wUpd at hw
  split at hw
  · rename_i l hd
    obtain ⟨h1, h2, h3, hw⟩ := hw
    obtain ⟨a, kvs, g1, g2, g3, g4⟩ := ok.updD hd
    have hk := g3.keys
    have nk := List.nodup_append.mp h1
    refine ⟨.ref a, g1, .inr (.inr (.inl ⟨rfl, .inl ⟨kvs, g2⟩⟩)), ?_⟩
    intro b hb
    have eF := ok.hp.freeF hb
    have e0 : Ex F (upd H b (.dK [])) := fun c o z => by
      rw [upd_ne (ne_of_none z eF)]
      exact ok.hp.fh c o z
    refine t.run ok e0 hw fun vs ds r hl q => ⟨upd_same, ks.zip vs, rfl, ?_, ?_⟩
    · have := List.length_zip (l₁ := ks) (l₂ := vs)
      omega
    have hv : vs.length = ks.length := by rw [r.length]; exact hl
    have hz := List.length_zip (l₁ := ks) (l₂ := vs)
    have hkl : kvs.length = l.length := by
      have := congrArg List.length hk
      simpa using this
    have ne : a ≠ b := ne_of_none g2 hb
    rw [upd_upd, mergeK_new _ _ (by rw [zip_keys hv]; exact nk.2.1) (by simp), List.nil_append]
    refine ⟨a, b, kvs, ks.zip vs, rfl, rfl, ne, by rw [upd_ne ne]; exact g2, upd_same, by omega, ?_⟩
    rw [mergeK_new _ _ (by rw [zip_keys hv]; exact nk.2.1) (by
      rw [zip_keys hv, hk]
      intro k hk1 hk2
      exact nk.2.2 k hk2 k hk1 rfl)]
    obtain ⟨a', kvs', g1', g2', g3', g4'⟩ := (ok.layN (o := .dK (ks.zip vs)) hb).updD hd
    rw [g1] at g1'
    cases g1'
    exact c.nx _ _ _ _ (g4' _ _ (g3.app2 (repK_zip r))) q
  · exact hw.elim⟩
/-- d, written no more -/
def tOdV (i : Nat) : TE := tVar i
def wOdV (i : Nat) : WE := fun S Q => match S.sl[i]? with
  | some (.im d) => Q d S
  | some (.od ds) => Q (.dct ds) ⟨S.sl.set i (.im (.dct ds)), S.n⟩
  | _ => False
instance ev_odV {i : Nat} : EV K (tOdV i) (wOdV i) := ⟨by
  intro p H0 F0 F H σ S T Q Q' ok hw k
  unfold wOdV at hw
  split at hw
  · rename_i d hd
    obtain ⟨v, hv, r⟩ := ok.sl i _ hd
    exact ⟨v, hv, k v F H S d ok (Ex.refl F) r hw⟩
  · rename_i ds hd
    obtain ⟨a, vs, hv, fa, r, ok'⟩ := ok.frzD hd
    exact ⟨_, hv, k _ _ H _ _ ok' (Ex.new fa) (.dct upd_same (r.mono (Ex.new fa))) hw⟩
  · exact hw.elim⟩
theorem ps_ownD {X : Cx} {st : Stmt} {trs : List (TE × TE)} {i : Nat} (h : PS X st (tAsg (tDisp trs) (gName i))) : PS X st (tOwnD trs i) := h
theorem ps_upd {X : Cx} {st : Stmt} {trs : List (TE × TE)} {i : Nat} (h : PS X st (tDrop (tBM X.K "dict" rUpd (tVar i) (tCons (tDisp trs) tNil)))) : PS X st (tUpd X.K i trs) := h
theorem pe_odV {X : Cx} {e : Expr} {i : Nat} (h : PE X e (tVar i)) : PE X e (tOdV i) := h
/-! == with an empty list, of lists that hold anything -/
def rEqE0 (K : PySem.W.Frag) : R2 := fun x y H Q => ∃ (a b : Addr) (xs : List V), x = .ref a ∧ y = .ref b ∧ SqL K H a xs ∧ SqL K H b [] ∧ xs ≠ [] ∧ Q (.bl false) H
theorem op_eqE0 {X : Cx} (hu : X.A.units < cLine) : OpR X (compareOp .Eq) (rEqE0 X.K) := by
  intro pins s σ H x y v u Q I rx ry h
  obtain ⟨a, b, xs, rfl, rfl, h1, h2, hne, q⟩ := h
  obtain rfl : v = Value.ref a := rx
  obtain rfl : u = Value.ref b := ry
  obtain ⟨i1, r1, ⟨o1, n1, e1, c1, d1, t1⟩, _⟩ := I.list h1
  obtain ⟨i2, r2, ⟨o2, n2, e2, c2, d2, t2⟩, _⟩ := I.list h2
  refine SeqAt.eq_list_lengthsAt (items := i1.toArray) (items2 := i2.toArray) ⟨o1, e1, c1, n1, t1⟩ ⟨o2, e2, c2, n2, t2⟩ ?_ hu ⟨.bl false, H, I, rfl, q⟩
  have l1 := r1.length
  have l2 := r2.length
  have : 0 < xs.length := List.length_pos_iff.mpr hne
  simp only [List.size_toArray, bne_iff_ne, ne_eq]
  simp at l2
  omega
def rEqE (K : PySem.W.Frag) : R2 := fun x y H Q => rEqE0 K x y H Q ∨ rEqG K x y H Q
theorem eqEK {X : Cx} (K : PySem.W.Frag) (u : X.A.units + 64 < cLine) (h : X.K = K := by rfl) : OpR X (compareOp .Eq) (rEqE K) := h ▸ (op_eqE0 (by omega)).or (op_eqG u)
def aEqE : OpD := fun a b Q => match a, b with
  | .lst (_ :: _), .lst [] => Q (.bl false)
  | _, _ => aEq a b Q
instance : OV K (rEqE K) aEqE := ⟨fun {p H0 F0 F H σ S T QD Q' x y a b} ok ra rb hf k => by
  unfold aEqE at hf
  split at hf
  · obtain ⟨a1, vs, rfl, h1, h2⟩ := ra.lst_of
    obtain ⟨b1, ws, rfl, g1, g2⟩ := rb.lst_of
    cases g2
    refine .inl ⟨a1, b1, vs, rfl, rfl, sq_of (ok.hp.fh _ _ h1), sq_of (ok.hp.fh _ _ g1), fun e => ?_, k _ F H _ ok (Ex.refl F) (.bl _) hf⟩
    rw [e] at h2
    cases h2
  · exact .inr ((inferInstance : OV K (rEqG K) aEq).run ok ra rb hf k)⟩
end
end Dl
-- part D24
set_option Elab.async false
set_option linter.all false
set_option maxRecDepth 100000
set_option maxHeartbeats 4000000
namespace Dl
open PySem PySem.Spec PyProof.Rows L2 Evl RZ
variable [LawTabs]
section
variable {K : PySem.W.Frag}
/-! ### a tuple times an int -/
def rMulT (K : PySem.W.Frag) : R2 := fun x y H Q => rRepT K x y H Q ∨ rMulG x y H Q
theorem mulTK {X : Cx} (K : PySem.W.Frag) (h : X.K = K := by rfl) : OpR X (binaryOp .Mult) (rMulT K) := h ▸ op_repT.or op_mulG
def aMulT : OpD := fun a b Q => match a, b with
  | .tup l, .int j => (l ≠ [] ∧ 2 ≤ j ∧ j ≤ 1000 ∧ l.length ≤ 1000) ∧ Q (.tup (repL l j.toNat))
  | _, _ => aMul a b Q
theorem aMulT_t {l : List Dat} {j : Int} {Q : Dat → Prop} : aMulT (.tup l) (.int j) Q = ((l ≠ [] ∧ 2 ≤ j ∧ j ≤ 1000 ∧ l.length ≤ 1000) ∧ Q (.tup (repL l j.toNat))) := rfl
instance : OV K (rMulT K) aMulT := ⟨fun {p H0 F0 F H σ S T QD Q' x y a b} ok ra rb hf k => by
  unfold aMulT at hf
  split at hf
  · rename_i l j
    obtain ⟨⟨h1, h2, h3, h4⟩, f2⟩ := hf
    obtain ⟨a, vs, rfl, g1, g2⟩ := ra.tup_of
    rw [rb.int_of]
    refine .inl ⟨a, j, vs, rfl, rfl, ex_t ok.hp.fh g1, fun e => h1 ?_, h2, h3, by rw [g2.length]; exact h4, fun q hq => ?_⟩
    · subst e
      cases g2
      rfl
    · have e := Ex.new (o := HO.tup ((List.replicate j.toNat vs).flatten)) (ok.hp.freeF hq)
      exact k _ _ _ _ (ok.lay hq) e (.tup (.of upd_same) ((g2.mono e).rep _)) f2
  · exact .inr ((inferInstance : OV K rMulG aMul).run ok ra rb hf k)⟩
end
end Dl
-- part Ea
set_option Elab.async false
set_option linter.all false
set_option maxRecDepth 100000
set_option maxHeartbeats 4000000
namespace Dl
open PySem PySem.Spec PyProof.Rows L2 Evl
variable [LawTabs]

local macro_rules | `(tactic| walk_at "w") => `(tactic| (simp (maxSteps := 3000000) only [↓e_var0, ↓e_var0o, ↓e_varS, ↓e_anyIt, ↓e_par, ↓e_zip, ↓aAdd_i, ↓aAdd_s, ↓aAdd_t, ↓aAdd_l, ↓aMul_i, ↓aMul_s, ↓aMul_l, ↓eqS_i, ↓eqS_s, ↓eqS_b, ↓eqS_nn, ↓eqS_ni, ↓eqS_ns, ↓eqS_nt, ↓eqS_in, ↓eqS_sn, ↓eqS_is, ↓eqS_si, ↓eqS_t, ↓eqS_l, ↓inS_s, ↓inS_t, ↓inS_l, ↓lenD_s, ↓lenD_t, ↓lenD_l, ↓lenD_z, ↓ixD_t, ↓ixD_l, ↓ixD_z, ↓ixD_s, ↓ixD_0, ↓ixD_1, ↓ixD_2, ↓cutDd_s, ↓cutDd_l, ↓cutDd_z, ↓cutDd_t, ↓listD_l, ↓listD_z, ↓itemsD_l, ↓itemsD_t, ↓itemsQ_s, ↓itemsQ_l, ↓itemsQ_z, ↓itemsQ_t, ↓aInt_i, ↓aInt_b, ↓aTupOf_l, ↓aTupOf_t, ↓anyD_l, ↓anyD_z, ↓anyD_t, ↓anyD_s, ↓joinD_l, ↓joinD_t, ↓zipQ_t, ↓zipQ_l, ↓asB_bl, ↓asI_int, ↓as1_one, ↓as2_two, par2,
  bodyW, bodyF, bodyP, start0, wSeq, wAsg, wOwn, wIfS, wRet, wRetF, wRetO, wRetN, wDrop, wApp, wSet, setW, slotSet, wInc, wNext, wBreak, wContinue, wNever, wC, wOp, wUn, wIf, wTest, wAnd, wOr, wNot, wYes, wAndV, wOrV, wNotV, wChain, wNil, wCons, wTup, wLst, wFz, wCall, wCallF, wCallK, wCallN, wCB, wCBF, wBM, wBM0, tStr, wNone, wPart, wSl, wgN, wgNil, wgCons, wgTup, wFor, wWhile, wLc, wRng1, wRng2, wListRg, wPot, wipeL, restL, keepIm,
  aI0, aII, aNeg, aEq, aNe, aIn, aNotIn, aIsN, aIsNotN, isN, aIsW, aIsNotW, ↓isW_n, ↓isW_bb, ↓isW_nb, wRevS, aAbs, aMax, aMin, aMin1, aMax1, ↓partsD_l, ↓partsD_z, ↓partsD_t, aLen, aSum, aAll, aAny, aIsi, isi, goodTy, aIx, aListOf, idxS,
  List.map_cons, List.map_nil, List.cons_append, List.nil_append, List.length_cons, List.length_nil, List.replicate_succ, List.replicate_zero, Nat.reduceAdd, Nat.reduceSub, List.getElem?_cons_zero, List.getElem?_cons_succ, List.set_cons_zero, List.set_cons_succ, reduceCtorEq, if_true, if_false, Bool.false_eq_true,
  decide_eq_true_eq, kinds, List.contains_cons, List.contains_nil, String.reduceBEq, Bool.or_true, Bool.true_or, Bool.or_false, Bool.false_or, Bool.not_true, Bool.not_false, Bool.not_eq_true, decide_true, decide_false, true_and, and_true, Int.reduceLT, Int.reduceLE, Int.reduceNeg, Nat.reduceLeDiff, cmuL, cmuR, cfdS, cpwS, atI_pos, Int.reduceToNat, isBls_nil, isBls_bl, Option.map_some, Option.some.injEq, exists_eq_left', List.all_cons, List.all_nil, id_eq, Bool.and_true, Bool.true_and, beq_self_eq_true]))


theorem lit_f : ("f" : Str).cps.toList = [102] := by decide +kernel
theorem lit_n : ("n" : Str).cps.toList = [110] := by decide +kernel
theorem lit_s : ("s" : Str).cps.toList = [115] := by decide +kernel
theorem lit_nfs : ("nfs" : Str).cps.toList = [110, 102, 115] := by decide +kernel
theorem lit_ : ("" : Str).cps.toList = [] := by decide +kernel
abbrev Lets (z : List Nat) : Prop := ∀ c ∈ z, c = 110 ∨ c = 102 ∨ c = 115
theorem letsB {z : List Nat} (h : (z.all fun c => decide (c = 110 ∨ c = 102 ∨ c = 115)) = true) : Lets z := fun c hc => of_decide_eq_true (List.all_eq_true.mp h c hc)
/-- data that the law compares part by part: no bools -/
def sim : Nat → Dat → Prop
  | 0, _ => False
  | d + 1, x => match x with
    | .int _ => True
    | .str _ => True
    | .non => True
    | .tup l => l.length ≤ 10000 ∧ ∀ y ∈ l, sim d y
    | _ => False
def G_is (d : Nat) : Fn := fun ds n Q => ∃ x, ds = [x, x] ∧ sim d x ∧ Q (.bl true) n
theorem G_is_zero {ds : List Dat} {n : Nat} {QD : Dat → Nat → Prop} (h : G_is 0 ds n QD) : False := by
  obtain ⟨x, _, h, _⟩ := h
  exact h
def L_is (d : Nat) : WS := (wSeq (wIfS (wTest (wCB aIsi (wCons (wVar 1) (wCons (wC (.ty "tuple")) wNil)))) (wSeq (wAsg (wAndV (wCB aIsi (wCons (wVar 0) (wCons (wC (.ty "tuple")) wNil))) (wOp aEq (wCB aLen (wCons (wVar 0) wNil)) (wCB aLen (wCons (wVar 1) wNil)))) (wgN 2))
  (wRet (wAndV (wVar 2) (wCB aAll (wCons (wFz (wLc (wZip (wCons (wVar 0) (wCons (wVar 1) wNil))) [3, 4] (wgTup 2 (wgCons (wgN 3) (wgCons (wgN 4) wgNil))) wYes (wCall (G_is d) (wCons (wVar 3) (wCons (wVar 4) wNil))))) wNil))))) wNext)
  (wSeq (wIfS (wTest (wCB aIsi (wCons (wVar 1) (wCons (wC (.ty "int")) wNil)))) (wRet (wAndV (wCB aIsi (wCons (wVar 0) (wCons (wC (.ty "int")) wNil))) (wAndV (wNotV (wCB aIsi (wCons (wVar 0) (wCons (wC (.ty "bool")) wNil)))) (wOp aEq (wVar 0) (wVar 1))))) wNext)
  (wRet (wIf (wTest (wCB aIsi (wCons (wVar 1) (wCons (wC (.ty "str")) wNil)))) (wAndV (wCB aIsi (wCons (wVar 0) (wCons (wC (.ty "str")) wNil))) (wOp aEq (wVar 0) (wVar 1))) (wOp aIsW (wVar 0) (wC .non))))))
theorem zip_self {l : List Dat} {d : Dat} (h : d ∈ zipD l l) : ∃ x ∈ l, d = .tup [x, x] := by
  obtain ⟨i, hi⟩ := List.getElem?_of_mem h
  obtain ⟨a, b, h1, h2, h3⟩ := zipD_get hi
  rw [h1] at h2
  cases h2
  exact ⟨a, List.mem_of_getElem? h1, h3⟩
theorem B_is {d : Nat} {ds : List Dat} {n : Nat} {QD : Dat → Nat → Prop} (h : G_is (d + 1) ds n QD) : bodyW 5 (L_is d) ds n QD := by
  obtain ⟨x, rfl, h1, h⟩ := h
  unfold L_is
  cases x with
  | int i =>
    walk_at "w"
    exact h
  | str i =>
    walk_at "w"
    exact h
  | non =>
    walk_at "w"
    exact h
  | tup l =>
    obtain ⟨hl, hs⟩ : l.length ≤ 10000 ∧ ∀ y ∈ l, sim d y := h1
    walk_at "w"
    refine lcW_map (fun _ => .bl true) _ _ (by rw [zipD_len]; omega) (fun e he R R0 hR => ?_) ?_
    · obtain ⟨x, hx, rfl⟩ := zip_self he
      walk_at "w"
      exact ⟨x, rfl, hs x hx, hR⟩
    · obtain ⟨bs, b1, b2⟩ := isBls_all (l := (zipD l l).map fun _ => .bl true) (by simp)
      exact ⟨bs, b1, by rw [b2]; exact h⟩
  | _ => exact h1.elim
def L_is_int : WS := (wRet (wAndV (wCB aIsi (wCons (wVar 0) (wCons (wC (.ty "int")) wNil))) (wAndV (wNotV (wCB aIsi (wCons (wVar 0) (wCons (wC (.ty "bool")) wNil)))) (wChain aLe aLe (wVar 1) (wVar 0) (wVar 2)))))
def G_is_int : Fn := fun ds n Q => ∃ i lo hi, ds = [.int i, .int lo, .int hi] ∧ Q (.bl (decide (lo ≤ i ∧ i ≤ hi))) n
theorem B_is_int {ds : List Dat} {n : Nat} {QD : Dat → Nat → Prop} (h : G_is_int ds n QD) : bodyW 3 L_is_int ds n QD := by
  obtain ⟨i, lo, hi, rfl, h⟩ := h
  unfold L_is_int
  walk_at "w"
  by_cases h1 : lo ≤ i
  · rw [if_pos h1]
    simpa [h1] using h
  · rw [if_neg h1]
    simpa [h1] using h
def L_power : WS := (wSeq (wAsg (wC (.int 1)) (wgN 1))
  (wSeq (wFor (wRng1 (wCons (wVar 0) wNil)) (wgN 2) (wAsg (wOp aMul (wC (.int 3)) (wVar 1)) (wgN 1)))
  (wRet (wVar 1))))
def G_power : Fn := fun ds n Q => ∃ k : Nat, ds = [.int k] ∧ k ≤ 1000000 ∧ Q (.int (3 ^ k)) n
theorem B_power {ds : List Dat} {n : Nat} {QD : Dat → Nat → Prop} (h : G_power ds n QD) : bodyW 3 L_power ds n QD := by
  obtain ⟨k, rfl, hk, h⟩ := h
  unfold L_power
  walk_at "w"
  refine ⟨by omega, by omega, ?_⟩
  refine forW_fold (fun (a : Int) S => ∃ s2, S = ⟨[.im (.int k), .im (.int a), s2], n⟩) (fun a _ => 3 * a) _ 1 _ _ ?_ ⟨_, rfl⟩ ?_
  · rintro d hd a S D ⟨s2, rfl⟩ hk
    walk_at "w"
    exact hk _ ⟨_, rfl⟩
  · rintro S ⟨s2, rfl⟩
    walk_at "w"
    have e : ∀ (l : List Dat) (a : Int), List.foldl (fun (a : Int) (_ : Dat) => 3 * a) a l = a * 3 ^ l.length := by
      intro l
      induction l with
      | nil => intro a; simp
      | cons c z ih =>
        intro a
        rw [List.foldl_cons, ih, List.length_cons, Int.pow_succ, ← Int.mul_assoc, Int.mul_right_comm a, Int.mul_comm 3 a, Int.mul_right_comm]
    rw [e]
    simpa [intsD] using h
def L_cells : WS := (wRet (wFz (wListRg (wCB aMax (wCons (wC (.int 1)) (wCons (wCB aMin (wCons (wVar 1) (wCons (wCB aLen (wCons (wVar 0) wNil)) wNil))) wNil))))))
def G_cells : Fn := fun ds n Q => ∃ (l : List Dat) (m : Int), ds = [.fz l, .int m] ∧ l.length ≤ 63 ∧ 1 ≤ m ∧ m ≤ 63 ∧ ∀ k : Nat, k ≤ 63 → Q (.lst (intsD 0 k)) n
theorem B_cells {ds : List Dat} {n : Nat} {QD : Dat → Nat → Prop} (h : G_cells ds n QD) : bodyW 2 L_cells ds n QD := by
  obtain ⟨l, m, rfl, h1, h2, h3, h⟩ := h
  unfold L_cells
  walk_at "w"
  refine ⟨?_, h _ ?_⟩
  · split <;> split <;> omega
  · split <;> split <;> omega
def L_pot (a b c d e : Int) : WS := (wSeq (wAsg (wIf (wTest (wOp aLt (wVar 1) (wCB aLen (wCons (wVar 0) wNil)))) (wOp aIx (wVar 0) (wVar 1)) (wOp aAdd (wOp aAdd (wOp aMod (wCB aSum (wCons (wSl cutDd (wVar 0) wNone (wPart (wC (.int 1)))) wNil)) (wC (.int 1000003))) (wOp aMul (wC (.int a)) (wVar 1))) (wC (.int b)))) (wgN 2))
  (wSeq (wAsg (wOp aMul (wOp aMod (wCB aInt (wCons (wCB aAbs (wCons (wVar 2) wNil)) wNil)) (wOp aPow (wOp aPow (wC (.int 10)) (wC (.int 60))) (wC (.int 5)))) (wCB aInt (wCons (wOp aGe (wCB aAbs (wCons (wVar 2) wNil)) (wOp aPow (wC (.int 10)) (wC (.int 18)))) wNil))) (wgN 3))
  (wSeq (wAsg (wOp aMod (wCB aInt (wCons (wVar 2) wNil)) (wC (.int 2305843009213693951))) (wgN 4))
  (wRetF (wLst (wCons (wVar 3) (wCons (wOp aMod (wCB aInt (wCons (wOp aAdd (wOp aAdd (wOp aMul (wVar 4) (wC (.int c))) (wOp aMul (wOp aMul (wC (.int d)) (wVar 1)) (wVar 1))) (wC (.int e))) wNil)) (wC (.int 2305843009213693921))) (wCons (wC (.int 0)) wNil))))))))
def G_pot : FnF := fun ds n Q => ∃ (l : List Int) (at_ : Nat), ds = [.fz (l.map Dat.int), .int at_] ∧ at_ ≤ 63 ∧ ∀ x y : Int, 0 ≤ x → 0 ≤ y → y < 2305843009213693952 → Q [.int x, .int y, .int 0] n

theorem isInts_take (l : List Int) : isInts (cutN (l.map Dat.int) none (some 1)) = some (l.take 1) := by
  cases l with
  | nil => rfl
  | cons x l =>
    rw [cutN_hi (by decide)]
    rfl
theorem B_pot {a b c d e : Int} (hc : -1000000 ≤ a ∧ a ≤ 1000000 ∧ -1000000 ≤ c ∧ c ≤ 1000000 ∧ -1000000 ≤ d ∧ d ≤ 1000000) {ds : List Dat} {n : Nat} {QD : List Dat → Nat → Prop} (h : G_pot ds n QD) : bodyF 5 (L_pot a b c d e) ds n QD := by
  obtain ⟨l, k, rfl, hk, h⟩ := h
  have c1 : CPw 10 60 := cpwS (by decide)
  have c2 : CPw (10 ^ (60 : Int).toNat) 5 := cpwW (by decide +kernel)
  have c3 : CPw 10 18 := cpwS (by decide)
  have p2 : (0 : Int) < (10 ^ (60 : Int).toNat) ^ (5 : Int).toNat := by decide +kernel
  have fin : ∀ cc : Int, (wSeq (wAsg (wOp aMul (wOp aMod (wCB aInt (wCons (wCB aAbs (wCons (wVar 2) wNil)) wNil)) (wOp aPow (wOp aPow (wC (.int 10)) (wC (.int 60))) (wC (.int 5)))) (wCB aInt (wCons (wOp aGe (wCB aAbs (wCons (wVar 2) wNil)) (wOp aPow (wC (.int 10)) (wC (.int 18)))) wNil))) (wgN 3))
  (wSeq (wAsg (wOp aMod (wCB aInt (wCons (wVar 2) wNil)) (wC (.int 2305843009213693951))) (wgN 4))
  (wRetF (wLst (wCons (wVar 3) (wCons (wOp aMod (wCB aInt (wCons (wOp aAdd (wOp aAdd (wOp aMul (wVar 4) (wC (.int c))) (wOp aMul (wOp aMul (wC (.int d)) (wVar 1)) (wVar 1))) (wC (.int e))) wNil)) (wC (.int 2305843009213693921))) (wCons (wC (.int 0)) wNil)))))))
      ({ nx := fun _ => False, rt := fun _ _ => False, rf := QD } : Dx) ⟨[.im (.fz (l.map Dat.int)), .im (.int k), .im (.int cc), .un, .un], n⟩ := by
    intro cc
    simp only [wSeq, wAsg, wOp, wCB, wCons, wNil, wVar, wC, aInt, aAbs, as1, asI, aPow, aMod, aII, aI0, List.getElem?_cons_zero, List.getElem?_cons_succ]
    refine ⟨c1, c2, p2, c3, ?_, ?_⟩
    · refine cmuR ?_
      (repeat' split) <;> decide
    · refine ⟨by decide, ?_⟩
      simp only [wRetF, wLst, wCons, wNil, wVar, wC, wOp, wCB, wgN, aMul, aAdd, aInt, aMod, aII, as1, asI, aI0, List.set_cons_succ, List.set_cons_zero, List.getElem?_cons_zero, List.getElem?_cons_succ]
      refine ⟨cmuR (by omega), cmuL (by omega), cmuR (by omega), by decide, by simp, ?_⟩
      refine h _ _ ?_ (Int.emod_nonneg _ (by decide)) (Int.lt_of_lt_of_le (Int.emod_lt_of_pos _ (by decide)) (by decide))
      refine Int.mul_nonneg (Int.emod_nonneg _ (by omega)) ?_
      (repeat' split) <;> decide
  unfold L_pot
  by_cases hl : (k : Int) < (l.map Dat.int).length
  · have hl' : k < l.length := by simpa using hl
    have e : atI (l.map Dat.int) (k : Int) = some (.int l[k]) := by
      rw [atI_pos (by omega)]
      simp [hl']
    have := fin l[k]
    unfold wSeq
    simp only [bodyF, start0, wAsg, wIf, wTest, wOp, wCB, wCons, wNil, wVar, aLt, aI0, aLen, as1, lenD, asI, asB, wgN, aIx, ixD, List.map_cons, List.map_nil, List.length_cons, List.length_nil, Nat.reduceAdd, Nat.reduceSub, List.replicate_succ, List.replicate_zero, List.cons_append, List.nil_append, List.getElem?_cons_zero, List.getElem?_cons_succ, List.set_cons_zero, List.set_cons_succ, decide_eq_true_eq]
    rw [if_pos hl]
    exact ⟨_, e, this⟩
  · unfold wSeq
    simp only [bodyF, start0, wAsg, wIf, wTest, wOp, wCB, wCons, wNil, wVar, wC, aLt, aI0, aLen, as1, lenD, asI, asB, wgN, aIx, ixD, aAdd, aMul, aMod, aII, aSum, wSl, wNone, wPart, cutDd, listD, List.map_cons, List.map_nil, List.length_cons, List.length_nil, Nat.reduceAdd, Nat.reduceSub, List.replicate_succ, List.replicate_zero, List.cons_append, List.nil_append, List.getElem?_cons_zero, List.getElem?_cons_succ, List.set_cons_zero, List.set_cons_succ, decide_eq_true_eq]
    rw [if_neg hl]
    exact ⟨_, isInts_take l, by decide, cmuL (by omega), fin _⟩

def G_take : Fn := fun ds n Q => ∃ u : Int, ds = [.pot, .int u] ∧ 0 < u ∧ u ≤ 1000000 ∧ n + 1 ≤ 1000000 ∧ ∀ r : Int, 0 ≤ r → r < u → Q (.int r) (n + 1)
def L_take (a b c d e : Int) : WS := (wSeq (wIfS (wTest (wOp aGt (wOp aIx (wVar 0) (wC (.int 0))) (wC (.int 0)))) (wSeq (wAsg (wOp aMod (wCB aInt (wCons (wOp aIx (wVar 0) (wC (.int 0))) wNil)) (wVar 1)) (wgN 2))
  (wSeq (wSet 0 (wOp aFd (wOp aIx (wVar 0) (wC (.int 0))) (wVar 1)) (wC (.int 0)))
  (wRet (wVar 2)))) wNext)
  (wSeq (wInc 0)
  (wSeq (wAsg (wOp aIx (wFz (wLst (wCons (wC (.int 2147483647)) (wCons (wC (.int 2147483629)) (wCons (wC (.int 2147483587)) (wCons (wC (.int 2147483579)) (wCons (wC (.int 2147483563)) wNil))))))) (wOp aMod (wCB aInt (wCons (wOp aIx (wVar 0) (wC (.int 2))) wNil)) (wC (.int 5)))) (wgN 3))
  (wSeq (wAsg (wOp aMod (wCB aInt (wCons (wOp aPow (wCB aInt (wCons (wOp aAdd (wOp aAdd (wOp aIx (wVar 0) (wC (.int 1))) (wOp aMul (wOp aMul (wC (.int a)) (wOp aIx (wVar 0) (wC (.int 2)))) (wOp aIx (wVar 0) (wC (.int 2))))) (wC (.int b))) wNil)) (wC (.int 3))) wNil)) (wVar 3)) (wgN 4))
  (wSeq (wAsg (wOp aMod (wCB aInt (wCons (wOp aMul (wVar 4) (wOp aAdd (wOp aMod (wCB aInt (wCons (wVar 4) wNil)) (wC (.int c))) (wOp aMul (wC (.int d)) (wOp aIx (wVar 0) (wC (.int 2)))))) wNil)) (wC (.int 2305843009213693907))) (wgN 4))
  (wRet (wOp aMod (wCB aInt (wCons (wOp aFd (wVar 4) (wC (.int e))) wNil)) (wVar 1))))))))
theorem prime_at (i : Int) (hi : 0 ≤ i ∧ i < 5) : ∃ q : Int, atI [Dat.int 2147483647, .int 2147483629, .int 2147483587, .int 2147483579, .int 2147483563] i = some (.int q) ∧ 0 < q ∧ q ≤ 2147483647 := by
  have : i = 0 ∨ i = 1 ∨ i = 2 ∨ i = 3 ∨ i = 4 := by omega
  rcases this with rfl | rfl | rfl | rfl | rfl
  · exact ⟨2147483647, by rw [atI_pos (by decide)]; rfl, by decide, by decide⟩
  · exact ⟨2147483629, by rw [atI_pos (by decide)]; rfl, by decide, by decide⟩
  · exact ⟨2147483587, by rw [atI_pos (by decide)]; rfl, by decide, by decide⟩
  · exact ⟨2147483579, by rw [atI_pos (by decide)]; rfl, by decide, by decide⟩
  · exact ⟨2147483563, by rw [atI_pos (by decide)]; rfl, by decide, by decide⟩
theorem B_take {a b c d e : Int} (hc : 0 ≤ a ∧ a ≤ 1000000 ∧ 0 ≤ b ∧ b ≤ 1000000 ∧ 0 < c ∧ c ≤ 1000000 ∧ 0 ≤ d ∧ d ≤ 1000000 ∧ 0 < e ∧ e ≤ 1000000) {ds : List Dat} {n : Nat} {QD : Dat → Nat → Prop} (h : G_take ds n QD) : bodyP 5 (L_take a b c d e) ds n QD := by
  obtain ⟨u, rfl, h0, h1, h2, h⟩ := h
  unfold L_take
  walk_at "w"
  intro x hx
  split
  · intro y hy
    refine ⟨h0, fun z hz => ⟨cfdS (by omega), Int.ediv_nonneg hz (by omega), n + 1, by omega, h2, h _ (Int.emod_nonneg _ (by omega)) (Int.emod_lt_of_pos _ h0)⟩⟩
  · refine ⟨by omega, fun z hz1 hz2 => ?_⟩
    obtain ⟨q, e1, e2, e3⟩ := prime_at (z % 5) ⟨Int.emod_nonneg _ (by decide), Int.emod_lt_of_pos _ (by decide)⟩
    refine ⟨_, e1, fun y hy1 hy2 i hi1 hi2 => ⟨cmuR (by omega), fun x2 hx1 hx2 => ?_⟩⟩
    have b0 : a * i ≤ 1000000 * 1000000 := Int.mul_le_mul hc.2.1 hi2 hi1 (by decide)
    have b1 : 0 ≤ a * i := Int.mul_nonneg hc.1 hi1
    have b2 : a * i * x2 ≤ 1000000 * 1000000 * 1000000 := Int.mul_le_mul b0 hx2 hx1 (by decide)
    have b3 : 0 ≤ a * i * x2 := Int.mul_nonneg b1 hx1
    refine ⟨cmuR (by omega), cpwS (by omega), ?_⟩
    walk_at "w"
    refine ⟨e2, by omega, fun x3 hz3 hz4 => ⟨cmuR (by omega), cmuL ?_, cfdS (by omega), h0, n + 1, by omega, by omega, h _ (Int.emod_nonneg _ (by omega)) (Int.emod_lt_of_pos _ h0)⟩⟩
    have m1 := Int.emod_nonneg ((y + a * i * x2 + b) ^ 3) (show q ≠ 0 by omega)
    have m2 := Int.emod_lt_of_pos ((y + a * i * x2 + b) ^ 3) e2
    omega
def L_of : WS := (wRet (wOp aIx (wVar 1) (wCall G_take (wCons (wVar 0) (wCons (wCB aLen (wCons (wVar 1) wNil)) wNil)))))
def lenOf : Dat → Option (List Dat)
  | .tup l => some l
  | .lst l => some l
  | _ => none
def G_of : Fn := fun ds n Q => ∃ x l, ds = [.pot, x] ∧ lenOf x = some l ∧ 0 < l.length ∧ l.length ≤ 1000000 ∧ n + 1 ≤ 1000000 ∧ ∀ d ∈ l, Q d (n + 1)
theorem B_of {ds : List Dat} {n : Nat} {QD : Dat → Nat → Prop} (h : G_of ds n QD) : bodyP 2 L_of ds n QD := by
  obtain ⟨x, l, rfl, hx, h0, h1, h2, h⟩ := h
  have fin : ∀ r : Int, 0 ≤ r → r < l.length → ∃ d, atI l r = some d ∧ ∃ m, n + 1 ≤ m ∧ m ≤ 1000000 ∧ QD d m := fun r r0 r1 => by
    have hr : r.toNat < l.length := by omega
    refine ⟨l[r.toNat], ?_, n + 1, by omega, by omega, h _ (List.getElem_mem hr)⟩
    rw [atI_pos r0, List.getElem?_eq_getElem hr]
  unfold L_of
  cases x with
  | tup m =>
    cases hx
    walk_at "w"
    exact ⟨_, rfl, by omega, by omega, by omega, fin⟩
  | lst m =>
    cases hx
    walk_at "w"
    exact ⟨_, rfl, by omega, by omega, by omega, fin⟩
  | _ => exact nomatch hx
theorem of_letters {n : Nat} {K : Dat → Nat → Prop} (hn : n + 1 ≤ 1000000) (h : ∀ c : Nat, (c = 110 ∨ c = 102 ∨ c = 115) → K (.str [c]) (n + 1)) : G_of [.pot, .lst (signsD [110, 102, 115])] n K := by
  refine ⟨_, _, rfl, rfl, by decide, by decide, hn, fun d hd => ?_⟩
  simp only [signsD, List.map_cons, List.map_nil, List.mem_cons, List.not_mem_nil, or_false] at hd
  rcases hd with rfl | rfl | rfl
  · exact h _ (.inl rfl)
  · exact h _ (.inr (.inl rfl))
  · exact h _ (.inr (.inr rfl))
theorem joinN_flat : ∀ ys : List (List Nat), joinN [] ys = ys.flatten
  | [] => rfl
  | [a] => by simp [joinN]
  | a :: b :: r => by
    show a ++ ([] ++ joinN [] (b :: r)) = _
    rw [joinN_flat (b :: r)]
    rfl
theorem letters_of {xs : List Dat} (h : ∀ x ∈ xs, ∃ c : Nat, (c = 110 ∨ c = 102 ∨ c = 115) ∧ x = .str [c]) : ∃ z : List Nat, Lets z ∧ z.length = xs.length ∧ isStrs xs = some (z.map fun c => [c]) := by
  induction xs with
  | nil => exact ⟨[], (fun _ h => nomatch h), rfl, rfl⟩
  | cons x xs ih =>
    obtain ⟨z, h1, h2, h3⟩ := ih fun y hy => h y (List.mem_cons_of_mem _ hy)
    obtain ⟨c, hc, rfl⟩ := h x List.mem_cons_self
    refine ⟨c :: z, ?_, by rw [List.length_cons, List.length_cons, h2], ?_⟩
    · intro d hd
      rcases List.mem_cons.mp hd with rfl | hd
      · exact hc
      · exact h1 d hd
    · show (isStrs xs).map ([c] :: ·) = _
      rw [h3]
      rfl
theorem lets_rep {z : List Nat} (h : Lets z) (k : Nat) : Lets (repL z k) := fun c hc => by
  unfold repL at hc
  obtain ⟨l, h1, h2⟩ := List.mem_flatten.mp hc
  rw [(List.mem_replicate.mp h1).2] at h2
  exact h c h2
theorem rep_length {z : List Nat} (k : Nat) : (repL z k).length = z.length * k := flat_len z k
theorem flat_ones (z : List Nat) : (z.map fun c => [c]).flatten = z := by
  induction z with
  | nil => rfl
  | cons c z ih => rw [List.map_cons, List.flatten_cons, ih]; rfl
theorem sum_ones (z : List Nat) : ((z.map fun c => [c]).map (·.length)).sum = z.length := by
  induction z with
  | nil => rfl
  | cons c z ih => simp only [List.map_cons, List.sum_cons, ih, List.length_cons, List.length_nil]; omega
end Dl
-- part Eb
set_option Elab.async false
set_option linter.all false
set_option maxRecDepth 100000
set_option maxHeartbeats 4000000
namespace Dl
open PySem PySem.Spec PyProof.Rows L2 Evl
variable [LawTabs]

local macro_rules | `(tactic| walk_at "w") => `(tactic| (simp (maxSteps := 3000000) only [↓e_var0, ↓e_var0o, ↓e_varS, ↓e_anyIt, ↓e_par, ↓e_zip, ↓aAdd_i, ↓aAdd_s, ↓aAdd_t, ↓aAdd_l, ↓aMul_i, ↓aMul_s, ↓aMul_l, ↓eqS_i, ↓eqS_s, ↓eqS_b, ↓eqS_nn, ↓eqS_ni, ↓eqS_ns, ↓eqS_nt, ↓eqS_in, ↓eqS_sn, ↓eqS_is, ↓eqS_si, ↓eqS_t, ↓eqS_l, ↓inS_s, ↓inS_t, ↓inS_l, ↓lenD_s, ↓lenD_t, ↓lenD_l, ↓lenD_z, ↓ixD_t, ↓ixD_l, ↓ixD_z, ↓ixD_s, ↓ixD_0, ↓ixD_1, ↓ixD_2, ↓cutDd_s, ↓cutDd_l, ↓cutDd_z, ↓cutDd_t, ↓listD_l, ↓listD_z, ↓itemsD_l, ↓itemsD_t, ↓itemsQ_s, ↓itemsQ_l, ↓itemsQ_z, ↓itemsQ_t, ↓aInt_i, ↓aInt_b, ↓aTupOf_l, ↓aTupOf_t, ↓anyD_l, ↓anyD_z, ↓anyD_t, ↓anyD_s, ↓joinD_l, ↓joinD_t, ↓zipQ_t, ↓zipQ_l, ↓asB_bl, ↓asI_int, ↓as1_one, ↓as2_two, par2,
  bodyW, bodyF, bodyP, start0, wSeq, wAsg, wOwn, wIfS, wRet, wRetF, wRetO, wRetN, wDrop, wApp, wSet, setW, slotSet, wInc, wNext, wBreak, wContinue, wNever, wC, wOp, wUn, wIf, wTest, wAnd, wOr, wNot, wYes, wAndV, wOrV, wNotV, wChain, wNil, wCons, wTup, wLst, wFz, wCall, wCallF, wCallK, wCallN, wCB, wCBF, wBM, wBM0, tStr, wNone, wPart, wSl, wgN, wgNil, wgCons, wgTup, wFor, wWhile, wLc, wRng1, wRng2, wListRg, wPot, wipeL, restL, keepIm,
  aI0, aII, aNeg, aEq, aNe, aIn, aNotIn, aIsN, aIsNotN, isN, aIsW, aIsNotW, ↓isW_n, ↓isW_bb, ↓isW_nb, wRevS, aAbs, aMax, aMin, aMin1, aMax1, ↓partsD_l, ↓partsD_z, ↓partsD_t, aLen, aSum, aAll, aAny, aIsi, isi, goodTy, aIx, aListOf, idxS,
  List.map_cons, List.map_nil, List.cons_append, List.nil_append, List.length_cons, List.length_nil, List.replicate_succ, List.replicate_zero, Nat.reduceAdd, Nat.reduceSub, List.getElem?_cons_zero, List.getElem?_cons_succ, List.set_cons_zero, List.set_cons_succ, reduceCtorEq, if_true, if_false, Bool.false_eq_true,
  decide_eq_true_eq, kinds, List.contains_cons, List.contains_nil, String.reduceBEq, Bool.or_true, Bool.true_or, Bool.or_false, Bool.false_or, Bool.not_true, Bool.not_false, Bool.not_eq_true, decide_true, decide_false, true_and, and_true, Int.reduceLT, Int.reduceLE, Int.reduceNeg, Nat.reduceLeDiff, cmuL, cmuR, cfdS, cpwS, atI_pos, Int.reduceToNat, isBls_nil, isBls_bl, Option.map_some, Option.some.injEq, exists_eq_left', List.all_cons, List.all_nil, id_eq, Bool.and_true, Bool.true_and, beq_self_eq_true]))

def d_BACK : Dat := .tup [.str [115, 110, 102], .str [102, 110, 115]]
def L_letters : WS := (wRet (wAndV (wCB aIsi (wCons (wVar 0) (wCons (wC (.ty "str")) wNil))) (wAndV (wChain aLe aLe (wVar 1) (wCB aLen (wCons (wVar 0) wNil)) (wVar 2)) (wCB aAll (wCons (wFz (wLc (wAnyIt (wVar 0)) [3] (wgN 3) wYes (wOp aIn (wVar 3) (wC (.str ("nfs" : Str).cps.toList))))) wNil)))))
def G_letters : Fn := fun ds n Q => ∃ z lo hi, ds = [.str z, .int lo, .int hi] ∧ Lets z ∧ lo ≤ z.length ∧ z.length ≤ hi ∧ hi ≤ 1000 ∧ Q (.bl true) n
theorem B_letters {ds : List Dat} {n : Nat} {QD : Dat → Nat → Prop} (h : G_letters ds n QD) : bodyW 4 L_letters ds n QD := by
  obtain ⟨z, lo, hi, rfl, h1, h2, h3, h4, h⟩ := h
  unfold L_letters
  walk_at "w"
  refine ⟨by omega, ?_⟩
  rw [if_pos h2, if_pos h3]
  refine lcW_map (fun _ => .bl true) _ _ (by simp [signsD]; omega) (fun d hd R R0 hR => ?_) ?_
  · obtain ⟨c, hc, rfl⟩ := List.mem_map.mp hd
    walk_at "w"
    rw [lit_nfs]
    have e : decide (c ∈ [110, 102, 115]) = true := by rcases h1 c hc with rfl | rfl | rfl <;> decide
    rw [e]
    exact hR
  · obtain ⟨bs, b1, b2⟩ := isBls_all (l := (signsD z).map fun _ => .bl true) (by simp)
    exact ⟨bs, b1, by rw [b2]; exact h⟩
def L_is_word : WS := (wRet (wCall G_letters (wCons (wVar 0) (wCons (wC (.int 0)) (wCons (wC (.int 200)) wNil)))))
def G_is_word : Fn := fun ds n Q => ∃ z, ds = [.str z] ∧ Lets z ∧ z.length ≤ 200 ∧ Q (.bl true) n
theorem B_is_word {ds : List Dat} {n : Nat} {QD : Dat → Nat → Prop} (h : G_is_word ds n QD) : bodyW 1 L_is_word ds n QD := by
  obtain ⟨z, rfl, h1, h2, h⟩ := h
  unfold L_is_word
  walk_at "w"
  exact ⟨z, 0, 200, rfl, h1, by omega, by omega, by omega, h⟩
def L_check_word : WS := (wIfS (wNot (wTest (wCall G_is_word (wCons (wVar 0) wNil)))) wNever wNext)
def G_check_word : Fn := fun ds n Q => ∃ z, ds = [.str z] ∧ Lets z ∧ z.length ≤ 200 ∧ Q .non n
theorem B_check_word {ds : List Dat} {n : Nat} {QD : Dat → Nat → Prop} (h : G_check_word ds n QD) : bodyW 1 L_check_word ds n QD := by
  obtain ⟨z, rfl, h1, h2, h⟩ := h
  unfold L_check_word
  walk_at "w"
  exact ⟨z, rfl, h1, h2, h⟩
def L_numbers_at : WS := (wRet (wIf (wTest (wOp aEq (wOp aMod (wVar 0) (wC (.int 2))) (wC (.int 0)))) (wTup (wCons (wVar 0) (wCons (wOp aAdd (wVar 0) (wC (.int 1))) wNil))) (wTup (wCons (wOp aAdd (wVar 0) (wC (.int 1))) (wCons (wVar 0) wNil)))))
def numbersAt (i : Int) : Int × Int := if i % 2 = 0 then (i, i + 1) else (i + 1, i)
def G_numbers_at : Fn := fun ds n Q => ∃ i, ds = [.int i] ∧ Q (.tup [.int (numbersAt i).1, .int (numbersAt i).2]) n
theorem B_numbers_at {ds : List Dat} {n : Nat} {QD : Dat → Nat → Prop} (h : G_numbers_at ds n QD) : bodyW 1 L_numbers_at ds n QD := by
  obtain ⟨i, rfl, h⟩ := h
  unfold L_numbers_at
  unfold numbersAt at h
  walk_at "w"
  split <;> simp_all
/-! places -/
def bk (p : Int) (c : Nat) : Int := if p % 2 = 0 then (if c = 115 then 0 else if c = 110 then 1 else 2) else (if c = 102 then 0 else if c = 110 then 1 else 2)
def plc (p : Int) (z : List Nat) : Int := z.foldl (fun a c => 3 * a + bk a c) p
def L_place_of : WS := (wSeq (wAsg (wC (.int 0)) (wgN 1))
  (wSeq (wFor (wAnyIt (wVar 0)) (wgN 2) (wAsg (wOp aAdd (wOp aMul (wC (.int 3)) (wVar 1)) (wBM tStr idxS (wOp aIx (wC d_BACK) (wOp aMod (wVar 1) (wC (.int 2)))) (wCons (wVar 2) wNil))) (wgN 1)))
  (wRet (wVar 1))))
def G_place_of : Fn := fun ds n Q => ∃ z, ds = [.str z] ∧ Lets z ∧ Q (.int (plc 0 z)) n
theorem idx_back (p : Int) (c : Nat) (h : c = 110 ∨ c = 102 ∨ c = 115) : ∃ l, atI [Dat.str [115, 110, 102], Dat.str [102, 110, 115]] (p % 2) = some (.str l) ∧ ∃ k, Txt.index0 ⟨l.toArray⟩ ⟨[c].toArray⟩ = some k ∧ (k : Int) = bk p c := by
  have hp : p % 2 = 0 ∨ p % 2 = 1 := by omega
  have h0 : ∀ c ∈ [110, 102, 115], Txt.index0 ⟨#[115, 110, 102]⟩ ⟨#[c]⟩ = some (if c = 115 then 0 else if c = 110 then 1 else 2) := by decide +kernel
  have h1 : ∀ c ∈ [110, 102, 115], Txt.index0 ⟨#[102, 110, 115]⟩ ⟨#[c]⟩ = some (if c = 102 then 0 else if c = 110 then 1 else 2) := by decide +kernel
  have hc : c ∈ [110, 102, 115] := by rcases h with rfl | rfl | rfl <;> decide
  rcases hp with hp | hp
  · refine ⟨[115, 110, 102], by rw [hp, atI_pos (by decide)]; rfl, _, h0 c hc, ?_⟩
    unfold bk
    rw [if_pos hp]
    rcases h with rfl | rfl | rfl <;> rfl
  · refine ⟨[102, 110, 115], by rw [hp, atI_pos (by decide)]; rfl, _, h1 c hc, ?_⟩
    unfold bk
    rw [if_neg (show ¬ p % 2 = 0 by omega)]
    rcases h with rfl | rfl | rfl <;> rfl
theorem B_place_of {ds : List Dat} {n : Nat} {QD : Dat → Nat → Prop} (h : G_place_of ds n QD) : bodyW 3 L_place_of ds n QD := by
  obtain ⟨z, rfl, h1, h⟩ := h
  unfold L_place_of
  walk_at "w"
  refine forW_fold (fun (a : Int) S => ∃ s2, S = ⟨[.im (.str z), .im (.int a), s2], n⟩) (fun a d => match d with | .str [c] => 3 * a + bk a c | _ => a) _ 0 _ _ ?_ ⟨_, rfl⟩ ?_
  · rintro d hd a S D ⟨s2, rfl⟩ hk
    obtain ⟨c, hc, rfl⟩ := List.mem_map.mp hd
    obtain ⟨l, e1, k, e2, e3⟩ := idx_back a c (h1 c hc)
    unfold d_BACK
    walk_at "w"
    refine ⟨.str l, e1, trivial, k, e2, hk _ ⟨.im (.str [c]), ?_⟩⟩
    rw [e3]
  · rintro S ⟨s2, rfl⟩
    walk_at "w"
    have e : ∀ (z : List Nat) (a : Int), List.foldl (fun (a : Int) (d : Dat) => match d with | .str [c] => 3 * a + bk a c | _ => a) a (signsD z) = plc a z := by
      intro z
      induction z with
      | nil => intro a; rfl
      | cons c z ih => intro a; exact ih _
    rw [e]
    exact h
/-! the mathematics of numbers -/
def step2 (a : Int × Int) (c : Nat) : Int × Int := (if c = 115 then 3 * a.1 else a.1 + 2 * a.2, if c = 102 then 3 * a.2 else a.2 + 2 * a.1)
def heard (a : Int × Int) (z : List Nat) : Int × Int := z.foldl step2 a
theorem step2_at (a : Int) (c : Nat) (h : c = 110 ∨ c = 102 ∨ c = 115) : step2 (numbersAt a) c = numbersAt (3 * a + bk a c) := by
  unfold step2 numbersAt bk
  by_cases ha : a % 2 = 0
  · rw [if_pos ha, if_pos ha]
    rcases h with rfl | rfl | rfl
    · rw [if_neg (show ¬ (3 * a + (if (110 : Nat) = 115 then 0 else if (110 : Nat) = 110 then 1 else 2)) % 2 = 0 by simp; omega)]
      simp; omega
    · rw [if_pos (show (3 * a + (if (102 : Nat) = 115 then 0 else if (102 : Nat) = 110 then 1 else 2)) % 2 = 0 by simp; omega)]
      simp; omega
    · rw [if_pos (show (3 * a + (if (115 : Nat) = 115 then 0 else if (115 : Nat) = 110 then 1 else 2)) % 2 = 0 by simp; omega)]
      simp; omega
  · rw [if_neg ha, if_neg ha]
    rcases h with rfl | rfl | rfl
    · rw [if_pos (show (3 * a + (if (110 : Nat) = 102 then 0 else if (110 : Nat) = 110 then 1 else 2)) % 2 = 0 by simp; omega)]
      simp; omega
    · rw [if_neg (show ¬ (3 * a + (if (102 : Nat) = 102 then 0 else if (102 : Nat) = 110 then 1 else 2)) % 2 = 0 by simp; omega)]
      simp; omega
    · rw [if_neg (show ¬ (3 * a + (if (115 : Nat) = 102 then 0 else if (115 : Nat) = 110 then 1 else 2)) % 2 = 0 by simp; omega)]
      simp; omega
theorem heard_at : ∀ (z : List Nat) (a : Int), Lets z → heard (numbersAt a) z = numbersAt (plc a z)
  | [], _, _ => rfl
  | c :: z, a, h => by
    show heard (step2 (numbersAt a) c) z = numbersAt (plc (3 * a + bk a c) z)
    rw [step2_at a c (h c (by simp)), heard_at z _ fun d hd => h d (by simp [hd])]
theorem bk_range (a : Int) (c : Nat) : 0 ≤ bk a c ∧ bk a c ≤ 2 := by
  unfold bk
  split <;> split <;> (try split) <;> omega
theorem plc_zero : ∀ (z : List Nat) (a : Int), 0 ≤ a → Lets z → 0 ≤ plc a z ∧ (plc a z = 0 ↔ a = 0 ∧ ∀ c ∈ z, c = 115)
  | [], a, h, _ => ⟨h, by simp [plc]⟩
  | c :: z, a, h, hl => by
    have hb := bk_range a c
    obtain ⟨h1, h2⟩ := plc_zero z (3 * a + bk a c) (by omega) fun d hd => hl d (by simp [hd])
    refine ⟨h1, ?_⟩
    show plc (3 * a + bk a c) z = 0 ↔ _
    rw [h2]
    have hc := hl c (by simp)
    constructor
    · rintro ⟨q1, q2⟩
      have ha : a = 0 := by omega
      have hz : bk a c = 0 := by omega
      subst ha
      refine ⟨rfl, fun d hd => ?_⟩
      rcases List.mem_cons.mp hd with rfl | hd
      · rcases hc with rfl | rfl | rfl
        · exact absurd hz (by decide)
        · exact absurd hz (by decide)
        · rfl
      · exact q2 d hd
    · rintro ⟨rfl, q2⟩
      have : c = 115 := q2 c (by simp)
      subst this
      exact ⟨by decide, fun d hd => q2 d (by simp [hd])⟩
theorem plc_top : ∀ (z : List Nat) (a m : Int), 0 ≤ a → a < m → m % 2 = 1 → Lets z → plc a z < m * 3 ^ z.length ∧ (plc a z = m * 3 ^ z.length - 1 ↔ a = m - 1 ∧ ∀ c ∈ z, c = 102)
  | [], a, m, h0, h, _, _ => by
    simp [plc]
    omega
  | c :: z, a, m, h0, h, ho, hl => by
    have hb := bk_range a c
    obtain ⟨h1, h2⟩ := plc_top z (3 * a + bk a c) (3 * m) (by omega) (by omega) (by omega) fun d hd => hl d (by simp [hd])
    have e : m * 3 ^ (c :: z).length = 3 * m * 3 ^ z.length := by
      rw [List.length_cons, Int.pow_succ, ← Int.mul_assoc, Int.mul_comm _ 3, ← Int.mul_assoc]
    rw [e]
    refine ⟨h1, ?_⟩
    show plc (3 * a + bk a c) z = _ ↔ _
    rw [h2]
    have hc := hl c (by simp)
    constructor
    · rintro ⟨q1, q2⟩
      have ha : a = m - 1 := by omega
      have hz : bk a c = 2 := by omega
      refine ⟨ha, fun d hd => ?_⟩
      rcases List.mem_cons.mp hd with rfl | hd
      · unfold bk at hz
        rw [if_pos (show a % 2 = 0 by omega)] at hz
        rcases hc with rfl | rfl | rfl
        · exact absurd hz (by decide)
        · rfl
        · exact absurd hz (by decide)
      · exact q2 d hd
    · rintro ⟨ha, q2⟩
      have : c = 102 := q2 c (by simp)
      subst this
      refine ⟨?_, fun d hd => q2 d (by simp [hd])⟩
      unfold bk
      rw [if_pos (show a % 2 = 0 by omega)]
      simp
      omega
theorem pow3_odd : ∀ n : Nat, (3 : Int) ^ n % 2 = 1 ∧ 0 < (3 : Int) ^ n
  | 0 => by decide
  | n + 1 => by
    obtain ⟨h1, h2⟩ := pow3_odd n
    rw [Int.pow_succ]
    omega
theorem repL_one (c n : Nat) : repL [c] n = List.replicate n c := by
  unfold repL
  induction n with
  | zero => rfl
  | succ n ih => rw [List.replicate_succ, List.flatten_cons, ih]; rfl
theorem all_rep (z : List Nat) (c : Nat) : z = repL [c] z.length ↔ ∀ d ∈ z, d = c := by
  rw [repL_one, List.eq_replicate_iff]
  simp

def L_heard_numbers : WS := (wSeq (wAsg (wTup (wCons (wC (.int 0)) (wCons (wC (.int 1)) wNil))) (wgTup 2 (wgCons (wgN 1) (wgCons (wgN 2) wgNil))))
  (wSeq (wFor (wAnyIt (wVar 0)) (wgN 3) (wSeq (wAsg (wTup (wCons (wVar 1) (wCons (wVar 2) wNil))) (wgN 4))
  (wSeq (wAsg (wIf (wTest (wOp aEq (wVar 3) (wC (.str ("s" : Str).cps.toList)))) (wOp aMul (wC (.int 3)) (wVar 1)) (wOp aAdd (wVar 1) (wOp aMul (wC (.int 2)) (wOp aIx (wVar 4) (wC (.int 1)))))) (wgN 1))
  (wAsg (wIf (wTest (wOp aEq (wVar 3) (wC (.str ("f" : Str).cps.toList)))) (wOp aMul (wC (.int 3)) (wVar 2)) (wOp aAdd (wVar 2) (wOp aMul (wC (.int 2)) (wOp aIx (wVar 4) (wC (.int 0)))))) (wgN 2)))))
  (wRet (wTup (wCons (wVar 1) (wCons (wVar 2) wNil))))))
def G_heard_numbers : Fn := fun ds n Q => ∃ z, ds = [.str z] ∧ Lets z ∧ Q (.tup [.int (heard (0, 1) z).1, .int (heard (0, 1) z).2]) n
theorem B_heard_numbers {ds : List Dat} {n : Nat} {QD : Dat → Nat → Prop} (h : G_heard_numbers ds n QD) : bodyW 5 L_heard_numbers ds n QD := by
  obtain ⟨z, rfl, h1, h⟩ := h
  unfold L_heard_numbers
  walk_at "w"
  refine forW_fold (fun (a : Int × Int) S => ∃ s3 s4, S = ⟨[.im (.str z), .im (.int a.1), .im (.int a.2), s3, s4], n⟩) (fun a d => match d with | .str [c] => step2 a c | _ => a) _ (0, 1) _ _ ?_ ⟨_, _, rfl⟩ ?_
  · rintro d hd a S D ⟨s3, s4, rfl⟩ hk
    obtain ⟨c, hc, rfl⟩ := List.mem_map.mp hd
    have key := fun s4 => hk ⟨[.im (.str z), .im (.int (step2 a c).1), .im (.int (step2 a c).2), .im (.str [c]), s4], n⟩ ⟨_, _, rfl⟩
    walk_at "w"
    rw [lit_s, lit_f]
    unfold step2 at key
    have key := key (.im (.tup [.int a.1, .int a.2]))
    by_cases c1 : c = 115
    · subst c1
      walk_at "w"
      simpa using key
    · by_cases c2 : c = 102
      · subst c2
        simp only [show ¬ ([102] : List Nat) = [115] by decide, if_false]
        walk_at "w"
        simpa using key
      · simp only [show ¬ ([c] : List Nat) = [115] by simpa using c1, show ¬ ([c] : List Nat) = [102] by simpa using c2, if_false]
        rw [if_neg c1, if_neg c2] at key
        exact key
  · rintro S ⟨s3, s4, rfl⟩
    walk_at "w"
    have e : ∀ (z : List Nat) (a : Int × Int), List.foldl (fun (a : Int × Int) (d : Dat) => match d with | .str [c] => step2 a c | _ => a) a (signsD z) = heard a z := by
      intro z
      induction z with
      | nil => intro a; rfl
      | cons c z ih => intro a; exact ih _
    rw [e]
    exact h
def L_numbers : WS := (wSeq (wDrop (wCall G_check_word (wCons (wVar 0) wNil)))
  (wRet (wCall G_numbers_at (wCons (wCall G_place_of (wCons (wVar 0) wNil)) wNil))))
def G_numbers : Fn := fun ds n Q => ∃ z, ds = [.str z] ∧ Lets z ∧ z.length ≤ 200 ∧ Q (.tup [.int (numbersAt (plc 0 z)).1, .int (numbersAt (plc 0 z)).2]) n
theorem B_numbers {ds : List Dat} {n : Nat} {QD : Dat → Nat → Prop} (h : G_numbers ds n QD) : bodyW 1 L_numbers ds n QD := by
  obtain ⟨z, rfl, h1, h2, h⟩ := h
  unfold L_numbers
  walk_at "w"
  exact ⟨z, rfl, h1, h2, z, rfl, h1, _, rfl, h⟩
def L_place : WS := (wSeq (wDrop (wCall G_check_word (wCons (wVar 0) wNil)))
  (wRet (wCall G_place_of (wCons (wVar 0) wNil))))
def G_place : Fn := fun ds n Q => ∃ z, ds = [.str z] ∧ Lets z ∧ z.length ≤ 200 ∧ Q (.int (plc 0 z)) n
theorem B_place {ds : List Dat} {n : Nat} {QD : Dat → Nat → Prop} (h : G_place ds n QD) : bodyW 1 L_place ds n QD := by
  obtain ⟨z, rfl, h1, h2, h⟩ := h
  unfold L_place
  walk_at "w"
  exact ⟨z, rfl, h1, h2, z, rfl, h1, h⟩


/-! the checks of whole numbers and tuples, the power of three -/
def L_whole : WS := (wRet (wAndV (wCB aIsi (wCons (wVar 0) (wCons (wC (.ty "int")) wNil))) (wNotV (wCB aIsi (wCons (wVar 0) (wCons (wC (.ty "bool")) wNil))))))
def G_whole : Fn := fun ds n Q => ∃ i, ds = [.int i] ∧ Q (.bl true) n
theorem B_whole {ds : List Dat} {n : Nat} {QD : Dat → Nat → Prop} (h : G_whole ds n QD) : bodyW 1 L_whole ds n QD := by
  obtain ⟨i, rfl, h⟩ := h
  unfold L_whole
  walk_at "w"
  exact h
def L_integer : WS := (wRet (wAndV (wCall G_whole (wCons (wVar 0) wNil)) (wChain aLe aLe (wVar 1) (wVar 0) (wVar 2))))
def G_integer : Fn := fun ds n Q => ∃ i lo hi, ds = [.int i, .int lo, .int hi] ∧ lo ≤ i ∧ i ≤ hi ∧ Q (.bl true) n
theorem B_integer {ds : List Dat} {n : Nat} {QD : Dat → Nat → Prop} (h : G_integer ds n QD) : bodyW 3 L_integer ds n QD := by
  obtain ⟨i, lo, hi, rfl, h1, h2, h⟩ := h
  unfold L_integer
  walk_at "w"
  refine ⟨i, rfl, ?_⟩
  walk_at "w"
  rw [if_pos h1, decide_eq_true h2]
  exact h
def L_tuple : WS := (wRet (wAndV (wCB aIsi (wCons (wVar 0) (wCons (wC (.ty "tuple")) wNil))) (wChain aLe aLe (wVar 1) (wCB aLen (wCons (wVar 0) wNil)) (wVar 2))))
def G_tuple : Fn := fun ds n Q => ∃ l lo hi, ds = [.tup l, .int lo, .int hi] ∧ lo ≤ l.length ∧ l.length ≤ hi ∧ hi ≤ 1000 ∧ Q (.bl true) n
theorem B_tuple {ds : List Dat} {n : Nat} {QD : Dat → Nat → Prop} (h : G_tuple ds n QD) : bodyW 3 L_tuple ds n QD := by
  obtain ⟨l, lo, hi, rfl, h1, h2, h3, h⟩ := h
  unfold L_tuple
  walk_at "w"
  rw [if_pos h1, decide_eq_true h2]
  exact h
def L_rounds : WS := (wIfS (wNot (wTest (wCall G_integer (wCons (wVar 0) (wCons (wC (.int 0)) (wCons (wVar 1) wNil)))))) wNever wNext)
def G_rounds : Fn := fun ds n Q => ∃ i hi, ds = [.int i, .int hi] ∧ 0 ≤ i ∧ i ≤ hi ∧ Q .non n
theorem B_rounds {ds : List Dat} {n : Nat} {QD : Dat → Nat → Prop} (h : G_rounds ds n QD) : bodyW 2 L_rounds ds n QD := by
  obtain ⟨i, hi, rfl, h1, h2, h⟩ := h
  unfold L_rounds
  walk_at "w"
  refine ⟨i, 0, hi, rfl, h1, h2, ?_⟩
  walk_at "w"
  exact h
/-! the letters of a loss -/
def pick (c : List Nat) (i : Nat) : Nat := if c = [] then 0 else c.getD (i % c.length) 0
end Dl
-- part Ec
set_option Elab.async false
set_option linter.all false
set_option maxRecDepth 100000
set_option maxHeartbeats 4000000
namespace Dl
variable [LawTabs]
/-! losses: a head, then a round again and again -/
def lt (h c : List Nat) (i : Nat) : Nat := if i < h.length then h.getD i 0 else c.getD ((i - h.length) % c.length) 0
def lts (h c : List Nat) (m : Nat) : List Nat := (List.range m).map (lt h c)
def Per (w : Nat → Nat) (a b : Nat) : Prop := 0 < b ∧ ∀ i, a ≤ i → w (i + b) = w i
structure Least (w : Nat → Nat) (a b : Nat) : Prop where
  per : Per w a b
  a_le : ∀ x y, Per w x y → a ≤ x
  b_le : ∀ y, Per w a y → b ≤ y
theorem c_pos {c : List Nat} (hc : c ≠ []) : 0 < c.length := List.length_pos_iff.mpr hc
theorem lt_per (h : List Nat) {c : List Nat} (hc : c ≠ []) : Per (lt h c) h.length c.length := by
  refine ⟨c_pos hc, fun i hi => ?_⟩
  unfold lt
  rw [if_neg (by omega), if_neg (by omega), show i + c.length - h.length = (i - h.length) + c.length by omega, Nat.add_mod_right]
theorem Per.mul {w : Nat → Nat} {a b : Nat} (p : Per w a b) : ∀ k i, a ≤ i → w (i + k * b) = w i
  | 0, i, _ => by rw [Nat.zero_mul, Nat.add_zero]
  | k + 1, i, hi => by
    rw [Nat.succ_mul, ← Nat.add_assoc, p.2 _ (by omega), Per.mul p k i hi]
theorem Per.mono {w : Nat → Nat} {a b x : Nat} (p : Per w a b) (h : a ≤ x) : Per w x b := ⟨p.1, fun i hi => p.2 i (by omega)⟩
theorem Per.swap {w : Nat → Nat} {a b x y : Nat} (p : Per w a b) (q : Per w x y) : Per w a y := by
  refine ⟨q.1, fun i hi => ?_⟩
  have h1 : x ≤ x * b := Nat.le_mul_of_pos_right x p.1
  rw [← p.mul x (i + y) (by omega), ← p.mul x i hi, show i + y + x * b = i + x * b + y by omega]
  exact q.2 _ (by omega)
theorem Per.mod {w : Nat → Nat} {a b y : Nat} (p : Per w a b) (q : Per w a y) (h : 0 < y % b) : Per w a (y % b) := by
  refine ⟨h, fun i hi => ?_⟩
  rw [← p.mul (y / b) (i + y % b) (by omega), show i + y % b + y / b * b = i + y by rw [Nat.add_assoc, Nat.mul_comm, Nat.mod_add_div]]
  exact q.2 i hi
theorem exists_min {P : Nat → Prop} (h : ∃ n, P n) : ∃ n, P n ∧ ∀ m, P m → n ≤ m := by
  obtain ⟨n, hn⟩ := h
  induction n using Nat.strongRecOn with
  | _ n ih =>
    by_cases hm : ∃ m, m < n ∧ P m
    · obtain ⟨m, h1, h2⟩ := hm
      exact ih m h1 h2
    · exact ⟨n, hn, fun m hp => Nat.le_of_not_lt fun hl => hm ⟨m, hl, hp⟩⟩
theorem least_exists {w : Nat → Nat} {a b : Nat} (p : Per w a b) : ∃ x y, Least w x y ∧ x ≤ a ∧ y ≤ b := by
  obtain ⟨x, ⟨y0, hx⟩, hmin⟩ := exists_min (P := fun x => ∃ y, Per w x y) ⟨a, b, p⟩
  obtain ⟨y, hy, hymin⟩ := exists_min (P := fun y => Per w x y) ⟨y0, hx⟩
  exact ⟨x, y, ⟨hy, fun x' y' h => hmin x' ⟨y', h⟩, hymin⟩, hmin a ⟨b, p⟩, hymin b (hx.swap p)⟩
theorem Least.uniq {w : Nat → Nat} {a b x y : Nat} (p : Least w a b) (q : Least w x y) : a = x ∧ b = y := by
  have e : a = x := Nat.le_antisymm (p.a_le _ _ q.per) (q.a_le _ _ p.per)
  subst e
  exact ⟨rfl, Nat.le_antisymm (p.b_le _ q.per) (q.b_le _ p.per)⟩
theorem Least.dvd {w : Nat → Nat} {a b y : Nat} (p : Least w a b) (q : Per w a y) : y % b = 0 := by
  have := p.per.1
  have h2 := Nat.mod_lt y this
  by_cases h : 0 < y % b
  · have := p.b_le _ (p.per.mod q h)
    omega
  · omega
/-- two rows alike for long enough are alike -/
theorem alike_of {w v : Nat → Nat} {m p q : Nat} (hw : Per w m p) (hv : Per v m q) (h : ∀ i, i < m + p + q → w i = v i) : w = v := by
  funext i
  induction i using Nat.strongRecOn with
  | _ i ih =>
    by_cases hi : i < m + p + q
    · exact h i hi
    · have p1 := hw.1
      have q1 := hv.1
      have e1 : w i = w (i - p) := by rw [← hw.2 (i - p) (by omega), show i - p + p = i by omega]
      have e2 : v i = v (i - q) := by rw [← hv.2 (i - q) (by omega), show i - q + q = i by omega]
      have e3 : v (i - p) = v (i - p - q) := by rw [← hv.2 (i - p - q) (by omega), show i - p - q + q = i - p by omega]
      have e4 : w (i - q) = w (i - p - q) := by rw [← hw.2 (i - p - q) (by omega), show i - p - q + p = i - q by omega]
      rw [e1, e2, ih (i - p) (by omega), e3, ← ih (i - p - q) (by omega), ← e4, ih (i - q) (by omega)]
/-- the row folded at a and b -/
def fold (w : Nat → Nat) (a b i : Nat) : Nat := if i < a then w i else w (a + (i - a) % b)
theorem fold_of {w : Nat → Nat} {a b : Nat} (p : Per w a b) (i : Nat) : fold w a b i = w i := by
  unfold fold
  by_cases hi : i < a
  · rw [if_pos hi]
  · rw [if_neg hi, ← p.mul ((i - a) / b) _ (by omega)]
    congr 1
    have := Nat.mod_add_div (i - a) b
    rw [Nat.mul_comm] at this
    omega
theorem per_of_fold {w : Nat → Nat} {a b m p N : Nat} (q : Per w m p) (ha : a ≤ m) (h0 : 0 < b) (hb : b ≤ p) (hN : m + 2 * p ≤ N) (h : ∀ i, i < N → fold w a b i = w i) : Per w a b := by
  have step : ∀ i, a ≤ i → i + b < N → w (i + b) = w i := fun i hi hl => by
    rw [← h (i + b) hl, ← h i (by omega)]
    unfold fold
    rw [if_neg (by omega), if_neg (by omega), show i + b - a = (i - a) + b by omega, Nat.add_mod_right]
  refine ⟨h0, fun i hi => ?_⟩
  by_cases hl : i + b < N
  · exact step i hi hl
  · have p1 := q.1
    have l1 := Nat.mod_lt (i - m) p1
    have l2 := Nat.mod_add_div (i - m) p
    rw [Nat.mul_comm] at l2
    have e1 : w i = w (m + (i - m) % p) := by
      rw [← q.mul ((i - m) / p) (m + (i - m) % p) (by omega)]
      congr 1
      omega
    have e2 : w (i + b) = w (m + (i - m) % p + b) := by
      rw [← q.mul ((i - m) / p) (m + (i - m) % p + b) (by omega)]
      congr 1
      omega
    rw [e1, e2]
    exact step _ (by omega) (by omega)
/-! as texts -/
theorem repL_succ (c : List Nat) (k : Nat) : repL c (k + 1) = c ++ repL c k := by
  unfold repL
  rw [List.replicate_succ, List.flatten_cons]
theorem repL_get (c : List Nat) : ∀ (k i : Nat), i < c.length * k → (repL c k)[i]? = c[i % c.length]?
  | 0, i, h => by omega
  | k + 1, i, h => by
    rw [repL_succ]
    by_cases hi : i < c.length
    · rw [List.getElem?_append_left hi, Nat.mod_eq_of_lt hi]
    · rw [List.getElem?_append_right (by omega), repL_get c k (i - c.length) (by rw [Nat.mul_succ] at h; omega)]
      congr 1
      rw [← Nat.mod_eq_sub_mod (by omega)]
theorem repL_len (c : List Nat) (k : Nat) : (repL c k).length = c.length * k := flat_len c k
theorem lts_eq (h : List Nat) {c : List Nat} (hc : c ≠ []) (m : Nat) : (h ++ repL c (m / c.length + 1)).take m = lts h c m := by
  have p := c_pos hc
  have hm : m < c.length * (m / c.length + 1) := by
    have := Nat.mod_add_div m c.length
    have := Nat.mod_lt m p
    rw [Nat.mul_succ]
    omega
  refine List.ext_getElem? fun i => ?_
  rw [List.getElem?_take]
  unfold lts
  by_cases hi : i < m
  · rw [if_pos hi, List.getElem?_map, List.getElem?_range hi]
    show _ = some (lt h c i)
    unfold lt
    by_cases hh : i < h.length
    · rw [if_pos hh, List.getElem?_append_left hh, List.getD_eq_getElem?_getD, List.getElem?_eq_getElem hh]
      rfl
    · have l := Nat.mod_lt (i - h.length) p
      rw [if_neg hh, List.getElem?_append_right (by omega), repL_get c _ _ (by omega), List.getD_eq_getElem?_getD, List.getElem?_eq_getElem l]
      rfl
  · rw [if_neg hi, List.getElem?_eq_none]
    simp
    omega
theorem lts_len (h c : List Nat) (m : Nat) : (lts h c m).length = m := by simp [lts]
def pre (w : Nat → Nat) (a : Nat) : List Nat := (List.range a).map w
def seg (w : Nat → Nat) (a b : Nat) : List Nat := (List.range b).map fun i => w (a + i)
theorem pre_len (w : Nat → Nat) (a : Nat) : (pre w a).length = a := by simp [pre]
theorem seg_len (w : Nat → Nat) (a b : Nat) : (seg w a b).length = b := by simp [seg]
theorem pre_get (w : Nat → Nat) {a i : Nat} (h : i < a) : (pre w a)[i]? = some (w i) := by simp [pre, h]
theorem seg_get (w : Nat → Nat) {a b i : Nat} (h : i < b) : (seg w a b)[i]? = some (w (a + i)) := by simp [seg, h]
theorem pre_take (w : Nat → Nat) {a m : Nat} (h : a ≤ m) : (pre w m).take a = pre w a := by
  unfold pre
  rw [← List.map_take, List.take_range, Nat.min_eq_left h]
theorem pre_seg (w : Nat → Nat) {a b m : Nat} (h : a + b ≤ m) : ((pre w m).drop a).take b = seg w a b := by
  refine List.ext_getElem? fun i => ?_
  rw [List.getElem?_take, List.getElem?_drop]
  by_cases hi : i < b
  · rw [if_pos hi, pre_get w (by omega), seg_get w hi]
  · rw [if_neg hi, List.getElem?_eq_none (by rw [seg_len]; omega)]
theorem lt_pre_seg (w : Nat → Nat) {a b : Nat} (hb : 0 < b) (i : Nat) : lt (pre w a) (seg w a b) i = fold w a b i := by
  unfold lt fold
  rw [pre_len, seg_len]
  by_cases hi : i < a
  · rw [if_pos hi, if_pos hi, List.getD_eq_getElem?_getD, pre_get w hi]
    rfl
  · rw [if_neg hi, if_neg hi, List.getD_eq_getElem?_getD, seg_get w (Nat.mod_lt _ hb)]
    rfl
theorem pre_inj {w v : Nat → Nat} {a : Nat} : pre w a = pre v a ↔ ∀ i, i < a → w i = v i := by
  unfold pre
  rw [List.map_inj_left]
  simp
theorem pre_self (h : List Nat) (c : List Nat) : pre (lt h c) h.length = h := by
  refine List.ext_getElem? fun i => ?_
  by_cases hi : i < h.length
  · rw [pre_get _ hi, List.getElem?_eq_getElem hi]
    unfold lt
    rw [if_pos hi, List.getD_eq_getElem?_getD, List.getElem?_eq_getElem hi]
    rfl
  · rw [List.getElem?_eq_none (by rw [pre_len]; omega), List.getElem?_eq_none (by omega)]
/-- the least form as a value -/
def leastD (w : Nat → Nat) (a b : Nat) : Dat := .tup [.str (pre w a), .str (seg w a b)]
theorem fold_ext {w v : Nat → Nat} {a b : Nat} (h1 : pre w a = pre v a) (h2 : seg w a b = seg v a b) (hb : 0 < b) (i : Nat) : fold w a b i = fold v a b i := by
  rw [← lt_pre_seg w hb, ← lt_pre_seg v hb, h1, h2]
theorem leastD_inj {w v : Nat → Nat} {a b x y : Nat} (p : Per w a b) (q : Per v x y) (h : leastD w a b = leastD v x y) : w = v := by
  unfold leastD at h
  simp only [Dat.tup.injEq, List.cons.injEq, Dat.str.injEq, and_true] at h
  obtain ⟨h1, h2⟩ := h
  have e1 : a = x := by rw [← pre_len w a, h1, pre_len]
  have e2 : b = y := by rw [← seg_len w a b, h2, seg_len]
  subst e1
  subst e2
  funext i
  rw [← fold_of p i, ← fold_of q i, fold_ext h1 h2 p.1]
end Dl
-- part Ee
set_option Elab.async false
set_option linter.all false
set_option maxRecDepth 100000
set_option maxHeartbeats 4000000
namespace Dl
open PySem PySem.Spec PyProof.Rows L2 Evl
variable [LawTabs]

local macro_rules | `(tactic| walk_at "w") => `(tactic| (simp (maxSteps := 3000000) only [↓e_var0, ↓e_var0o, ↓e_varS, ↓e_anyIt, ↓e_par, ↓e_zip, ↓aAdd_i, ↓aAdd_s, ↓aAdd_t, ↓aAdd_l, ↓aMul_i, ↓aMul_s, ↓aMul_l, ↓eqS_i, ↓eqS_s, ↓eqS_b, ↓eqS_nn, ↓eqS_ni, ↓eqS_ns, ↓eqS_nt, ↓eqS_in, ↓eqS_sn, ↓eqS_is, ↓eqS_si, ↓eqS_t, ↓eqS_l, ↓inS_s, ↓inS_t, ↓inS_l, ↓lenD_s, ↓lenD_t, ↓lenD_l, ↓lenD_z, ↓ixD_t, ↓ixD_l, ↓ixD_z, ↓ixD_s, ↓ixD_0, ↓ixD_1, ↓ixD_2, ↓cutDd_s, ↓cutDd_l, ↓cutDd_z, ↓cutDd_t, ↓listD_l, ↓listD_z, ↓itemsD_l, ↓itemsD_t, ↓itemsQ_s, ↓itemsQ_l, ↓itemsQ_z, ↓itemsQ_t, ↓aInt_i, ↓aInt_b, ↓aTupOf_l, ↓aTupOf_t, ↓anyD_l, ↓anyD_z, ↓anyD_t, ↓anyD_s, ↓joinD_l, ↓joinD_t, ↓zipQ_t, ↓zipQ_l, ↓asB_bl, ↓asI_int, ↓as1_one, ↓as2_two, par2,
  bodyW, bodyF, bodyP, start0, wSeq, wAsg, wOwn, wIfS, wRet, wRetF, wRetO, wRetN, wDrop, wApp, wSet, setW, slotSet, wInc, wNext, wBreak, wContinue, wNever, wC, wOp, wUn, wIf, wTest, wAnd, wOr, wNot, wYes, wAndV, wOrV, wNotV, wChain, wNil, wCons, wTup, wLst, wFz, wCall, wCallF, wCallK, wCallN, wCB, wCBF, wBM, wBM0, tStr, wNone, wPart, wSl, wgN, wgNil, wgCons, wgTup, wFor, wWhile, wLc, wRng1, wRng2, wListRg, wPot, wipeL, restL, keepIm,
  aI0, aII, aNeg, aEq, aNe, aIn, aNotIn, aIsN, aIsNotN, isN, aIsW, aIsNotW, ↓isW_n, ↓isW_bb, ↓isW_nb, wRevS, aAbs, aMax, aMin, aMin1, aMax1, ↓partsD_l, ↓partsD_z, ↓partsD_t, aLen, aSum, aAll, aAny, aIsi, isi, goodTy, aIx, aListOf, idxS,
  List.map_cons, List.map_nil, List.cons_append, List.nil_append, List.length_cons, List.length_nil, List.replicate_succ, List.replicate_zero, Nat.reduceAdd, Nat.reduceSub, List.getElem?_cons_zero, List.getElem?_cons_succ, List.set_cons_zero, List.set_cons_succ, reduceCtorEq, if_true, if_false, Bool.false_eq_true,
  decide_eq_true_eq, kinds, List.contains_cons, List.contains_nil, String.reduceBEq, Bool.or_true, Bool.true_or, Bool.or_false, Bool.false_or, Bool.not_true, Bool.not_false, Bool.not_eq_true, decide_true, decide_false, true_and, and_true, Int.reduceLT, Int.reduceLE, Int.reduceNeg, Nat.reduceLeDiff, cmuL, cmuR, cfdS, cpwS, atI_pos, Int.reduceToNat, isBls_nil, isBls_bl, Option.map_some, Option.some.injEq, exists_eq_left', List.all_cons, List.all_nil, id_eq, Bool.and_true, Bool.true_and, beq_self_eq_true]))


/-! losses as values -/
def lossD (h c : List Nat) : Dat := .tup [.str h, .str c]
def L_first : WS := (wSeq (wAsg (wVar 0) (wgTup 2 (wgCons (wgN 2) (wgCons (wgN 3) wgNil))))
  (wRet (wSl cutDd (wOp aAdd (wVar 2) (wOp aMul (wVar 3) (wOp aAdd (wOp aFd (wVar 1) (wCB aLen (wCons (wVar 3) wNil))) (wC (.int 1))))) wNone (wPart (wVar 1)))))
def G_first : Fn := fun ds n Q => ∃ h c m, ds = [lossD h c, .int (m : Nat)] ∧ c ≠ [] ∧ h.length + c.length + m ≤ 500000 ∧ Q (.str (lts h c m)) n
theorem B_first {ds : List Dat} {n : Nat} {QD : Dat → Nat → Prop} (h : G_first ds n QD) : bodyW 4 L_first ds n QD := by
  obtain ⟨x, c, m, rfl, hc, hl, h⟩ := h
  have p := c_pos hc
  have hd : (m : Int) / (c.length : Int) = ((m / c.length : Nat) : Int) := (Int.natCast_ediv _ _).symm
  have hle := lts_eq x hc m
  have hm := Nat.mod_add_div m c.length
  have hm2 := Nat.div_le_self m c.length
  generalize m / c.length = k at hd hm hm2 hle
  have b : c.length * (k + 1) ≤ m + c.length := by
    rw [Nat.mul_succ]
    omega
  have e : ((k : Int) + 1).toNat = k + 1 := by omega
  unfold L_first lossD
  walk_at "w"
  rw [hd, e]
  rw [cutN_hi (by omega), Int.toNat_natCast, hle]
  refine ⟨by omega, cfdS (by omega), ⟨by omega, by omega, by omega⟩, ?_⟩
  rw [List.length_append, repL_len]
  exact ⟨by omega, by omega, h⟩
def L_is_loss : WS := (wSeq (wIfS (wNot (wTest (wCall G_tuple (wCons (wVar 0) (wCons (wC (.int 2)) (wCons (wC (.int 2)) wNil)))))) (wRet (wC (.bl false))) wNext)
  (wRet (wAndV (wCall G_letters (wCons (wOp aIx (wVar 0) (wC (.int 0))) (wCons (wC (.int 0)) (wCons (wC (.int 200)) wNil)))) (wCall G_letters (wCons (wOp aIx (wVar 0) (wC (.int 1))) (wCons (wC (.int 1)) (wCons (wC (.int 200)) wNil)))))))
structure Loss (h c : List Nat) : Prop where
  hh : Lets h
  hc : Lets c
  lh : h.length ≤ 200
  lc : c.length ≤ 200
  ne : c ≠ []
def G_is_loss : Fn := fun ds n Q => ∃ h c, ds = [lossD h c] ∧ Loss h c ∧ Q (.bl true) n
theorem B_is_loss {ds : List Dat} {n : Nat} {QD : Dat → Nat → Prop} (h : G_is_loss ds n QD) : bodyW 1 L_is_loss ds n QD := by
  obtain ⟨x, c, rfl, hl, h⟩ := h
  have p := c_pos hl.ne
  unfold L_is_loss lossD
  walk_at "w"
  refine ⟨_, 2, 2, rfl, by simp, by simp, by decide, ?_⟩
  walk_at "w"
  refine ⟨x, 0, 200, rfl, hl.hh, by omega, by have := hl.lh; omega, by decide, ?_⟩
  walk_at "w"
  exact ⟨c, 1, 200, rfl, hl.hc, by omega, by have := hl.lc; omega, by decide, h⟩
def L_check_loss : WS := (wIfS (wNot (wTest (wCall G_is_loss (wCons (wVar 0) wNil)))) wNever wNext)
def G_check_loss : Fn := fun ds n Q => ∃ h c, ds = [lossD h c] ∧ Loss h c ∧ Q .non n
theorem B_check_loss {ds : List Dat} {n : Nat} {QD : Dat → Nat → Prop} (h : G_check_loss ds n QD) : bodyW 1 L_check_loss ds n QD := by
  obtain ⟨x, c, rfl, hl, h⟩ := h
  unfold L_check_loss
  walk_at "w"
  exact ⟨x, c, rfl, hl, h⟩
def L_letters_of : WS := (wSeq (wDrop (wCall G_check_loss (wCons (wVar 0) wNil)))
  (wSeq (wIfS (wNot (wTest (wCall G_integer (wCons (wVar 1) (wCons (wC (.int 0)) (wCons (wC (.int 200)) wNil)))))) wNever wNext)
  (wRet (wCall G_first (wCons (wVar 0) (wCons (wVar 1) wNil))))))
def G_letters_of : Fn := fun ds n Q => ∃ h c m, ds = [lossD h c, .int (m : Nat)] ∧ Loss h c ∧ m ≤ 200 ∧ Q (.str (lts h c m)) n
theorem B_letters_of {ds : List Dat} {n : Nat} {QD : Dat → Nat → Prop} (h : G_letters_of ds n QD) : bodyW 2 L_letters_of ds n QD := by
  obtain ⟨x, c, m, rfl, hl, hm, h⟩ := h
  unfold L_letters_of
  walk_at "w"
  refine ⟨x, c, rfl, hl, _, 0, 200, rfl, by omega, by omega, ?_⟩
  walk_at "w"
  exact ⟨x, c, m, rfl, hl.ne, by have := hl.lh; have := hl.lc; omega, h⟩
/-! the law's own least form: the first pair that tells the same letters -/
theorem sIx_nat (n i : Nat) (d : Nat) : HT.sIx n d (some (i : Int)) = min i n := by
  rw [sIx_pos (by omega)]
  rfl
theorem cutN_lh {α : Type} {l : List α} {lo hi : Int} {i k : Nat} (h1 : lo = i) (h2 : hi = i + k) : cutN l (some lo) (some hi) = (l.drop i).take k := by
  subst h1
  have e : hi = ((i + k : Nat) : Int) := by omega
  subst e
  unfold cutN
  rw [sIx_nat, sIx_nat]
  by_cases hl : i ≤ l.length
  · rw [Nat.min_eq_left hl]
    by_cases h2 : i + k ≤ l.length
    · rw [Nat.min_eq_left h2]
      congr 1
      omega
    · rw [Nat.min_eq_right (by omega), List.take_of_length_le (by rw [List.length_drop]; omega), List.take_of_length_le (by rw [List.length_drop]; omega)]
  · rw [List.drop_of_length_le (by rw [Nat.min_eq_right (by omega)]; omega), List.drop_of_length_le (by omega), List.take_nil, List.take_nil]
theorem lts_fold {w : Nat → Nat} {a b N : Nat} (hb : 0 < b) : lts (pre w a) (seg w a b) N = pre w N ↔ ∀ k, k < N → fold w a b k = w k := by
  show pre (lt (pre w a) (seg w a b)) N = pre w N ↔ _
  rw [pre_inj]
  constructor
  · intro h k hk
    rw [← lt_pre_seg w hb]
    exact h k hk
  · intro h k hk
    rw [lt_pre_seg w hb]
    exact h k hk
def L_least : WS := (wSeq (wAsg (wOp aAdd (wCB aLen (wCons (wOp aIx (wVar 0) (wC (.int 0))) wNil)) (wOp aMul (wC (.int 2)) (wCB aLen (wCons (wOp aIx (wVar 0) (wC (.int 1))) wNil)))) (wgN 1))
  (wSeq (wAsg (wCall G_first (wCons (wVar 0) (wCons (wOp aMul (wC (.int 2)) (wVar 1)) wNil))) (wgN 2))
  (wSeq (wFor (wRng1 (wCons (wOp aAdd (wCB aLen (wCons (wOp aIx (wVar 0) (wC (.int 0))) wNil)) (wC (.int 1))) wNil)) (wgN 3) (wFor (wRng2 (wCons (wC (.int 1)) (wCons (wOp aAdd (wCB aLen (wCons (wOp aIx (wVar 0) (wC (.int 1))) wNil)) (wC (.int 1))) wNil))) (wgN 4) (wIfS (wTest (wOp aEq (wCall G_first (wCons (wTup (wCons (wSl cutDd (wVar 2) wNone (wPart (wVar 3))) (wCons (wSl cutDd (wVar 2) (wPart (wVar 3)) (wPart (wOp aAdd (wVar 3) (wVar 4)))) wNil))) (wCons (wOp aMul (wC (.int 2)) (wVar 1)) wNil))) (wVar 2))) (wRet (wTup (wCons (wSl cutDd (wVar 2) wNone (wPart (wVar 3))) (wCons (wSl cutDd (wVar 2) (wPart (wVar 3)) (wPart (wOp aAdd (wVar 3) (wVar 4)))) wNil)))) wNext)))
  (wRet (wVar 0)))))
def G_least : Fn := fun ds n Q => ∃ h c, ds = [lossD h c] ∧ c ≠ [] ∧ h.length ≤ 2000 ∧ c.length ≤ 2000 ∧ ∀ a b, Least (lt h c) a b → a ≤ h.length → b ≤ c.length → Q (leastD (lt h c) a b) n
theorem B_least {ds : List Dat} {n : Nat} {QD : Dat → Nat → Prop} (h : G_least ds n QD) : bodyW 5 L_least ds n QD := by
  obtain ⟨x, c, rfl, hc, l1, l2, h⟩ := h
  have p := c_pos hc
  have q := lt_per x hc
  unfold L_least lossD
  walk_at "w"
  refine ⟨by omega, by omega, x, c, 2 * (x.length + 2 * c.length), ?_, hc, by omega, ?_⟩
  · unfold lossD
    simp
  walk_at "w"
  refine ⟨by omega, by omega, by omega, ?_⟩
  refine forW_at _ (fun i S => ∃ s3 s4, S = ⟨[.im (lossD x c), .im (.int (↑x.length + 2 * ↑c.length)), .im (.str (lts x c (2 * (x.length + 2 * c.length)))), s3, s4], n⟩ ∧ ∀ a, a < i → ∀ b, b ≤ c.length → ¬ Per (lt x c) a b) _ ?_ ⟨_, _, rfl, fun a ha => by omega⟩ ?_
  · rintro i d S hd ⟨s3, s4, rfl, no⟩ N hN
    obtain ⟨hi, rfl⟩ := intsD_get hd
    have hi : i ≤ x.length := by omega
    unfold lossD
    walk_at "w"
    refine ⟨by omega, ⟨by omega, by omega⟩, ?_⟩
    refine forW_at _ (fun j S => ∃ s4, S = ⟨[.im (lossD x c), .im (.int (↑x.length + 2 * ↑c.length)), .im (.str (lts x c (2 * (x.length + 2 * c.length)))), .im (.int (0 + (i : Int))), s4], n⟩ ∧ ∀ b, b ≤ j → ¬ Per (lt x c) i b) _ ?_ ⟨_, rfl, fun b hb h => by have := h.1; omega⟩ ?_
    · rintro j d S hd ⟨s4, rfl, no2⟩ N2 hN2
      obtain ⟨hj, rfl⟩ := intsD_get hd
      have hj : j + 1 ≤ c.length := by omega
      have r1 : cutN (lts x c (2 * (x.length + 2 * c.length))) none (some (0 + (i : Int))) = pre (lt x c) i := by
        rw [cutN_hi (by omega), show (0 + (i : Int)).toNat = i by omega]
        exact pre_take _ (by omega)
      have r2 : cutN (lts x c (2 * (x.length + 2 * c.length))) (some (0 + (i : Int))) (some (0 + (i : Int) + (1 + (j : Int)))) = seg (lt x c) i (j + 1) := by
        rw [cutN_lh (i := i) (k := j + 1) (by omega) (by omega)]
        exact pre_seg _ (by omega)
      unfold lossD
      walk_at "w"
      rw [r1, r2]
      have hll : (lts x c (2 * (x.length + 2 * c.length))).length = 2 * (x.length + 2 * c.length) := lts_len _ _ _
      refine ⟨by omega, by omega, pre (lt x c) i, seg (lt x c) i (j + 1), 2 * (x.length + 2 * c.length), ?_, fun e => ?_, ?_, ?_⟩
      · unfold lossD
        simp
      · have := seg_len (lt x c) i (j + 1)
        rw [e] at this
        simp at this
      · rw [pre_len, seg_len]
        omega
      walk_at "w"
      have key : lts (pre (lt x c) i) (seg (lt x c) i (j + 1)) (2 * (x.length + 2 * c.length)) = lts x c (2 * (x.length + 2 * c.length)) ↔ _ := lts_fold (w := lt x c) (a := i) (b := j + 1) (N := 2 * (x.length + 2 * c.length)) (by omega)
      split
      · rename_i e
        have per : Per (lt x c) i (j + 1) := per_of_fold q hi (by omega) hj (by omega) (key.mp (by simpa using e))
        refine ⟨by omega, by omega, h i (j + 1) ⟨per, fun a b ha => ?_, fun b hb => ?_⟩ hi hj⟩
        · exact Nat.le_of_not_lt fun hl => no a hl _ (Nat.le_refl _) (ha.swap q)
        · exact Nat.le_of_not_lt fun hl => no2 b (by omega) hb
      · rename_i e
        refine hN2 _ ⟨_, rfl, fun b hb hp => ?_⟩
        by_cases eb : b = j + 1
        · subst eb
          exact e (by simpa using key.mpr fun k _ => fold_of hp k)
        · exact no2 b (by omega) hp
    · rintro S ⟨s4, rfl, no2⟩
      refine hN _ ⟨_, _, rfl, fun a ha b hb => ?_⟩
      by_cases e : a = i
      · subst e
        exact no2 b (by simpa [intsD] using hb)
      · exact no a (by omega) b hb
  · rintro S ⟨s3, s4, rfl, no⟩
    exact absurd q (no _ (by simp [intsD]) _ (Nat.le_refl _))
end Dl
-- part Ef
set_option Elab.async false
set_option linter.all false
set_option maxRecDepth 100000
set_option maxHeartbeats 4000000
namespace Dl
variable [LawTabs]
/-! places along rows without end -/
def pl (w : Nat → Nat) (m : Nat) : Int := plc 0 (pre w m)
abbrev LetW (w : Nat → Nat) : Prop := ∀ i, w i = 110 ∨ w i = 102 ∨ w i = 115
theorem pre_succ (w : Nat → Nat) (m : Nat) : pre w (m + 1) = pre w m ++ [w m] := by
  unfold pre
  rw [List.range_succ, List.map_append]
  rfl
theorem pl_succ (w : Nat → Nat) (m : Nat) : pl w (m + 1) = 3 * pl w m + bk (pl w m) (w m) := by
  unfold pl
  rw [pre_succ]
  unfold plc
  rw [List.foldl_append]
  rfl
theorem lt_lets {h c : List Nat} (hh : Lets h) (hc : Lets c) (ne : c ≠ []) : LetW (lt h c) := fun i => by
  unfold lt
  by_cases hi : i < h.length
  · rw [if_pos hi, List.getD_eq_getElem?_getD, List.getElem?_eq_getElem hi]
    exact hh _ (List.getElem_mem hi)
  · have l := Nat.mod_lt (i - h.length) (c_pos ne)
    rw [if_neg hi, List.getD_eq_getElem?_getD, List.getElem?_eq_getElem l]
    exact hc _ (List.getElem_mem l)
theorem pre_lets {w : Nat → Nat} (hw : LetW w) (m : Nat) : Lets (pre w m) := fun c hc => by
  unfold pre at hc
  obtain ⟨i, _, rfl⟩ := List.mem_map.mp hc
  exact hw i
theorem seg_lets {w : Nat → Nat} (hw : LetW w) (a b : Nat) : Lets (seg w a b) := fun c hc => by
  unfold seg at hc
  obtain ⟨i, _, rfl⟩ := List.mem_map.mp hc
  exact hw _
theorem pl_range {w : Nat → Nat} (hw : LetW w) (m : Nat) : 0 ≤ pl w m ∧ pl w m < 3 ^ m := by
  obtain ⟨h1, _⟩ := plc_zero (pre w m) 0 (by decide) (pre_lets hw m)
  obtain ⟨h2, _⟩ := plc_top (pre w m) 0 1 (by decide) (by decide) (by decide) (pre_lets hw m)
  rw [pre_len, Int.one_mul] at h2
  exact ⟨h1, h2⟩
def tw (p : Int) : Nat := if p % 2 = 0 then 102 else 115
theorem bk_inj {p : Int} {a b : Nat} (ha : a = 110 ∨ a = 102 ∨ a = 115) (hb : b = 110 ∨ b = 102 ∨ b = 115) (h : bk p a = bk p b) : a = b := by
  unfold bk at h
  rcases ha with rfl | rfl | rfl <;> rcases hb with rfl | rfl | rfl <;> first | rfl | (split at h <;> simp at h)
theorem bk_two {p : Int} {a : Nat} (ha : a = 110 ∨ a = 102 ∨ a = 115) : bk p a = 2 ↔ a = tw p := by
  unfold bk tw
  rcases ha with rfl | rfl | rfl <;> split <;> simp
theorem bk_nil {p : Int} {a : Nat} (ha : a = 110 ∨ a = 102 ∨ a = 115) : bk (p + 1) a = 0 ↔ a = tw p := by
  unfold bk tw
  by_cases hp : p % 2 = 0
  · rw [if_neg (show ¬ (p + 1) % 2 = 0 by omega), if_pos hp]
    rcases ha with rfl | rfl | rfl <;> simp
  · rw [if_pos (show (p + 1) % 2 = 0 by omega), if_neg hp]
    rcases ha with rfl | rfl | rfl <;> simp
theorem near_step {p : Int} {a b : Nat} (ha : a = 110 ∨ a = 102 ∨ a = 115) (hb : b = 110 ∨ b = 102 ∨ b = 115) (h : 3 * (p + 1) + bk (p + 1) b - (3 * p + bk p a) ≤ 1) : a = tw p ∧ b = tw p := by
  obtain ⟨h1, h2⟩ := bk_range p a
  obtain ⟨h3, h4⟩ := bk_range (p + 1) b
  exact ⟨(bk_two ha).mp (by omega), (bk_nil hb).mp (by omega)⟩
theorem tw_par {p q : Int} (h : p % 2 = q % 2) : tw p = tw q := by
  unfold tw
  rw [h]
theorem near_low {w v : Nat → Nat} (hw : LetW w) (hv : LetW v) {i M : Nat} (h0 : pl v (i + 1) = pl w (i + 1) + 1) (h : ∀ m, m ≤ M → pl v m - pl w m ≤ 1) :
    ∀ k, i + 1 + k ≤ M → (pl v (i + 1 + k) = pl w (i + 1 + k) + 1 ∧ pl w (i + 1 + k) % 2 = pl w (i + 1) % 2) ∧ (i + 1 + k < M → w (i + 1 + k) = tw (pl w (i + 1)) ∧ v (i + 1 + k) = tw (pl w (i + 1))) := by
  have letter : ∀ k, i + 1 + k < M → pl v (i + 1 + k) = pl w (i + 1 + k) + 1 → w (i + 1 + k) = tw (pl w (i + 1 + k)) ∧ v (i + 1 + k) = tw (pl w (i + 1 + k)) := fun k hk e => by
    have := h (i + 1 + k + 1) (by omega)
    rw [pl_succ, pl_succ, e] at this
    exact near_step (hw _) (hv _) this
  intro k
  induction k with
  | zero =>
    intro hk
    exact ⟨⟨h0, rfl⟩, fun hl => letter 0 hl h0⟩
  | succ k ih =>
    intro hk
    obtain ⟨⟨e1, e2⟩, e3⟩ := ih (by omega)
    obtain ⟨l1, l2⟩ := letter k (by omega) e1
    have n1 : pl v (i + 1 + (k + 1)) = pl w (i + 1 + (k + 1)) + 1 ∧ pl w (i + 1 + (k + 1)) % 2 = pl w (i + 1) % 2 := by
      rw [show i + 1 + (k + 1) = i + 1 + k + 1 by omega, pl_succ, pl_succ, e1, (bk_two (hw _)).mpr l1, (bk_nil (hv _)).mpr l2]
      omega
    refine ⟨n1, fun hl => ?_⟩
    obtain ⟨m1, m2⟩ := letter (k + 1) hl n1.1
    rw [m1, m2, tw_par n1.2]
    exact ⟨rfl, rfl⟩
theorem near_first {P : Int} {y z : Nat} (hy : y = 110 ∨ y = 102 ∨ y = 115) (hz : z = 110 ∨ z = 102 ∨ z = 115) (h : bk P z = bk P y + 1) : y ≠ tw (3 * P + bk P y) ∧ z ≠ tw (3 * P + bk P y) := by
  unfold tw
  unfold bk at h ⊢
  by_cases hp : P % 2 = 0
  · rw [if_pos hp] at h ⊢
    rw [if_pos hp] at h
    rcases hy with rfl | rfl | rfl <;> rcases hz with rfl | rfl | rfl <;> simp at h ⊢ <;> (split <;> first | omega | decide)
  · rw [if_neg hp] at h ⊢
    rw [if_neg hp] at h
    rcases hy with rfl | rfl | rfl <;> rcases hz with rfl | rfl | rfl <;> simp at h ⊢ <;> (split <;> first | omega | decide)
theorem pl_same {w v : Nat → Nat} {i : Nat} (h : ∀ k, k < i → w k = v k) : pl w i = pl v i := by
  unfold pl
  rw [pre_inj.mpr h]
theorem tw_two (p : Int) : tw p = 102 ∨ tw p = 115 := by
  unfold tw
  split
  · exact .inl rfl
  · exact .inr rfl
theorem near_or {w v : Nat → Nat} (hw : LetW w) (hv : LetW v) {i M : Nat} (hd : w i ≠ v i) (ag : ∀ k, k < i → w k = v k) (hM : i < M) (h : ∀ m, m ≤ M → pl v m - pl w m ≤ 1 ∧ pl w m - pl v m ≤ 1) :
    ∃ x, (x = 102 ∨ x = 115) ∧ w i ≠ x ∧ v i ≠ x ∧ ∀ k, i < k → k < M → w k = x ∧ v k = x := by
  have e := pl_same ag
  have hb : bk (pl w i) (w i) ≠ bk (pl w i) (v i) := fun q => hd (bk_inj (hw _) (hv _) q)
  have s1 := pl_succ w i
  have s2 := pl_succ v i
  rw [← e] at s2
  obtain ⟨h1, h2⟩ := h (i + 1) (by omega)
  by_cases c : pl v (i + 1) = pl w (i + 1) + 1
  · obtain ⟨n1, n2⟩ := near_first (hw i) (hv i) (P := pl w i) (by omega)
    rw [← s1] at n1 n2
    refine ⟨tw (pl w (i + 1)), tw_two _, n1, n2, fun k k1 k2 => ?_⟩
    have := (near_low hw hv c (fun m hm => (h m hm).1) (k - (i + 1)) (by omega)).2 (by omega)
    rw [show i + 1 + (k - (i + 1)) = k by omega] at this
    exact this
  · have c' : pl w (i + 1) = pl v (i + 1) + 1 := by omega
    obtain ⟨n1, n2⟩ := near_first (hv i) (hw i) (P := pl w i) (by omega)
    rw [← s2] at n1 n2
    refine ⟨tw (pl v (i + 1)), tw_two _, n2, n1, fun k k1 k2 => ?_⟩
    have := (near_low hv hw c' (fun m hm => (h m hm).2) (k - (i + 1)) (by omega)).2 (by omega)
    rw [show i + 1 + (k - (i + 1)) = k by omega] at this
    exact ⟨this.2, this.1⟩
theorem tail_ext {w : Nat → Nat} {a b i M x : Nat} (p : Per w a b) (hx : ∀ k, i < k → k < M → w k = x) (h1 : i + 1 + b ≤ M) (h2 : a + b ≤ M) : ∀ k, i < k → w k = x := by
  intro k
  induction k using Nat.strongRecOn with
  | _ k ih =>
    intro hk
    by_cases hl : k < M
    · exact hx k hk hl
    · have := p.1
      rw [← ih (k - b) (by omega) (by omega), ← p.2 (k - b) (by omega), show k - b + b = k by omega]
theorem least_tail {w : Nat → Nat} {i x : Nat} (h0 : w i ≠ x) (h : ∀ k, i < k → w k = x) : Least w (i + 1) 1 := by
  refine ⟨⟨by decide, fun k hk => by rw [h k (by omega), h (k + 1) (by omega)]⟩, fun a b p => ?_, fun b p => p.1⟩
  refine Nat.le_of_not_lt fun hl => ?_
  have := p.2 i (by omega)
  have := p.1
  rw [h (i + b) (by omega)] at *
  omega
/-- rows that stay near are alike, or twins -/
structure Twins (w v : Nat → Nat) (i x : Nat) : Prop where
  x_fs : x = 102 ∨ x = 115
  same : ∀ k, k < i → w k = v k
  ne : w i ≠ v i
  w_x : w i ≠ x
  v_x : v i ≠ x
  tail : ∀ k, i < k → w k = x ∧ v k = x
theorem near_all {w v : Nat → Nat} (hw : LetW w) (hv : LetW v) {a b p q M : Nat} (pw : Per w a p) (pv : Per v b q) (h1 : max a b + p + q + p ≤ M) (h2 : max a b + p + q + q ≤ M)
    (h : ∀ m, m ≤ M → pl v m - pl w m ≤ 1 ∧ pl w m - pl v m ≤ 1) : w = v ∨ ∃ i x, Twins w v i x ∧ i < max a b + p + q := by
  by_cases hd : ∃ i, i < max a b + p + q ∧ w i ≠ v i
  · obtain ⟨i, ⟨hi, hne⟩, hmin⟩ := exists_min hd
    have ag : ∀ k, k < i → w k = v k := fun k hk => by
      by_cases e : w k = v k
      · exact e
      · have := hmin k ⟨by omega, e⟩
        omega
    obtain ⟨x, x1, x2, x3, x4⟩ := near_or hw hv hne ag (by omega) h
    refine .inr ⟨i, x, ⟨x1, ag, hne, x2, x3, fun k hk => ⟨?_, ?_⟩⟩, hi⟩
    · exact tail_ext pw (fun k k1 k2 => (x4 k k1 k2).1) (by omega) (by omega) k hk
    · exact tail_ext pv (fun k k1 k2 => (x4 k k1 k2).2) (by omega) (by omega) k hk
  · refine .inl (alike_of (pw.mono (Nat.le_max_left a b)) (pv.mono (Nat.le_max_right a b)) fun i hi => ?_)
    by_cases e : w i = v i
    · exact e
    · exact (hd ⟨i, hi, e⟩).elim
/-- twins stay near -/
theorem Twins.key {w v : Nat → Nat} (hw : LetW w) (hv : LetW v) {i x : Nat} (t : Twins w v i x) : ∀ k, ∃ p, tw p = x ∧ ((pl w (i + 1 + k) = p ∧ pl v (i + 1 + k) = p + 1) ∨ (pl v (i + 1 + k) = p ∧ pl w (i + 1 + k) = p + 1)) := by
    intro k
    induction k with
    | zero =>
      have e := pl_same t.same
      have s1 := pl_succ w i
      have s2 := pl_succ v i
      rw [← e] at s2
      rw [Nat.add_zero]
      have l1 := hw i
      have l2 := hv i
      have hx := t.x_fs
      have d0 := t.ne
      have d1 := t.w_x
      have d2 := t.v_x
      rw [s1, s2]
      generalize w i = y at *
      generalize v i = z at *
      generalize pl w i = P at *
      unfold bk tw
      by_cases hp : P % 2 = 0
      · rw [if_pos hp, if_pos hp]
        rcases hx with rfl | rfl <;> rcases l1 with rfl | rfl | rfl <;> rcases l2 with rfl | rfl | rfl <;> first | omega | skip
        · exact ⟨3 * P, by rw [if_pos (by omega)], .inr ⟨by simp, by simp⟩⟩
        · exact ⟨3 * P, by rw [if_pos (by omega)], .inl ⟨by simp, by simp⟩⟩
        · exact ⟨3 * P + 1, by rw [if_neg (by omega)], .inl ⟨by simp, by simp; omega⟩⟩
        · exact ⟨3 * P + 1, by rw [if_neg (by omega)], .inr ⟨by simp, by simp; omega⟩⟩
      · rw [if_neg hp, if_neg hp]
        rcases hx with rfl | rfl <;> rcases l1 with rfl | rfl | rfl <;> rcases l2 with rfl | rfl | rfl <;> first | omega | skip
        · exact ⟨3 * P + 1, by rw [if_pos (by omega)], .inl ⟨by simp, by simp; omega⟩⟩
        · exact ⟨3 * P + 1, by rw [if_pos (by omega)], .inr ⟨by simp, by simp; omega⟩⟩
        · exact ⟨3 * P, by rw [if_neg (by omega)], .inr ⟨by simp, by simp⟩⟩
        · exact ⟨3 * P, by rw [if_neg (by omega)], .inl ⟨by simp, by simp⟩⟩
    | succ k ih =>
      obtain ⟨p, hp, h⟩ := ih
      obtain ⟨t1, t2⟩ := t.tail (i + 1 + k) (by omega)
      rw [show i + 1 + (k + 1) = i + 1 + k + 1 by omega, pl_succ, pl_succ, t1, t2]
      have b2 : bk p x = 2 := (bk_two (hp ▸ .inr (tw_two p))).mpr hp.symm
      have b0 : bk (p + 1) x = 0 := (bk_nil (hp ▸ .inr (tw_two p))).mpr hp.symm
      refine ⟨3 * p + 2, by rw [← hp]; exact tw_par (by omega), ?_⟩
      rcases h with ⟨h1, h2⟩ | ⟨h1, h2⟩
      · exact .inl ⟨by rw [h1, b2], by rw [h2, b0]; omega⟩
      · exact .inr ⟨by rw [h1, b2], by rw [h2, b0]; omega⟩
theorem Twins.near {w v : Nat → Nat} (hw : LetW w) (hv : LetW v) {i x : Nat} (t : Twins w v i x) : ∀ m, pl v m - pl w m ≤ 1 ∧ pl w m - pl v m ≤ 1 := by
  intro m
  by_cases hm : m ≤ i
  · have := pl_same (w := w) (v := v) (i := m) fun k hk => t.same k (by omega)
    omega
  · obtain ⟨p, _, h⟩ := t.key hw hv (m - (i + 1))
    rw [show i + 1 + (m - (i + 1)) = m by omega] at h
    omega
end Dl
-- part Eg
set_option Elab.async false
set_option linter.all false
set_option maxRecDepth 100000
set_option maxHeartbeats 4000000
namespace Dl
open PySem PySem.Spec PyProof.Rows L2 Evl
variable [LawTabs]

local macro_rules | `(tactic| walk_at "w") => `(tactic| (simp (maxSteps := 3000000) only [↓e_var0, ↓e_var0o, ↓e_varS, ↓e_anyIt, ↓e_par, ↓e_zip, ↓aAdd_i, ↓aAdd_s, ↓aAdd_t, ↓aAdd_l, ↓aMul_i, ↓aMul_s, ↓aMul_l, ↓eqS_i, ↓eqS_s, ↓eqS_b, ↓eqS_nn, ↓eqS_ni, ↓eqS_ns, ↓eqS_nt, ↓eqS_in, ↓eqS_sn, ↓eqS_is, ↓eqS_si, ↓eqS_t, ↓eqS_l, ↓inS_s, ↓inS_t, ↓inS_l, ↓lenD_s, ↓lenD_t, ↓lenD_l, ↓lenD_z, ↓ixD_t, ↓ixD_l, ↓ixD_z, ↓ixD_s, ↓ixD_0, ↓ixD_1, ↓ixD_2, ↓cutDd_s, ↓cutDd_l, ↓cutDd_z, ↓cutDd_t, ↓listD_l, ↓listD_z, ↓itemsD_l, ↓itemsD_t, ↓itemsQ_s, ↓itemsQ_l, ↓itemsQ_z, ↓itemsQ_t, ↓aInt_i, ↓aInt_b, ↓aTupOf_l, ↓aTupOf_t, ↓anyD_l, ↓anyD_z, ↓anyD_t, ↓anyD_s, ↓joinD_l, ↓joinD_t, ↓zipQ_t, ↓zipQ_l, ↓asB_bl, ↓asI_int, ↓as1_one, ↓as2_two, par2,
  bodyW, bodyF, bodyP, start0, wSeq, wAsg, wOwn, wIfS, wRet, wRetF, wRetO, wRetN, wDrop, wApp, wSet, setW, slotSet, wInc, wNext, wBreak, wContinue, wNever, wC, wOp, wUn, wIf, wTest, wAnd, wOr, wNot, wYes, wAndV, wOrV, wNotV, wChain, wNil, wCons, wTup, wLst, wFz, wCall, wCallF, wCallK, wCallN, wCB, wCBF, wBM, wBM0, tStr, wNone, wPart, wSl, wgN, wgNil, wgCons, wgTup, wFor, wWhile, wLc, wRng1, wRng2, wListRg, wPot, wipeL, restL, keepIm,
  aI0, aII, aNeg, aEq, aNe, aIn, aNotIn, aIsN, aIsNotN, isN, aIsW, aIsNotW, ↓isW_n, ↓isW_bb, ↓isW_nb, wRevS, aAbs, aMax, aMin, aMin1, aMax1, ↓partsD_l, ↓partsD_z, ↓partsD_t, aLen, aSum, aAll, aAny, aIsi, isi, goodTy, aIx, aListOf, idxS,
  List.map_cons, List.map_nil, List.cons_append, List.nil_append, List.length_cons, List.length_nil, List.replicate_succ, List.replicate_zero, Nat.reduceAdd, Nat.reduceSub, List.getElem?_cons_zero, List.getElem?_cons_succ, List.set_cons_zero, List.set_cons_succ, reduceCtorEq, if_true, if_false, Bool.false_eq_true,
  decide_eq_true_eq, kinds, List.contains_cons, List.contains_nil, String.reduceBEq, Bool.or_true, Bool.true_or, Bool.or_false, Bool.false_or, Bool.not_true, Bool.not_false, Bool.not_eq_true, decide_true, decide_false, true_and, and_true, Int.reduceLT, Int.reduceLE, Int.reduceNeg, Nat.reduceLeDiff, cmuL, cmuR, cfdS, cpwS, atI_pos, Int.reduceToNat, isBls_nil, isBls_bl, Option.map_some, Option.some.injEq, exists_eq_left', List.all_cons, List.all_nil, id_eq, Bool.and_true, Bool.true_and, beq_self_eq_true]))


def L_min_place : WS := (wRet (wCB aMin1 (wCons (wCall G_heard_numbers (wCons (wVar 0) wNil)) wNil)))
def G_min_place : Fn := fun ds n Q => ∃ z, ds = [.str z] ∧ Lets z ∧ Q (.int (plc 0 z)) n
theorem min_numbers (p : Int) {m : Int} (h1 : m = (numbersAt p).1 ∨ m = (numbersAt p).2) (h2 : m ≤ (numbersAt p).1) (h3 : m ≤ (numbersAt p).2) : m = p := by
  unfold numbersAt at *
  split at h1 <;> rename_i e <;> simp only [e, if_true, if_false] at * <;> omega
theorem B_min_place {ds : List Dat} {n : Nat} {QD : Dat → Nat → Prop} (h : G_min_place ds n QD) : bodyW 1 L_min_place ds n QD := by
  obtain ⟨z, rfl, hz, h⟩ := h
  unfold L_min_place
  walk_at "w"
  refine ⟨z, rfl, hz, ?_⟩
  rw [show heard (0, 1) z = numbersAt (plc 0 z) from heard_at z 0 hz]
  walk_at "w"
  refine ⟨[(numbersAt (plc 0 z)).1, (numbersAt (plc 0 z)).2], rfl, by simp, fun m h1 h2 => ?_⟩
  rw [min_numbers (plc 0 z) (by simpa using h1) (h2 _ (by simp)) (h2 _ (by simp))]
  exact h
/-! drawn words -/
def L_word_drawn : WS := (wRet (wBM tStr joinD (wC (.str ("" : Str).cps.toList)) (wCons (wFz (wLc (wRng1 (wCons (wCall G_take (wCons (wVar 0) (wCons (wOp aAdd (wVar 1) (wC (.int 1))) wNil))) wNil)) [2] (wgN 2) wYes (wCall G_of (wCons (wVar 0) (wCons (wFz (wCBF aListOf (wCons (wC (.str ("nfs" : Str).cps.toList)) wNil))) wNil))))) wNil)))
def G_word_drawn : Fn := fun ds n Q => ∃ m : Nat, ds = [.pot, .int m] ∧ m ≤ 1000 ∧ n + m + 1 ≤ 1000000 ∧ ∀ z, Lets z → z.length ≤ m → Q (.str z) (n + m + 1)
theorem B_word_drawn {ds : List Dat} {n : Nat} {QD : Dat → Nat → Prop} (h : G_word_drawn ds n QD) : bodyP 3 L_word_drawn ds n QD := by
  obtain ⟨m, rfl, hm, hn, h⟩ := h
  unfold L_word_drawn
  walk_at "w"
  rw [lit_nfs, lit_]
  refine ⟨(m : Int) + 1, rfl, by omega, by omega, by omega, fun r r0 r1 => ?_⟩
  obtain ⟨k, rfl⟩ : ∃ k : Nat, r = k := ⟨r.toNat, by omega⟩
  walk_at "w"
  refine ⟨by omega, by omega, ?_⟩
  refine lcW_draw (fun x => ∃ c : Nat, (c = 110 ∨ c = 102 ∨ c = 115) ∧ x = .str [c]) 1 _ _ _ _ (by simp [intsD]; omega) (by simp [intsD]; omega) (fun d hd n R R0 hn hR => ?_) (fun xs hl hx => ?_)
  · walk_at "w"
    exact of_letters hn fun c hc => hR _ ⟨c, hc, rfl⟩
  · obtain ⟨w, w1, w2, w3⟩ := letters_of hx
    have hw : w.length = k := by rw [w2, hl]; simp [intsD]
    refine ⟨_, w3, ?_, ?_⟩
    · rw [sum_ones]
      simp
      omega
    · rw [joinN_flat, flat_ones]
      exact ⟨n + m + 1, by simp [intsD]; omega, by omega, h _ w1 (by omega)⟩
/-! the law's own twin -/
def flip2 (x y : Nat) : Nat := if x = 115 then (if y = 102 then 110 else 102) else (if y = 115 then 110 else 115)
def twinD (w : Nat → Nat) (a b : Nat) : Dat :=
  if b = 1 ∧ 0 < a ∧ (w a = 115 ∨ w a = 102) ∧ w (a - 1) ≠ w a then .tup [.str (pre w (a - 1) ++ [flip2 (w a) (w (a - 1))]), .str [w a]] else .non
theorem sIx_m1 (n d : Nat) : HT.sIx n d (some (-1)) = n - 1 := by
  show (if (-1 : Int) < 0 then (-1 + (n : Int)).toNat else min (-1 : Int).toNat n) = n - 1
  rw [if_pos (by decide)]
  omega
theorem cutN_last {α : Type} (l : List α) : cutN l (some (-1)) none = l.drop (l.length - 1) := by
  unfold cutN
  rw [sIx_m1, HT.sIx_none, List.take_of_length_le]
  rw [List.length_drop]
  exact Nat.le_refl _
theorem cutN_butlast {α : Type} (l : List α) : cutN l none (some (-1)) = l.take (l.length - 1) := by
  unfold cutN
  rw [sIx_m1, HT.sIx_none, List.drop_zero, Nat.sub_zero]
theorem pre_last (w : Nat → Nat) (a : Nat) : cutN (pre w (a + 1)) (some (-1)) none = [w a] := by
  rw [cutN_last, pre_len, pre_succ, Nat.add_sub_cancel]
  rw [List.drop_append_of_le_length (by rw [pre_len]; exact Nat.le_refl _), List.drop_of_length_le (by rw [pre_len]; exact Nat.le_refl _)]
  rfl
theorem pre_butlast (w : Nat → Nat) (a : Nat) : cutN (pre w (a + 1)) none (some (-1)) = pre w a := by
  rw [cutN_butlast, pre_len, Nat.add_sub_cancel, pre_take w (Nat.le_succ a)]
def L_twin : WS := (wSeq (wAsg (wCall G_least (wCons (wVar 0) wNil)) (wgTup 2 (wgCons (wgN 1) (wgCons (wgN 2) wgNil))))
  (wSeq (wIfS (wAnd (wTest (wOp aEq (wVar 2) (wC (.str ("s" : Str).cps.toList)))) (wTest (wOp aIn (wSl cutDd (wVar 1) (wPart (wUn aNeg (wC (.int 1)))) wNone) (wTup (wCons (wC (.str ("f" : Str).cps.toList)) (wCons (wC (.str ("n" : Str).cps.toList)) wNil)))))) (wRet (wTup (wCons (wOp aAdd (wSl cutDd (wVar 1) wNone (wPart (wUn aNeg (wC (.int 1))))) (wIf (wTest (wOp aEq (wOp aIx (wVar 1) (wUn aNeg (wC (.int 1)))) (wC (.str ("f" : Str).cps.toList)))) (wC (.str ("n" : Str).cps.toList)) (wC (.str ("f" : Str).cps.toList)))) (wCons (wC (.str ("s" : Str).cps.toList)) wNil)))) wNext)
  (wSeq (wIfS (wAnd (wTest (wOp aEq (wVar 2) (wC (.str ("f" : Str).cps.toList)))) (wTest (wOp aIn (wSl cutDd (wVar 1) (wPart (wUn aNeg (wC (.int 1)))) wNone) (wTup (wCons (wC (.str ("s" : Str).cps.toList)) (wCons (wC (.str ("n" : Str).cps.toList)) wNil)))))) (wRet (wTup (wCons (wOp aAdd (wSl cutDd (wVar 1) wNone (wPart (wUn aNeg (wC (.int 1))))) (wIf (wTest (wOp aEq (wOp aIx (wVar 1) (wUn aNeg (wC (.int 1)))) (wC (.str ("s" : Str).cps.toList)))) (wC (.str ("n" : Str).cps.toList)) (wC (.str ("s" : Str).cps.toList)))) (wCons (wC (.str ("f" : Str).cps.toList)) wNil)))) wNext)
  (wRet (wC .non)))))

def G_twin : Fn := fun ds n Q => ∃ h c, ds = [lossD h c] ∧ LetW (lt h c) ∧ c ≠ [] ∧ h.length ≤ 2000 ∧ c.length ≤ 2000 ∧ ∀ a b, Least (lt h c) a b → a ≤ h.length → b ≤ c.length → Q (twinD (lt h c) a b) n
theorem B_twin {ds : List Dat} {n : Nat} {QD : Dat → Nat → Prop} (h : G_twin ds n QD) : bodyW 3 L_twin ds n QD := by
  obtain ⟨x, c, rfl, hw, hc, l1, l2, h⟩ := h
  unfold L_twin
  walk_at "w"
  rw [lit_s, lit_f, lit_n]
  refine ⟨x, c, rfl, hc, l1, l2, fun a b hl ha hb => ?_⟩
  have key := h a b hl ha hb
  unfold leastD
  cases a with
  | zero =>
    have k2 : QD .non n := by
      unfold twinD at key
      rw [if_neg (by omega)] at key
      exact key
    walk_at "w"
    rw [show cutN (pre (lt x c) 0) (some (-1)) none = [] from rfl]
    have f1 : flat (.str []) = true := rfl
    have f2 : ∀ p q : Nat, inF (.str []) [.str [p], .str [q]] = false := fun p q => by simp [inF, eqF]
    simp only [f1, f2, Bool.false_eq_true, if_false, flat, Bool.and_self, true_and, k2, show (pre (lt x c) 0).length = 0 from rfl, Nat.zero_le, and_self, ite_self]
  | succ a =>
    walk_at "w"
    rw [pre_last, pre_butlast]
    have la : (pre (lt x c) (a + 1)).length ≤ 1000000 := by rw [pre_len]; omega
    have lb : (pre (lt x c) a).length ≤ 999999 := by rw [pre_len]; omega
    have lc : atI (pre (lt x c) (a + 1)) (-1) = some (lt x c a) := by
      rw [atI_neg1, pre_len, Nat.add_sub_cancel, pre_get _ (Nat.lt_succ_self a)]
    by_cases hb1 : b = 1
    · subst hb1
      rw [show seg (lt x c) (a + 1) 1 = [lt x c (a + 1)] from rfl]
      unfold twinD at key
      simp only [la, lb, lc, true_and, Option.some.injEq, exists_eq_left', Nat.add_sub_cancel, Nat.succ_pos] at key ⊢
      rcases hw (a + 1) with e | e | e <;> rcases hw a with e2 | e2 | e2 <;> rw [e, e2] at key ⊢ <;> simp [flip2, flat, inF] at key ⊢ <;> exact key
    · have s1 : ∀ y, seg (lt x c) (a + 1) b ≠ [y] := fun y e => hb1 (by rw [← seg_len (lt x c) (a + 1) b, e]; rfl)
      rw [if_neg (s1 _), if_neg (s1 _)]
      unfold twinD at key
      rw [if_neg (fun e => hb1 e.1)] at key
      exact key
theorem Per.one {w : Nat → Nat} {a : Nat} (p : Per w a 1) : ∀ k, a ≤ k → w k = w a := fun k hk => by
  have := p.mul (k - a) a (Nat.le_refl _)
  rw [Nat.mul_one, show a + (k - a) = k by omega] at this
  exact this
theorem flip2_of {x y z : Nat} (hx : x = 102 ∨ x = 115) (hy : y = 110 ∨ y = 102 ∨ y = 115) (hz : z = 110 ∨ z = 102 ∨ z = 115) (h1 : y ≠ x) (h2 : z ≠ x) (h3 : y ≠ z) : flip2 x y = z := by
  unfold flip2
  rcases hx with rfl | rfl <;> rcases hy with rfl | rfl | rfl <;> rcases hz with rfl | rfl | rfl <;> first | omega | rfl
theorem flip2_ne {x y : Nat} (hx : x = 102 ∨ x = 115) (hy : y = 110 ∨ y = 102 ∨ y = 115) (h1 : y ≠ x) : flip2 x y ≠ x ∧ flip2 x y ≠ y ∧ (flip2 x y = 110 ∨ flip2 x y = 102 ∨ flip2 x y = 115) := by
  unfold flip2
  rcases hx with rfl | rfl <;> rcases hy with rfl | rfl | rfl <;> first | omega | simp
theorem Twins.leasts {w v : Nat → Nat} {i x : Nat} (t : Twins w v i x) : Least w (i + 1) 1 ∧ Least v (i + 1) 1 :=
  ⟨least_tail t.w_x fun k hk => (t.tail k hk).1, least_tail t.v_x fun k hk => (t.tail k hk).2⟩
theorem seg_one (w : Nat → Nat) (a : Nat) : seg w a 1 = [w a] := rfl
theorem Twins.twinD {w v : Nat → Nat} (hw : LetW w) (hv : LetW v) {i x : Nat} (t : Twins w v i x) : Dl.twinD w (i + 1) 1 = leastD v (i + 1) 1 := by
  obtain ⟨e1, e2⟩ := t.tail (i + 1) (by omega)
  have hx := t.x_fs
  unfold Dl.twinD leastD
  rw [e1, if_pos ⟨rfl, by omega, by omega, by rw [Nat.add_sub_cancel]; exact t.w_x⟩, Nat.add_sub_cancel, flip2_of hx (hw i) (hv i) t.w_x t.v_x t.ne, pre_succ, seg_one, e2, pre_inj.mpr t.same]
theorem twins_of {w v : Nat → Nat} (hw : LetW w) {a b c d : Nat} (pw : Least w a b) (pv : Least v c d) (h : twinD w a b = leastD v c d) : Twins w v (a - 1) (w a) := by
  unfold twinD leastD at h
  by_cases hc : b = 1 ∧ 0 < a ∧ (w a = 115 ∨ w a = 102) ∧ w (a - 1) ≠ w a
  · rw [if_pos hc] at h
    obtain ⟨hb, ha, hx, hne⟩ := hc
    subst hb
    have hx : w a = 102 ∨ w a = 115 := by omega
    simp only [Dat.tup.injEq, List.cons.injEq, Dat.str.injEq, and_true] at h
    obtain ⟨h1, h2⟩ := h
    have ed : d = 1 := by rw [← seg_len v c d, ← h2]; rfl
    subst ed
    have ec : c = a := by
      have := pre_len v c
      rw [← h1, List.length_append, pre_len] at this
      simp at this
      omega
    subst ec
    obtain ⟨e, rfl⟩ : ∃ e, c = e + 1 := ⟨c - 1, by omega⟩
    rw [Nat.add_sub_cancel] at *
    rw [pre_succ] at h1
    obtain ⟨h3, h4⟩ := List.append_inj h1 (by rw [pre_len, pre_len])
    obtain ⟨f1, f2, _⟩ := flip2_ne hx (hw e) hne
    have h4 : flip2 (w (e + 1)) (w e) = v e := by simpa using h4
    have h5 : w (e + 1) = v (e + 1) := by rw [seg_one] at h2; simpa using h2
    rw [h4] at f1 f2
    exact ⟨hx, pre_inj.mp h3, fun q => f2 q.symm, hne, f1, fun k hk => ⟨pw.per.one k hk, by rw [h5]; exact pv.per.one k hk⟩⟩
  · rw [if_neg hc] at h
    cases h
theorem okStr_lets {z : List Nat} (h : Lets z) : okStr z = true := by
  unfold okStr
  rw [List.all_eq_true]
  intro c hc
  rcases h c hc with rfl | rfl | rfl <;> decide
theorem nice_loss {h c : List Nat} (hh : Lets h) (hc : Lets c) : nice 1 (lossD h c) = true := by
  unfold lossD
  rw [nice_tup]
  simp [nice_str, okStr_lets hh, okStr_lets hc]
theorem nice_least {w : Nat → Nat} (hw : LetW w) (a b : Nat) : nice 1 (leastD w a b) = true := nice_loss (pre_lets hw a) (seg_lets hw a b)
theorem lets_one {x : Nat} (h : x = 110 ∨ x = 102 ∨ x = 115) : Lets [x] := fun c hc => by
  have : c = x := by simpa using hc
  exact this ▸ h
theorem lets_app {a b : List Nat} (h1 : Lets a) (h2 : Lets b) : Lets (a ++ b) := fun c hc => by
  rcases List.mem_append.mp hc with hc | hc
  · exact h1 c hc
  · exact h2 c hc
/-- the twin as a loss, or none -/
theorem twinD_cases {w : Nat → Nat} (hw : LetW w) (a b : Nat) : twinD w a b = .non ∨ ∃ h c, twinD w a b = lossD h c ∧ Lets h ∧ Lets c ∧ h.length = a ∧ c.length = 1 := by
  unfold twinD
  by_cases hc : b = 1 ∧ 0 < a ∧ (w a = 115 ∨ w a = 102) ∧ w (a - 1) ≠ w a
  · rw [if_pos hc]
    obtain ⟨hb, ha, hx, hne⟩ := hc
    obtain ⟨_, _, f3⟩ := flip2_ne (x := w a) (by omega) (hw (a - 1)) hne
    exact .inr ⟨_, _, rfl, lets_app (pre_lets hw _) (lets_one f3), lets_one (hw a), by rw [List.length_append, pre_len]; simp; omega, rfl⟩
  · rw [if_neg hc]
    exact .inl rfl
theorem nice_twin {w : Nat → Nat} (hw : LetW w) (a b : Nat) : nice 1 (twinD w a b) = true := by
  rcases twinD_cases hw a b with h | ⟨h, c, e, l1, l2, _⟩
  · rw [h, nice_non]
  · rw [e]
    exact nice_loss l1 l2
def dist (w v : Nat → Nat) (m : Nat) : Int := if pl w m - pl v m < 0 then -(pl w m - pl v m) else pl w m - pl v m
theorem dist_le {w v : Nat → Nat} {m : Nat} : dist w v m ≤ 1 ↔ pl v m - pl w m ≤ 1 ∧ pl w m - pl v m ≤ 1 := by
  unfold dist
  split <;> omega
theorem dist_nonneg (w v : Nat → Nat) (m : Nat) : 0 ≤ dist w v m := by
  unfold dist
  split <;> omega
theorem dist_self (w : Nat → Nat) (m : Nat) : dist w w m = 0 := by
  unfold dist
  split <;> omega
theorem dist_grow {w v : Nat → Nat} {m : Nat} (h : 1 < dist w v m) : ¬ 2 * dist w v (m + 1) < 3 * dist w v m := by
  unfold dist at *
  rw [pl_succ, pl_succ]
  obtain ⟨a1, a2⟩ := bk_range (pl w m) (w m)
  obtain ⟨b1, b2⟩ := bk_range (pl v m) (v m)
  repeat' split <;> omega
theorem pow3_le {m k : Nat} (h : m ≤ k) : (3 : Int) ^ m ≤ 3 ^ k := by
  have := Nat.pow_le_pow_right (show 0 < 3 by decide) h
  have e : ∀ j : Nat, ((3 ^ j : Nat) : Int) = (3 : Int) ^ j := fun j => by rw [Int.natCast_pow]; rfl
  rw [← e, ← e]
  exact Int.ofNat_le.mpr this
theorem dist_lt {w v : Nat → Nat} (hw : LetW w) (hv : LetW v) {m k : Nat} (h : m ≤ k) : dist w v m ≤ 3 ^ k := by
  obtain ⟨a1, a2⟩ := pl_range hw m
  obtain ⟨b1, b2⟩ := pl_range hv m
  have := pow3_le h
  unfold dist
  split <;> omega
end Dl
-- part Eh
set_option Elab.async false
set_option linter.all false
set_option maxRecDepth 100000
set_option maxHeartbeats 4000000
namespace Dl
open PySem PySem.Spec PyProof.Rows L2 Evl
variable [LawTabs]

local macro_rules | `(tactic| walk_at "w") => `(tactic| (simp (maxSteps := 3000000) only [↓e_var0, ↓e_var0o, ↓e_varS, ↓e_anyIt, ↓e_par, ↓e_zip, ↓aAdd_i, ↓aAdd_s, ↓aAdd_t, ↓aAdd_l, ↓aMul_i, ↓aMul_s, ↓aMul_l, ↓eqS_i, ↓eqS_s, ↓eqS_b, ↓eqS_nn, ↓eqS_ni, ↓eqS_ns, ↓eqS_nt, ↓eqS_in, ↓eqS_sn, ↓eqS_is, ↓eqS_si, ↓eqS_t, ↓eqS_l, ↓inS_s, ↓inS_t, ↓inS_l, ↓lenD_s, ↓lenD_t, ↓lenD_l, ↓lenD_z, ↓ixD_t, ↓ixD_l, ↓ixD_z, ↓ixD_s, ↓ixD_0, ↓ixD_1, ↓ixD_2, ↓cutDd_s, ↓cutDd_l, ↓cutDd_z, ↓cutDd_t, ↓listD_l, ↓listD_z, ↓itemsD_l, ↓itemsD_t, ↓itemsQ_s, ↓itemsQ_l, ↓itemsQ_z, ↓itemsQ_t, ↓aInt_i, ↓aInt_b, ↓aTupOf_l, ↓aTupOf_t, ↓anyD_l, ↓anyD_z, ↓anyD_t, ↓anyD_s, ↓joinD_l, ↓joinD_t, ↓zipQ_t, ↓zipQ_l, ↓asB_bl, ↓asI_int, ↓as1_one, ↓as2_two, par2,
  bodyW, bodyF, bodyP, start0, wSeq, wAsg, wOwn, wIfS, wRet, wRetF, wRetO, wRetN, wDrop, wApp, wSet, setW, slotSet, wInc, wNext, wBreak, wContinue, wNever, wC, wOp, wUn, wIf, wTest, wAnd, wOr, wNot, wYes, wAndV, wOrV, wNotV, wChain, wNil, wCons, wTup, wLst, wFz, wCall, wCallF, wCallK, wCallN, wCB, wCBF, wBM, wBM0, tStr, wNone, wPart, wSl, wgN, wgNil, wgCons, wgTup, wFor, wWhile, wLc, wRng1, wRng2, wListRg, wPot, wipeL, restL, keepIm,
  aI0, aII, aNeg, aEq, aNe, aIn, aNotIn, aIsN, aIsNotN, isN, aIsW, aIsNotW, ↓isW_n, ↓isW_bb, ↓isW_nb, wRevS, aAbs, aMax, aMin, aMin1, aMax1, ↓partsD_l, ↓partsD_z, ↓partsD_t, aLen, aSum, aAll, aAny, aIsi, isi, goodTy, aIx, aListOf, idxS,
  List.map_cons, List.map_nil, List.cons_append, List.nil_append, List.length_cons, List.length_nil, List.replicate_succ, List.replicate_zero, Nat.reduceAdd, Nat.reduceSub, List.getElem?_cons_zero, List.getElem?_cons_succ, List.set_cons_zero, List.set_cons_succ, reduceCtorEq, if_true, if_false, Bool.false_eq_true,
  decide_eq_true_eq, kinds, List.contains_cons, List.contains_nil, String.reduceBEq, Bool.or_true, Bool.true_or, Bool.or_false, Bool.false_or, Bool.not_true, Bool.not_false, Bool.not_eq_true, decide_true, decide_false, true_and, and_true, Int.reduceLT, Int.reduceLE, Int.reduceNeg, Nat.reduceLeDiff, cmuL, cmuR, cfdS, cpwS, atI_pos, Int.reduceToNat, isBls_nil, isBls_bl, Option.map_some, Option.some.injEq, exists_eq_left', List.all_cons, List.all_nil, id_eq, Bool.and_true, Bool.true_and, beq_self_eq_true]))


/-! the program's own least form -/
theorem lt_nil (c : List Nat) (i : Nat) : lt [] c i = c.getD (i % c.length) 0 := by
  unfold lt
  rw [if_neg (by simp)]
  rfl
theorem pre_nil {c : List Nat} (hc : c ≠ []) : pre (lt [] c) c.length = c := by
  refine List.ext_getElem? fun i => ?_
  by_cases hi : i < c.length
  · rw [pre_get _ hi, lt_nil, Nat.mod_eq_of_lt hi, List.getD_eq_getElem?_getD, List.getElem?_eq_getElem hi]
    rfl
  · rw [List.getElem?_eq_none (by rw [pre_len]; omega), List.getElem?_eq_none (by omega)]
theorem per_nil {c : List Nat} (hc : c ≠ []) : Per (lt [] c) 0 c.length := lt_per [] hc
theorem round_iff {c : List Nat} (hc : c ≠ []) {m : Nat} (h0 : 0 < m) (hm : m ≤ c.length) (hd : c.length % m = 0) : repL (c.take m) (c.length / m) = c ↔ Per (lt [] c) 0 m := by
  have p := per_nil hc
  have et : c.take m = pre (lt [] c) m := by
    rw [← pre_take (lt [] c) hm, pre_nil hc]
  have en : m * (c.length / m) = c.length := Nat.mul_div_cancel' (Nat.dvd_of_mod_eq_zero hd)
  have key : repL (c.take m) (c.length / m) = c ↔ ∀ i, i < c.length → lt [] c (i % m) = lt [] c i := by
    rw [et]
    constructor
    · intro h i hi
      have g := repL_get (pre (lt [] c) m) (c.length / m) i (by rw [pre_len, en]; exact hi)
      rw [pre_len, h, pre_get _ (Nat.mod_lt _ h0)] at g
      have e := pre_get (lt [] c) hi
      rw [pre_nil hc, g] at e
      exact Option.some.inj e
    · intro h
      refine List.ext_getElem? fun i => ?_
      by_cases hi : i < c.length
      · rw [repL_get _ _ _ (by rw [pre_len, en]; exact hi), pre_len, pre_get _ (Nat.mod_lt _ h0), h i hi, ← pre_get (lt [] c) hi, pre_nil hc]
      · rw [List.getElem?_eq_none (by rw [repL_len, pre_len, en]; omega), List.getElem?_eq_none (by omega)]
  rw [key]
  constructor
  · intro h
    have all : ∀ i, lt [] c i = lt [] c (i % m) := fun i => by
      have l := Nat.mod_lt i p.1
      have e1 : lt [] c i = lt [] c (i % c.length) := by rw [lt_nil, lt_nil, Nat.mod_mod]
      rw [e1, ← h _ l, Nat.mod_mod_of_dvd i (Nat.dvd_of_mod_eq_zero hd)]
    refine ⟨h0, fun i _ => ?_⟩
    rw [all (i + m), all i, Nat.add_mod_right]
  · intro h i _
    rw [← h.mul (i / m) (i % m) (by omega), Nat.mul_comm, Nat.mod_add_div]
def L_shortest : WS := (wSeq (wFor (wRng2 (wCons (wC (.int 1)) (wCons (wCB aLen (wCons (wVar 0) wNil)) wNil))) (wgN 1) (wIfS (wAnd (wTest (wOp aEq (wOp aMod (wCB aLen (wCons (wVar 0) wNil)) (wVar 1)) (wC (.int 0)))) (wTest (wOp aEq (wOp aMul (wSl cutDd (wVar 0) wNone (wPart (wVar 1))) (wOp aFd (wCB aLen (wCons (wVar 0) wNil)) (wVar 1))) (wVar 0)))) (wRet (wSl cutDd (wVar 0) wNone (wPart (wVar 1)))) wNext))
  (wRet (wVar 0)))

def G_shortest : Fn := fun ds n Q => ∃ c, ds = [.str c] ∧ c ≠ [] ∧ c.length ≤ 2000 ∧ ∀ p, Least (lt [] c) 0 p → p ≤ c.length → Q (.str (pre (lt [] c) p)) n
theorem B_shortest {ds : List Dat} {n : Nat} {QD : Dat → Nat → Prop} (h : G_shortest ds n QD) : bodyW 2 L_shortest ds n QD := by
  obtain ⟨c, rfl, hc, hl, h⟩ := h
  have p := per_nil hc
  have cp := c_pos hc
  obtain ⟨x, y, ly, hx, hy⟩ := least_exists p
  obtain rfl : x = 0 := by omega
  have dv := ly.dvd p
  have key := h y ly hy
  unfold L_shortest
  walk_at "w"
  refine ⟨by omega, ⟨by omega, by omega⟩, ?_⟩
  refine forW_at _ (fun i S => ∃ s1, S = ⟨[.im (.str c), s1], n⟩ ∧ ∀ m, m ≤ i → 0 < m → c.length % m = 0 → ¬ Per (lt [] c) 0 m) _ ?_ ⟨_, rfl, fun m h1 h2 => by omega⟩ ?_
  · rintro i d S hd ⟨s1, rfl, no⟩ N hN
    obtain ⟨hi, rfl⟩ := intsD_get hd
    have hi : i + 1 < c.length := by omega
    have e1 : ((c.length : Int) % (1 + (i : Int)) = 0) ↔ c.length % (i + 1) = 0 := by
      rw [show (1 : Int) + (i : Int) = ((i + 1 : Nat) : Int) by omega, ← Int.natCast_emod]
      omega
    have e2 : ((c.length : Int) / (1 + (i : Int))) = ((c.length / (i + 1) : Nat) : Int) := by
      rw [show (1 : Int) + (i : Int) = ((i + 1 : Nat) : Int) by omega, Int.natCast_ediv]
    have e3 : (1 + (i : Int)).toNat = i + 1 := by omega
    have dl := Nat.div_le_self c.length (i + 1)
    have ml := Nat.div_mul_le_self c.length (i + 1)
    walk_at "w"
    rw [e2]
    simp only [cutN_hi (show (0 : Int) ≤ 1 + (i : Int) by omega), e3, Int.toNat_natCast, e1]
    have tk : c.take (i + 1) = pre (lt [] c) (i + 1) := by rw [← pre_take (lt [] c) (show i + 1 ≤ c.length by omega), pre_nil hc]
    have go : (¬ (c.length % (i + 1) = 0 ∧ Per (lt [] c) 0 (i + 1))) → N { sl := [Sl.im (.str c), Sl.im (.int (1 + ↑i))], n := n } := fun hn => hN _ ⟨_, rfl, fun m h1 h2 h3 h4 => by
      by_cases e : m = i + 1
      · subst e
        exact hn ⟨h3, h4⟩
      · exact no m (by omega) h2 h3 h4⟩
    refine ⟨by omega, by omega, ?_⟩
    by_cases c1 : c.length % (i + 1) = 0
    · rw [if_pos c1]
      generalize hk : c.length / (i + 1) = k at dl ml e2 ⊢
      refine ⟨by omega, by omega, cfdS (by omega), ⟨by omega, by omega, ?_⟩, ?_⟩
      · rw [List.length_take, Nat.min_eq_left (by omega), Nat.mul_comm]
        omega
      · have iff := round_iff hc (m := i + 1) (by omega) (by omega) c1
        rw [hk] at iff
        by_cases c2 : Per (lt [] c) 0 (i + 1)
        · rw [if_pos (iff.mpr c2)]
          have := ly.b_le _ c2
          have := ly.per.1
          obtain rfl : y = i + 1 := by
            by_cases e : y = i + 1
            · exact e
            · exact (no y (by omega) (by omega) dv ly.per).elim
          rw [tk]
          exact ⟨by omega, key⟩
        · rw [if_neg (fun z => c2 (iff.mp z))]
          exact go fun z => c2 z.2
    · rw [if_neg c1]
      exact go fun z => c1 z.1
  · rintro S ⟨s1, rfl, no⟩
    have := ly.per.1
    obtain rfl : y = c.length := by
      by_cases e : y = c.length
      · exact e
      · exact (no y (by simp [intsD]; omega) (by omega) dv ly.per).elim
    walk_at "w"
    rw [pre_nil hc] at key
    exact key
def L_least_of : WS := (wSeq (wAsg (wCall G_shortest (wCons (wVar 1) wNil)) (wgN 1))
  (wSeq (wWhile (wAnd (wTest (wOp aNe (wVar 0) (wC (.str ("" : Str).cps.toList)))) (wTest (wOp aEq (wOp aIx (wVar 0) (wUn aNeg (wC (.int 1)))) (wOp aIx (wVar 1) (wUn aNeg (wC (.int 1))))))) (wPar 0 1 (wCons (wSl cutDd (wVar 0) wNone (wPart (wUn aNeg (wC (.int 1))))) (wCons (wOp aAdd (wOp aIx (wVar 1) (wUn aNeg (wC (.int 1)))) (wSl cutDd (wVar 1) wNone (wPart (wUn aNeg (wC (.int 1)))))) wNil))))
  (wRet (wTup (wCons (wVar 0) (wCons (wVar 1) wNil))))))

def G_least_of : Fn := fun ds n Q => ∃ h c, ds = [.str h, .str c] ∧ c ≠ [] ∧ h.length ≤ 2000 ∧ c.length ≤ 2000 ∧ ∀ a b, Least (lt h c) a b → a ≤ h.length → b ≤ c.length → Q (leastD (lt h c) a b) n
theorem lt_shift (h c : List Nat) (i : Nat) : lt h c (h.length + i) = lt [] c i := by
  rw [lt_nil]
  unfold lt
  rw [if_neg (by omega), Nat.add_sub_cancel_left]
theorem per_shift {h c : List Nat} {b : Nat} : Per (lt h c) h.length b ↔ Per (lt [] c) 0 b := by
  constructor
  · intro p
    refine ⟨p.1, fun i _ => ?_⟩
    rw [← lt_shift h c, ← lt_shift h c, ← Nat.add_assoc]
    exact p.2 _ (by omega)
  · intro p
    refine ⟨p.1, fun i hi => ?_⟩
    obtain ⟨k, rfl⟩ : ∃ k, i = h.length + k := ⟨i - h.length, by omega⟩
    rw [Nat.add_assoc, lt_shift, lt_shift]
    exact p.2 _ (by omega)
theorem seg_shift (h c : List Nat) (p : Nat) : pre (lt [] c) p = seg (lt h c) h.length p := by
  unfold pre seg
  exact List.map_congr_left fun i _ => (lt_shift h c i).symm
theorem seg_last (w : Nat → Nat) (a b : Nat) : cutN (seg w a (b + 1)) none (some (-1)) = seg w a b := by
  rw [cutN_butlast, seg_len, Nat.add_sub_cancel]
  unfold seg
  rw [← List.map_take, List.take_range, Nat.min_eq_left (Nat.le_succ b)]
theorem seg_back (w : Nat → Nat) (a b : Nat) : w a :: seg w (a + 1) b = seg w a (b + 1) := by
  unfold seg
  rw [List.range_succ_eq_map, List.map_cons, List.map_map]
  congr 1
  exact List.map_congr_left fun i _ => by show w (a + 1 + i) = w (a + (i + 1)); congr 1; omega
theorem B_least_of {ds : List Dat} {n : Nat} {QD : Dat → Nat → Prop} (h : G_least_of ds n QD) : bodyW 2 L_least_of ds n QD := by
  obtain ⟨x, c, rfl, hc, l1, l2, h⟩ := h
  have q := lt_per x hc
  have cp := c_pos hc
  unfold L_least_of
  walk_at "w"
  refine ⟨c, rfl, hc, l2, fun p lp hp => ?_⟩
  have p0 := lp.per.1
  have pmin : ∀ a b, Per (lt x c) a b → p ≤ b := fun a b hb => lp.b_le b (per_shift.mp (q.swap hb))
  obtain ⟨p', rfl⟩ : ∃ p', p = p' + 1 := ⟨p - 1, by omega⟩
  walk_at "w"
  rw [seg_shift x c]
  refine wWhile_at (fun S => ∃ a, a ≤ x.length ∧ Per (lt x c) a (p' + 1) ∧ S = ⟨[.im (.str (pre (lt x c) a)), .im (.str (seg (lt x c) a (p' + 1)))], n⟩) (fun S => match S.sl with | .im (.str z) :: _ => z.length | _ => 0) ?_ ⟨x.length, Nat.le_refl _, per_shift.mpr lp.per, by rw [pre_self]⟩
  rintro S ⟨a, ha, pa, rfl⟩ N hN
  walk_at "w"
  rw [lit_]
  have done : (a = 0 ∨ ∃ e, a = e + 1 ∧ lt x c e ≠ lt x c (e + (p' + 1))) → QD (.tup [.str (pre (lt x c) a), .str (seg (lt x c) a (p' + 1))]) n := fun hd => by
    refine h a (p' + 1) ⟨pa, fun u v huv => ?_, fun v hv => pmin a v hv⟩ ha hp
    refine Nat.le_of_not_lt fun hl => ?_
    rcases hd with rfl | ⟨e, rfl, hne⟩
    · omega
    · exact hne ((huv.swap pa).2 e (by omega)).symm
  have pl : (pre (lt x c) a).length ≤ 1000000 := by rw [pre_len]; omega
  have sl : (seg (lt x c) a (p' + 1)).length ≤ 1000000 := by rw [seg_len]; omega
  have sat : ∀ b k, atI (seg (lt x c) b (k + 1)) (-1) = some (lt x c (b + k)) := fun b k => by
    rw [atI_neg1, seg_len, Nat.add_sub_cancel, seg_get _ (Nat.lt_succ_self k)]
  cases a with
  | zero =>
    rw [if_neg (by simp [pre])]
    exact done (.inl rfl)
  | succ a =>
    rw [if_pos (by simp [pre])]
    refine ⟨pl, _, by rw [atI_neg1, pre_len, Nat.add_sub_cancel, pre_get _ (Nat.lt_succ_self a)], sl, _, sat _ _, ?_⟩
    by_cases e : lt x c a = lt x c (a + 1 + p')
    · rw [if_pos (by rw [e])]
      refine ⟨pl, sl, _, sat _ _, sl, by rw [seg_last, seg_len]; omega, ?_⟩
      rw [seg_last, pre_butlast, ← e, seg_back]
      refine hN _ ⟨a, by omega, ⟨p0, fun i hi => ?_⟩, rfl⟩ (by show (pre (lt x c) a).length < (pre (lt x c) (a + 1)).length; rw [pre_len, pre_len]; omega)
      by_cases hi2 : i = a
      · subst hi2
        rw [e]
        congr 1
        omega
      · exact pa.2 i (by omega)
    · rw [if_neg (fun z => e (by simpa using z))]
      exact done (.inr ⟨a, rfl, fun z => e (by rw [z]; congr 1; omega)⟩)
end Dl
-- part Ei
set_option Elab.async false
set_option linter.all false
set_option maxRecDepth 100000
set_option maxHeartbeats 4000000
namespace Dl
open PySem PySem.Spec PyProof.Rows L2 Evl
variable [LawTabs]

local macro_rules | `(tactic| walk_at "w") => `(tactic| (simp (maxSteps := 3000000) only [↓e_var0, ↓e_var0o, ↓e_varS, ↓e_anyIt, ↓e_par, ↓e_zip, ↓aAdd_i, ↓aAdd_s, ↓aAdd_t, ↓aAdd_l, ↓aMul_i, ↓aMul_s, ↓aMul_l, ↓eqS_i, ↓eqS_s, ↓eqS_b, ↓eqS_nn, ↓eqS_ni, ↓eqS_ns, ↓eqS_nt, ↓eqS_in, ↓eqS_sn, ↓eqS_is, ↓eqS_si, ↓eqS_t, ↓eqS_l, ↓inS_s, ↓inS_t, ↓inS_l, ↓lenD_s, ↓lenD_t, ↓lenD_l, ↓lenD_z, ↓ixD_t, ↓ixD_l, ↓ixD_z, ↓ixD_s, ↓ixD_0, ↓ixD_1, ↓ixD_2, ↓cutDd_s, ↓cutDd_l, ↓cutDd_z, ↓cutDd_t, ↓listD_l, ↓listD_z, ↓itemsD_l, ↓itemsD_t, ↓itemsQ_s, ↓itemsQ_l, ↓itemsQ_z, ↓itemsQ_t, ↓aInt_i, ↓aInt_b, ↓aTupOf_l, ↓aTupOf_t, ↓anyD_l, ↓anyD_z, ↓anyD_t, ↓anyD_s, ↓joinD_l, ↓joinD_t, ↓zipQ_t, ↓zipQ_l, ↓asB_bl, ↓asI_int, ↓as1_one, ↓as2_two, par2,
  bodyW, bodyF, bodyP, start0, wSeq, wAsg, wOwn, wIfS, wRet, wRetF, wRetO, wRetN, wDrop, wApp, wSet, setW, slotSet, wInc, wNext, wBreak, wContinue, wNever, wC, wOp, wUn, wIf, wTest, wAnd, wOr, wNot, wYes, wAndV, wOrV, wNotV, wChain, wNil, wCons, wTup, wLst, wFz, wCall, wCallF, wCallK, wCallN, wCB, wCBF, wBM, wBM0, tStr, wNone, wPart, wSl, wgN, wgNil, wgCons, wgTup, wFor, wWhile, wLc, wRng1, wRng2, wListRg, wPot, wipeL, restL, keepIm,
  aI0, aII, aNeg, aEq, aNe, aIn, aNotIn, aIsN, aIsNotN, isN, aIsW, aIsNotW, ↓isW_n, ↓isW_bb, ↓isW_nb, wRevS, aAbs, aMax, aMin, aMin1, aMax1, ↓partsD_l, ↓partsD_z, ↓partsD_t, aLen, aSum, aAll, aAny, aIsi, isi, goodTy, aIx, aListOf, idxS,
  List.map_cons, List.map_nil, List.cons_append, List.nil_append, List.length_cons, List.length_nil, List.replicate_succ, List.replicate_zero, Nat.reduceAdd, Nat.reduceSub, List.getElem?_cons_zero, List.getElem?_cons_succ, List.set_cons_zero, List.set_cons_succ, reduceCtorEq, if_true, if_false, Bool.false_eq_true,
  decide_eq_true_eq, kinds, List.contains_cons, List.contains_nil, String.reduceBEq, Bool.or_true, Bool.true_or, Bool.or_false, Bool.false_or, Bool.not_true, Bool.not_false, Bool.not_eq_true, decide_true, decide_false, true_and, and_true, Int.reduceLT, Int.reduceLE, Int.reduceNeg, Nat.reduceLeDiff, cmuL, cmuR, cfdS, cpwS, atI_pos, Int.reduceToNat, isBls_nil, isBls_bl, Option.map_some, Option.some.injEq, exists_eq_left', List.all_cons, List.all_nil, id_eq, Bool.and_true, Bool.true_and, beq_self_eq_true]))

def L_least_p : WS := (wSeq (wDrop (wCall G_check_loss (wCons (wVar 0) wNil)))
  (wRet (wCall G_least_of (wCons (wOp aIx (wVar 0) (wC (.int 0))) (wCons (wOp aIx (wVar 0) (wC (.int 1))) wNil)))))

def G_least_p : Fn := fun ds n Q => ∃ h c, ds = [lossD h c] ∧ Loss h c ∧ ∀ a b, Least (lt h c) a b → a ≤ h.length → b ≤ c.length → Q (leastD (lt h c) a b) n
theorem B_least_p {ds : List Dat} {n : Nat} {QD : Dat → Nat → Prop} (h : G_least_p ds n QD) : bodyW 1 L_least_p ds n QD := by
  obtain ⟨x, c, rfl, hl, h⟩ := h
  unfold L_least_p lossD
  walk_at "w"
  exact ⟨x, c, rfl, hl, x, c, rfl, hl.ne, by have := hl.lh; omega, by have := hl.lc; omega, h⟩
def L_are_alike : WS := (wSeq (wDrop (wCall G_check_loss (wCons (wVar 0) wNil)))
  (wSeq (wDrop (wCall G_check_loss (wCons (wVar 1) wNil)))
  (wRet (wOp aEq (wCall G_least_of (wCons (wOp aIx (wVar 0) (wC (.int 0))) (wCons (wOp aIx (wVar 0) (wC (.int 1))) wNil))) (wCall G_least_of (wCons (wOp aIx (wVar 1) (wC (.int 0))) (wCons (wOp aIx (wVar 1) (wC (.int 1))) wNil)))))))

def G_are_alike : Fn := fun ds n Q => ∃ h c h' c', ds = [lossD h c, lossD h' c'] ∧ Loss h c ∧ Loss h' c' ∧ ∀ b, (b = true ↔ lt h c = lt h' c') → Q (.bl b) n
theorem B_are_alike {ds : List Dat} {n : Nat} {QD : Dat → Nat → Prop} (h : G_are_alike ds n QD) : bodyW 2 L_are_alike ds n QD := by
  obtain ⟨x, c, y, e, rfl, h1, h2, h⟩ := h
  have hw := lt_lets h1.hh h1.hc h1.ne
  have hv := lt_lets h2.hh h2.hc h2.ne
  have q1 := h1.lh
  have q2 := h1.lc
  have q3 := h2.lh
  have q4 := h2.lc
  unfold L_are_alike lossD
  walk_at "w"
  refine ⟨x, c, rfl, h1, y, e, rfl, h2, x, c, rfl, h1.ne, by omega, by omega, fun a b hl _ _ => ⟨y, e, rfl, h2.ne, by omega, by omega, fun a' b' hl' _ _ => ?_⟩⟩
  unfold leastD
  walk_at "w"
  refine ⟨cmpOk_nice (k := 1) (nice_least hw a b), cmpOk_nice (k := 1) (nice_least hv a' b'), h _ ?_⟩
  refine (eqv_nice 1 _ _ (nice_least hw a b) (nice_least hv a' b')).trans ⟨fun q => leastD_inj hl.per hl'.per q, fun q => ?_⟩
  rw [q] at hl ⊢
  obtain ⟨rfl, rfl⟩ := hl.uniq hl'
  rfl
/-! the law's comparison, bools told apart -/
def simB : Nat → Dat → Prop
  | 0, _ => False
  | d + 1, x => match x with
    | .int _ => True
    | .str _ => True
    | .bl _ => True
    | .non => True
    | .tup l => l.length ≤ 10000 ∧ ∀ y ∈ l, simB d y
    | _ => False
def G_same (d : Nat) : Fn := fun ds n Q => ∃ x, ds = [x, x] ∧ simB d x ∧ Q (.bl true) n
theorem G_same_zero {ds : List Dat} {n : Nat} {QD : Dat → Nat → Prop} (h : G_same 0 ds n QD) : False := by
  obtain ⟨x, _, h, _⟩ := h
  exact h
def L_same (d : Nat) : WS := (wSeq (wIfS (wTest (wCB aIsi (wCons (wVar 1) (wCons (wC (.ty "tuple")) wNil)))) (wSeq (wAsg (wAndV (wCB aIsi (wCons (wVar 0) (wCons (wC (.ty "tuple")) wNil))) (wOp aEq (wCB aLen (wCons (wVar 0) wNil)) (wCB aLen (wCons (wVar 1) wNil)))) (wgN 2))
  (wRet (wAndV (wVar 2) (wCB aAll (wCons (wFz (wLc (wZip (wCons (wVar 0) (wCons (wVar 1) wNil))) [3, 4] (wgTup 2 (wgCons (wgN 3) (wgCons (wgN 4) wgNil))) wYes (wCall (G_same d) (wCons (wVar 3) (wCons (wVar 4) wNil))))) wNil))))) wNext)
  (wSeq (wIfS (wTest (wCB aIsi (wCons (wVar 1) (wCons (wC (.ty "bool")) wNil)))) (wRet (wAndV (wCB aIsi (wCons (wVar 0) (wCons (wC (.ty "bool")) wNil))) (wOp aEq (wVar 0) (wVar 1)))) wNext)
  (wSeq (wIfS (wTest (wCB aIsi (wCons (wVar 1) (wCons (wC (.ty "int")) wNil)))) (wRet (wAndV (wCB aIsi (wCons (wVar 0) (wCons (wC (.ty "int")) wNil))) (wAndV (wNotV (wCB aIsi (wCons (wVar 0) (wCons (wC (.ty "bool")) wNil)))) (wOp aEq (wVar 0) (wVar 1))))) wNext)
  (wRet (wIf (wTest (wCB aIsi (wCons (wVar 1) (wCons (wC (.ty "str")) wNil)))) (wAndV (wCB aIsi (wCons (wVar 0) (wCons (wC (.ty "str")) wNil))) (wOp aEq (wVar 0) (wVar 1))) (wOp aIsW (wVar 0) (wC .non)))))))

theorem B_same {d : Nat} {ds : List Dat} {n : Nat} {QD : Dat → Nat → Prop} (h : G_same (d + 1) ds n QD) : bodyW 5 (L_same d) ds n QD := by
  obtain ⟨x, rfl, h1, h⟩ := h
  unfold L_same
  cases x with
  | int i =>
    walk_at "w"
    exact h
  | bl i =>
    walk_at "w"
    exact h
  | str i =>
    walk_at "w"
    exact h
  | non =>
    walk_at "w"
    exact h
  | tup l =>
    obtain ⟨hl, hs⟩ : l.length ≤ 10000 ∧ ∀ y ∈ l, simB d y := h1
    walk_at "w"
    refine lcW_map (fun _ => .bl true) _ _ (by rw [zipD_len]; omega) (fun e he R R0 hR => ?_) ?_
    · obtain ⟨x, hx, rfl⟩ := zip_self he
      walk_at "w"
      exact ⟨x, rfl, hs x hx, hR⟩
    · obtain ⟨bs, b1, b2⟩ := isBls_all (l := (zipD l l).map fun _ => .bl true) (by simp)
      exact ⟨bs, b1, by rw [b2]; exact h⟩
  | _ => exact h1.elim
/-! losses told otherwise: the same row -/
theorem lt_eq_of {h c h' c' : List Nat} (hc : c ≠ []) (hc' : c' ≠ []) (e : ∀ m, lts h c m = lts h' c' m) : lt h c = lt h' c' := by
  funext i
  exact (pre_inj (w := lt h c) (v := lt h' c') (a := i + 1)).mp (e (i + 1)) i (Nat.lt_succ_self i)
theorem lt_head (h : List Nat) {c : List Nat} (hc : c ≠ []) : lt (h ++ c) c = lt h c := by
  funext i
  have p := c_pos hc
  unfold lt
  rw [List.length_append]
  by_cases h1 : i < h.length
  · rw [if_pos (by omega), if_pos h1, List.getD_eq_getElem?_getD, List.getD_eq_getElem?_getD, List.getElem?_append_left h1]
  · rw [if_neg h1]
    by_cases h2 : i < h.length + c.length
    · rw [if_pos h2, List.getD_eq_getElem?_getD, List.getD_eq_getElem?_getD, List.getElem?_append_right (by omega), Nat.mod_eq_of_lt (by omega)]
    · rw [if_neg h2]
      congr 1
      rw [show i - h.length = (i - (h.length + c.length)) + c.length by omega, Nat.add_mod_right]
theorem lt_rep (h : List Nat) {c : List Nat} (hc : c ≠ []) {k : Nat} (hk : 0 < k) : lt h (repL c k) = lt h c := by
  funext i
  have p := c_pos hc
  unfold lt
  by_cases h1 : i < h.length
  · rw [if_pos h1, if_pos h1]
  · have q : 0 < c.length * k := Nat.mul_pos p hk
    rw [if_neg h1, if_neg h1, repL_len, List.getD_eq_getElem?_getD, List.getD_eq_getElem?_getD, repL_get _ _ _ (Nat.mod_lt _ q), Nat.mod_mod_of_dvd _ (Nat.dvd_mul_right _ _)]
theorem lt_turn (h : List Nat) (x : Nat) (c : List Nat) : lt (h ++ [x]) (c ++ [x]) = lt h (x :: c) := by
  funext i
  unfold lt
  simp only [List.length_append, List.length_cons, List.length_nil, Nat.zero_add]
  by_cases h1 : i < h.length
  · rw [if_pos (by omega), if_pos h1, List.getD_eq_getElem?_getD, List.getD_eq_getElem?_getD, List.getElem?_append_left h1]
  · rw [if_neg h1]
    by_cases h2 : i < h.length + 1
    · obtain rfl : i = h.length := by omega
      rw [if_pos h2, Nat.sub_self, Nat.zero_mod, List.getD_eq_getElem?_getD, List.getElem?_append_right (Nat.le_refl _), Nat.sub_self]
      rfl
    · rw [if_neg h2, List.getD_eq_getElem?_getD, List.getD_eq_getElem?_getD]
      congr 1
      have l := Nat.mod_lt (i - h.length) (show 0 < c.length + 1 by omega)
      have e : (i - h.length) = (i - (h.length + 1)) + 1 := by omega
      have d := Nat.mod_add_div (i - (h.length + 1)) (c.length + 1)
      have l2 := Nat.mod_lt (i - (h.length + 1)) (show 0 < c.length + 1 by omega)
      by_cases h3 : (i - (h.length + 1)) % (c.length + 1) = c.length
      · have e2 : (i - h.length) % (c.length + 1) = 0 := by
          rw [e, Nat.add_mod, h3]
          by_cases hc : c.length = 0
          · rw [hc]
          · rw [Nat.mod_eq_of_lt (show 1 < c.length + 1 by omega), Nat.mod_self]
        rw [h3, e2, List.getElem?_append_right (Nat.le_refl _), Nat.sub_self]
        rfl
      · have e2 : (i - h.length) % (c.length + 1) = (i - (h.length + 1)) % (c.length + 1) + 1 := by
          rw [e, Nat.add_mod]
          rw [Nat.mod_eq_of_lt (show 1 < c.length + 1 by omega), Nat.mod_eq_of_lt (by omega)]
        rw [e2, List.getElem?_append_left (by omega)]
        rfl
end Dl
-- part Ej
set_option Elab.async false
set_option linter.all false
set_option maxRecDepth 100000
set_option maxHeartbeats 4000000
namespace Dl
open PySem PySem.Spec PyProof.Rows L2 Evl
variable [LawTabs]

local macro_rules | `(tactic| walk_at "w") => `(tactic| (simp (maxSteps := 3000000) only [↓e_var0, ↓e_var0o, ↓e_varS, ↓e_anyIt, ↓e_par, ↓e_zip, ↓aAdd_i, ↓aAdd_s, ↓aAdd_t, ↓aAdd_l, ↓aMul_i, ↓aMul_s, ↓aMul_l, ↓eqS_i, ↓eqS_s, ↓eqS_b, ↓eqS_nn, ↓eqS_ni, ↓eqS_ns, ↓eqS_nt, ↓eqS_in, ↓eqS_sn, ↓eqS_is, ↓eqS_si, ↓eqS_t, ↓eqS_l, ↓inS_s, ↓inS_t, ↓inS_l, ↓lenD_s, ↓lenD_t, ↓lenD_l, ↓lenD_z, ↓ixD_t, ↓ixD_l, ↓ixD_z, ↓ixD_s, ↓ixD_0, ↓ixD_1, ↓ixD_2, ↓cutDd_s, ↓cutDd_l, ↓cutDd_z, ↓cutDd_t, ↓listD_l, ↓listD_z, ↓itemsD_l, ↓itemsD_t, ↓itemsQ_s, ↓itemsQ_l, ↓itemsQ_z, ↓itemsQ_t, ↓aInt_i, ↓aInt_b, ↓aTupOf_l, ↓aTupOf_t, ↓anyD_l, ↓anyD_z, ↓anyD_t, ↓anyD_s, ↓joinD_l, ↓joinD_t, ↓zipQ_t, ↓zipQ_l, ↓asB_bl, ↓asI_int, ↓as1_one, ↓as2_two, par2,
  bodyW, bodyF, bodyP, start0, wSeq, wAsg, wOwn, wIfS, wRet, wRetF, wRetO, wRetN, wDrop, wApp, wSet, setW, slotSet, wInc, wNext, wBreak, wContinue, wNever, wC, wOp, wUn, wIf, wTest, wAnd, wOr, wNot, wYes, wAndV, wOrV, wNotV, wChain, wNil, wCons, wTup, wLst, wFz, wCall, wCallF, wCallK, wCallN, wCB, wCBF, wBM, wBM0, tStr, wNone, wPart, wSl, wgN, wgNil, wgCons, wgTup, wFor, wWhile, wLc, wRng1, wRng2, wListRg, wPot, wipeL, restL, keepIm,
  aI0, aII, aNeg, aEq, aNe, aIn, aNotIn, aIsN, aIsNotN, isN, aIsW, aIsNotW, ↓isW_n, ↓isW_bb, ↓isW_nb, wRevS, wKIx, wKIn, aAbs, aMax, aMin, aMin1, aMax1, ↓partsD_l, ↓partsD_z, ↓partsD_t, aLen, aSum, aAll, aAny, aIsi, isi, goodTy, aIx, aListOf, idxS,
  List.map_cons, List.map_nil, List.cons_append, List.nil_append, List.length_cons, List.length_nil, List.replicate_succ, List.replicate_zero, Nat.reduceAdd, Nat.reduceSub, List.getElem?_cons_zero, List.getElem?_cons_succ, List.set_cons_zero, List.set_cons_succ, reduceCtorEq, if_true, if_false, Bool.false_eq_true,
  decide_eq_true_eq, kinds, List.contains_cons, List.contains_nil, String.reduceBEq, Bool.or_true, Bool.true_or, Bool.or_false, Bool.false_or, Bool.not_true, Bool.not_false, Bool.not_eq_true, decide_true, decide_false, true_and, and_true, Int.reduceLT, Int.reduceLE, Int.reduceNeg, Nat.reduceLeDiff, cmuL, cmuR, cfdS, cpwS, atI_pos, Int.reduceToNat, isBls_nil, isBls_bl, Option.map_some, Option.some.injEq, exists_eq_left', List.all_cons, List.all_nil, id_eq, Bool.and_true, Bool.true_and, beq_self_eq_true]))


theorem Twins.symm {w v : Nat → Nat} {i x : Nat} (t : Twins w v i x) : Twins v w i x := ⟨t.x_fs, fun k hk => (t.same k hk).symm, fun e => t.ne e.symm, t.v_x, t.w_x, fun k hk => (t.tail k hk).symm⟩
theorem Twins.beside {w v : Nat → Nat} (hw : LetW w) (hv : LetW v) {i x m : Nat} (t : Twins w v i x) (hm : i < m) : dist w v m = 1 := by
  obtain ⟨p, _, h⟩ := t.key hw hv (m - (i + 1))
  rw [show i + 1 + (m - (i + 1)) = m by omega] at h
  unfold dist
  split <;> omega
def rs_OTHERS : List (List Nat × Dat) := [([102], .str [115]), ([115], .str [102])]
def L_twin_of : WS := (wSeq (wAsg (wVar 0) (wgTup 2 (wgCons (wgN 1) (wgCons (wgN 2) wgNil))))
  (wSeq (wIfS (wOr (wTest (wKIn true rs_OTHERS (wVar 2))) (wTest (wOp aEq (wVar 1) (wC (.str ("" : Str).cps.toList))))) (wRet (wC .non)) wNext)
  (wSeq (wAsg (wIf (wTest (wOp aEq (wOp aIx (wVar 1) (wUn aNeg (wC (.int 1)))) (wC (.str ("n" : Str).cps.toList)))) (wKIx rs_OTHERS (wVar 2)) (wC (.str ("n" : Str).cps.toList))) (wgN 3))
  (wRet (wTup (wCons (wOp aAdd (wSl cutDd (wVar 1) wNone (wPart (wUn aNeg (wC (.int 1))))) (wVar 3)) (wCons (wVar 2) wNil)))))))

def G_twin_of : Fn := fun ds n Q => ∃ w a b, ds = [leastD w a b] ∧ Least w a b ∧ LetW w ∧ a ≤ 2000 ∧ b ≤ 2000 ∧ Q (twinD w a b) n
theorem B_twin_of {ds : List Dat} {n : Nat} {QD : Dat → Nat → Prop} (h : G_twin_of ds n QD) : bodyW 4 L_twin_of ds n QD := by
  obtain ⟨w, a, b, rfl, hl, hw, la, lb, h⟩ := h
  have pa : (pre w a).length ≤ 1000000 := by rw [pre_len]; omega
  unfold L_twin_of leastD
  walk_at "w"
  rw [lit_, lit_n]
  by_cases hb : b = 1
  · subst hb
    rw [seg_one]
    cases a with
    | zero =>
      have h2 : QD .non n := by
        unfold twinD at h
        rw [if_neg (by omega)] at h
        exact h
      rw [show pre w 0 = [] from rfl]
      simp only [decide_true, if_true]
      split <;> exact h2
    | succ a =>
      have ne : w a ≠ w (a + 1) := fun e => by
        have := hl.a_le a 1 ⟨by decide, fun i hi => by
          by_cases hi2 : i = a
          · subst hi2
            exact e.symm
          · exact hl.per.2 i (by omega)⟩
        omega
      have lc : atI (pre w (a + 1)) (-1) = some (w a) := by
        rw [atI_neg1, pre_len, Nat.add_sub_cancel, pre_get _ (Nat.lt_succ_self a)]
      have lne : ¬ pre w (a + 1) = [] := fun e => by
        have := pre_len w (a + 1)
        rw [e] at this
        simp at this
      have pb : (pre w a).length + 1 ≤ 1000000 := by rw [pre_len]; omega
      rw [pre_butlast]
      unfold twinD at h
      simp only [lc, lne, decide_false, Option.some.injEq, exists_eq_left', Nat.add_sub_cancel, Nat.succ_pos, true_and] at h ⊢
      rcases hw (a + 1) with e | e | e <;> rcases hw a with e2 | e2 | e2 <;> rw [e, e2] at ne h ⊢ <;> first | omega | skip
      all_goals simp [rs_OTHERS, tabAt, flip2] at h ⊢
      all_goals first | exact h | exact And.intro pa (And.intro pb h) | exact ⟨pa, by omega, h⟩
  · have s1 : ∀ y, seg w a b ≠ [y] := fun y e => hb (by rw [← seg_len w a b, e]; rfl)
    have tn : tabAt rs_OTHERS (seg w a b) = none := by
      unfold tabAt rs_OTHERS
      rw [List.find?_cons_of_neg (by simpa using fun e => s1 102 e.symm), List.find?_cons_of_neg (by simpa using fun e => s1 115 e.symm)]
      rfl
    rw [tn]
    unfold twinD at h
    rw [if_neg (fun e => hb e.1)] at h
    exact h
/-- the twins of a loss: none, or one -/
def twinsD (d : Dat) : Dat := match d with | .non => .tup [] | d => .tup [d]
def L_twins : WS := (wSeq (wAsg (wCall G_twin_of (wCons (wCall G_least_p (wCons (wVar 0) wNil)) wNil)) (wgN 1))
  (wRet (wIf (wTest (wOp aIsW (wVar 1) (wC .non))) (wTup wNil) (wTup (wCons (wVar 1) wNil)))))

def G_twins : Fn := fun ds n Q => ∃ h c, ds = [lossD h c] ∧ Loss h c ∧ ∀ a b, Least (lt h c) a b → a ≤ h.length → b ≤ c.length → Q (twinsD (twinD (lt h c) a b)) n
theorem B_twins {ds : List Dat} {n : Nat} {QD : Dat → Nat → Prop} (h : G_twins ds n QD) : bodyW 2 L_twins ds n QD := by
  obtain ⟨x, c, rfl, hl, h⟩ := h
  have hw := lt_lets hl.hh hl.hc hl.ne
  have q1 := hl.lh
  have q2 := hl.lc
  unfold L_twins
  walk_at "w"
  refine ⟨x, c, rfl, hl, fun a b hab ha hb => ⟨_, a, b, rfl, hab, hw, by omega, by omega, ?_⟩⟩
  have key := h a b hab ha hb
  rcases twinD_cases hw a b with e | ⟨y, d, e, _⟩
  · rw [e] at key ⊢
    walk_at "w"
    exact key
  · rw [e] at key ⊢
    unfold lossD at key ⊢
    walk_at "w"
    exact key
def L_are_twins : WS := (wSeq (wDrop (wCall G_check_loss (wCons (wVar 0) wNil)))
  (wSeq (wDrop (wCall G_check_loss (wCons (wVar 1) wNil)))
  (wRet (wOp aEq (wCall G_twin_of (wCons (wCall G_least_p (wCons (wVar 0) wNil)) wNil)) (wCall G_least_p (wCons (wVar 1) wNil))))))

def G_are_twins : Fn := fun ds n Q => ∃ h c h' c', ds = [lossD h c, lossD h' c'] ∧ Loss h c ∧ Loss h' c' ∧ ∀ b, (b = true ↔ ∃ i x, Twins (lt h c) (lt h' c') i x) → Q (.bl b) n
theorem B_are_twins {ds : List Dat} {n : Nat} {QD : Dat → Nat → Prop} (h : G_are_twins ds n QD) : bodyW 2 L_are_twins ds n QD := by
  obtain ⟨x, c, y, e, rfl, h1, h2, h⟩ := h
  have hw := lt_lets h1.hh h1.hc h1.ne
  have hv := lt_lets h2.hh h2.hc h2.ne
  have q1 := h1.lh
  have q2 := h1.lc
  unfold L_are_twins
  walk_at "w"
  refine ⟨x, c, rfl, h1, y, e, rfl, h2, x, c, rfl, h1, fun a b hl ha hb => ⟨_, a, b, rfl, hl, hw, by omega, by omega, y, e, rfl, h2, fun a' b' hl' _ _ => ?_⟩⟩
  have iff : twinD (lt x c) a b = leastD (lt y e) a' b' ↔ ∃ i z, Twins (lt x c) (lt y e) i z := by
    constructor
    · intro q
      exact ⟨_, _, twins_of hw hl hl' q⟩
    · rintro ⟨i, z, t⟩
      obtain ⟨t1, t2⟩ := t.leasts
      obtain ⟨rfl, rfl⟩ := hl.uniq t1
      obtain ⟨rfl, rfl⟩ := hl'.uniq t2
      exact t.twinD hw hv
  have nt := nice_twin hw a b
  rcases twinD_cases hw a b with z | ⟨u, v, z, z1, z2, _⟩
  · rw [z] at iff ⊢
    unfold leastD at iff ⊢
    walk_at "w"
    refine ⟨cmpOk_nice (k := 1) (nice_least hv a' b'), h _ ?_⟩
    rw [← iff]
    simp
  · rw [z] at iff nt ⊢
    unfold lossD leastD
    walk_at "w"
    exact ⟨cmpOk_nice (k := 1) nt, cmpOk_nice (k := 1) (nice_least hv a' b'), h _ ((eqv_nice 1 _ _ nt (nice_least hv a' b')).trans iff)⟩
theorem lt_head_at {h c : List Nat} {i : Nat} (hi : i < h.length) {a : Nat} (e : h[i]? = some a) : lt h c i = a := by
  unfold lt
  rw [if_pos hi, List.getD_eq_getElem?_getD, e]
  rfl
theorem lt_one {h : List Nat} {x i : Nat} (hi : h.length ≤ i) : lt h [x] i = x := by
  unfold lt
  rw [if_neg (by omega), show ([x] : List Nat).length = 1 from rfl, Nat.mod_one]
  rfl
theorem twin_loss {w : Nat → Nat} (hw : LetW w) {a b : Nat} (hl : Least w a b) {u v : List Nat} (h : twinD w a b = lossD u v) : Twins w (lt u v) (a - 1) (w a) := by
  unfold twinD lossD at h
  by_cases hc : b = 1 ∧ 0 < a ∧ (w a = 115 ∨ w a = 102) ∧ w (a - 1) ≠ w a
  · rw [if_pos hc] at h
    obtain ⟨hb, ha, hx, hne⟩ := hc
    subst hb
    have hx : w a = 102 ∨ w a = 115 := by omega
    simp only [Dat.tup.injEq, List.cons.injEq, Dat.str.injEq, and_true] at h
    obtain ⟨h1, h2⟩ := h
    subst h1
    subst h2
    obtain ⟨e, rfl⟩ : ∃ e, a = e + 1 := ⟨a - 1, by omega⟩
    rw [Nat.add_sub_cancel] at *
    obtain ⟨f1, f2, _⟩ := flip2_ne hx (hw e) hne
    have lu : (pre w e ++ [flip2 (w (e + 1)) (w e)]).length = e + 1 := by rw [List.length_append, pre_len]; rfl
    have at_e : lt (pre w e ++ [flip2 (w (e + 1)) (w e)]) [w (e + 1)] e = flip2 (w (e + 1)) (w e) := lt_head_at (by omega) (by rw [List.getElem?_append_right (by rw [pre_len]; exact Nat.le_refl _), pre_len, Nat.sub_self]; rfl)
    refine ⟨hx, fun k hk => ?_, fun q => f2 (by rw [at_e] at q; exact q.symm), hne, by rw [at_e]; exact f1, fun k hk => ⟨hl.per.one k hk, lt_one (by omega)⟩⟩
    exact (lt_head_at (by omega) (by rw [List.getElem?_append_left (by rw [pre_len]; exact hk), pre_get w hk])).symm
  · rw [if_neg hc] at h
    cases h
/-- a loss with one letter more ahead of its round is no twin -/
theorem more_not {x c : List Nat} (hc : c ≠ []) (f : Nat) : ¬ ∃ i z, Twins (lt x c) (lt (x ++ [f]) c) i z := by
  rintro ⟨i, z, t⟩
  by_cases hi : i < x.length
  · have e : x[i]? = some x[i] := List.getElem?_eq_getElem hi
    exact t.ne (by rw [lt_head_at hi e, lt_head_at (h := x ++ [f]) (by rw [List.length_append]; omega) (by rw [List.getElem?_append_left hi]; exact e)])
  · have p := lt_per x hc
    have := p.1
    exact t.w_x (by rw [← p.2 i (by omega)]; exact (t.tail _ (by omega)).1)
theorem same_not {w v : Nat → Nat} (h : v = w) : ¬ ∃ i z, Twins w v i z := by
  rintro ⟨i, z, t⟩
  exact t.ne (by rw [h])
/-- both ways -/
theorem twin_none {w v : Nat → Nat} (hw : LetW w) (hv : LetW v) {a b a' b' : Nat} (hl : Least w a b) (hl' : Least v a' b') (z : twinD w a b = .non) : (¬ ∃ i x, Twins w v i x) ∧ twinD v a' b' ≠ leastD w a b := by
  have k : ¬ ∃ i x, Twins w v i x := by
    rintro ⟨i, x, t⟩
    obtain ⟨t1, t2⟩ := t.leasts
    obtain ⟨rfl, rfl⟩ := hl.uniq t1
    have := t.twinD hw hv
    rw [z] at this
    cases this
  exact ⟨k, fun q => k ⟨_, _, (twins_of hv hl' hl q).symm⟩⟩
theorem sim_loss (h c : List Nat) (k : Nat) : sim (k + 2) (lossD h c) := by
  unfold lossD
  refine ⟨by simp, fun y hy => ?_⟩
  rcases List.mem_cons.mp hy with rfl | hy
  · exact trivial
  · rcases List.mem_cons.mp hy with rfl | hy
    · exact trivial
    · cases hy
theorem sim_one {k : Nat} {d : Dat} (h : sim k d) : sim (k + 1) (.tup [d]) := by
  refine ⟨by simp, fun y hy => ?_⟩
  rcases List.mem_cons.mp hy with rfl | hy
  · exact h
  · cases hy
end Dl
-- part Et
set_option Elab.async false
set_option linter.all false
set_option maxRecDepth 100000
set_option maxHeartbeats 4000000
namespace Dl
open PySem PySem.Spec PyProof.Rows L2 Evl
variable [LawTabs]

local macro_rules | `(tactic| walk_at "w") => `(tactic| (simp (maxSteps := 3000000) only [↓e_var0, ↓e_var0o, ↓e_varS, ↓e_anyIt, ↓e_par, ↓e_zip, ↓aAdd_i, ↓aAdd_s, ↓aAdd_t, ↓aAdd_l, ↓aMul_i, ↓aMul_s, ↓aMul_l, ↓eqS_i, ↓eqS_s, ↓eqS_b, ↓eqS_nn, ↓eqS_ni, ↓eqS_ns, ↓eqS_nt, ↓eqS_in, ↓eqS_sn, ↓eqS_is, ↓eqS_si, ↓eqS_t, ↓eqS_l, ↓inS_s, ↓inS_t, ↓inS_l, ↓lenD_s, ↓lenD_t, ↓lenD_l, ↓lenD_z, ↓ixD_t, ↓ixD_l, ↓ixD_z, ↓ixD_s, ↓ixD_0, ↓ixD_1, ↓ixD_2, ↓cutDd_s, ↓cutDd_l, ↓cutDd_z, ↓cutDd_t, ↓listD_l, ↓listD_z, ↓itemsD_l, ↓itemsD_t, ↓itemsQ_s, ↓itemsQ_l, ↓itemsQ_z, ↓itemsQ_t, ↓aInt_i, ↓aInt_b, ↓aTupOf_l, ↓aTupOf_t, ↓anyD_l, ↓anyD_z, ↓anyD_t, ↓anyD_s, ↓joinD_l, ↓joinD_t, ↓zipQ_t, ↓zipQ_l, ↓asB_bl, ↓asI_int, ↓as1_one, ↓as2_two, par2,
  bodyW, bodyF, bodyP, start0, wSeq, wAsg, wOwn, wIfS, wRet, wRetF, wRetO, wRetN, wDrop, wApp, wSet, setW, slotSet, wInc, wNext, wBreak, wContinue, wNever, wC, wOp, wUn, wIf, wTest, wAnd, wOr, wNot, wYes, wAndV, wOrV, wNotV, wChain, wNil, wCons, wTup, wLst, wFz, wCall, wCallF, wCallK, wCallN, wCB, wCBF, wBM, wBM0, tStr, wNone, wPart, wSl, wgN, wgNil, wgCons, wgTup, wFor, wWhile, wLc, wRng1, wRng2, wListRg, wPot, wipeL, restL, keepIm,
  aI0, aII, aNeg, aEq, aNe, aIn, aNotIn, aIsN, aIsNotN, isN, aIsW, aIsNotW, ↓isW_n, ↓isW_bb, ↓isW_nb, wRevS, wRevT, wParO, lcW_nil, lcW_cons, wKIx, wKIn, aAbs, aMax, aMin, aMin1, aMax1, ↓partsD_l, ↓partsD_z, ↓partsD_t, aLen, aSum, aAll, aAny, aIsi, isi, goodTy, aIx, aListOf, idxS, wParOO, wP3, wP3O, wStar, wEnum, wDC, lastAt, wgLst, wExt, wExt.listL, aInDp, aNotInDp, inDp, Nat.reduceBEq,
  List.map_cons, List.map_nil, List.cons_append, List.nil_append, List.length_cons, List.length_nil, List.replicate_succ, List.replicate_zero, Nat.reduceAdd, Nat.reduceSub, List.getElem?_cons_zero, List.getElem?_cons_succ, List.set_cons_zero, List.set_cons_succ, reduceCtorEq, if_true, if_false, Bool.false_eq_true,
  decide_eq_true_eq, kinds, List.contains_cons, List.contains_nil, String.reduceBEq, Bool.or_true, Bool.true_or, Bool.or_false, Bool.false_or, Bool.not_true, Bool.not_false, Bool.not_eq_true, decide_true, decide_false, true_and, and_true, Int.reduceLT, Int.reduceLE, Int.reduceNeg, Nat.reduceLeDiff, cmuL, cmuR, cfdS, cpwS, atI_pos, Int.reduceToNat, isBls_nil, isBls_bl, Option.map_some, Option.some.injEq, exists_eq_left', List.all_cons, List.all_nil, id_eq, Bool.and_true, Bool.true_and, beq_self_eq_true]))


theorem lit_fair : ("fair" : Str).cps.toList = [102, 97, 105, 114] := by decide +kernel
/-! the tail of a loss -/
def AllR (c : List Nat) (x : Nat) : Prop := ∀ i, lt [] c i = x
def L_tail : WS := (wSeq (wDrop (wCall G_check_loss (wCons (wVar 0) wNil)))
  (wSeq (wAsg (wCall G_shortest (wCons (wOp aIx (wVar 0) (wC (.int 1))) wNil)) (wgN 1))
  (wRet (wIf (wTest (wOp aIn (wVar 1) (wTup (wCons (wC (.str ("f" : Str).cps.toList)) (wCons (wC (.str ("s" : Str).cps.toList)) wNil))))) (wVar 1) (wC (.str ("fair" : Str).cps.toList))))))
def G_tail : Fn := fun ds n Q => ∃ h c, ds = [lossD h c] ∧ Loss h c ∧ ∀ t, (t = [102] ∧ AllR c 102) ∨ (t = [115] ∧ AllR c 115) ∨ (t = [102, 97, 105, 114] ∧ ¬ AllR c 102 ∧ ¬ AllR c 115) → Q (.str t) n
theorem all_least {c : List Nat} {x p : Nat} (l : Least (lt [] c) 0 p) : AllR c x ↔ pre (lt [] c) p = [x] := by
  constructor
  · intro h
    have p1 : Per (lt [] c) 0 1 := ⟨by decide, fun i _ => by rw [h i, h (i + 1)]⟩
    have e : p = 1 := by
      have h1 := l.b_le 1 p1
      have h2 := l.per.1
      omega
    subst e
    show [lt [] c 0] = [x]
    rw [h 0]
  · intro h
    have e : p = 1 := by
      have := congrArg List.length h
      rwa [pre_len] at this
    subst e
    intro i
    have := l.per.one i (Nat.zero_le _)
    rw [this]
    have h' : [lt [] c 0] = [x] := h
    simpa using h'
theorem B_tail {ds : List Dat} {n : Nat} {QD : Dat → Nat → Prop} (h : G_tail ds n QD) : bodyW 2 L_tail ds n QD := by
  obtain ⟨x, c, rfl, hl, h⟩ := h
  unfold L_tail
  walk_at "w"
  refine ⟨x, c, rfl, hl, ?_⟩
  unfold lossD
  walk_at "w"
  refine ⟨c, rfl, hl.ne, by have := hl.lc; omega, fun p pl hp => ?_⟩
  walk_at "w"
  rw [lit_f, lit_s, lit_fair]
  have k1 := all_least (x := 102) pl
  have k2 := all_least (x := 115) pl
  by_cases h1 : pre (lt [] c) p = [102]
  · rw [h1]
    simp [inF, eqF, flat]
    exact h _ (.inl ⟨rfl, k1.mpr h1⟩)
  · by_cases h2 : pre (lt [] c) p = [115]
    · rw [h2]
      simp [inF, eqF, flat]
      exact h _ (.inr (.inl ⟨rfl, k2.mpr h2⟩))
    · have e1 : ¬ [102] = pre (lt [] c) p := fun e => h1 e.symm
      have e2 : ¬ [115] = pre (lt [] c) p := fun e => h2 e.symm
      simp [inF, eqF, flat, e1, e2]
      exact h _ (.inr (.inr ⟨rfl, fun z => h1 (k1.mp z), fun z => h2 (k2.mp z)⟩))
/-! barred ones -/
def d_ENDS : Dat := .tup [.tup [.str [], .str [102]], .tup [.str [], .str [115]]]
def Bar1 (h c : List Nat) : Prop := (¬ AllR c 102 ∧ ¬ AllR c 115) ∨ lt h c = lt [] [102] ∨ lt h c = lt [] [115]
inductive Bar : List (List Nat × List Nat) → Prop
  | one {h c : List Nat} : Loss h c → Bar1 h c → Bar [(h, c)]
  | two {h c h' c' : List Nat} : Loss h c → Loss h' c' → (∃ i x, Twins (lt h c) (lt h' c') i x) → Bar [(h, c), (h', c')]
def brD (B : List (List Nat × List Nat)) : Dat := .tup (B.map fun x => lossD x.1 x.2)
theorem Bar.loss {B : List (List Nat × List Nat)} (b : Bar B) : ∀ x ∈ B, Loss x.1 x.2 := by
  cases b with
  | one h _ => intro x hx; simp at hx; subst hx; exact h
  | two h h' _ => intro x hx; simp at hx; rcases hx with rfl | rfl <;> assumption
theorem Bar.ne {B : List (List Nat × List Nat)} (b : Bar B) : B ≠ [] := by cases b <;> simp
theorem Bar.len {B : List (List Nat × List Nat)} (b : Bar B) : B.length ≤ 2 := by cases b <;> simp
def L_end_or_fair : WS := (wRet (wOrV (wOp aEq (wCall G_tail (wCons (wVar 0) wNil)) (wC (.str ("fair" : Str).cps.toList))) (wCB aAny (wCons (wFz (wLc (wAnyIt (wC d_ENDS)) [1] (wgN 1) wYes (wCall G_are_alike (wCons (wVar 0) (wCons (wVar 1) wNil))))) wNil))))
def G_end_or_fair : Fn := fun ds n Q => ∃ h c, ds = [lossD h c] ∧ Loss h c ∧ Bar1 h c ∧ Q (.bl true) n
theorem loss_one {x : Nat} (h : x = 110 ∨ x = 102 ∨ x = 115) : Loss [] [x] := ⟨(fun _ z => nomatch z), lets_one h, by simp, by simp, by simp⟩
theorem B_end_or_fair {ds : List Dat} {n : Nat} {QD : Dat → Nat → Prop} (h : G_end_or_fair ds n QD) : bodyW 2 L_end_or_fair ds n QD := by
  obtain ⟨x, c, rfl, hl, hb, h⟩ := h
  unfold L_end_or_fair d_ENDS
  walk_at "w"
  refine ⟨x, c, rfl, hl, fun t ht => ?_⟩
  rw [lit_fair]
  walk_at "w"
  have key : ∀ b1 b2 : Bool, (b1 = true ↔ lt x c = lt [] [102]) → (b2 = true ↔ lt x c = lt [] [115]) → t ≠ [102, 97, 105, 114] → (b1 || b2) = true := fun b1 b2 e1 e2 ne => by
    rcases hb with ⟨n1, n2⟩ | hb | hb
    · rcases ht with ⟨_, z⟩ | ⟨_, z⟩ | ⟨z, _⟩
      · exact absurd z n1
      · exact absurd z n2
      · exact absurd z ne
    · rw [e1.mpr hb]; rfl
    · rw [e2.mpr hb]; cases b1 <;> rfl
  by_cases e : t = [102, 97, 105, 114]
  · rw [if_pos e]
    exact h
  · rw [if_neg e]
    refine ⟨x, c, [], [102], rfl, hl, loss_one (by simp), fun b1 e1 => ⟨by decide, ?_⟩⟩
    walk_at "w"
    refine ⟨x, c, [], [115], rfl, hl, loss_one (by simp), fun b2 e2 => ⟨by decide, ?_⟩⟩
    walk_at "w"
    have := key b1 b2 e1 e2 e
    simp only [List.any_cons, List.any_nil, id_eq, Bool.or_false, this]
    exact h
def L_barred_ones : WS := (wSeq (wIfS (wOr (wNot (wTest (wCall G_tuple (wCons (wVar 0) (wCons (wC (.int 1)) (wCons (wC (.int 2)) wNil)))))) (wNot (wTest (wCB aAll (wCons (wFz (wLc (wAnyIt (wVar 0)) [1] (wgN 1) wYes (wCall G_is_loss (wCons (wVar 1) wNil)))) wNil))))) (wRet (wC (.bl false))) wNext)
  (wRet (wIf (wTest (wOp aEq (wCB aLen (wCons (wVar 0) wNil)) (wC (.int 1)))) (wCall G_end_or_fair (wCons (wOp aIx (wVar 0) (wC (.int 0))) wNil)) (wCall G_are_twins (wCons (wOp aIx (wVar 0) (wC (.int 0))) (wCons (wOp aIx (wVar 0) (wC (.int 1))) wNil))))))
def G_barred_ones : Fn := fun ds n Q => ∃ B, ds = [brD B] ∧ Bar B ∧ Q (.bl true) n
theorem B_barred_ones {ds : List Dat} {n : Nat} {QD : Dat → Nat → Prop} (h : G_barred_ones ds n QD) : bodyW 2 L_barred_ones ds n QD := by
  obtain ⟨B, rfl, hb, h⟩ := h
  unfold L_barred_ones brD
  cases hb with
  | one h1 h2 =>
    walk_at "w"
    refine ⟨_, _, _, rfl, by simp, by simp, by simp, ?_⟩
    walk_at "w"
    refine ⟨_, _, rfl, h1, ?_⟩
    walk_at "w"
    refine ⟨by decide, _, _, rfl, h1, h2, h⟩
  | two h1 h2 h3 =>
    walk_at "w"
    refine ⟨_, _, _, rfl, by simp, by simp, by simp, ?_⟩
    walk_at "w"
    refine ⟨_, _, rfl, h1, ?_⟩
    walk_at "w"
    refine ⟨by decide, _, _, rfl, h2, ?_⟩
    walk_at "w"
    refine ⟨by decide, _, _, _, _, rfl, h1, h2, fun b e => ?_⟩
    rw [e.mpr h3]
    exact h
def L_check_barred : WS := (wIfS (wNot (wTest (wCall G_barred_ones (wCons (wVar 0) wNil)))) wNever wNext)
def G_check_barred : Fn := fun ds n Q => ∃ B, ds = [brD B] ∧ Bar B ∧ Q .non n
theorem B_check_barred {ds : List Dat} {n : Nat} {QD : Dat → Nat → Prop} (h : G_check_barred ds n QD) : bodyW 1 L_check_barred ds n QD := by
  obtain ⟨B, rfl, hb, h⟩ := h
  unfold L_check_barred
  walk_at "w"
  exact ⟨B, rfl, hb, h⟩
/-! marks -/
abbrev stm (x : List Nat × List Nat) : Nat → Nat := lt x.1 x.2
def mkB (B : List (List Nat × List Nat)) (r : Nat) : Int := (B.map fun x => pl (stm x) r).foldl max 0
theorem foldl_max : ∀ (l : List Int) (a m : Int), a ≤ m → (∀ y ∈ l, y ≤ m) → (m ∈ l ∨ a = m) → l.foldl max a = m
  | [], a, m, _, _, h3 => by
    rcases h3 with h3 | h3
    · cases h3
    · exact h3
  | x :: l, a, m, h1, h2, h3 => by
    have hx := h2 x List.mem_cons_self
    refine foldl_max l (max a x) m (Int.max_le.mpr ⟨h1, hx⟩) (fun y hy => h2 y (List.mem_cons_of_mem _ hy)) ?_
    rcases h3 with h3 | h3
    · rcases List.mem_cons.mp h3 with rfl | h3
      · exact .inr (by omega)
      · exact .inl h3
    · exact .inr (by omega)
theorem loss_lets {x : List Nat × List Nat} (h : Loss x.1 x.2) : LetW (stm x) := lt_lets h.hh h.hc h.ne
theorem mkB_eq {B : List (List Nat × List Nat)} {r : Nat} {m : Int} (h : ∀ x ∈ B, Loss x.1 x.2) (hm : m ∈ B.map fun x => pl (stm x) r) (hle : ∀ y ∈ B.map fun x => pl (stm x) r, y ≤ m) : mkB B r = m := by
  refine foldl_max _ 0 m ?_ hle (.inl hm)
  obtain ⟨x, hx, rfl⟩ := List.mem_map.mp hm
  exact (pl_range (loss_lets (h x hx)) r).1
def placeD (r : Nat) (d : Dat) : Dat := match d with | .tup [.str h, .str c] => .int (pl (lt h c) r) | _ => .non
theorem placeD_map (B : List (List Nat × List Nat)) (r : Nat) : (B.map fun x => lossD x.1 x.2).map (placeD r) = (B.map fun x => pl (stm x) r).map Dat.int := by
  rw [List.map_map, List.map_map]
  rfl
def L_mark_of : WS := (wRet (wCB aMax1 (wCons (wFz (wLc (wAnyIt (wVar 0)) [2] (wgN 2) wYes (wCall G_place (wCons (wCall G_letters_of (wCons (wVar 2) (wCons (wVar 1) wNil))) wNil)))) wNil)))
def G_mark_of : Fn := fun ds n Q => ∃ B r, ds = [brD B, .int (r : Nat)] ∧ B ≠ [] ∧ B.length ≤ 2 ∧ (∀ x ∈ B, Loss x.1 x.2) ∧ r ≤ 200 ∧ Q (.int (mkB B r)) n
theorem B_mark_of {ds : List Dat} {n : Nat} {QD : Dat → Nat → Prop} (h : G_mark_of ds n QD) : bodyW 3 L_mark_of ds n QD := by
  obtain ⟨B, r, rfl, hne, hl, hb, hr, h⟩ := h
  unfold L_mark_of brD
  walk_at "w"
  refine lcW_map (placeD r) _ _ (by simp; omega) (fun d hd R R0 hR => ?_) ?_
  · obtain ⟨x, hx, rfl⟩ := List.mem_map.mp hd
    walk_at "w"
    refine ⟨x.1, x.2, r, rfl, hb x hx, hr, _, rfl, pre_lets (loss_lets (hb x hx)) r, by rw [lts_len]; exact hr, ?_⟩
    exact hR
  · rw [placeD_map]
    walk_at "w"
    refine ⟨_, isInts_map _, by simp; exact List.length_pos_iff.mpr hne, fun m h1 h2 => ?_⟩
    rw [← mkB_eq hb h1 h2]
    exact h
def L_mark : WS := (wSeq (wDrop (wCall G_check_barred (wCons (wVar 0) wNil)))
  (wSeq (wDrop (wCall G_rounds (wCons (wVar 1) (wCons (wC (.int 200)) wNil))))
  (wRet (wCall G_mark_of (wCons (wVar 0) (wCons (wVar 1) wNil))))))
def G_mark : Fn := fun ds n Q => ∃ B r, ds = [brD B, .int (r : Nat)] ∧ Bar B ∧ r ≤ 200 ∧ Q (.int (mkB B r)) n
theorem B_mark {ds : List Dat} {n : Nat} {QD : Dat → Nat → Prop} (h : G_mark ds n QD) : bodyW 2 L_mark ds n QD := by
  obtain ⟨B, r, rfl, hb, hr, h⟩ := h
  unfold L_mark
  walk_at "w"
  refine ⟨B, rfl, hb, ?_⟩
  walk_at "w"
  refine ⟨_, _, rfl, by omega, by omega, ?_⟩
  walk_at "w"
  exact ⟨B, r, rfl, hb.ne, hb.len, hb.loss, hr, h⟩
/-! playing -/
def far (g : Int) (x : Int) : Bool := decide (1 < (if x - g < 0 then -(x - g) else x - g))
def oD : Option Int → Dat
  | none => .non
  | some i => .int i
def endO (g : Int) : Option Int → Option Int
  | none => none
  | some x => if far g x then none else some x
def nbO : Option Int → Option Int → Bool → Option Int
  | none, _, _ => none
  | some o, none, _ => some (3 * o)
  | some o, some q, lost => if lost then some (3 * o) else some (o + q + q)
def stp (g : Int) (s : Option Int × Option Int) (c : Nat) : Option Int × Option Int := (nbO (endO g s.1) (endO g s.2) (decide (c = 115)), nbO (endO g s.2) (endO g s.1) (decide (c = 102)))
def sts (B : List (List Nat × List Nat)) (w : Nat → Nat) : Nat → Option Int × Option Int
  | 0 => (some 0, some 1)
  | k + 1 => stp (mkB B k) (sts B w k) (w k)
def rowT (B : List (List Nat × List Nat)) (w : Nat → Nat) (k : Nat) : Dat := .tup [.int (mkB B k), oD (sts B w k).1, oD (sts B w k).2]
def rowsT (B : List (List Nat × List Nat)) (w : Nat → Nat) (m : Nat) : List Dat := (List.range m).map (rowT B w)
theorem rowsT_succ (B : List (List Nat × List Nat)) (w : Nat → Nat) (m : Nat) : rowsT B w (m + 1) = rowsT B w m ++ [rowT B w m] := by
  unfold rowsT
  rw [List.range_succ, List.map_append]
  rfl
theorem rowsT_len (B : List (List Nat × List Nat)) (w : Nat → Nat) (m : Nat) : (rowsT B w m).length = m := by simp [rowsT]
def L_wended : WS := (wRet (wFz (wLc (wAnyIt (wVar 0)) [2] (wgN 2) wYes (wIf (wOr (wTest (wOp aIsW (wVar 2) (wC .non))) (wTest (wOp aGt (wCB aAbs (wCons (wOp aSub (wVar 2) (wVar 1)) wNil)) (wC (.int 1))))) (wC .non) (wVar 2)))))
def G_wended : Fn := fun ds n Q => ∃ a b g, ds = [.lst [oD a, oD b], .int g] ∧ Q (.lst [oD (endO g a), oD (endO g b)]) n
theorem B_wended {ds : List Dat} {n : Nat} {QD : Dat → Nat → Prop} (h : G_wended ds n QD) : bodyW 3 L_wended ds n QD := by
  obtain ⟨a, b, g, rfl, h⟩ := h
  unfold L_wended
  walk_at "w"
  have hr : ∀ c : Prop, ∀ [Decidable c], ∀ P Q : Prop, (c → P) → (¬ c → Q) → if c then P else Q := fun c _ P Q p q => by
    by_cases z : c
    · rw [if_pos z]; exact p z
    · rw [if_neg z]; exact q z
  have e1 : ∀ x : Int, 1 < (if x - g < 0 then -(x - g) else x - g) → endO g (some x) = none := fun x c => by
    simp only [endO, far, decide_eq_true c, if_true]
  have e2 : ∀ x : Int, ¬ 1 < (if x - g < 0 then -(x - g) else x - g) → endO g (some x) = some x := fun x c => by
    simp only [endO, far, decide_eq_false c, Bool.false_eq_true, if_false]
  cases a with
  | none =>
    cases b with
    | none =>
      unfold oD
      walk_at "w"
      exact ⟨by decide, by decide, h⟩
    | some b =>
      simp only [oD]
      walk_at "w"
      refine ⟨by decide, hr _ _ _ (fun c => ⟨by decide, ?_⟩) fun c => ⟨by decide, ?_⟩⟩
      · rw [e1 b c] at h; exact h
      · rw [e2 b c] at h; exact h
  | some a =>
    cases b with
    | none =>
      simp only [oD]
      walk_at "w"
      refine hr _ _ _ (fun c => ⟨by decide, by decide, ?_⟩) fun c => ⟨by decide, by decide, ?_⟩
      · rw [e1 a c] at h; exact h
      · rw [e2 a c] at h; exact h
    | some b =>
      simp only [oD]
      walk_at "w"
      refine hr _ _ _ (fun c => ⟨by decide, hr _ _ _ (fun c' => ⟨by decide, ?_⟩) fun c' => ⟨by decide, ?_⟩⟩) fun c => ⟨by decide, hr _ _ _ (fun c' => ⟨by decide, ?_⟩) fun c' => ⟨by decide, ?_⟩⟩
      · rw [e1 a c, e1 b c'] at h; exact h
      · rw [e1 a c, e2 b c'] at h; exact h
      · rw [e2 a c, e1 b c'] at h; exact h
      · rw [e2 a c, e2 b c'] at h; exact h
def L_nbehind : WS := (wSeq (wIfS (wTest (wOp aIsW (wVar 0) (wC .non))) (wRet (wC .non)) wNext)
  (wRet (wIf (wOr (wTest (wVar 2)) (wTest (wOp aIsW (wVar 1) (wC .non)))) (wOp aMul (wC (.int 3)) (wVar 0)) (wOp aAdd (wOp aAdd (wVar 0) (wVar 1)) (wVar 1)))))
def G_nbehind : Fn := fun ds n Q => ∃ a b l, ds = [oD a, oD b, .bl l] ∧ Q (oD (nbO a b l)) n
theorem B_nbehind {ds : List Dat} {n : Nat} {QD : Dat → Nat → Prop} (h : G_nbehind ds n QD) : bodyW 3 L_nbehind ds n QD := by
  obtain ⟨a, b, l, rfl, h⟩ := h
  unfold L_nbehind
  cases a with
  | none =>
    unfold oD at h ⊢
    walk_at "w"
    exact h
  | some a =>
    cases b with
    | none =>
      simp only [oD, nbO] at h ⊢
      walk_at "w"
      cases l <;> (walk_at "w"; exact h)
    | some b =>
      cases l with
      | true =>
        simp only [oD, nbO, if_true] at h ⊢
        walk_at "w"
        exact h
      | false =>
        simp only [oD, nbO, Bool.false_eq_true, if_false] at h ⊢
        walk_at "w"
        exact h
def L_rows_t : WS := (wSeq (wParOO 3 4 (wLst (wCons (wC (.int 0)) (wCons (wC (.int 1)) wNil))) (wLst wNil))
  (wSeq (wAsg (wCall G_letters_of (wCons (wVar 1) (wCons (wVar 2) wNil))) (wgN 5))
  (wSeq (wFor (wRng1 (wCons (wOp aAdd (wVar 2) (wC (.int 1))) wNil)) (wgN 6) (wSeq (wAsg (wCall G_mark_of (wCons (wVar 0) (wCons (wVar 6) wNil))) (wgN 7))
  (wSeq (wApp 4 (wTup (wCons (wVar 7) (wStar (wVar 3) wNil))))
  (wIfS (wTest (wOp aLt (wVar 6) (wVar 2))) (wSeq (wAsg (wCall G_wended (wCons (wVar 3) (wCons (wVar 7) wNil))) (wgLst 2 (wgCons (wgN 8) (wgCons (wgN 9) wgNil))))
  (wSeq (wAsg (wOp aIx (wVar 5) (wVar 6)) (wgN 10))
  (wSeq (wOwn (wLst (wCons (wCall G_nbehind (wCons (wVar 8) (wCons (wVar 9) (wCons (wOp aEq (wVar 10) (wC (.str ("s" : Str).cps.toList))) wNil)))) wNil)) 3)
  (wApp 3 (wCall G_nbehind (wCons (wVar 9) (wCons (wVar 8) (wCons (wOp aEq (wVar 10) (wC (.str ("f" : Str).cps.toList))) wNil)))))))) wNext))))
  (wRet (wVar 4)))))
def G_rows_t : Fn := fun ds n Q => ∃ B h c r, ds = [brD B, lossD h c, .int (r : Nat)] ∧ B ≠ [] ∧ B.length ≤ 2 ∧ (∀ x ∈ B, Loss x.1 x.2) ∧ Loss h c ∧ r ≤ 200 ∧ Q (.lst (rowsT B (lt h c) (r + 1))) n
theorem B_rows_t {ds : List Dat} {n : Nat} {QD : Dat → Nat → Prop} (h : G_rows_t ds n QD) : bodyW 11 L_rows_t ds n QD := by
  obtain ⟨B, x, c, r, rfl, hne, hl, hb, hc, hr, h⟩ := h
  have hw := lt_lets hc.hh hc.hc hc.ne
  unfold L_rows_t
  walk_at "w"
  refine ⟨x, c, r, rfl, hc, hr, ?_⟩
  rw [show lts x c r = pre (lt x c) r from rfl]
  walk_at "w"
  refine ⟨by omega, by omega, ?_⟩
  refine forW_at _ (fun i S => ∃ s3 s6 s7 s8 s9 s10, S = ⟨[.im (brD B), .im (lossD x c), .im (.int r), s3, .ow (rowsT B (lt x c) i), .im (.str (pre (lt x c) r)), s6, s7, s8, s9, s10], n⟩ ∧ (i ≤ r → s3 = .ow [oD (sts B (lt x c) i).1, oD (sts B (lt x c) i).2])) _ ?_ ⟨_, _, _, _, _, _, rfl, fun _ => rfl⟩ ?_
  · rintro i d S hd ⟨s3, s6, s7, s8, s9, s10, rfl, h3⟩ N hN
    obtain ⟨hi, rfl⟩ := intsD_get hd
    have hi2 : i ≤ r := by omega
    rw [h3 hi2]
    walk_at "w"
    refine ⟨B, i, by simp, hne, hl, hb, by omega, ?_⟩
    walk_at "w"
    rw [rowsT_len]
    refine ⟨by omega, ?_⟩
    have hrow := rowsT_succ B (lt x c) i
    unfold rowT at hrow
    rw [← hrow]
    by_cases hlt : i < r
    · rw [if_pos (by omega)]
      refine ⟨_, _, _, rfl, ?_⟩
      walk_at "w"
      refine ⟨by rw [pre_len]; omega, lt x c i, by rw [atI_pos (by omega), show (0 + (i : Int)).toNat = i by omega, pre_get _ (by omega)], ?_⟩
      refine ⟨_, _, _, rfl, ?_⟩
      walk_at "w"
      refine ⟨_, _, _, rfl, by decide, ?_⟩
      rw [lit_s, lit_f]
      have es : ∀ y : Nat, decide ([lt x c i] = [y]) = decide (lt x c i = y) := fun y => by simp
      rw [es, es]
      exact hN _ ⟨_, _, _, _, _, _, rfl, fun _ => rfl⟩
    · rw [if_neg (by omega)]
      exact hN _ ⟨_, _, _, _, _, _, rfl, fun z => absurd z (by omega)⟩
  · rintro S ⟨s3, s6, s7, s8, s9, s10, rfl, _⟩
    walk_at "w"
    have e : (intsD 0 (((r : Int) + 1).toNat)).length = r + 1 := by simp [intsD]
    rw [e]
    exact h

/-! the ends -/
def numT (s : Option Int × Option Int) (p : Nat) : Option Int := if p = 0 then s.1 else s.2
def awayB (B : List (List Nat × List Nat)) (w : Nat → Nat) (p k : Nat) : Bool := match numT (sts B w k) p with | none => false | some x => far (mkB B k) x
def valT (B : List (List Nat × List Nat)) (w : Nat → Nat) (p k : Nat) (a b : Int) : Int := match numT (sts B w k) p with | none => 0 | some x => if x < mkB B k then a else b
def endT (B : List (List Nat × List Nat)) (w : Nat → Nat) (m p : Nat) (a b : Int) : Dat := match (List.range m).find? (awayB B w p) with | none => .non | some k => .tup [.int (k : Nat), .int (valT B w p k a b)]
def L_end_p : WS := (wSeq (wFor (wEnum (wCons (wVar 0) wNil)) (wgTup 2 (wgCons (wgN 3) (wgCons (wgN 4) wgNil))) (wSeq (wAsg (wOp aIx (wVar 4) (wOp aAdd (wVar 1) (wC (.int 1)))) (wgN 5))
  (wIfS (wAnd (wTest (wOp aIsNotW (wVar 5) (wC .non))) (wTest (wOp aGt (wCB aAbs (wCons (wOp aSub (wVar 5) (wOp aIx (wVar 4) (wC (.int 0)))) wNil)) (wC (.int 1))))) (wRet (wTup (wCons (wVar 3) (wCons (wIf (wTest (wOp aLt (wVar 5) (wOp aIx (wVar 4) (wC (.int 0))))) (wOp aIx (wVar 2) (wC (.int 0))) (wOp aIx (wVar 2) (wC (.int 1)))) wNil)))) wNext)))
  (wRet (wC .non)))
def G_end_p : Fn := fun ds n Q => ∃ B w m p a b, ds = [.lst (rowsT B w m), .int (p : Nat), .tup [.int a, .int b]] ∧ p ≤ 1 ∧ Q (endT B w m p a b) n
theorem rowsT_get {B : List (List Nat × List Nat)} {w : Nat → Nat} {m i : Nat} {d : Dat} (h : (rowsT B w m)[i]? = some d) : i < m ∧ d = rowT B w i := by
  unfold rowsT at h
  rw [List.getElem?_map, Option.map_eq_some_iff] at h
  obtain ⟨j, h1, rfl⟩ := h
  have h2 : i < m := by
    by_cases hi : i < m
    · exact hi
    · rw [List.getElem?_eq_none (by simpa using hi)] at h1
      cases h1
  rw [List.getElem?_range h2] at h1
  cases h1
  exact ⟨h2, rfl⟩
theorem endT_none {B : List (List Nat × List Nat)} {w : Nat → Nat} {m p : Nat} {a b : Int} (h : ∀ j, j < m → awayB B w p j = false) : endT B w m p a b = .non := by
  unfold endT
  rw [List.find?_eq_none.mpr (fun j hj => by rw [h j (by simpa using hj)]; simp)]
theorem endT_some {B : List (List Nat × List Nat)} {w : Nat → Nat} {m p i : Nat} {a b : Int} (hi : i < m) (h : awayB B w p i = true) (hj : ∀ j, j < i → awayB B w p j = false) : endT B w m p a b = .tup [.int (i : Nat), .int (valT B w p i a b)] := by
  unfold endT
  rw [(List.find?_range_eq_some).mpr ⟨h, by simpa using hi, fun j q => by rw [hj j q]; rfl⟩]
theorem B_end_p {ds : List Dat} {n : Nat} {QD : Dat → Nat → Prop} (h : G_end_p ds n QD) : bodyW 6 L_end_p ds n QD := by
  obtain ⟨B, w, m, p, a, b, rfl, hp, h⟩ := h
  unfold L_end_p
  walk_at "w"
  refine forW_at _ (fun i S => (∃ s3 s4 s5, S = ⟨[.im (.lst (rowsT B w m)), .im (.int p), .im (.tup [.int a, .int b]), s3, s4, s5], n⟩) ∧ ∀ j, j < i → awayB B w p j = false) _ ?_ ⟨⟨_, _, _, rfl⟩, fun j q => absurd q (Nat.not_lt_zero _)⟩ ?_
  · rintro i d S hd ⟨⟨s3, s4, s5, rfl⟩, hj⟩ N hN
    obtain ⟨x, hx, rfl⟩ := enumD_get hd
    obtain ⟨hi, rfl⟩ := rowsT_get hx
    unfold rowT
    walk_at "w"
    have hnum : atI [Dat.int (mkB B i), oD (sts B w i).1, oD (sts B w i).2] ((p : Int) + 1) = some (oD (numT (sts B w i) p)) := by
      rw [atI_pos (by omega)]
      have : p = 0 ∨ p = 1 := by omega
      rcases this with rfl | rfl <;> rfl
    refine ⟨_, hnum, ?_⟩
    have next : awayB B w p i = false → ∀ j, j < i + 1 → awayB B w p j = false := fun z j q => by
      by_cases e : j = i
      · rw [e]; exact z
      · exact hj j (by omega)
    cases e : numT (sts B w i) p with
    | none =>
      unfold oD
      walk_at "w"
      exact hN _ ⟨⟨_, _, _, rfl⟩, next (by unfold awayB; rw [e])⟩
    | some x =>
      unfold oD
      walk_at "w"
      have e2 : awayB B w p i = far (mkB B i) x := by unfold awayB; rw [e]
      have e3 : valT B w p i a b = if x < mkB B i then a else b := by unfold valT; rw [e]
      unfold far at e2
      by_cases c : 1 < (if x - mkB B i < 0 then -(x - mkB B i) else x - mkB B i)
      · rw [if_pos c]
        rw [decide_eq_true c] at e2
        rw [endT_some hi e2 hj, e3] at h
        split
        · rename_i c2
          rw [if_pos c2] at h
          rw [Nat.zero_add]
          exact h
        · rename_i c2
          rw [if_neg c2] at h
          rw [Nat.zero_add]
          exact h
      · rw [if_neg c]
        rw [decide_eq_false c] at e2
        exact hN _ ⟨⟨_, _, _, rfl⟩, next e2⟩
  · rintro S ⟨⟨s3, s4, s5, rfl⟩, hj⟩
    rw [enumD_len, rowsT_len] at hj
    walk_at "w"
    rw [endT_none hj] at h
    exact h
def L_wishes : WS := (wRet (wAndV (wCall G_tuple (wCons (wVar 0) (wCons (wC (.int 2)) (wCons (wC (.int 2)) wNil)))) (wCB aAll (wCons (wFz (wLc (wAnyIt (wVar 0)) [1] (wgN 1) wYes (wCall G_integer (wCons (wVar 1) (wCons (wC (.int 0)) (wCons (wC (.int 1)) wNil)))))) wNil))))
def G_wishes : Fn := fun ds n Q => ∃ a b : Int, ds = [.tup [.int a, .int b]] ∧ 0 ≤ a ∧ a ≤ 1 ∧ 0 ≤ b ∧ b ≤ 1 ∧ Q (.bl true) n
theorem B_wishes {ds : List Dat} {n : Nat} {QD : Dat → Nat → Prop} (h : G_wishes ds n QD) : bodyW 2 L_wishes ds n QD := by
  obtain ⟨a, b, rfl, h1, h2, h3, h4, h⟩ := h
  unfold L_wishes
  walk_at "w"
  refine ⟨_, _, _, rfl, by simp, by simp, by simp, ?_⟩
  walk_at "w"
  refine ⟨_, _, _, rfl, h1, h2, by decide, _, _, _, rfl, h3, h4, by decide, ?_⟩
  walk_at "w"
  exact h
def wishD (a b : Int) : Dat := .tup [.int a, .int b]
def L_talk : WS := (wSeq (wDrop (wCall G_check_barred (wCons (wVar 0) wNil)))
  (wSeq (wIfS (wNot (wTest (wCall G_wishes (wCons (wVar 1) wNil)))) wNever wNext)
  (wSeq (wDrop (wCall G_check_loss (wCons (wVar 2) wNil)))
  (wSeq (wDrop (wCall G_rounds (wCons (wVar 3) (wCons (wC (.int 200)) wNil))))
  (wSeq (wAsg (wCall G_rows_t (wCons (wVar 0) (wCons (wVar 2) (wCons (wVar 3) wNil)))) (wgN 4))
  (wRet (wCB aTupOf (wCons (wFz (wLc (wAnyIt (wTup (wCons (wC (.int 0)) (wCons (wC (.int 1)) wNil)))) [5] (wgN 5) wYes (wCall G_end_p (wCons (wVar 4) (wCons (wVar 5) (wCons (wVar 1) wNil)))))) wNil))))))))
def G_talk : Fn := fun ds n Q => ∃ B a b h c m, ds = [brD B, wishD a b, lossD h c, .int (m : Nat)] ∧ Bar B ∧ (0 ≤ a ∧ a ≤ 1 ∧ 0 ≤ b ∧ b ≤ 1) ∧ Loss h c ∧ m ≤ 200 ∧ Q (.tup [endT B (lt h c) (m + 1) 0 a b, endT B (lt h c) (m + 1) 1 a b]) n
theorem B_talk {ds : List Dat} {n : Nat} {QD : Dat → Nat → Prop} (h : G_talk ds n QD) : bodyW 6 L_talk ds n QD := by
  obtain ⟨B, a, b, x, c, m, rfl, hb, hw, hl, hm, h⟩ := h
  unfold L_talk
  walk_at "w"
  refine ⟨B, rfl, hb, ?_⟩
  walk_at "w"
  refine ⟨a, b, rfl, hw.1, hw.2.1, hw.2.2.1, hw.2.2.2, ?_⟩
  walk_at "w"
  refine ⟨x, c, rfl, hl, ?_⟩
  walk_at "w"
  refine ⟨_, _, rfl, by omega, by omega, ?_⟩
  walk_at "w"
  refine ⟨B, x, c, m, rfl, hb.ne, hb.len, hb.loss, hl, hm, ?_⟩
  walk_at "w"
  refine ⟨B, lt x c, m + 1, 0, a, b, rfl, by decide, by decide, B, lt x c, m + 1, 1, a, b, rfl, by decide, by decide, ?_⟩
  exact h
def L_talked : WS := (wSeq (wDrop (wCall G_check_barred (wCons (wVar 0) wNil)))
  (wSeq (wDrop (wCall G_check_loss (wCons (wVar 1) wNil)))
  (wSeq (wDrop (wCall G_rounds (wCons (wVar 2) (wCons (wC (.int 200)) wNil))))
  (wRet (wCB aTupOf (wCons (wCall G_rows_t (wCons (wVar 0) (wCons (wVar 1) (wCons (wVar 2) wNil)))) wNil))))))
def G_talked : Fn := fun ds n Q => ∃ B h c m, ds = [brD B, lossD h c, .int (m : Nat)] ∧ Bar B ∧ Loss h c ∧ m ≤ 200 ∧ Q (.tup (rowsT B (lt h c) (m + 1))) n
theorem B_talked {ds : List Dat} {n : Nat} {QD : Dat → Nat → Prop} (h : G_talked ds n QD) : bodyW 3 L_talked ds n QD := by
  obtain ⟨B, x, c, m, rfl, hb, hl, hm, h⟩ := h
  unfold L_talked
  walk_at "w"
  refine ⟨B, rfl, hb, ?_⟩
  walk_at "w"
  refine ⟨x, c, rfl, hl, ?_⟩
  walk_at "w"
  refine ⟨_, _, rfl, by omega, by omega, ?_⟩
  walk_at "w"
  refine ⟨B, x, c, m, rfl, hb.ne, hb.len, hb.loss, hl, hm, ?_⟩
  walk_at "w"
  exact h

end Dl
-- part Eu
set_option Elab.async false
set_option linter.all false
set_option maxRecDepth 100000
set_option maxHeartbeats 4000000
namespace Dl
open PySem PySem.Spec PyProof.Rows L2 Evl
variable [LawTabs]

local macro_rules | `(tactic| walk_at "w") => `(tactic| (simp (maxSteps := 3000000) only [↓e_var0, ↓e_var0o, ↓e_varS, ↓e_anyIt, ↓e_par, ↓e_zip, ↓aAdd_i, ↓aAdd_s, ↓aAdd_t, ↓aAdd_l, ↓aMul_i, ↓aMul_s, ↓aMul_l, ↓eqS_i, ↓eqS_s, ↓eqS_b, ↓eqS_nn, ↓eqS_ni, ↓eqS_ns, ↓eqS_nt, ↓eqS_in, ↓eqS_sn, ↓eqS_is, ↓eqS_si, ↓eqS_t, ↓eqS_l, ↓inS_s, ↓inS_t, ↓inS_l, ↓lenD_s, ↓lenD_t, ↓lenD_l, ↓lenD_z, ↓ixD_t, ↓ixD_l, ↓ixD_z, ↓ixD_s, ↓ixD_0, ↓ixD_1, ↓ixD_2, ↓cutDd_s, ↓cutDd_l, ↓cutDd_z, ↓cutDd_t, ↓listD_l, ↓listD_z, ↓itemsD_l, ↓itemsD_t, ↓itemsQ_s, ↓itemsQ_l, ↓itemsQ_z, ↓itemsQ_t, ↓aInt_i, ↓aInt_b, ↓aTupOf_l, ↓aTupOf_t, ↓anyD_l, ↓anyD_z, ↓anyD_t, ↓anyD_s, ↓joinD_l, ↓joinD_t, ↓zipQ_t, ↓zipQ_l, ↓asB_bl, ↓asI_int, ↓as1_one, ↓as2_two, par2,
  bodyW, bodyF, bodyP, start0, wSeq, wAsg, wOwn, wIfS, wRet, wRetF, wRetO, wRetN, wDrop, wApp, wSet, setW, slotSet, wInc, wNext, wBreak, wContinue, wNever, wC, wOp, wUn, wIf, wTest, wAnd, wOr, wNot, wYes, wAndV, wOrV, wNotV, wChain, wNil, wCons, wTup, wLst, wFz, wCall, wCallF, wCallK, wCallN, wCB, wCBF, wBM, wBM0, tStr, wNone, wPart, wSl, wgN, wgNil, wgCons, wgTup, wFor, wWhile, wLc, wRng1, wRng2, wListRg, wPot, wipeL, restL, keepIm,
  aI0, aII, aNeg, aEq, aNe, aIn, aNotIn, aIsN, aIsNotN, isN, aIsW, aIsNotW, ↓isW_n, ↓isW_bb, ↓isW_nb, wRevS, wRevT, wParO, lcW_nil, lcW_cons, wKIx, wKIn, aAbs, aMax, aMin, aMin1, aMax1, ↓partsD_l, ↓partsD_z, ↓partsD_t, aLen, aSum, aAll, aAny, aIsi, isi, goodTy, aIx, aListOf, idxS, wParOO, wP3, wP3O, wStar, wEnum, wDC, lastAt, wgLst, wExt, wExt.listL, aInDp, aNotInDp, inDp, Nat.reduceBEq,
  List.map_cons, List.map_nil, List.cons_append, List.nil_append, List.length_cons, List.length_nil, List.replicate_succ, List.replicate_zero, Nat.reduceAdd, Nat.reduceSub, List.getElem?_cons_zero, List.getElem?_cons_succ, List.set_cons_zero, List.set_cons_succ, reduceCtorEq, if_true, if_false, Bool.false_eq_true,
  decide_eq_true_eq, kinds, List.contains_cons, List.contains_nil, String.reduceBEq, Bool.or_true, Bool.true_or, Bool.or_false, Bool.false_or, Bool.not_true, Bool.not_false, Bool.not_eq_true, decide_true, decide_false, true_and, and_true, Int.reduceLT, Int.reduceLE, Int.reduceNeg, Nat.reduceLeDiff, cmuL, cmuR, cfdS, cpwS, atI_pos, Int.reduceToNat, isBls_nil, isBls_bl, Option.map_some, Option.some.injEq, exists_eq_left', List.all_cons, List.all_nil, id_eq, Bool.and_true, Bool.true_and, beq_self_eq_true]))


theorem ltn_0 : ("ff" : Str).cps.toList = [102, 102] := by decide +kernel
theorem ltn_1 : ("fs" : Str).cps.toList = [102, 115] := by decide +kernel
theorem ltn_2 : ("nf" : Str).cps.toList = [110, 102] := by decide +kernel
theorem ltn_3 : ("nnf" : Str).cps.toList = [110, 110, 102] := by decide +kernel
theorem ltn_4 : ("ns" : Str).cps.toList = [110, 115] := by decide +kernel
theorem ltn_5 : ("sf" : Str).cps.toList = [115, 102] := by decide +kernel
theorem ltn_6 : ("sn" : Str).cps.toList = [115, 110] := by decide +kernel
theorem ltn_7 : ("ss" : Str).cps.toList = [115, 115] := by decide +kernel
theorem ltn_8 : ("ssf" : Str).cps.toList = [115, 115, 102] := by decide +kernel
theorem ltn_9 : ("sss" : Str).cps.toList = [115, 115, 115] := by decide +kernel
local macro_rules | `(tactic| walk_at "lits") => `(tactic| (simp only [lit_, lit_n, lit_f, lit_s, lit_nfs, ltn_0, ltn_1, ltn_2, ltn_3, ltn_4, ltn_5, ltn_6, ltn_7, ltn_8, ltn_9]))
def L_loss_drawn : WS := (wSeq (wAsg (wCall G_word_drawn (wCons (wVar 0) (wCons (wC (.int 4)) wNil))) (wgN 1))
  (wSeq (wAsg (wCall G_of (wCons (wVar 0) (wCons (wFz (wLst (wCons (wC (.str ("n" : Str).cps.toList)) (wCons (wC (.str ("f" : Str).cps.toList)) (wCons (wC (.str ("s" : Str).cps.toList)) (wCons (wC (.str ("fs" : Str).cps.toList)) (wCons (wC (.str ("nf" : Str).cps.toList)) (wCons (wC (.str ("ns" : Str).cps.toList)) (wCons (wC (.str ("sn" : Str).cps.toList)) (wCons (wC (.str ("nfs" : Str).cps.toList)) (wCons (wC (.str ("ff" : Str).cps.toList)) (wCons (wC (.str ("ss" : Str).cps.toList)) (wCons (wC (.str ("ssf" : Str).cps.toList)) (wCons (wC (.str ("nnf" : Str).cps.toList)) wNil)))))))))))))) wNil))) (wgN 2))
  (wRet (wTup (wCons (wVar 1) (wCons (wVar 2) wNil))))))
def G_loss_drawn : Fn := fun ds n Q => ds = [.pot] ∧ n + 6 ≤ 1000000 ∧ ∀ h c, Loss h c → h.length ≤ 4 → c.length ≤ 3 → Q (lossD h c) (n + 6)
theorem B_loss_drawn {ds : List Dat} {n : Nat} {QD : Dat → Nat → Prop} (h : G_loss_drawn ds n QD) : bodyP 3 L_loss_drawn ds n QD := by
  obtain ⟨rfl, hn, h⟩ := h
  unfold L_loss_drawn
  walk_at "lits"
  walk_at "w"
  refine ⟨4, rfl, by omega, by omega, fun z z1 z2 => ?_⟩
  walk_at "w"
  refine ⟨_, _, rfl, rfl, by decide, by decide, by omega, fun d hd => ?_⟩
  have key : ∀ c, Lets c → c ≠ [] → c.length ≤ 3 → ∃ m, n + 4 + 1 + 1 ≤ m ∧ m ≤ 1000000 ∧ QD (.tup [.str z, .str c]) m := fun c c1 c2 c3 =>
    ⟨n + 6, by omega, hn, h z c ⟨z1, c1, by omega, by omega, c2⟩ z2 c3⟩
  simp only [List.mem_cons, List.not_mem_nil, or_false] at hd
  rcases hd with rfl | rfl | rfl | rfl | rfl | rfl | rfl | rfl | rfl | rfl | rfl | rfl <;> (walk_at "w"; exact key _ (letsB (by decide)) (by simp) (by simp))
def L_is_fair : WS := (wRet (wOrV (wCB aAny (wCons (wFz (wLc (wAnyIt (wOp aIx (wVar 0) (wC (.int 1)))) [1] (wgN 1) wYes (wOp aNe (wVar 1) (wOp aIx (wOp aIx (wVar 0) (wC (.int 1))) (wC (.int 0)))))) wNil)) (wOp aEq (wOp aIx (wOp aIx (wVar 0) (wC (.int 1))) (wC (.int 0))) (wC (.str ("n" : Str).cps.toList)))))
theorem allR_iff {c : List Nat} (hc : c ≠ []) (x : Nat) : AllR c x ↔ ∀ y ∈ c, y = x := by
  constructor
  · intro h y hy
    obtain ⟨i, hi⟩ := List.getElem?_of_mem hy
    have hl := (List.getElem?_eq_some_iff.mp hi).1
    have := h i
    rw [lt_nil, Nat.mod_eq_of_lt hl, List.getD_eq_getElem?_getD, hi] at this
    exact this
  · intro h i
    have hp := List.length_pos_iff.mpr hc
    have hl := Nat.mod_lt i hp
    rw [lt_nil, List.getD_eq_getElem?_getD, List.getElem?_eq_getElem hl]
    exact h _ (List.getElem_mem hl)
def G_is_fair : Fn := fun ds n Q => ∃ h c, ds = [lossD h c] ∧ Loss h c ∧ ∀ b, (b = true ↔ ¬ AllR c 102 ∧ ¬ AllR c 115) → Q (.bl b) n
theorem B_is_fair {ds : List Dat} {n : Nat} {QD : Dat → Nat → Prop} (h : G_is_fair ds n QD) : bodyW 2 L_is_fair ds n QD := by
  obtain ⟨x, c, rfl, hl, h⟩ := h
  unfold L_is_fair lossD
  obtain ⟨y, c', rfl⟩ := List.exists_cons_of_ne_nil hl.ne
  have hlc := hl.lc
  walk_at "w"
  refine lcW_map (fun d => match d with | .str z => .bl (!decide (z = [y])) | _ => .non) _ _ (by simp [signsD] at *; omega) (fun d hd R R0 hR => ?_) ?_
  · obtain ⟨z, hz, rfl⟩ := List.mem_map.mp hd
    walk_at "w"
    refine ⟨by simp only [List.length_cons] at hlc; omega, hR⟩
  · have e : isBls ((signsD (y :: c')).map fun d => match d with | .str z => Dat.bl (!decide (z = [y])) | _ => .non) = some ((y :: c').map fun z => !decide (z = y)) := by
      unfold signsD
      rw [List.map_map]
      have : ((fun d : Dat => match d with | .str z => Dat.bl (!decide (z = [y])) | _ => .non) ∘ fun c : Nat => Dat.str [c]) = fun z : Nat => Dat.bl (!decide (z = y)) := by
        funext z
        simp
      rw [this, ← isBls_map, List.map_map]
      rfl
    refine ⟨_, e, ?_⟩
    rw [lit_n]
    have hy := hl.hc y List.mem_cons_self
    have key : ∀ b : Bool, b = (((y :: c').map fun z => !decide (z = y)).any id || decide (y = 110)) → QD (.bl b) n := fun b hb => by
      refine h b ?_
      rw [allR_iff hl.ne, allR_iff hl.ne, hb, Bool.or_eq_true, decide_eq_true_eq, List.any_eq_true]
      constructor
      · rintro (⟨w, hw, hw2⟩ | rfl)
        · obtain ⟨z, hz, rfl⟩ := List.mem_map.mp hw
          have hz2 : z ≠ y := by simpa using hw2
          exact ⟨fun q => hz2 ((q z hz).trans (q y List.mem_cons_self).symm), fun q => hz2 ((q z hz).trans (q y List.mem_cons_self).symm)⟩
        · exact ⟨fun q => absurd (q 110 List.mem_cons_self) (by decide), fun q => absurd (q 110 List.mem_cons_self) (by decide)⟩
      · rintro ⟨q1, q2⟩
        by_cases e1 : y = 110
        · exact .inr e1
        · refine .inl (Classical.byContradiction fun no => ?_)
          have all : ∀ z ∈ y :: c', z = y := fun z hz => Classical.byContradiction fun ne => no ⟨!decide (z = y), List.mem_map.mpr ⟨z, hz, rfl⟩, by simpa using ne⟩
          rcases hy with rfl | rfl | rfl
          · exact e1 rfl
          · exact q1 all
          · exact q2 all
    have e0 : ((y :: c').map fun z => !decide (z = y)).any id = (false :: c'.map fun z => !decide (z = y)).any id := by simp
    walk_at "w"
    split
    · rename_i hb
      exact key true (by rw [e0, hb]; rfl)
    · rename_i hb
      refine ⟨by simp only [List.length_cons] at hlc; omega, key _ ?_⟩
      rw [e0, Bool.eq_false_iff.mpr hb]
      simp
def L_twins_drawn : WS := (wSeq (wAsg (wTup (wCons (wCall G_word_drawn (wCons (wVar 0) (wCons (wC (.int 4)) wNil))) (wCons (wCall G_of (wCons (wVar 0) (wCons (wFz (wLst (wCons (wTup (wCons (wC (.str ("f" : Str).cps.toList)) (wCons (wC (.str ("s" : Str).cps.toList)) wNil))) (wCons (wTup (wCons (wC (.str ("s" : Str).cps.toList)) (wCons (wC (.str ("f" : Str).cps.toList)) wNil))) wNil)))) wNil))) wNil))) (wgTup 2 (wgCons (wgN 1) (wgCons (wgTup 2 (wgCons (wgN 2) (wgCons (wgN 3) wgNil))) wgNil))))
  (wSeq (wAsg (wFz (wLst (wCons (wTup (wCons (wOp aAdd (wVar 1) (wVar 2)) (wCons (wVar 3) wNil))) (wCons (wTup (wCons (wOp aAdd (wVar 1) (wC (.str ("n" : Str).cps.toList))) (wCons (wCall G_of (wCons (wVar 0) (wCons (wFz (wLst (wCons (wVar 3) (wCons (wOp aAdd (wVar 3) (wVar 3)) wNil)))) wNil))) wNil))) wNil)))) (wgN 4))
  (wRet (wIf (wTest (wOp aEq (wCall G_take (wCons (wVar 0) (wCons (wC (.int 2)) wNil))) (wC (.int 0)))) (wTup (wCons (wOp aIx (wVar 4) (wC (.int 0))) (wCons (wOp aIx (wVar 4) (wC (.int 1))) wNil))) (wTup (wCons (wOp aIx (wVar 4) (wC (.int 1))) (wCons (wOp aIx (wVar 4) (wC (.int 0))) wNil)))))))
theorem lt_rep2 (h : List Nat) (x : Nat) : lt h [x, x] = lt h [x] := lt_rep h (c := [x]) (by simp) (k := 2) (by decide)
theorem twins_loss {z : List Nat} {x y : Nat} (hx : x = 102 ∨ x = 115) (hy : y = 102 ∨ y = 115) (hne : y ≠ x) : Twins (lt (z ++ [y]) [x]) (lt (z ++ [110]) [x]) z.length x := by
  have at_ : ∀ u k : Nat, k < z.length → lt (z ++ [u]) [x] k = z.getD k 0 := fun u k hk => by
    refine lt_head_at (by simp; omega) ?_
    rw [List.getElem?_append_left hk, List.getD_eq_getElem?_getD, List.getElem?_eq_getElem hk]
    rfl
  have last : ∀ u : Nat, lt (z ++ [u]) [x] z.length = u := fun u => lt_head_at (by simp) (by simp)
  have tl : ∀ u k : Nat, z.length < k → lt (z ++ [u]) [x] k = x := fun u k hk => lt_one (by simp; omega)
  exact ⟨hx, fun k hk => by rw [at_ _ k hk, at_ _ k hk], by rw [last, last]; omega, by rw [last]; exact hne, by rw [last]; omega, fun k hk => ⟨tl _ k hk, tl _ k hk⟩⟩
structure Small (B : List (List Nat × List Nat)) : Prop where
  bar : Bar B
  hd : ∀ x ∈ B, x.1.length ≤ 5
  cr : ∀ x ∈ B, x.2.length ≤ 4
def G_twins_drawn : Fn := fun ds n Q => ds = [.pot] ∧ n + 8 ≤ 1000000 ∧ ∀ B, Small B → Q (brD B) (n + 8)
theorem B_twins_drawn {ds : List Dat} {n : Nat} {QD : Dat → Nat → Prop} (h : G_twins_drawn ds n QD) : bodyP 5 L_twins_drawn ds n QD := by
  obtain ⟨rfl, hn, h⟩ := h
  unfold L_twins_drawn
  walk_at "lits"
  walk_at "w"
  refine ⟨4, rfl, by omega, by omega, fun z z1 z2 => ?_⟩
  walk_at "w"
  refine ⟨_, _, rfl, rfl, by decide, by decide, by omega, fun d hd => ?_⟩
  have kd : ∃ y x : Nat, d = .tup [.str [y], .str [x]] ∧ (x = 102 ∨ x = 115) ∧ (y = 102 ∨ y = 115) ∧ y ≠ x := by
    simp only [List.mem_cons, List.not_mem_nil, or_false] at hd
    rcases hd with rfl | rfl
    · exact ⟨102, 115, rfl, by simp, by simp, by decide⟩
    · exact ⟨115, 102, rfl, by simp, by simp, by decide⟩
  obtain ⟨y, x, rfl, hx, hy, hne⟩ := kd
  walk_at "w"
  refine ⟨by omega, by omega, _, _, rfl, rfl, by simp, by simp, by omega, fun e he => ?_⟩
  have ke : ∃ c, e = .str c ∧ Lets c ∧ c ≠ [] ∧ c.length ≤ 2 ∧ lt (z ++ [110]) c = lt (z ++ [110]) [x] := by
    have lx : Lets [x] := lets_one (by omega)
    simp only [List.mem_cons, List.not_mem_nil, or_false] at he
    rcases he with rfl | rfl
    · exact ⟨[x], rfl, lx, by simp, by simp, rfl⟩
    · exact ⟨[x, x], rfl, lets_app (a := [x]) lx lx, by simp, by simp, lt_rep2 _ x⟩
  obtain ⟨c, rfl, c1, c2, c3, c4⟩ := ke
  walk_at "w"
  refine ⟨2, rfl, by decide, by decide, by omega, fun r r0 r1 => ?_⟩
  have l1 : Loss (z ++ [y]) [x] := ⟨lets_app z1 (lets_one (by omega)), lets_one (by omega), by simp; omega, by simp, by simp⟩
  have l2 : Loss (z ++ [110]) c := ⟨lets_app z1 (lets_one (by simp)), c1, by simp; omega, by omega, c2⟩
  have t := twins_loss (z := z) hx hy hne
  rw [← c4] at t
  have s1 : Small [(z ++ [y], [x]), (z ++ [110], c)] := ⟨.two l1 l2 ⟨_, _, t⟩, by simp; omega, by simp; omega⟩
  have s2 : Small [(z ++ [110], c), (z ++ [y], [x])] := ⟨.two l2 l1 ⟨_, _, t.symm⟩, by simp; omega, by simp; omega⟩
  have k1 := h _ s1
  have k2 := h _ s2
  walk_at "w"
  split
  · exact ⟨n + 8, by omega, hn, k1⟩
  · exact ⟨n + 8, by omega, hn, k2⟩
def L_barred_drawn : WS := (wSeq (wAsg (wCall G_take (wCons (wVar 0) (wCons (wC (.int 4)) wNil))) (wgN 1))
  (wSeq (wIfS (wTest (wOp aEq (wVar 1) (wC (.int 0)))) (wRet (wCall G_twins_drawn (wCons (wVar 0) wNil))) wNext)
  (wSeq (wIfS (wTest (wOp aEq (wVar 1) (wC (.int 1)))) (wRet (wTup (wCons (wCall G_of (wCons (wVar 0) (wCons (wFz (wLst (wCons (wTup (wCons (wC (.str ("" : Str).cps.toList)) (wCons (wC (.str ("f" : Str).cps.toList)) wNil))) (wCons (wTup (wCons (wC (.str ("" : Str).cps.toList)) (wCons (wC (.str ("s" : Str).cps.toList)) wNil))) (wCons (wTup (wCons (wC (.str ("ff" : Str).cps.toList)) (wCons (wC (.str ("f" : Str).cps.toList)) wNil))) (wCons (wTup (wCons (wC (.str ("" : Str).cps.toList)) (wCons (wC (.str ("sss" : Str).cps.toList)) wNil))) wNil)))))) wNil))) wNil))) wNext)
  (wSeq (wAsg (wCall G_loss_drawn (wCons (wVar 0) wNil)) (wgN 2))
  (wRet (wIf (wTest (wCall G_is_fair (wCons (wVar 2) wNil))) (wTup (wCons (wVar 2) wNil)) (wTup (wCons (wTup (wCons (wOp aIx (wVar 2) (wC (.int 0))) (wCons (wOp aAdd (wOp aIx (wVar 2) (wC (.int 1))) (wC (.str ("n" : Str).cps.toList))) wNil))) wNil))))))))
def G_barred_drawn : Fn := fun ds n Q => ds = [.pot] ∧ n + 9 ≤ 1000000 ∧ ∀ B, Small B → Q (brD B) (n + 9)
theorem B_barred_drawn {ds : List Dat} {n : Nat} {QD : Dat → Nat → Prop} (h : G_barred_drawn ds n QD) : bodyP 3 L_barred_drawn ds n QD := by
  obtain ⟨rfl, hn, h⟩ := h
  unfold L_barred_drawn
  walk_at "lits"
  walk_at "w"
  refine ⟨4, rfl, by decide, by decide, by omega, fun r r0 r1 => ?_⟩
  have fin : ∀ B, Small B → ∀ k, k ≤ n + 9 → ∃ m, k ≤ m ∧ m ≤ 1000000 ∧ QD (brD B) m := fun B hB k hk => ⟨n + 9, hk, hn, h B hB⟩
  walk_at "w"
  split
  · refine ⟨rfl, by omega, fun B hB => fin B hB _ (by omega)⟩
  · split
    · refine ⟨_, _, rfl, rfl, by decide, by decide, by omega, fun d hd => ?_⟩
      simp only [List.mem_cons, List.not_mem_nil, or_false] at hd
      have one : ∀ a c : List Nat, Lets a → Lets c → c ≠ [] → a.length ≤ 2 → c.length ≤ 3 → (lt a c = lt [] [102] ∨ lt a c = lt [] [115]) → Small [(a, c)] := fun a c q1 q2 q3 q4 q5 q6 =>
        ⟨.one ⟨q1, q2, by omega, by omega, q3⟩ (.inr q6), by simp; omega, by simp; omega⟩
      have l0 : Lets [] := fun _ z => nomatch z
      rcases hd with rfl | rfl | rfl | rfl
      · exact fin [([], [102])] (one _ _ l0 (lets_one (by simp)) (by simp) (by simp) (by simp) (.inl rfl)) _ (by omega)
      · exact fin [([], [115])] (one _ _ l0 (lets_one (by simp)) (by simp) (by simp) (by simp) (.inr rfl)) _ (by omega)
      · refine fin [([102, 102], [102])] (one _ _ (letsB (by decide)) (lets_one (by simp)) (by simp) (by simp) (by simp) (.inl ?_)) _ (by omega)
        have := lt_head [102] (c := [102]) (by simp)
        rw [show ([102, 102] : List Nat) = [102] ++ [102] from rfl, this]
        exact lt_head [] (c := [102]) (by simp)
      · exact fin [([], [115, 115, 115])] (one _ _ l0 (letsB (by decide)) (by simp) (by simp) (by simp) (.inr (lt_rep [] (c := [115]) (by simp) (k := 3) (by decide)))) _ (by omega)
    · refine ⟨rfl, by omega, fun x c hl lh lc => ?_⟩
      refine ⟨x, c, rfl, hl, fun b hb => ?_⟩
      cases b with
      | true =>
        walk_at "w"
        exact fin [(x, c)] ⟨.one hl (.inl (hb.mp rfl)), by simp; omega, by simp; omega⟩ _ (by omega)
      | false =>
        unfold lossD
        walk_at "w"
        have hl' : Loss x (c ++ [110]) := ⟨hl.hh, lets_app hl.hc (lets_one (by simp)), by omega, by simp; omega, by simp⟩
        have na : ∀ y, y ≠ 110 → ¬ AllR (c ++ [110]) y := fun y hy q => hy (((allR_iff hl'.ne y).mp q 110 (by simp)).symm)
        exact ⟨by omega, fin [(x, c ++ [110])] ⟨.one hl' (.inl ⟨na _ (by decide), na _ (by decide)⟩), by simp; omega, by simp; omega⟩ _ (by omega)⟩

end Dl
-- part Er
set_option Elab.async false
set_option linter.all false
set_option maxRecDepth 100000
set_option maxHeartbeats 4000000
namespace Dl
open PySem PySem.Spec PyProof.Rows L2 Evl
variable [LawTabs]

local macro_rules | `(tactic| walk_at "w") => `(tactic| (simp (maxSteps := 3000000) only [↓e_var0, ↓e_var0o, ↓e_varS, ↓e_anyIt, ↓e_par, ↓e_zip, ↓aAdd_i, ↓aAdd_s, ↓aAdd_t, ↓aAdd_l, ↓aMul_i, ↓aMul_s, ↓aMul_l, ↓eqS_i, ↓eqS_s, ↓eqS_b, ↓eqS_nn, ↓eqS_ni, ↓eqS_ns, ↓eqS_nt, ↓eqS_in, ↓eqS_sn, ↓eqS_is, ↓eqS_si, ↓eqS_t, ↓eqS_l, ↓inS_s, ↓inS_t, ↓inS_l, ↓lenD_s, ↓lenD_t, ↓lenD_l, ↓lenD_z, ↓ixD_t, ↓ixD_l, ↓ixD_z, ↓ixD_s, ↓ixD_0, ↓ixD_1, ↓ixD_2, ↓cutDd_s, ↓cutDd_l, ↓cutDd_z, ↓cutDd_t, ↓listD_l, ↓listD_z, ↓itemsD_l, ↓itemsD_t, ↓itemsQ_s, ↓itemsQ_l, ↓itemsQ_z, ↓itemsQ_t, ↓aInt_i, ↓aInt_b, ↓aTupOf_l, ↓aTupOf_t, ↓anyD_l, ↓anyD_z, ↓anyD_t, ↓anyD_s, ↓joinD_l, ↓joinD_t, ↓zipQ_t, ↓zipQ_l, ↓asB_bl, ↓asI_int, ↓as1_one, ↓as2_two, par2,
  bodyW, bodyF, bodyP, start0, wSeq, wAsg, wOwn, wIfS, wRet, wRetF, wRetO, wRetN, wDrop, wApp, wSet, setW, slotSet, wInc, wNext, wBreak, wContinue, wNever, wC, wOp, wUn, wIf, wTest, wAnd, wOr, wNot, wYes, wAndV, wOrV, wNotV, wChain, wNil, wCons, wTup, wLst, wFz, wCall, wCallF, wCallK, wCallN, wCB, wCBF, wBM, wBM0, tStr, wNone, wPart, wSl, wgN, wgNil, wgCons, wgTup, wFor, wWhile, wLc, wRng1, wRng2, wListRg, wPot, wipeL, restL, keepIm,
  aI0, aII, aNeg, aEq, aNe, aIn, aNotIn, aIsN, aIsNotN, isN, aIsW, aIsNotW, ↓isW_n, ↓isW_bb, ↓isW_nb, wRevS, wRevT, wParO, lcW_nil, lcW_cons, wKIx, wKIn, aAbs, aMax, aMin, aMin1, aMax1, ↓partsD_l, ↓partsD_z, ↓partsD_t, aLen, aSum, aAll, aAny, aIsi, isi, goodTy, aIx, aListOf, idxS,
  List.map_cons, List.map_nil, List.cons_append, List.nil_append, List.length_cons, List.length_nil, List.replicate_succ, List.replicate_zero, Nat.reduceAdd, Nat.reduceSub, List.getElem?_cons_zero, List.getElem?_cons_succ, List.set_cons_zero, List.set_cons_succ, reduceCtorEq, if_true, if_false, Bool.false_eq_true,
  decide_eq_true_eq, kinds, List.contains_cons, List.contains_nil, String.reduceBEq, Bool.or_true, Bool.true_or, Bool.or_false, Bool.false_or, Bool.not_true, Bool.not_false, Bool.not_eq_true, decide_true, decide_false, true_and, and_true, Int.reduceLT, Int.reduceLE, Int.reduceNeg, Nat.reduceLeDiff, cmuL, cmuR, cfdS, cpwS, atI_pos, Int.reduceToNat, isBls_nil, isBls_bl, Option.map_some, Option.some.injEq, exists_eq_left', List.all_cons, List.all_nil, id_eq, Bool.and_true, Bool.true_and, beq_self_eq_true]))


/-! ratios -/
theorem cfdB {i j : Int} (h : 0 < j ∧ j < 1152921504606846976) : CFd i j := by
  refine ⟨h.1, ?_⟩
  have h1 : j.natAbs < 2 ^ 60 := by omega
  have : j.natAbs.log2 < 60 := by
    rw [Nat.log2_lt (by omega)]
    exact h1
  omega
def ratD (q : Rat) : Dat := .tup [.int q.num, .int q.den]
def L_common : WS := (wSeq (wPar 0 1 (wCons (wCB aAbs (wCons (wVar 0) wNil)) (wCons (wCB aAbs (wCons (wVar 1) wNil)) wNil)))
  (wSeq (wWhile (wTest (wOp aGt (wVar 1) (wC (.int 0)))) (wPar 0 1 (wCons (wVar 1) (wCons (wOp aMod (wVar 0) (wVar 1)) wNil))))
  (wRet (wVar 0))))
def L_common2 : WS := (wSeq (wPar 0 1 (wCons (wCB aAbs (wCons (wVar 0) wNil)) (wCons (wCB aAbs (wCons (wVar 1) wNil)) wNil)))
  (wSeq (wWhile (wTest (wOp aGt (wVar 1) (wC (.int 0)))) (wPar 0 1 (wCons (wVar 1) (wCons (wOp aMod (wCB aInt (wCons (wVar 0) wNil)) (wVar 1)) wNil))))
  (wRet (wVar 0))))
def G_common : Fn := fun ds n Q => ∃ i j, ds = [.int i, .int j] ∧ Q (.int (Int.gcd i j)) n
theorem abs_if (i : Int) : (if i < 0 then -i else i) = (i.natAbs : Int) := by
  split <;> omega
theorem B_common {ds : List Dat} {n : Nat} {QD : Dat → Nat → Prop} (h : G_common ds n QD) : bodyW 2 L_common ds n QD := by
  obtain ⟨i, j, rfl, h⟩ := h
  unfold L_common
  walk_at "w"
  rw [abs_if, abs_if]
  refine wWhile_at (fun S => ∃ x y : Nat, S = ⟨[.im (.int x), .im (.int y)], n⟩ ∧ Nat.gcd x y = Int.gcd i j) (fun S => match S.sl with | _ :: .im (.int y) :: _ => y.toNat | _ => 0) ?_ ⟨_, _, rfl, rfl⟩
  rintro S ⟨x, y, rfl, e⟩ N hN
  walk_at "w"
  split
  · rename_i hy
    refine ⟨hy, hN _ ⟨y, x % y, by rw [Int.natCast_emod], by rw [← e, Nat.gcd_comm x y, Nat.gcd_rec y x, Nat.gcd_comm]⟩ ?_⟩
    show ((x : Int) % (y : Int)).toNat < (y : Int).toNat
    have := Int.emod_lt_of_pos (x : Int) hy
    have := Int.emod_nonneg (x : Int) (show (y : Int) ≠ 0 by omega)
    omega
  · have : y = 0 := by omega
    subst this
    rw [Nat.gcd_zero_right] at e
    rw [e]
    exact h
theorem B_common2 {ds : List Dat} {n : Nat} {QD : Dat → Nat → Prop} (h : G_common ds n QD) : bodyW 2 L_common2 ds n QD := by
  obtain ⟨i, j, rfl, h⟩ := h
  unfold L_common2
  walk_at "w"
  rw [abs_if, abs_if]
  refine wWhile_at (fun S => ∃ x y : Nat, S = ⟨[.im (.int x), .im (.int y)], n⟩ ∧ Nat.gcd x y = Int.gcd i j) (fun S => match S.sl with | _ :: .im (.int y) :: _ => y.toNat | _ => 0) ?_ ⟨_, _, rfl, rfl⟩
  rintro S ⟨x, y, rfl, e⟩ N hN
  walk_at "w"
  split
  · rename_i hy
    refine ⟨hy, hN _ ⟨y, x % y, by rw [Int.natCast_emod], by rw [← e, Nat.gcd_comm x y, Nat.gcd_rec y x, Nat.gcd_comm]⟩ ?_⟩
    show ((x : Int) % (y : Int)).toNat < (y : Int).toNat
    have := Int.emod_lt_of_pos (x : Int) hy
    have := Int.emod_nonneg (x : Int) (show (y : Int) ≠ 0 by omega)
    omega
  · have : y = 0 := by omega
    subst this
    rw [Nat.gcd_zero_right] at e
    rw [e]
    exact h
def L_ratio : WS := (wSeq (wAsg (wCall G_common (wCons (wVar 0) (wCons (wVar 1) wNil))) (wgN 2))
  (wSeq (wAsg (wIf (wTest (wOp aGt (wVar 1) (wC (.int 0)))) (wVar 2) (wOp aSub (wC (.int 0)) (wVar 2))) (wgN 2))
  (wRet (wTup (wCons (wOp aFd (wVar 0) (wVar 2)) (wCons (wOp aFd (wVar 1) (wVar 2)) wNil))))))
def L_frac : WS := (wSeq (wAsg (wCall G_common (wCons (wVar 0) (wCons (wVar 1) wNil))) (wgN 2))
  (wSeq (wAsg (wIf (wTest (wOp aGt (wVar 1) (wC (.int 0)))) (wVar 2) (wUn aNeg (wVar 2))) (wgN 2))
  (wRet (wTup (wCons (wOp aFd (wVar 0) (wVar 2)) (wCons (wOp aFd (wVar 1) (wVar 2)) wNil))))))
def G_ratio : Fn := fun ds n Q => ∃ (t : Int) (b : Nat), ds = [.int t, .int b] ∧ 0 < b ∧ b < 1152921504606846976 ∧ Q (ratD (mkRat t b)) n
theorem mk_num (t : Int) {b : Nat} (hb : 0 < b) : (mkRat t b).num = t / (Int.gcd t b : Nat) ∧ ((mkRat t b).den : Int) = (b : Int) / (Int.gcd t b : Nat) := by
  have e : Int.gcd t b = b.gcd t.natAbs := by
    unfold Int.gcd
    rw [Int.natAbs_natCast, Nat.gcd_comm]
  constructor
  · rw [Rat.num_mkRat, if_neg (by omega), e]
  · rw [Rat.den_mkRat, if_neg (by omega), e, Int.natCast_ediv]
theorem B_ratio {ds : List Dat} {n : Nat} {QD : Dat → Nat → Prop} (h : G_ratio ds n QD) : bodyW 3 L_ratio ds n QD := by
  obtain ⟨t, b, rfl, hb, hb2, h⟩ := h
  have g0 : 0 < Int.gcd t b := Int.gcd_pos_of_ne_zero_right _ (by omega)
  have g1 : Int.gcd t b ≤ b := Nat.le_of_dvd hb (by unfold Int.gcd; rw [Int.natAbs_natCast]; exact Nat.gcd_dvd_right _ _)
  obtain ⟨e1, e2⟩ := mk_num t hb
  unfold ratD at h
  rw [e1, e2] at h
  unfold L_ratio
  walk_at "w"
  refine ⟨t, b, rfl, ?_⟩
  walk_at "w"
  rw [if_pos (by omega)]
  exact ⟨cfdB (by omega), cfdB (by omega), h⟩
theorem B_frac {ds : List Dat} {n : Nat} {QD : Dat → Nat → Prop} (h : G_ratio ds n QD) : bodyW 3 L_frac ds n QD := by
  obtain ⟨t, b, rfl, hb, hb2, h⟩ := h
  have g0 : 0 < Int.gcd t b := Int.gcd_pos_of_ne_zero_right _ (by omega)
  have g1 : Int.gcd t b ≤ b := Nat.le_of_dvd hb (by unfold Int.gcd; rw [Int.natAbs_natCast]; exact Nat.gcd_dvd_right _ _)
  obtain ⟨e1, e2⟩ := mk_num t hb
  unfold ratD at h
  rw [e1, e2] at h
  unfold L_frac
  walk_at "w"
  refine ⟨t, b, rfl, ?_⟩
  walk_at "w"
  rw [if_pos (by omega)]
  exact ⟨cfdB (by omega), cfdB (by omega), h⟩
def L_plus : WS := (wRet (wCall G_ratio (wCons (wOp aAdd (wOp aMul (wOp aIx (wVar 0) (wC (.int 0))) (wOp aIx (wVar 1) (wC (.int 1)))) (wOp aMul (wOp aIx (wVar 1) (wC (.int 0))) (wOp aIx (wVar 0) (wC (.int 1))))) (wCons (wOp aMul (wOp aIx (wVar 0) (wC (.int 1))) (wOp aIx (wVar 1) (wC (.int 1)))) wNil))))

def G_plus : Fn := fun ds n Q => ∃ a b : Rat, ds = [ratD a, ratD b] ∧ a.den * b.den < 1152921504606846976 ∧ Q (ratD (a + b)) n
theorem B_plus {ds : List Dat} {n : Nat} {QD : Dat → Nat → Prop} (h : G_plus ds n QD) : bodyW 2 L_plus ds n QD := by
  obtain ⟨a, b, rfl, hd, h⟩ := h
  have pa := a.den_pos
  have pb := b.den_pos
  have qa : a.den < 1152921504606846976 := Nat.lt_of_le_of_lt (Nat.le_mul_of_pos_right _ pb) hd
  have qb : b.den < 1152921504606846976 := Nat.lt_of_le_of_lt (Nat.le_mul_of_pos_left _ pa) hd
  have p := Nat.mul_pos pa pb
  rw [Rat.add_def'] at h
  unfold L_plus ratD
  walk_at "w"
  refine ⟨cmuR (by omega), cmuR (by omega), cmuR (by omega), _, a.den * b.den, ?_, p, hd, h⟩
  rw [Int.natCast_mul]
def L_less : WS := (wRet (wCall G_ratio (wCons (wOp aSub (wOp aMul (wOp aIx (wVar 0) (wC (.int 0))) (wOp aIx (wVar 1) (wC (.int 1)))) (wOp aMul (wOp aIx (wVar 1) (wC (.int 0))) (wOp aIx (wVar 0) (wC (.int 1))))) (wCons (wOp aMul (wOp aIx (wVar 0) (wC (.int 1))) (wOp aIx (wVar 1) (wC (.int 1)))) wNil))))

def G_less : Fn := fun ds n Q => ∃ a b : Rat, ds = [ratD a, ratD b] ∧ a.den * b.den < 1152921504606846976 ∧ Q (ratD (a - b)) n
theorem B_less {ds : List Dat} {n : Nat} {QD : Dat → Nat → Prop} (h : G_less ds n QD) : bodyW 2 L_less ds n QD := by
  obtain ⟨a, b, rfl, hd, h⟩ := h
  have pa := a.den_pos
  have pb := b.den_pos
  have qa : a.den < 1152921504606846976 := Nat.lt_of_le_of_lt (Nat.le_mul_of_pos_right _ pb) hd
  have qb : b.den < 1152921504606846976 := Nat.lt_of_le_of_lt (Nat.le_mul_of_pos_left _ pa) hd
  have p := Nat.mul_pos pa pb
  rw [Rat.sub_def'] at h
  unfold L_less ratD
  walk_at "w"
  refine ⟨cmuR (by omega), cmuR (by omega), cmuR (by omega), _, a.den * b.den, ?_, p, hd, h⟩
  rw [Int.natCast_mul]
def L_times : WS := (wRet (wCall G_ratio (wCons (wOp aMul (wOp aIx (wVar 0) (wC (.int 0))) (wOp aIx (wVar 1) (wC (.int 0)))) (wCons (wOp aMul (wOp aIx (wVar 0) (wC (.int 1))) (wOp aIx (wVar 1) (wC (.int 1)))) wNil))))

def G_times : Fn := fun ds n Q => ∃ a b : Rat, ds = [ratD a, ratD b] ∧ a.den * b.den < 1152921504606846976 ∧ (-1000000000000000 < b.num ∧ b.num < 1000000000000000) ∧ Q (ratD (a * b)) n
theorem B_times {ds : List Dat} {n : Nat} {QD : Dat → Nat → Prop} (h : G_times ds n QD) : bodyW 2 L_times ds n QD := by
  obtain ⟨a, b, rfl, hd, h2, h⟩ := h
  have pa := a.den_pos
  have pb := b.den_pos
  have qa : a.den < 1152921504606846976 := Nat.lt_of_le_of_lt (Nat.le_mul_of_pos_right _ pb) hd
  have qb : b.den < 1152921504606846976 := Nat.lt_of_le_of_lt (Nat.le_mul_of_pos_left _ pa) hd
  have p := Nat.mul_pos pa pb
  rw [Rat.mul_def'] at h
  unfold L_times ratD
  walk_at "w"
  refine ⟨cmuR (by omega), cmuR (by omega), _, a.den * b.den, ?_, p, hd, h⟩
  rw [Int.natCast_mul]
def L_below : WS := (wRet (wOp aLt (wOp aMul (wOp aIx (wVar 0) (wC (.int 0))) (wOp aIx (wVar 1) (wC (.int 1)))) (wOp aMul (wOp aIx (wVar 1) (wC (.int 0))) (wOp aIx (wVar 0) (wC (.int 1))))))

def G_below : Fn := fun ds n Q => ∃ a b : Rat, ds = [ratD a, ratD b] ∧ a.den < 1152921504606846976 ∧ b.den < 1152921504606846976 ∧ Q (.bl (decide (a < b))) n
theorem B_below {ds : List Dat} {n : Nat} {QD : Dat → Nat → Prop} (h : G_below ds n QD) : bodyW 2 L_below ds n QD := by
  obtain ⟨a, b, rfl, h1, h2, h⟩ := h
  unfold L_below ratD
  walk_at "w"
  refine ⟨cmuR (by omega), cmuR (by omega), ?_⟩
  rw [show decide (a < b) = decide (a.num * (b.den : Int) < b.num * (a.den : Int)) from decide_eq_decide.mpr (Rat.lt_iff a b)] at h
  exact h
def L_over : WS := (wRet (wCall G_ratio (wCons (wOp aMul (wOp aIx (wVar 0) (wC (.int 0))) (wOp aIx (wVar 1) (wC (.int 1)))) (wCons (wOp aMul (wOp aIx (wVar 0) (wC (.int 1))) (wOp aIx (wVar 1) (wC (.int 0)))) wNil))))

def G_over : Fn := fun ds n Q => ∃ (a b : Rat), ds = [ratD a, ratD b] ∧ 0 < b ∧ a.den * b.num.toNat < 1152921504606846976 ∧ b.den < 1152921504606846976 ∧ Q (ratD (a / b)) n
theorem B_over {ds : List Dat} {n : Nat} {QD : Dat → Nat → Prop} (h : G_over ds n QD) : bodyW 2 L_over ds n QD := by
  obtain ⟨a, b, rfl, hb, hd, h2, h⟩ := h
  have pa := a.den_pos
  have nb : 0 < b.num := by have := (Rat.lt_iff 0 b).mp hb; simpa using this
  have en : ((b.num.toNat : Nat) : Int) = b.num := Int.toNat_of_nonneg (by omega)
  have p := Nat.mul_pos pa (show 0 < b.num.toNat by omega)
  have q1 : b.num.toNat < 1152921504606846976 := Nat.lt_of_le_of_lt (Nat.le_mul_of_pos_left _ pa) hd
  have e : a / b = mkRat (a.num * b.den) (a.den * b.num.toNat) := by
    have i : b⁻¹ = mkRat b.den b.num.toNat := by
      rw [Rat.inv_def, ← Rat.divInt_ofNat, en]
    rw [Rat.div_def, i, ← Rat.mkRat_mul_mkRat, Rat.mkRat_self]
  rw [e] at h
  unfold L_over ratD
  walk_at "w"
  refine ⟨cmuR (by omega), cmuR (by omega), _, a.den * b.num.toNat, ?_, p, hd, h⟩
  rw [Int.natCast_mul, en]
end Dl
-- part Ew
set_option Elab.async false
set_option linter.all false
set_option maxRecDepth 100000
set_option maxHeartbeats 4000000
namespace Dl
open PySem PySem.Spec PyProof.Rows L2 Evl
variable [LawTabs]

local macro_rules | `(tactic| walk_at "w") => `(tactic| (simp (maxSteps := 3000000) only [↓e_var0, ↓e_var0o, ↓e_varS, ↓e_anyIt, ↓e_par, ↓e_zip, ↓aAdd_i, ↓aAdd_s, ↓aAdd_t, ↓aAdd_l, ↓aMul_i, ↓aMul_s, ↓aMul_l, ↓eqS_i, ↓eqS_s, ↓eqS_b, ↓eqS_nn, ↓eqS_ni, ↓eqS_ns, ↓eqS_nt, ↓eqS_in, ↓eqS_sn, ↓eqS_is, ↓eqS_si, ↓eqS_t, ↓eqS_l, ↓inS_s, ↓inS_t, ↓inS_l, ↓lenD_s, ↓lenD_t, ↓lenD_l, ↓lenD_z, ↓ixD_t, ↓ixD_l, ↓ixD_z, ↓ixD_s, ↓ixD_0, ↓ixD_1, ↓ixD_2, ↓cutDd_s, ↓cutDd_l, ↓cutDd_z, ↓cutDd_t, ↓listD_l, ↓listD_z, ↓itemsD_l, ↓itemsD_t, ↓itemsQ_s, ↓itemsQ_l, ↓itemsQ_z, ↓itemsQ_t, ↓aInt_i, ↓aInt_b, ↓aTupOf_l, ↓aTupOf_t, ↓anyD_l, ↓anyD_z, ↓anyD_t, ↓anyD_s, ↓joinD_l, ↓joinD_t, ↓zipQ_t, ↓zipQ_l, ↓asB_bl, ↓asI_int, ↓as1_one, ↓as2_two, par2,
  bodyW, bodyF, bodyP, start0, wSeq, wAsg, wOwn, wIfS, wRet, wRetF, wRetO, wRetN, wDrop, wApp, wSet, setW, slotSet, wInc, wNext, wBreak, wContinue, wNever, wC, wOp, wUn, wIf, wTest, wAnd, wOr, wNot, wYes, wAndV, wOrV, wNotV, wChain, wNil, wCons, wTup, wLst, wFz, wCall, wCallF, wCallK, wCallN, wCB, wCBF, wBM, wBM0, tStr, wNone, wPart, wSl, wgN, wgNil, wgCons, wgTup, wFor, wWhile, wLc, wRng1, wRng2, wListRg, wPot, wipeL, restL, keepIm,
  aI0, aII, aNeg, aEq, aNe, aIn, aNotIn, aIsN, aIsNotN, isN, aIsW, aIsNotW, ↓isW_n, ↓isW_bb, ↓isW_nb, wRevS, wRevT, wParO, lcW_nil, lcW_cons, wKIx, wKIn, aAbs, aMax, aMin, aMin1, aMax1, ↓partsD_l, ↓partsD_z, ↓partsD_t, aLen, aSum, aAll, aAny, aIsi, isi, goodTy, aIx, aListOf, idxS, wParOO, wP3, wP3O, wStar, wEnum, wDC, lastAt, wgLst, wExt, wExt.listL, aInDp, aNotInDp, inDp, Nat.reduceBEq,
  List.map_cons, List.map_nil, List.cons_append, List.nil_append, List.length_cons, List.length_nil, List.replicate_succ, List.replicate_zero, Nat.reduceAdd, Nat.reduceSub, List.getElem?_cons_zero, List.getElem?_cons_succ, List.set_cons_zero, List.set_cons_succ, reduceCtorEq, if_true, if_false, Bool.false_eq_true,
  decide_eq_true_eq, kinds, List.contains_cons, List.contains_nil, String.reduceBEq, Bool.or_true, Bool.true_or, Bool.or_false, Bool.false_or, Bool.not_true, Bool.not_false, Bool.not_eq_true, decide_true, decide_false, true_and, and_true, Int.reduceLT, Int.reduceLE, Int.reduceNeg, Nat.reduceLeDiff, cmuL, cmuR, cfdS, cpwS, atI_pos, Int.reduceToNat, isBls_nil, isBls_bl, Option.map_some, Option.some.injEq, exists_eq_left', List.all_cons, List.all_nil, id_eq, Bool.and_true, Bool.true_and, beq_self_eq_true]))


theorem lit_empty : ("" : Str).cps.toList = [] := by decide +kernel
/-! words by their places -/
def wLet (p r : Int) : Nat := if p % 2 = 0 then (if r = 0 then 115 else if r = 1 then 110 else 102) else (if r = 0 then 102 else if r = 1 then 110 else 115)
def wordOf : Nat → Int → List Nat
  | 0, _ => []
  | m + 1, k => wordOf m (k / 3) ++ [wLet (k / 3) (k % 3)]
theorem wordOf_len : ∀ (m : Nat) (k : Int), (wordOf m k).length = m
  | 0, _ => rfl
  | m + 1, k => by rw [wordOf, List.length_append, wordOf_len m]; rfl
theorem wLet_let (p r : Int) : wLet p r = 110 ∨ wLet p r = 102 ∨ wLet p r = 115 := by
  unfold wLet
  split <;> split <;> (try split) <;> simp
theorem wordOf_lets : ∀ (m : Nat) (k : Int), Lets (wordOf m k)
  | 0, _ => fun c hc => nomatch hc
  | m + 1, k => lets_app (wordOf_lets m _) (lets_one (wLet_let _ _))
theorem plc_snoc (a : Int) (z : List Nat) (c : Nat) : plc a (z ++ [c]) = 3 * plc a z + bk (plc a z) c := by
  unfold plc
  rw [List.foldl_append]
  rfl
theorem bk_wLet (p r : Int) (h0 : 0 ≤ r) (h3 : r < 3) : bk p (wLet p r) = r := by
  have : r = 0 ∨ r = 1 ∨ r = 2 := by omega
  unfold bk wLet
  by_cases hp : p % 2 = 0
  · rw [if_pos hp, if_pos hp]
    rcases this with rfl | rfl | rfl <;> simp
  · rw [if_neg hp, if_neg hp]
    rcases this with rfl | rfl | rfl <;> simp
theorem wLet_bk (p : Int) (c : Nat) (h : c = 110 ∨ c = 102 ∨ c = 115) : wLet p (bk p c) = c := by
  unfold bk wLet
  by_cases hp : p % 2 = 0
  · rw [if_pos hp, if_pos hp]
    rcases h with rfl | rfl | rfl <;> simp
  · rw [if_neg hp, if_neg hp]
    rcases h with rfl | rfl | rfl <;> simp
theorem bk_lt (p : Int) (c : Nat) : 0 ≤ bk p c ∧ bk p c < 3 := by
  unfold bk
  split <;> split <;> (try split) <;> omega
theorem plc_wordOf : ∀ (m : Nat) (k : Int), 0 ≤ k → k < 3 ^ m → plc 0 (wordOf m k) = k
  | 0, k, h0, h1 => by
    have : k = 0 := by simp at h1; omega
    subst this
    rfl
  | m + 1, k, h0, h1 => by
    have e : (3 : Int) ^ (m + 1) = 3 * 3 ^ m := by rw [Int.pow_succ, Int.mul_comm]
    rw [wordOf, plc_snoc, plc_wordOf m (k / 3) (by omega) (by omega), bk_wLet _ _ (by omega) (by omega)]
    omega
theorem wordOf_plc : ∀ (m : Nat) (z : List Nat), z.length = m → Lets z → wordOf m (plc 0 z) = z
  | 0, z, h, _ => by
    have := List.eq_nil_of_length_eq_zero h
    subst this
    rfl
  | m + 1, z, h, hz => by
    rcases List.eq_nil_or_concat z with rfl | ⟨y, c, rfl⟩
    · cases h
    · rw [List.concat_eq_append] at h hz ⊢
      have hl : y.length = m := by rw [List.length_append] at h; exact Nat.succ.inj h
      have hy : Lets y := fun d hd => hz d (List.mem_append_left _ hd)
      have hc : c = 110 ∨ c = 102 ∨ c = 115 := hz c (List.mem_append_right _ (List.mem_singleton.mpr rfl))
      obtain ⟨b0, b1⟩ := bk_lt (plc 0 y) c
      rw [plc_snoc, wordOf, show (3 * plc 0 y + bk (plc 0 y) c) / 3 = plc 0 y by omega, show (3 * plc 0 y + bk (plc 0 y) c) % 3 = bk (plc 0 y) c by omega, wLet_bk _ _ hc, wordOf_plc m y hl hy]
theorem back_let (p r : Int) (h0 : 0 ≤ r) (h3 : r < 3) : ∃ l, atI [Dat.str [115, 110, 102], Dat.str [102, 110, 115]] (p % 2) = some (.str l) ∧ l.length ≤ 1000000 ∧ atI l r = some (wLet p r) := by
  have hp : p % 2 = 0 ∨ p % 2 = 1 := by omega
  have hr : r = 0 ∨ r = 1 ∨ r = 2 := by omega
  rcases hp with hp | hp
  · refine ⟨[115, 110, 102], by rw [hp, atI_pos (by decide)]; rfl, by decide, ?_⟩
    unfold wLet
    rw [if_pos hp]
    rcases hr with rfl | rfl | rfl <;> rfl
  · refine ⟨[102, 110, 115], by rw [hp, atI_pos (by decide)]; rfl, by decide, ?_⟩
    unfold wLet
    rw [if_neg (show ¬ p % 2 = 0 by omega)]
    rcases hr with rfl | rfl | rfl <;> rfl
def L_word_of : WS := (wSeq (wAsg (wC (.str ("" : Str).cps.toList)) (wgN 2))
  (wSeq (wFor (wRng1 (wCons (wVar 0) wNil)) (wgN 3) (wSeq (wAsg (wOp aFd (wVar 1) (wC (.int 3))) (wgN 4))
  (wSeq (wAsg (wOp aAdd (wOp aIx (wOp aIx (wC d_BACK) (wOp aMod (wVar 4) (wC (.int 2)))) (wOp aMod (wVar 1) (wC (.int 3)))) (wVar 2)) (wgN 2))
  (wAsg (wVar 4) (wgN 1)))))
  (wRet (wVar 2))))
def G_word_of : Fn := fun ds n Q => ∃ (m : Nat) (k : Int), ds = [.int m, .int k] ∧ m ≤ 1000 ∧ 0 ≤ k ∧ Q (.str (wordOf m k)) n
theorem B_word_of {ds : List Dat} {n : Nat} {QD : Dat → Nat → Prop} (h : G_word_of ds n QD) : bodyW 5 L_word_of ds n QD := by
  obtain ⟨m, k, rfl, hm, hk, h⟩ := h
  unfold L_word_of
  simp only [lit_empty]
  walk_at "w"
  refine ⟨by omega, by omega, ?_⟩
  refine forW_at _ (fun i S => i ≤ m ∧ ∃ z k2 s3 s4, 0 ≤ k2 ∧ z.length = i ∧ wordOf m k = wordOf (m - i) k2 ++ z ∧ S = ⟨[.im (.int m), .im (.int k2), .im (.str z), s3, s4], n⟩) _ ?_ ⟨by omega, [], k, _, _, hk, rfl, by simp, rfl⟩ ?_
  · rintro i d S hd ⟨hi, z, k2, s3, s4, h0, hl, he, rfl⟩ N hN
    obtain ⟨hi2, rfl⟩ := intsD_get hd
    rw [Int.toNat_natCast] at hi2
    obtain ⟨l, e1, e2, e3⟩ := back_let (k2 / 3) (k2 % 3) (by omega) (by omega)
    unfold d_BACK
    walk_at "w"
    refine ⟨_, e1, e2, _, e3, ?_, hN _ ⟨hi2, _, k2 / 3, _, _, by omega, ?_, ?_, rfl⟩⟩
    · rw [List.length_singleton, hl]; omega
    · rw [List.length_append, hl]; simp; omega
    · rw [he, show m - i = (m - (i + 1)) + 1 by omega, wordOf, List.append_assoc]
  · rintro S ⟨hi, z, k2, s3, s4, h0, hl, he, rfl⟩
    walk_at "w"
    have : (intsD 0 (m : Int).toNat).length = m := by simp [intsD]
    rw [this] at he hl
    rw [Nat.sub_self] at he
    rw [show z = wordOf m k from by rw [he]; rfl]
    exact h
/-! all words of so many letters -/
def ext3 (w : List Nat) : List (List Nat) := [w ++ [110], w ++ [102], w ++ [115]]
def allW : Nat → List (List Nat)
  | 0 => [[]]
  | m + 1 => (allW m).flatMap ext3
theorem allW_len : ∀ m, (allW m).length = 3 ^ m
  | 0 => rfl
  | m + 1 => by
    have : ∀ l : List (List Nat), (l.flatMap ext3).length = 3 * l.length := fun l => by
      induction l with
      | nil => rfl
      | cons a l ih => rw [List.flatMap_cons, List.length_append, ih]; simp [ext3]; omega
    rw [allW, this, allW_len m, Nat.pow_succ, Nat.mul_comm]
theorem allW_mem : ∀ (m : Nat) (z : List Nat), z ∈ allW m → Lets z ∧ z.length = m
  | 0, z, h => by
    rw [allW, List.mem_singleton] at h
    subst h
    exact ⟨(fun c hc => nomatch hc), rfl⟩
  | m + 1, z, h => by
    rw [allW, List.mem_flatMap] at h
    obtain ⟨w, hw, hz⟩ := h
    obtain ⟨h1, h2⟩ := allW_mem m w hw
    simp only [ext3, List.mem_cons, List.not_mem_nil, or_false] at hz
    rcases hz with rfl | rfl | rfl
    · exact ⟨lets_app h1 (lets_one (by simp)), by rw [List.length_append, h2]; rfl⟩
    · exact ⟨lets_app h1 (lets_one (by simp)), by rw [List.length_append, h2]; rfl⟩
    · exact ⟨lets_app h1 (lets_one (by simp)), by rw [List.length_append, h2]; rfl⟩
def natsZ (m : Nat) : List Int := (List.range m).map fun (i : Nat) => (i : Int)
theorem natsZ_trip : ∀ m : Nat, natsZ (3 * m) = (natsZ m).flatMap fun k => [3 * k, 3 * k + 1, 3 * k + 2]
  | 0 => rfl
  | m + 1 => by
    have e : natsZ (m + 1) = natsZ m ++ [(m : Int)] := by unfold natsZ; rw [List.range_succ, List.map_append]; rfl
    have e3 : natsZ (3 * (m + 1)) = natsZ (3 * m) ++ [3 * (m : Int), 3 * m + 1, 3 * m + 2] := by
      unfold natsZ
      rw [show 3 * (m + 1) = 3 * m + 1 + 1 + 1 by omega, List.range_succ, List.range_succ, List.range_succ, List.map_append, List.map_append, List.map_append]
      simp
    rw [e3, e, List.flatMap_append, natsZ_trip m]
    rfl
theorem ext3_plc (w : List Nat) : List.Perm ((ext3 w).map (plc 0)) [3 * plc 0 w, 3 * plc 0 w + 1, 3 * plc 0 w + 2] := by
  simp only [ext3, List.map_cons, List.map_nil, plc_snoc]
  unfold bk
  by_cases h : plc 0 w % 2 = 0
  · rw [if_pos h, if_pos h, if_pos h]
    simp only [if_pos, if_neg, show ¬ (110 = 115) by decide, show ¬ (102 = 115) by decide, show ¬ (102 = 110) by decide, Int.add_zero]
    exact List.Perm.trans (l₂ := [3 * plc 0 w + 1, 3 * plc 0 w, 3 * plc 0 w + 2]) (.cons _ (.swap _ _ _)) (.swap _ _ _)
  · rw [if_neg h, if_neg h, if_neg h]
    simp only [if_pos, if_neg, show ¬ (110 = 102) by decide, show ¬ (115 = 102) by decide, show ¬ (115 = 110) by decide, Int.add_zero]
    exact .swap _ _ _
theorem perm_flat {α β : Type} {f g : α → List β} : ∀ (l : List α), (∀ a ∈ l, (f a).Perm (g a)) → (l.flatMap f).Perm (l.flatMap g)
  | [], _ => .refl _
  | a :: l, h => by
    rw [List.flatMap_cons, List.flatMap_cons]
    exact (h a List.mem_cons_self).append (perm_flat l fun b hb => h b (List.mem_cons_of_mem _ hb))
theorem allW_plc : ∀ m, List.Perm ((allW m).map (plc 0)) (natsZ (3 ^ m))
  | 0 => .refl _
  | m + 1 => by
    have e : (allW (m + 1)).map (plc 0) = (allW m).flatMap fun w => (ext3 w).map (plc 0) := by rw [allW, List.map_flatMap]
    rw [e, Nat.pow_succ, Nat.mul_comm, natsZ_trip]
    refine (perm_flat _ fun w _ => ext3_plc w).trans ?_
    have : ((allW m).flatMap fun w => [3 * plc 0 w, 3 * plc 0 w + 1, 3 * plc 0 w + 2]) = ((allW m).map (plc 0)).flatMap fun k => [3 * k, 3 * k + 1, 3 * k + 2] := by rw [List.flatMap_map]
    rw [this]
    exact (allW_plc m).flatMap_right _
theorem natsZ_sorted (m : Nat) : (natsZ m).Pairwise (· ≤ ·) := by
  unfold natsZ
  rw [List.pairwise_map]
  exact (List.pairwise_lt_range (n := m)).imp fun h => by omega
def wordsBy (m : Nat) : List Dat := (natsZ (3 ^ m)).map fun k => .str (wordOf m k)
/-- sorted by their places, they are known -/
theorem sorted_words {m : Nat} {l : List Dat} (h : ByKeys ((allW m).map (plc 0)) ((allW m).map Dat.str) l) : l = wordsBy m := by
  obtain ⟨qs, h1, h2, h3⟩ := h
  have e : ((allW m).map (plc 0)).zip ((allW m).map Dat.str) = (allW m).map fun z => (plc 0 z, Dat.str z) := by
    rw [List.zip_map', ]
  obtain ⟨zs, z1, z2⟩ := perm_lift (fun z : List Nat => (plc 0 z, Dat.str z)) h1 e
  have z3 : zs.map (plc 0) = natsZ (3 ^ m) := by
    refine List.Perm.eq_of_pairwise (le := (· ≤ ·)) (fun a b _ _ h1 h2 => Int.le_antisymm h1 h2) ?_ (natsZ_sorted _) ((z1.map _).trans (allW_plc m))
    rw [z2, List.pairwise_map] at h3
    rw [List.pairwise_map]
    exact h3
  have z4 : zs = (zs.map (plc 0)).map (wordOf m) := by
    rw [List.map_map]
    conv => lhs; rw [← List.map_id zs]
    refine List.map_congr_left fun z hz => ?_
    obtain ⟨y1, y2⟩ := allW_mem m z (z1.mem_iff.mp hz)
    exact (wordOf_plc m z y2 y1).symm
  rw [h2, z2, List.map_map, wordsBy, ← z3, List.map_map]
  refine List.map_congr_left fun z hz => ?_
  obtain ⟨y1, y2⟩ := allW_mem m z (z1.mem_iff.mp hz)
  show Dat.str z = Dat.str (wordOf m (plc 0 z))
  rw [wordOf_plc m z y2 y1]
def L_words : WS := (wSeq (wAsg (wFz (wLst (wCons (wC (.str ("" : Str).cps.toList)) wNil))) (wgN 1))
  (wSeq (wFor (wRng1 (wCons (wVar 0) wNil)) (wgN 2) (wSeq (wOwn (wLst wNil) 3)
  (wSeq (wFor (wAnyIt (wVar 1)) (wgN 4) (wExt 3 (wFz (wLc (wAnyIt (wC (.str ("nfs" : Str).cps.toList))) [5] (wgN 5) wYes (wOp aAdd (wVar 4) (wVar 5))))))
  (wAsg (wVar 3) (wgN 1)))))
  (wRet (wVar 1))))
def G_words : Fn := fun ds n Q => ∃ m : Nat, ds = [.int m] ∧ m ≤ 6 ∧ Q (.lst ((allW m).map Dat.str)) n
theorem nfs_ext (w : List Nat) : (signsD [110, 102, 115]).map (fun d => match d with | .str c => Dat.str (w ++ c) | _ => .non) = (ext3 w).map Dat.str := rfl
theorem pow6 {m : Nat} (h : m ≤ 6) : 3 ^ m ≤ 729 := Nat.pow_le_pow_right (by decide) h
/-- the words so far -/
def soFar (m i : Nat) : List (List Nat) := ((allW m).take i).flatMap ext3
theorem soFar_len (m i : Nat) : (soFar m i).length ≤ 3 * i := by
  have : ∀ l : List (List Nat), (l.flatMap ext3).length = 3 * l.length := fun l => by
    induction l with
    | nil => rfl
    | cons a l ih => rw [List.flatMap_cons, List.length_append, ih]; simp [ext3]; omega
  rw [soFar, this, List.length_take]
  omega
theorem soFar_next {m i : Nat} {w : List Nat} (h : (allW m)[i]? = some w) : soFar m (i + 1) = soFar m i ++ ext3 w := by
  rw [soFar, List.take_add_one, h, List.flatMap_append]
  simp [soFar]
theorem soFar_all (m : Nat) : soFar m (allW m).length = allW (m + 1) := by rw [soFar, List.take_length, allW]
theorem str_get {l : List (List Nat)} {i : Nat} {d : Dat} (h : (l.map Dat.str)[i]? = some d) : ∃ w, l[i]? = some w ∧ d = .str w := by
  rw [List.getElem?_map] at h
  cases q : l[i]? with
  | none => rw [q] at h; cases h
  | some w => rw [q] at h; exact ⟨w, rfl, (Option.some.inj h).symm⟩
theorem B_words {ds : List Dat} {n : Nat} {QD : Dat → Nat → Prop} (h : G_words ds n QD) : bodyW 6 L_words ds n QD := by
  obtain ⟨m, rfl, hm, h⟩ := h
  unfold L_words
  simp only [lit_empty, lit_nfs]
  walk_at "w"
  refine ⟨by omega, by omega, ?_⟩
  refine forW_at _ (fun i S => i ≤ m ∧ ∃ s2 s3 s4, S = ⟨[.im (.int m), .im (.lst ((allW i).map Dat.str)), s2, s3, s4, .un], n⟩) _ ?_ ⟨by omega, _, _, _, rfl⟩ ?_
  · rintro i d S hd ⟨hi, s2, s3, s4, rfl⟩ N hN
    obtain ⟨hi2, rfl⟩ := intsD_get hd
    rw [Int.toNat_natCast] at hi2
    walk_at "w"
    have l3 := allW_len i
    have l4 := pow6 (show i ≤ 6 by omega)
    refine forW_at _ (fun j S => j ≤ 3 ^ i ∧ ∃ s4, S = ⟨[.im (.int m), .im (.lst ((allW i).map Dat.str)), .im (.int (0 + i)), .ow ((soFar i j).map Dat.str), s4, .un], n⟩) _ ?_ ⟨by omega, _, rfl⟩ ?_
    · rintro j d S hd ⟨hj, s4, rfl⟩ N2 hN2
      obtain ⟨w, hw, rfl⟩ := str_get hd
      have hj2 : j < 3 ^ i := by rw [← l3]; exact (List.getElem?_eq_some_iff.mp hw).1
      obtain ⟨_, lw⟩ := allW_mem i w (List.mem_of_getElem? hw)
      walk_at "w"
      refine lcW_map (fun d => match d with | .str c => .str (w ++ c) | _ => .non) _ _ (by simp [signsD]) (fun d hd R R0 hR => ?_) ?_
      · obtain ⟨c, hc, rfl⟩ := List.mem_map.mp hd
        walk_at "w"
        exact ⟨by omega, hR⟩
      rw [nfs_ext]
      walk_at "w"
      have l5 := soFar_len i j
      refine ⟨by simp [ext3]; omega, ?_⟩
      have e := soFar_next hw
      rw [← List.map_append, ← e]
      exact hN2 _ ⟨hj2, _, rfl⟩
    · rintro S ⟨_, s4, rfl⟩
      rw [List.length_map, soFar_all]
      walk_at "w"
      exact hN _ ⟨hi2, _, _, _, rfl⟩
  · rintro S ⟨_, s2, s3, s4, rfl⟩
    walk_at "w"
    have : (intsD 0 (m : Int).toNat).length = m := by simp [intsD]
    rw [this]
    exact h
def L_longer : WS := (wSeq (wOwn (wLst wNil) 1)
  (wSeq (wFor (wAnyIt (wVar 0)) (wgN 2) (wExt 1 (wFz (wLc (wAnyIt (wC (.str ("nfs" : Str).cps.toList))) [3] (wgN 3) wYes (wOp aAdd (wVar 2) (wVar 3))))))
  (wRet (wVar 1))))
def G_longer : Fn := fun ds n Q => ∃ m : Nat, ds = [.lst ((allW m).map Dat.str)] ∧ m ≤ 6 ∧ Q (.lst ((allW (m + 1)).map Dat.str)) n
theorem B_longer {ds : List Dat} {n : Nat} {QD : Dat → Nat → Prop} (h : G_longer ds n QD) : bodyW 4 L_longer ds n QD := by
  obtain ⟨i, rfl, hm, h⟩ := h
  have l3 := allW_len i
  have l4 := pow6 hm
  unfold L_longer
  simp only [lit_nfs]
  walk_at "w"
  refine forW_at _ (fun j S => j ≤ 3 ^ i ∧ ∃ s2, S = ⟨[.im (.lst ((allW i).map Dat.str)), .ow ((soFar i j).map Dat.str), s2, .un], n⟩) _ ?_ ⟨by omega, _, rfl⟩ ?_
  · rintro j d S hd ⟨hj, s4, rfl⟩ N2 hN2
    obtain ⟨w, hw, rfl⟩ := str_get hd
    have hj2 : j < 3 ^ i := by rw [← l3]; exact (List.getElem?_eq_some_iff.mp hw).1
    obtain ⟨_, lw⟩ := allW_mem i w (List.mem_of_getElem? hw)
    walk_at "w"
    refine lcW_map (fun d => match d with | .str c => .str (w ++ c) | _ => .non) _ _ (by simp [signsD]) (fun d hd R R0 hR => ?_) ?_
    · obtain ⟨c, hc, rfl⟩ := List.mem_map.mp hd
      walk_at "w"
      exact ⟨by omega, hR⟩
    rw [nfs_ext]
    walk_at "w"
    have l5 := soFar_len i j
    refine ⟨by simp [ext3]; omega, ?_⟩
    have e := soFar_next hw
    rw [← List.map_append, ← e]
    exact hN2 _ ⟨hj2, _, rfl⟩
  · rintro S ⟨_, s4, rfl⟩
    rw [List.length_map, soFar_all]
    walk_at "w"
    exact h
def L_neighbours : WS := (wSeq (wDrop (wCall G_check_word (wCons (wVar 0) wNil)))
  (wSeq (wPar 1 2 (wCons (wCB aLen (wCons (wVar 0) wNil)) (wCons (wCall G_place_of (wCons (wVar 0) wNil)) wNil)))
  (wSeq (wAsg (wIf (wTest (wOp aGt (wVar 2) (wC (.int 0)))) (wCall G_word_of (wCons (wVar 1) (wCons (wOp aSub (wVar 2) (wC (.int 1))) wNil))) (wC .non)) (wgN 3))
  (wRet (wTup (wCons (wVar 3) (wCons (wIf (wTest (wOp aLt (wOp aAdd (wVar 2) (wC (.int 1))) (wCall G_power (wCons (wVar 1) wNil)))) (wCall G_word_of (wCons (wVar 1) (wCons (wOp aAdd (wVar 2) (wC (.int 1))) wNil))) (wC .non)) wNil)))))))
def nbD (z : List Nat) : Dat := .tup [if plc 0 z > 0 then .str (wordOf z.length (plc 0 z - 1)) else .non, if plc 0 z + 1 < 3 ^ z.length then .str (wordOf z.length (plc 0 z + 1)) else .non]
def G_neighbours : Fn := fun ds n Q => ∃ z, ds = [.str z] ∧ Lets z ∧ z.length ≤ 200 ∧ Q (nbD z) n
theorem B_neighbours {ds : List Dat} {n : Nat} {QD : Dat → Nat → Prop} (h : G_neighbours ds n QD) : bodyW 4 L_neighbours ds n QD := by
  obtain ⟨z, rfl, hz, hl, h⟩ := h
  obtain ⟨p0, _⟩ := plc_zero z 0 (by decide) hz
  unfold nbD at h
  unfold L_neighbours
  walk_at "w"
  refine ⟨z, rfl, hz, hl, ?_⟩
  walk_at "w"
  refine ⟨by omega, z, rfl, hz, ?_⟩
  walk_at "w"
  simp only [gt_iff_lt] at h
  have fin : ∀ d : Dat, QD (.tup [d, if plc 0 z + 1 < 3 ^ z.length then .str (wordOf z.length (plc 0 z + 1)) else .non]) n → (G_power [Dat.int z.length] n fun d_1 n' => asI d_1 fun j => if plc 0 z + 1 < j then G_word_of [Dat.int z.length, Dat.int (plc 0 z + 1)] n' fun d_2 n' => QD (Dat.tup [d, d_2]) n' else QD (Dat.tup [d, Dat.non]) n') := fun d hd => by
    refine ⟨z.length, rfl, by omega, ?_⟩
    show if plc 0 z + 1 < 3 ^ z.length then _ else _
    split
    · rename_i c
      rw [if_pos c] at hd
      exact ⟨_, _, rfl, by omega, by omega, hd⟩
    · rename_i c
      rw [if_neg c] at hd
      exact hd
  split
  · rename_i c
    rw [if_pos c] at h
    exact ⟨_, _, rfl, by omega, by omega, fin _ h⟩
  · rename_i c
    rw [if_neg c] at h
    exact fin _ h
def L_word_at : WS := (wSeq (wDrop (wCall G_rounds (wCons (wVar 0) (wCons (wC (.int 200)) wNil))))
  (wSeq (wIfS (wNot (wTest (wCall G_integer (wCons (wVar 1) (wCons (wC (.int 0)) (wCons (wOp aSub (wCall G_power (wCons (wVar 0) wNil)) (wC (.int 1))) wNil)))))) wNever wNext)
  (wRet (wCall G_word_of (wCons (wVar 0) (wCons (wVar 1) wNil))))))
def G_word_at : Fn := fun ds n Q => ∃ (m : Nat) (k : Int), ds = [.int m, .int k] ∧ m ≤ 200 ∧ 0 ≤ k ∧ k < 3 ^ m ∧ Q (.str (wordOf m k)) n
theorem B_word_at {ds : List Dat} {n : Nat} {QD : Dat → Nat → Prop} (h : G_word_at ds n QD) : bodyW 2 L_word_at ds n QD := by
  obtain ⟨m, k, rfl, hm, h0, h1, h⟩ := h
  unfold L_word_at
  walk_at "w"
  refine ⟨_, _, rfl, by omega, by omega, ?_⟩
  walk_at "w"
  refine ⟨m, rfl, by omega, ?_⟩
  walk_at "w"
  refine ⟨_, _, _, rfl, h0, by omega, ?_⟩
  walk_at "w"
  exact ⟨m, _, rfl, by omega, h0, h⟩
def L_whole_row : WS := (wSeq (wDrop (wCall G_rounds (wCons (wVar 0) (wCons (wC (.int 6)) wNil))))
  (wRet (wCB aTupOf (wCons (wFz (wLc (wRng1 (wCons (wCall G_power (wCons (wVar 0) wNil)) wNil)) [1] (wgN 1) wYes (wCall G_word_of (wCons (wVar 0) (wCons (wVar 1) wNil))))) wNil))))
def G_whole_row : Fn := fun ds n Q => ∃ m : Nat, ds = [.int m] ∧ m ≤ 6 ∧ Q (.tup (wordsBy m)) n
theorem B_whole_row {ds : List Dat} {n : Nat} {QD : Dat → Nat → Prop} (h : G_whole_row ds n QD) : bodyW 2 L_whole_row ds n QD := by
  obtain ⟨m, rfl, hm, h⟩ := h
  unfold L_whole_row
  walk_at "w"
  refine ⟨_, _, rfl, by omega, by omega, ?_⟩
  walk_at "w"
  have l4 := pow6 hm
  have m2 : (3 : Int) ^ m = ((3 ^ m : Nat) : Int) := by rw [Int.natCast_pow]; rfl
  refine ⟨m, rfl, by omega, ?_⟩
  rw [m2]
  generalize hN : 3 ^ m = N at l4
  walk_at "w"
  refine ⟨by omega, by omega, ?_⟩
  rw [Int.toNat_natCast]
  refine lcW_map (fun d => match d with | .int k => .str (wordOf m k) | _ => .non) _ _ (by simp [intsD]; omega) (fun d hd R R0 hR => ?_) ?_
  · obtain ⟨i, hi, rfl⟩ := List.mem_map.mp hd
    walk_at "w"
    exact ⟨m, _, rfl, by omega, by omega, hR⟩
  have e : (intsD 0 N).map (fun d => match d with | .int k => .str (wordOf m k) | _ => .non) = wordsBy m := by
    unfold wordsBy natsZ intsD
    rw [hN]
    rw [List.map_map, List.map_map]
    refine List.map_congr_left fun i _ => ?_
    show Dat.str (wordOf m (0 + (i : Int))) = Dat.str (wordOf m i)
    rw [Int.zero_add]
  rw [e]
  exact h

end Dl
-- part Ek
set_option Elab.async false
set_option linter.all false
set_option maxRecDepth 100000
set_option maxHeartbeats 4000000
namespace Dl
open PySem PySem.Spec PyProof.Rows L2 Evl
variable [LawTabs]

local macro_rules | `(tactic| walk_at "w") => `(tactic| (simp (maxSteps := 3000000) only [↓e_var0, ↓e_var0o, ↓e_varS, ↓e_anyIt, ↓e_par, ↓e_zip, ↓aAdd_i, ↓aAdd_s, ↓aAdd_t, ↓aAdd_l, ↓aMul_i, ↓aMul_s, ↓aMul_l, ↓eqS_i, ↓eqS_s, ↓eqS_b, ↓eqS_nn, ↓eqS_ni, ↓eqS_ns, ↓eqS_nt, ↓eqS_in, ↓eqS_sn, ↓eqS_is, ↓eqS_si, ↓eqS_t, ↓eqS_l, ↓inS_s, ↓inS_t, ↓inS_l, ↓lenD_s, ↓lenD_t, ↓lenD_l, ↓lenD_z, ↓ixD_t, ↓ixD_l, ↓ixD_z, ↓ixD_s, ↓ixD_0, ↓ixD_1, ↓ixD_2, ↓cutDd_s, ↓cutDd_l, ↓cutDd_z, ↓cutDd_t, ↓listD_l, ↓listD_z, ↓itemsD_l, ↓itemsD_t, ↓itemsQ_s, ↓itemsQ_l, ↓itemsQ_z, ↓itemsQ_t, ↓aInt_i, ↓aInt_b, ↓aTupOf_l, ↓aTupOf_t, ↓anyD_l, ↓anyD_z, ↓anyD_t, ↓anyD_s, ↓joinD_l, ↓joinD_t, ↓zipQ_t, ↓zipQ_l, ↓asB_bl, ↓asI_int, ↓as1_one, ↓as2_two, par2,
  bodyW, bodyX, bodyF, bodyP, start0, wRaise, wDropX, wRetX, wAsgX, wRetXN, wAct, wHand, wTryH, wLam, wXv, aIsiC, memN, eqN_of, flOf, capL, capsOk, noPot, noPots, wSeq, wAsg, wOwn, wIfS, wRet, wRetF, wRetO, wRetN, wDrop, wApp, wSet, setW, slotSet, wInc, wNext, wBreak, wContinue, wNever, wC, wOp, wUn, wIf, wTest, wAnd, wOr, wNot, wYes, wAndV, wOrV, wNotV, wChain, wNil, wCons, wTup, wLst, wFz, wCall, wCallF, wCallK, wCallN, wCB, wCBF, wBM, wBM0, tStr, wNone, wPart, wSl, wgN, wgNil, wgCons, wgTup, wFor, wWhile, wLc, wRng1, wRng2, wListRg, wPot, wipeL, restL, keepIm,
  aI0, aII, aNeg, aEq, aNe, aIn, aNotIn, aIsN, aIsNotN, isN, aIsW, aIsNotW, ↓isW_n, ↓isW_bb, ↓isW_nb, wRevS, wRevT, wDNew, wDisp, uC, uVar, uNil, uCons, uCB, wPopAt, wOwnLen, wUpper, aEqE, aIxG, wOwnD, wUpd, wOdV, wOrT, truD, List.isEmpty_cons, List.isEmpty_nil, wCat, wAsgCX, aRepr, aStrI, wParO, wSortK, lcW_nil, lcW_cons, wKIx, wKIn, aAbs, aMax, aMin, aMin1, aMax1, ↓partsD_l, ↓partsD_z, ↓partsD_t, aLen, aSum, aAll, aAny, aIsi, isi, goodTy, aIx, aListOf, idxS, wParOO, wP3, wP3O, wStar, wEnum, wDC, lastAt, wgLst, wExt, wExt.listL, aInDp, aNotInDp, inDp, Nat.reduceBEq,
  List.map_cons, List.map_nil, List.cons_append, List.nil_append, List.length_cons, List.length_nil, List.replicate_succ, List.replicate_zero, Nat.reduceAdd, Nat.reduceSub, List.getElem?_cons_zero, List.getElem?_cons_succ, List.set_cons_zero, List.set_cons_succ, reduceCtorEq, if_true, if_false, Bool.false_eq_true,
  decide_eq_true_eq, kinds, List.contains_cons, List.contains_nil, String.reduceBEq, String.reduceEq, Bool.or_true, Bool.true_or, Bool.or_false, Bool.false_or, Bool.not_true, Bool.not_false, Bool.not_eq_true, decide_true, decide_false, true_and, and_true, Int.reduceLT, Int.reduceLE, Int.reduceNeg, Nat.reduceLeDiff, cmuL, cmuR, cfdS, cpwS, atI_pos, Int.reduceToNat, isBls_nil, isBls_bl, Option.map_some, Option.some.injEq, exists_eq_left', List.all_cons, List.all_nil, id_eq, Bool.and_true, Bool.true_and, beq_self_eq_true]))


/-! ### data of any kind -/
theorem lio_0 : ("a" : Str).cps.toList = [97] := by decide +kernel
theorem lio_1 : ("nfs" : Str).cps.toList = [110, 102, 115] := by decide +kernel
theorem lio_2 : ("law" : Str).cps.toList = [108, 97, 119] := by decide +kernel
theorem lio_3 : ("nfx" : Str).cps.toList = [110, 102, 120] := by decide +kernel
theorem lio_4 : ("nf" : Str).cps.toList = [110, 102] := by decide +kernel
theorem lio_5 : ("yes" : Str).cps.toList = [121, 101, 115] := by decide +kernel
theorem lio_6 : ("no" : Str).cps.toList = [110, 111] := by decide +kernel
theorem lio_7 : ("N" : Str).cps.toList = [78] := by decide +kernel
theorem lio_8 : ("first" : Str).cps.toList = [102, 105, 114, 115, 116] := by decide +kernel
theorem lio_9 : ("F" : Str).cps.toList = [70] := by decide +kernel
theorem lio_10 : ("\n" : Str).cps.toList = [10] := by decide +kernel
theorem lio_11 : ("nfsax01 ;" : Str).cps.toList = [110, 102, 115, 97, 120, 48, 49, 32, 59] := by decide +kernel
local macro_rules | `(tactic| walk_at "lits") => `(tactic| (simp only [lio_0, lio_1, lio_2, lio_3, lio_4, lio_5, lio_6, lio_7, lio_8, lio_9, lio_10, lio_11, lit_, lit_n, lit_f, lit_s]))
def shB (d : Dat) : Bool := (plD true d || plD false d) && decide (szD d ≤ 100000) && decide (dpD d ≤ 100)
theorem shB_ok {d : Dat} (h : shB d = true) : ShOk d := by
  unfold shB at h
  simp only [Bool.and_eq_true, Bool.or_eq_true, decide_eq_true_eq] at h
  exact ⟨h.1.1, h.1.2, h.2⟩
theorem plDs_mem {b : Bool} : ∀ {l : List Dat}, plDs b l = true → ∀ x ∈ l, plD b x = true
  | y :: l, h, x, hx => by
    simp only [plDs, Bool.and_eq_true] at h
    rcases List.mem_cons.mp hx with rfl | hx
    · exact h.1
    · exact plDs_mem h.2 x hx
theorem plDs_of {b : Bool} : ∀ {l : List Dat}, (∀ x ∈ l, plD b x = true) → plDs b l = true
  | [], _ => rfl
  | y :: l, h => by
    simp only [plDs, Bool.and_eq_true]
    exact ⟨h y List.mem_cons_self, plDs_of fun x hx => h x (List.mem_cons_of_mem _ hx)⟩
theorem szD_mem : ∀ {l : List Dat}, ∀ x ∈ l, szD x < szDs l
  | y :: l, x, hx => by
    simp only [szDs]
    rcases List.mem_cons.mp hx with rfl | hx
    · omega
    · have := szD_mem x hx
      omega
theorem len_szDs : ∀ l : List Dat, l.length ≤ szDs l
  | [] => Nat.le_refl _
  | y :: l => by
    have := len_szDs l
    simp only [szDs, List.length_cons]
    omega
theorem dpD_mem : ∀ {l : List Dat}, ∀ x ∈ l, dpD x ≤ dpDs l
  | y :: l, x, hx => by
    simp only [dpDs]
    rcases List.mem_cons.mp hx with rfl | hx
    · exact Nat.le_max_left _ _
    · exact Nat.le_trans (dpD_mem x hx) (Nat.le_max_right _ _)
theorem szDs_app : ∀ a b : List Dat, szDs (a ++ b) = szDs a + szDs b
  | [], b => by simp [szDs]
  | x :: a, b => by
    simp only [List.cons_append, szDs, szDs_app a b]
    omega
theorem dpDs_app : ∀ a b : List Dat, dpDs (a ++ b) = max (dpDs a) (dpDs b)
  | [], b => by simp [dpDs]
  | x :: a, b => by simp only [List.cons_append, dpDs, dpDs_app a b, Nat.max_assoc]
theorem szDs_rev : ∀ a : List Dat, szDs a.reverse = szDs a
  | [] => rfl
  | x :: a => by
    rw [List.reverse_cons, szDs_app, szDs_rev a]
    simp only [szDs]
    omega
theorem dpDs_le {n : Nat} : ∀ {l : List Dat}, (∀ x ∈ l, dpD x ≤ n) → dpDs l ≤ n
  | [], _ => Nat.zero_le _
  | x :: l, h => by
    simp only [dpDs]
    exact Nat.max_le.mpr ⟨h x List.mem_cons_self, dpDs_le fun y hy => h y (List.mem_cons_of_mem _ hy)⟩
theorem ShOk.mem {l : List Dat} (h : ShOk (.tup l)) {x : Dat} (hx : x ∈ l) : ShOk x := by
  have h1 := h.sz
  have h2 := h.dp
  have h3 := szD_mem x hx
  have h4 := dpD_mem x hx
  simp only [szD, dpD] at h1 h2
  refine ⟨?_, by omega, by omega⟩
  rcases h.pl with q | q
  · exact .inl (plDs_mem (by simpa [plD] using q) x hx)
  · exact .inr (plDs_mem (by simpa [plD] using q) x hx)
theorem ShOk.len {l : List Dat} (h : ShOk (.tup l)) : l.length ≤ 100000 := by
  have h1 := h.sz
  have := len_szDs l
  simp only [szD] at h1
  omega
mutual
theorem plD_noPot (b : Bool) : ∀ d : Dat, plD b d = true → noPot d = true
  | .non, _ => rfl
  | .bl _, _ => rfl
  | .int _, _ => rfl
  | .str _, _ => rfl
  | .tup l, h => by simpa [noPot] using plDs_noPot b l (by simpa [plD] using h)
  | .lst l, h => by simpa [noPot] using plDs_noPot b l (by simp [plD] at h; exact h.2)
  | .dct l, h => by simpa [noPot] using plK_noPot b l (by simp [plD] at h; exact h.2)
theorem plDs_noPot (b : Bool) : ∀ l : List Dat, plDs b l = true → noPots l = true
  | [], _ => rfl
  | d :: l, h => by
    simp only [plDs, Bool.and_eq_true] at h
    simp [noPots, plD_noPot b d h.1, plDs_noPot b l h.2]
theorem plK_noPot (b : Bool) : ∀ l : List (L2.Key × Dat), plK b l = true → noPotK l = true
  | [], _ => rfl
  | (k, d) :: l, h => by
    simp only [plK, Bool.and_eq_true] at h
    simp [noPotK, plD_noPot b d h.1.2, plK_noPot b l h.2]
end
theorem ShOk.good {d : Dat} (h : ShOk d) : goodTy d = true ∧ noPot d = true := by
  have key : ∀ b, plD b d = true → goodTy d = true ∧ noPot d = true := fun b hb => by
    refine ⟨?_, ?_⟩
    · cases d <;> first | rfl | simp [plD] at hb
    · exact plD_noPot b d hb
  rcases h.pl with q | q
  · exact key _ q
  · exact key _ q

theorem isBls_fn {α : Type} (g : α → Bool) : ∀ l : List α, isBls (l.map fun x => Dat.bl (g x)) = some (l.map g)
  | [] => rfl
  | x :: l => by
    show (isBls (l.map fun x => Dat.bl (g x))).map (g x :: ·) = _
    rw [isBls_fn g l]
    rfl
def isLc (c : Nat) : Bool := decide (c ∈ [110, 102, 115])
def lettersOf (lo hi : Int) : Dat → Bool
  | .str z => decide (lo ≤ (z.length : Int)) && (decide ((z.length : Int) ≤ hi) && z.all isLc)
  | _ => false
def isLossB : Dat → Bool
  | .tup [x, y] => lettersOf 0 200 x && lettersOf 1 200 y
  | _ => false
def intOf (lo hi : Int) : Dat → Bool
  | .int i => decide (lo ≤ i) && decide (i ≤ hi)
  | _ => false
theorem lets_of {z : List Nat} (h : z.all isLc = true) : Lets z := fun c hc => by
  have := List.all_eq_true.mp h c hc
  simpa [isLc] using this
theorem loss_of {d : Dat} (h : isLossB d = true) : ∃ x c, d = lossD x c ∧ Loss x c := by
  unfold isLossB at h
  split at h
  · rename_i x y
    unfold lettersOf at h
    cases x <;> cases y <;> simp at h
    rename_i x c
    refine ⟨x, c, rfl, lets_of (List.all_eq_true.mpr h.1.2), lets_of (List.all_eq_true.mpr h.2.2.2), by omega, by omega, fun e => ?_⟩
    rw [e] at h
    simp at h
  · cases h
def L_lettersG : WS := (wRet (wAndV (wCB aIsi (wCons (wVar 0) (wCons (wC (.ty "str")) wNil))) (wAndV (wChain aLe aLe (wVar 1) (wCB aLen (wCons (wVar 0) wNil)) (wVar 2)) (wCB aAll (wCons (wFz (wLc (wAnyIt (wVar 0)) [3] (wgN 3) wYes (wOp aIn (wVar 3) (wC (.str ("nfs" : Str).cps.toList))))) wNil)))))
def G_lettersG : Fn := fun ds n Q => ∃ d lo hi, ds = [d, .int lo, .int hi] ∧ ShOk d ∧ hi ≤ 1000 ∧ Q (.bl (lettersOf lo hi d)) n
theorem B_lettersG {ds : List Dat} {n : Nat} {QD : Dat → Nat → Prop} (h : G_lettersG ds n QD) : bodyW 4 L_lettersG ds n QD := by
  obtain ⟨d, lo, hi, rfl, h1, h2, h⟩ := h
  unfold L_lettersG
  obtain ⟨g, _⟩ := h1.good
  cases d with
  | str z =>
    have hz := h1.sz
    simp only [szD] at hz
    unfold lettersOf at h
    walk_at "w"
    refine ⟨by omega, ?_⟩
    by_cases c1 : lo ≤ (z.length : Int)
    · by_cases c2 : (z.length : Int) ≤ hi
      · rw [if_pos c1, if_pos c2]
        refine lcW_map (fun d => match d with | .str [c] => .bl (isLc c) | _ => .non) _ _ (by simp [signsD]; omega) (fun d hd R R0 hR => ?_) ?_
        · obtain ⟨c, hc, rfl⟩ := List.mem_map.mp hd
          walk_at "w"
          rw [lit_nfs]
          exact hR
        · have e : (signsD z).map (fun d => match d with | .str [c] => Dat.bl (isLc c) | _ => .non) = z.map fun c => Dat.bl (isLc c) := by
            unfold signsD
            rw [List.map_map]
            rfl
          refine ⟨z.map isLc, by rw [e]; exact isBls_fn isLc z, ?_⟩
          have e2 : (z.map isLc).all id = z.all isLc := by rw [List.all_map]; rfl
          rw [e2]
          simpa [c1, c2] using h
      · rw [if_pos c1, if_neg c2]
        simpa [c1, c2] using h
    · rw [if_neg c1]
      simpa [c1] using h
  | non => walk_at "w"; simpa [lettersOf] using h
  | bl b => walk_at "w"; simpa [lettersOf] using h
  | int i => walk_at "w"; simpa [lettersOf] using h
  | tup l => walk_at "w"; simpa [lettersOf] using h
  | lst l => walk_at "w"; simpa [lettersOf] using h
  | dct l => walk_at "w"; simpa [lettersOf] using h
  | _ => simp [goodTy] at g

def L_law_wordG : WS := (wRet (wAndV (wCB aIsi (wCons (wVar 0) (wCons (wC (.ty "str")) wNil))) (wAndV (wChain aLe aLe (wVar 1) (wCB aLen (wCons (wVar 0) wNil)) (wVar 2)) (wCB aAll (wCons (wFz (wLc (wAnyIt (wVar 0)) [3] (wgN 3) wYes (wOp aIn (wVar 3) (wC (.str ("nfs" : Str).cps.toList))))) wNil)))))
abbrev G_law_wordG : Fn := G_lettersG
theorem B_law_wordG {ds : List Dat} {n : Nat} {QD : Dat → Nat → Prop} (h : G_law_wordG ds n QD) : bodyW 4 L_law_wordG ds n QD := B_lettersG h
def tupOf (lo hi : Int) : Dat → Bool
  | .tup l => decide (lo ≤ (l.length : Int)) && decide ((l.length : Int) ≤ hi)
  | _ => false
def L_tupleG : WS := (wRet (wAndV (wCB aIsi (wCons (wVar 0) (wCons (wC (.ty "tuple")) wNil))) (wChain aLe aLe (wVar 1) (wCB aLen (wCons (wVar 0) wNil)) (wVar 2))))
def G_tupleG : Fn := fun ds n Q => ∃ d lo hi, ds = [d, .int lo, .int hi] ∧ ShOk d ∧ Q (.bl (tupOf lo hi d)) n
theorem B_tupleG {ds : List Dat} {n : Nat} {QD : Dat → Nat → Prop} (h : G_tupleG ds n QD) : bodyW 3 L_tupleG ds n QD := by
  obtain ⟨d, lo, hi, rfl, h1, h⟩ := h
  unfold L_tupleG
  obtain ⟨g, _⟩ := h1.good
  cases d with
  | tup l =>
    have hl := h1.len
    unfold tupOf at h
    walk_at "w"
    by_cases c1 : lo ≤ (l.length : Int)
    · rw [if_pos c1]
      simpa [c1] using h
    · rw [if_neg c1]
      simpa [c1] using h
  | non => walk_at "w"; simpa [tupOf] using h
  | bl b => walk_at "w"; simpa [tupOf] using h
  | int i => walk_at "w"; simpa [tupOf] using h
  | str z => walk_at "w"; simpa [tupOf] using h
  | lst l => walk_at "w"; simpa [tupOf] using h
  | dct l => walk_at "w"; simpa [tupOf] using h
  | _ => simp [goodTy] at g

theorem isLossB_tup {d : Dat} (h : tupOf 2 2 d = false) : isLossB d = false := by
  unfold isLossB
  split
  · simp [tupOf] at h
  · rfl
theorem tup_two {d : Dat} (h : tupOf 2 2 d = true) : ∃ x y, d = .tup [x, y] := by
  unfold tupOf at h
  split at h
  · rename_i l
    simp only [Bool.and_eq_true, decide_eq_true_eq] at h
    match l, h with
    | [x, y], _ => exact ⟨x, y, rfl⟩
    | [], h => simp at h
    | [_], h => simp at h
    | _ :: _ :: _ :: _, h => simp at h; omega
  · cases h
def L_is_lossG : WS := (wSeq (wIfS (wNot (wTest (wCall G_tupleG (wCons (wVar 0) (wCons (wC (.int 2)) (wCons (wC (.int 2)) wNil)))))) (wRet (wC (.bl false))) wNext)
  (wRet (wAndV (wCall G_lettersG (wCons (wOp aIx (wVar 0) (wC (.int 0))) (wCons (wC (.int 0)) (wCons (wC (.int 200)) wNil)))) (wCall G_lettersG (wCons (wOp aIx (wVar 0) (wC (.int 1))) (wCons (wC (.int 1)) (wCons (wC (.int 200)) wNil)))))))
def G_is_lossG : Fn := fun ds n Q => ∃ d, ds = [d] ∧ ShOk d ∧ Q (.bl (isLossB d)) n
theorem B_is_lossG {ds : List Dat} {n : Nat} {QD : Dat → Nat → Prop} (h : G_is_lossG ds n QD) : bodyW 1 L_is_lossG ds n QD := by
  obtain ⟨d, rfl, h1, h⟩ := h
  unfold L_is_lossG
  walk_at "w"
  refine ⟨d, 2, 2, rfl, h1, ?_⟩
  walk_at "w"
  cases c1 : tupOf 2 2 d with
  | false =>
    rw [isLossB_tup c1] at h
    simpa using h
  | true =>
    obtain ⟨x, y, rfl⟩ := tup_two c1
    walk_at "w"
    refine ⟨x, 0, 200, rfl, h1.mem (by simp), by decide, ?_⟩
    walk_at "w"
    replace h : QD (.bl (lettersOf 0 200 x && lettersOf 1 200 y)) n := h
    cases c2 : lettersOf 0 200 x with
    | false =>
      rw [c2] at h
      simpa using h
    | true =>
      rw [c2] at h
      simp only [if_true]
      exact ⟨y, 1, 200, rfl, h1.mem (by simp), by decide, by simpa using h⟩
def L_law_lossG : WS := (wSeq (wIfS (wOr (wNot (wTest (wCB aIsi (wCons (wVar 0) (wCons (wC (.ty "tuple")) wNil))))) (wTest (wOp aNe (wCB aLen (wCons (wVar 0) wNil)) (wC (.int 2))))) (wRet (wC (.bl false))) wNext)
  (wRet (wAndV (wCall G_law_wordG (wCons (wOp aIx (wVar 0) (wC (.int 0))) (wCons (wC (.int 0)) (wCons (wC (.int 200)) wNil)))) (wCall G_law_wordG (wCons (wOp aIx (wVar 0) (wC (.int 1))) (wCons (wC (.int 1)) (wCons (wC (.int 200)) wNil)))))))
def G_law_lossG : Fn := G_is_lossG
theorem B_law_lossG {ds : List Dat} {n : Nat} {QD : Dat → Nat → Prop} (h : G_law_lossG ds n QD) : bodyW 1 L_law_lossG ds n QD := by
  obtain ⟨d, rfl, h1, h⟩ := h
  unfold L_law_lossG
  obtain ⟨g, _⟩ := h1.good
  cases d with
  | tup l =>
    have hl := h1.len
    walk_at "w"
    by_cases c1 : l.length = 2
    · match l, c1 with
      | [x, y], _ =>
        walk_at "w"
        refine ⟨x, 0, 200, rfl, h1.mem (by simp), by decide, ?_⟩
        walk_at "w"
        replace h : QD (.bl (lettersOf 0 200 x && lettersOf 1 200 y)) n := h
        cases c2 : lettersOf 0 200 x with
        | false =>
          rw [c2] at h
          simpa using h
        | true =>
          rw [c2] at h
          simp only [if_true]
          exact ⟨y, 1, 200, rfl, h1.mem (by simp), by decide, by simpa using h⟩
    · have e : isLossB (.tup l) = false := isLossB_tup (by
        unfold tupOf
        simp
        omega)
      rw [e] at h
      have c2 : ¬ ((l.length : Int) = 2) := by omega
      simpa [c2] using h
  | non => walk_at "w"; simpa [isLossB] using h
  | bl b => walk_at "w"; simpa [isLossB] using h
  | int i => walk_at "w"; simpa [isLossB] using h
  | str z => walk_at "w"; simpa [isLossB] using h
  | lst l => walk_at "w"; simpa [isLossB] using h
  | dct l => walk_at "w"; simpa [isLossB] using h
  | _ => simp [goodTy] at g

def isInt : Dat → Bool
  | .int _ => true
  | _ => false
def L_wholeG : WS := (wRet (wAndV (wCB aIsi (wCons (wVar 0) (wCons (wC (.ty "int")) wNil))) (wNotV (wCB aIsi (wCons (wVar 0) (wCons (wC (.ty "bool")) wNil))))))
def G_wholeG : Fn := fun ds n Q => ∃ d, ds = [d] ∧ ShOk d ∧ Q (.bl (isInt d)) n
theorem B_wholeG {ds : List Dat} {n : Nat} {QD : Dat → Nat → Prop} (h : G_wholeG ds n QD) : bodyW 1 L_wholeG ds n QD := by
  obtain ⟨d, rfl, h1, h⟩ := h
  unfold L_wholeG
  obtain ⟨g, _⟩ := h1.good
  cases d with
  | tup l => walk_at "w"; simpa [isInt] using h
  | non => walk_at "w"; simpa [isInt] using h
  | bl b => walk_at "w"; simpa [isInt] using h
  | int i => walk_at "w"; simpa [isInt] using h
  | str z => walk_at "w"; simpa [isInt] using h
  | lst l => walk_at "w"; simpa [isInt] using h
  | dct l => walk_at "w"; simpa [isInt] using h
  | _ => simp [goodTy] at g

def L_integerG : WS := (wRet (wAndV (wCall G_wholeG (wCons (wVar 0) wNil)) (wChain aLe aLe (wVar 1) (wVar 0) (wVar 2))))
def G_integerG : Fn := fun ds n Q => ∃ d lo hi, ds = [d, .int lo, .int hi] ∧ ShOk d ∧ Q (.bl (intOf lo hi d)) n
theorem B_integerG {ds : List Dat} {n : Nat} {QD : Dat → Nat → Prop} (h : G_integerG ds n QD) : bodyW 3 L_integerG ds n QD := by
  obtain ⟨d, lo, hi, rfl, h1, h⟩ := h
  unfold L_integerG
  obtain ⟨g, _⟩ := h1.good
  walk_at "w"
  refine ⟨d, rfl, h1, ?_⟩
  cases d with
  | int i =>
    unfold intOf at h
    simp only [isInt]
    walk_at "w"
    by_cases c1 : lo ≤ i
    · rw [if_pos c1]
      simpa [c1] using h
    · rw [if_neg c1]
      simpa [c1] using h
  | _ => simp only [isInt]; walk_at "w"; simpa [intOf] using h
def L_is_intG : WS := (wRet (wAndV (wCB aIsi (wCons (wVar 0) (wCons (wC (.ty "int")) wNil))) (wAndV (wNotV (wCB aIsi (wCons (wVar 0) (wCons (wC (.ty "bool")) wNil)))) (wChain aLe aLe (wVar 1) (wVar 0) (wVar 2)))))
def G_is_intG : Fn := fun ds n Q => ∃ d lo hi, ds = [d, .int lo, .int hi] ∧ ShOk d ∧ Q (.bl (intOf lo hi d)) n
theorem B_is_intG {ds : List Dat} {n : Nat} {QD : Dat → Nat → Prop} (h : G_is_intG ds n QD) : bodyW 3 L_is_intG ds n QD := by
  obtain ⟨d, lo, hi, rfl, h1, h⟩ := h
  unfold L_is_intG
  obtain ⟨g, _⟩ := h1.good
  cases d with
  | int i =>
    unfold intOf at h
    walk_at "w"
    by_cases c1 : lo ≤ i
    · rw [if_pos c1]
      simpa [c1] using h
    · rw [if_neg c1]
      simpa [c1] using h
  | tup l => walk_at "w"; simpa [intOf] using h
  | non => walk_at "w"; simpa [intOf] using h
  | bl b => walk_at "w"; simpa [intOf] using h
  | str z => walk_at "w"; simpa [intOf] using h
  | lst l => walk_at "w"; simpa [intOf] using h
  | dct l => walk_at "w"; simpa [intOf] using h
  | _ => simp [goodTy] at g


def L_odd : WS := (wSeq (wOwn (wLst (wCons (wC .non) (wCons (wC (.bl true)) (wCons (wC (.bl false)) (wCons (wC (.int 0)) (wCons (wC (.int 1)) (wCons (wUn aNeg (wC (.int 1))) (wCons (wC (.int 7)) (wCons (wOp aPow (wC (.int 10)) (wC (.int 8))) (wCons (wC (.str ("" : Str).cps.toList)) (wCons (wC (.str ("a" : Str).cps.toList)) (wCons (wC (.str ("n" : Str).cps.toList)) (wCons (wC (.str ("nfs" : Str).cps.toList)) (wCons (wC (.str ("law" : Str).cps.toList)) (wCons (wC (.str ("nfx" : Str).cps.toList)) (wCons (wTup wNil) (wCons (wFz (wLst wNil)) (wCons wDNew (wCons (wTup (wCons (wC (.int 0)) wNil)) wNil))))))))))))))))))) 1)
  (wSeq (wOwn (wCat (wVar 1) (wFz (wLst (wCons (wTup (wCons (wC (.str ("" : Str).cps.toList)) (wCons (wC (.str ("n" : Str).cps.toList)) wNil))) (wCons (wTup (wCons (wC (.str ("n" : Str).cps.toList)) (wCons (wC (.str ("" : Str).cps.toList)) wNil))) (wCons (wTup (wCons (wC (.str ("nf" : Str).cps.toList)) (wCons (wC (.str ("s" : Str).cps.toList)) wNil))) (wCons (wFz (wLst (wCons (wC (.str ("" : Str).cps.toList)) (wCons (wC (.str ("n" : Str).cps.toList)) wNil)))) (wCons (wTup (wCons (wC (.str ("" : Str).cps.toList)) (wCons (wC (.str ("n" : Str).cps.toList)) (wCons (wC (.str ("f" : Str).cps.toList)) wNil)))) (wCons (wTup (wCons (wC .non) wNil)) (wCons (wDisp [.inr "a"] (uCons (uC (.int 1)) uNil)) (wCons (wTup (wCons (wC (.bl true)) wNil)) (wCons (wTup (wCons (wC (.int 0)) (wCons (wC (.int 1)) wNil))) wNil)))))))))))) 1)
  (wSeq (wExt 1 (wFz (wLst (wCons (wTup (wCons (wTup (wCons (wC (.str ("" : Str).cps.toList)) (wCons (wC (.str ("n" : Str).cps.toList)) wNil))) wNil)) (wCons (wTup (wCons (wC (.str ("yes" : Str).cps.toList)) (wCons (wTup (wCons (wC (.str ("" : Str).cps.toList)) (wCons (wC (.str ("n" : Str).cps.toList)) wNil))) wNil))) (wCons (wTup (wCons (wC (.str ("no" : Str).cps.toList)) (wCons (wTup wNil) wNil))) (wCons (wTup (wCons (wC (.int 2)) (wCons (wC (.int 4)) wNil))) (wCons (wTup (wCons (wC (.str ("N" : Str).cps.toList)) (wCons (wC (.str ("n" : Str).cps.toList)) wNil))) (wCons (wTup (wCons (wC (.int 1)) (wCons (wC (.int 1)) wNil))) (wCons (wTup (wCons (wC (.str ("first" : Str).cps.toList)) wNil)) (wCons (wC (.str ("F" : Str).cps.toList)) wNil)))))))))))
  (wRet (wCall G_of (wCons (wVar 0) (wCons (wVar 1) wNil)))))))
def G_odd : Fn := fun ds n Q => ds = [.pot] ∧ n + 1 ≤ 1000000 ∧ ∀ d, shB d = true → szD d ≤ 20 → dpD d ≤ 2 → Q d (n + 1)
def oddB (d : Dat) : Bool := shB d && (decide (szD d ≤ 20) && decide (dpD d ≤ 2))
theorem B_odd {ds : List Dat} {n : Nat} {QD : Dat → Nat → Prop} (h : G_odd ds n QD) : bodyP 2 L_odd ds n QD := by
  obtain ⟨rfl, hn, h⟩ := h
  unfold L_odd
  walk_at "lits"
  walk_at "w"
  refine ⟨by simp, ?_⟩
  refine ⟨_, _, rfl, rfl, by decide, by decide, by omega, fun d hd => ⟨n + 1, Nat.le_refl _, hn, ?_⟩⟩
  have key : oddB d = true := List.all_eq_true.mp (by decide +kernel) d hd
  simp only [oddB, Bool.and_eq_true, decide_eq_true_eq] at key
  exact h d key.1 key.2.1 key.2.2
def L_some : WS := (wSeq (wParOO 3 4 (wCBF aListOf (wCons (wVar 1) wNil)) (wLst wNil))
  (wSeq (wFor (wRng1 (wCons (wVar 2) wNil)) (wgN 5) (wApp 4 (wPopAt 3 (wCall G_take (wCons (wVar 0) (wCons (wOwnLen 3) wNil))))))
  (wRet (wVar 4))))
def G_some : Fn := fun ds n Q => ∃ (l : List Dat) (m : Nat), ds = [.pot, .lst l, .int m] ∧ m ≤ l.length ∧ l.length ≤ 1000 ∧ n + m ≤ 1000000 ∧ ∀ r, r.length = m → (∀ x ∈ r, x ∈ l) → Q (.lst r) (n + m)
theorem B_some {ds : List Dat} {n : Nat} {QD : Dat → Nat → Prop} (h : G_some ds n QD) : bodyP 6 L_some ds n QD := by
  obtain ⟨l, m, rfl, hm, hl, hn, h⟩ := h
  unfold L_some
  walk_at "w"
  refine ⟨by omega, by omega, ?_⟩
  rw [Int.toNat_natCast]
  refine forW_at _ (fun i S => ∃ (a r : List Dat) (s5 : Sl), S = ⟨[.im .pot, .im (.lst l), .im (.int m), .ow a, .ow r, s5], n + i⟩ ∧ a.length + i = l.length ∧ r.length = i ∧ (∀ x ∈ a, x ∈ l) ∧ ∀ x ∈ r, x ∈ l) _ ?_ ⟨l, [], _, rfl, rfl, rfl, fun _ z => z, fun _ z => nomatch z⟩ ?_
  · rintro i d S hd ⟨a, r, s5, rfl, ha, hr, h1, h2⟩ N hN
    obtain ⟨hi, rfl⟩ := intsD_get hd
    walk_at "w"
    refine ⟨a.length, rfl, by omega, by omega, by omega, fun j j0 j1 => ?_⟩
    have hj : j.toNat < a.length := by omega
    obtain ⟨x, hx⟩ : ∃ x, a[j.toNat]? = some x := ⟨_, List.getElem?_eq_getElem hj⟩
    have hxa : x ∈ a := List.mem_of_getElem? hx
    refine ⟨j.toNat, x, by omega, hx, by omega, by omega, hN _ ⟨a.eraseIdx j.toNat, r ++ [x], _, rfl, ?_, by simp [hr], fun y hy => h1 y (List.mem_of_mem_eraseIdx hy), fun y hy => ?_⟩⟩
    · rw [List.length_eraseIdx, if_pos hj]
      omega
    · rcases List.mem_append.mp hy with z | z
      · exact h2 y z
      · rw [List.mem_singleton.mp z]
        exact h1 x hxa
  · rintro S ⟨a, r, s5, rfl, ha, hr, h1, h2⟩
    have e : (intsD 0 m).length = m := by simp [intsD]
    rw [e] at ha hr ⊢
    walk_at "w"
    exact ⟨n + m, Nat.le_refl _, hn, h r hr h2⟩

def G_bent_text : Fn := fun ds n Q => False
/-- what is bent -/
def Bn : Nat → Dat → Prop
  | 0, _ => False
  | d + 1, v => match v with
    | .str z => Lets z ∧ z.length ≤ 300
    | .int i => -1000000000 ≤ i ∧ i ≤ 1000000000
    | .tup l => l.length ≤ 1000 ∧ ∀ y ∈ l, Bn d y
    | _ => False
theorem lets_pl {z : List Nat} (h : Lets z) : (z.all fun c => decide (c < 1114112)) = true := by
  rw [List.all_eq_true]
  intro c hc
  have := h c hc
  simp only [decide_eq_true_eq]
  omega
theorem Bn.pl (b : Bool) : ∀ {d : Nat} {v : Dat}, Bn d v → plD b v = true
  | d + 1, .str z, h => lets_pl h.1
  | d + 1, .int i, h => by
    have h' : -1000000000 ≤ i ∧ i ≤ 1000000000 := h
    simp [plD]
    omega
  | d + 1, .tup l, h => by
    have h' : l.length ≤ 1000 ∧ ∀ y ∈ l, Bn d y := h
    simp only [plD]
    exact plDs_of fun x hx => Bn.pl b (h'.2 x hx)
/-- what comes of bending v -/
structure RB (v r : Dat) : Prop where
  pl : plD true r = true ∨ plD false r = true
  sz : szD r ≤ 2 * szD v + 60
  dp : dpD r ≤ dpD v + 3
theorem RB.both {v r : Dat} (h : ∀ b, plD b r = true) (h1 : szD r ≤ 2 * szD v + 60) (h2 : dpD r ≤ dpD v + 3) : RB v r := ⟨.inl (h true), h1, h2⟩
def G_bent (d : Nat) : Fn := fun ds n Q => ∃ v, ds = [.pot, v] ∧ Bn d v ∧ d ≤ 10 ∧ szD v ≤ 5000 ∧ n + 8 * d ≤ 1000000 ∧ ∀ r, RB v r → Q r (n + 8 * d)
theorem G_bent_zero {ds : List Dat} {n : Nat} {QD : Dat → Nat → Prop} (h : G_bent 0 ds n QD) : False := by
  obtain ⟨v, _, h, _⟩ := h
  exact h
def L_bent (d : Nat) : WS := (wSeq (wIfS (wAnd (wTest (wCB aIsi (wCons (wVar 1) (wCons (wC (.ty "tuple")) wNil)))) (wAnd (wTest (wOp aNe (wVar 1) (wTup wNil))) (wTest (wOp aGt (wCall G_take (wCons (wVar 0) (wCons (wC (.int 6)) wNil))) (wC (.int 0)))))) (wSeq (wAsg (wCall G_take (wCons (wVar 0) (wCons (wCB aLen (wCons (wVar 1) wNil)) wNil))) (wgN 2))
  (wRet (wOp aAdd (wOp aAdd (wSl cutDd (wVar 1) wNone (wPart (wVar 2))) (wTup (wCons (wCall (G_bent d) (wCons (wVar 0) (wCons (wOp aIx (wVar 1) (wVar 2)) wNil))) wNil))) (wSl cutDd (wVar 1) (wPart (wOp aAdd (wVar 2) (wC (.int 1)))) wNone)))) wNext)
  (wSeq (wIfS (wTest (wCB aIsi (wCons (wVar 1) (wCons (wC (.ty "tuple")) wNil)))) (wSeq (wAsg (wFz (wLst (wCons (wFz (wCBF aListOf (wCons (wVar 1) wNil))) (wCons (wSl cutDd (wVar 1) (wPart (wC (.int 1))) wNone) (wCons (wSl cutDd (wVar 1) wNone (wPart (wUn aNeg (wC (.int 1))))) (wCons (wOp aAdd (wVar 1) (wSl cutDd (wVar 1) (wPart (wUn aNeg (wC (.int 1)))) wNone)) (wCons (wRevT (wVar 1) (wUn aNeg (wC (.int 1)))) (wCons (wTup wNil) (wCons (wC .non) (wCons (wOp aAdd (wVar 1) (wTup (wCons (wC (.int 0)) wNil))) wNil)))))))))) (wgN 3))
  (wRet (wCall G_of (wCons (wVar 0) (wCons (wVar 3) wNil))))) wNext)
  (wSeq (wIfS (wTest (wCB aIsi (wCons (wVar 1) (wCons (wC (.ty "bool")) wNil)))) (wRet (wCall G_of (wCons (wVar 0) (wCons (wFz (wLst (wCons (wNotV (wVar 1)) (wCons (wCB aInt (wCons (wVar 1) wNil)) (wCons (wC .non) wNil))))) wNil)))) wNext)
  (wSeq (wIfS (wTest (wCB aIsi (wCons (wVar 1) (wCons (wC (.ty "int")) wNil)))) (wRet (wCall G_of (wCons (wVar 0) (wCons (wFz (wLst (wCons (wOp aAdd (wVar 1) (wC (.int 1))) (wCons (wOp aSub (wVar 1) (wC (.int 1))) (wCons (wOp aEq (wVar 1) (wC (.int 1))) (wCons (wUn aNeg (wVar 1)) (wCons (wCB aStrI (wCons (wOp aMod (wCB aInt (wCons (wVar 1) wNil)) (wOp aPow (wC (.int 10)) (wC (.int 6)))) wNil)) (wCons (wC .non) (wCons (wTup (wCons (wVar 1) wNil)) wNil))))))))) wNil)))) wNext)
  (wSeq (wIfS (wAnd (wTest (wCB aIsi (wCons (wVar 1) (wCons (wC (.ty "str")) wNil)))) (wTest (wOp aIn (wC (.str ("\n" : Str).cps.toList)) (wVar 1)))) (wRet (wCall G_bent_text (wCons (wVar 0) (wCons (wVar 1) wNil)))) wNext)
  (wSeq (wIfS (wAnd (wTest (wCB aIsi (wCons (wVar 1) (wCons (wC (.ty "str")) wNil)))) (wTest (wOp aNe (wVar 1) (wC (.str ("" : Str).cps.toList))))) (wSeq (wAsg (wCall G_take (wCons (wVar 0) (wCons (wCB aLen (wCons (wVar 1) wNil)) wNil))) (wgN 2))
  (wSeq (wAsg (wFz (wLc (wAnyIt (wCall G_some (wCons (wVar 0) (wCons (wFz (wCBF aListOf (wCons (wC (.str ("nfsax01 ;" : Str).cps.toList)) wNil))) (wCons (wC (.int 4)) wNil))))) [4] (wgN 4) wYes (wOp aAdd (wOp aAdd (wSl cutDd (wVar 1) wNone (wPart (wVar 2))) (wVar 4)) (wSl cutDd (wVar 1) (wPart (wOp aAdd (wVar 2) (wC (.int 1)))) wNone)))) (wgN 3))
  (wRet (wCall G_of (wCons (wVar 0) (wCons (wOp aAdd (wVar 3) (wFz (wLst (wCons (wOp aAdd (wVar 1) (wC (.str ("a" : Str).cps.toList))) (wCons (wSl cutDd (wVar 1) (wPart (wC (.int 1))) wNone) (wCons (wUpper (wVar 1)) (wCons (wFz (wLst (wCons (wVar 1) wNil))) (wCons (wC .non) (wCons (wTup (wCons (wVar 1) wNil)) wNil))))))))) wNil)))))) wNext)
  (wRet (wCall G_odd (wCons (wVar 0) wNil)))))))))
theorem intT_pl {i : Int} (h : -1000000000000 < i ∧ i < 1000000000000) : ((intT i).all fun c => decide (c < 1114112)) = true ∧ (intT i).length ≤ 13 := by
  constructor
  · unfold intT
    rw [Str.ofString_eq_toList]
    simp only [List.all_eq_true, decide_eq_true_eq]
    intro c hc
    obtain ⟨x, _, rfl⟩ : ∃ x ∈ (toString i).toList, x.toNat = c := by simpa using hc
    have := x.valid
    unfold UInt32.isValidChar Nat.isValidChar at this
    show x.val.toNat < 1114112
    omega
  · have := int_short h
    have e : (intT i).length = (Str.ofString (toString i)).length := by
      unfold intT Str.length
      rw [Array.length_toList]
    rw [e]
    exact this
theorem Bn.nice : ∀ {d : Nat} {v : Dat}, Bn d v → nice d v = true
  | d + 1, .str z, h => by
    rw [nice_str]
    exact okStr_lets h.1
  | d + 1, .int i, h => nice_int
  | d + 1, .tup l, h => by
    rw [nice_tup, List.all_eq_true]
    exact fun y hy => Bn.nice (h.2 y hy)
theorem szDs_split {l : List Dat} {a : Nat} {x : Dat} (h : l[a]? = some x) : l = l.take a ++ x :: l.drop (a + 1) := by
  have hl := (List.getElem?_eq_some_iff.mp h).1
  have e : l[a] = x := (List.getElem?_eq_some_iff.mp h).2
  rw [← e, ← List.drop_eq_getElem_cons hl, List.take_append_drop]
theorem dp_sub {l m : List Dat} (h : ∀ x ∈ m, x ∈ l) : dpDs m ≤ dpDs l := dpDs_le fun x hx => dpD_mem x (h x hx)
theorem sz_take (l : List Dat) (k : Nat) : szDs (l.take k) + szDs (l.drop k) = szDs l := by
  rw [← szDs_app, List.take_append_drop]
theorem B_bent {d : Nat} {ds : List Dat} {n : Nat} {QD : Dat → Nat → Prop} (h : G_bent (d + 1) ds n QD) : bodyP 5 (L_bent d) ds n QD := by
  obtain ⟨v, rfl, hb, hd, hs, hn, h⟩ := h
  have fin : ∀ r m, RB v r → m ≤ n + 8 * (d + 1) → ∃ m', m ≤ m' ∧ m' ≤ 1000000 ∧ QD r m' := fun r m hr hm => ⟨n + 8 * (d + 1), hm, hn, h r hr⟩
  unfold L_bent
  cases v with
  | int i =>
    have hi : -1000000000 ≤ i ∧ i ≤ 1000000000 := hb
    walk_at "lits"
    walk_at "w"
    have e6 : (10 : Int) ^ 6 = 1000000 := by decide
    rw [e6]
    refine ⟨by decide, by omega, _, _, rfl, rfl, by simp, by simp, by omega, fun r hr => fin r _ ?_ (by omega)⟩
    obtain ⟨t1, t2⟩ := intT_pl (i := i % 1000000) (by omega)
    simp only [List.mem_cons, List.not_mem_nil, or_false] at hr
    rcases hr with rfl | rfl | rfl | rfl | rfl | rfl | rfl
    · exact .both (fun b => by simp [plD]; omega) (by simp [szD]) (by simp [dpD])
    · exact .both (fun b => by simp [plD]; omega) (by simp [szD]) (by simp [dpD])
    · exact .both (fun b => by simp [plD]) (by simp [szD]) (by simp [dpD])
    · exact .both (fun b => by simp [plD]; omega) (by simp [szD]) (by simp [dpD])
    · exact .both (fun b => t1) (by simp only [szD]; omega) (by simp [dpD])
    · exact .both (fun b => by simp [plD]) (by simp [szD]) (by simp [dpD])
    · exact .both (fun b => by simp [plD, plDs]; omega) (by simp [szD, szDs]) (by simp [dpD, dpDs])
  | str z =>
    have hz : Lets z ∧ z.length ≤ 300 := hb
    have pz := lets_pl hz.1
    walk_at "lits"
    walk_at "w"
    have no : ¬ 10 ∈ z := fun q => by
      have := hz.1 10 q
      omega
    rw [if_neg no]
    by_cases c1 : z = []
    · subst c1
      simp only [decide_true, Bool.not_true, Bool.false_eq_true, if_false]
      refine ⟨rfl, by omega, fun r r1 r2 r3 => fin r _ ⟨(shB_ok r1).pl, by omega, by omega⟩ (by omega)⟩
    · have c2 : (!decide (z = [])) = true := by simp [c1]
      rw [if_pos c2]
      have hp := List.length_pos_iff.mpr c1
      refine ⟨by omega, z.length, rfl, by omega, by omega, by omega, fun a a0 a1 => ⟨_, 4, rfl, by simp [signsD], by simp [signsD], by omega, fun r hr hm => ?_⟩⟩
      walk_at "w"
      refine lcW_map (fun d => match d with | .str s => .str (z.take a.toNat ++ s ++ z.drop (a.toNat + 1)) | _ => .non) _ _ (by omega) (fun x hx R R0 hR => ?_) ?_
      · obtain ⟨c, hc, rfl⟩ := List.mem_map.mp (hm x hx)
        walk_at "w"
        rw [cutN_hi a0, cutN_lo (by omega), show (a + 1).toNat = a.toNat + 1 by omega]
        refine ⟨by omega, by simp; omega, by omega, by simp; omega, hR⟩
      · walk_at "w"
        rw [cutN_lo (by decide)]
        refine ⟨by omega, by omega, fun c hc => by have := hz.1 c hc; omega, by omega, by simp; omega, _, _, rfl, rfl, by simp, by simp; omega, by omega, fun q hq => fin q _ ?_ (by omega)⟩
        have sub : ∀ m : List Nat, (∀ c ∈ m, c ∈ z ∨ c ∈ [110, 102, 115, 97, 120, 48, 49, 32, 59]) → ∀ b, plD b (.str m) = true := fun m hm b => by
          show (m.all fun c => decide (c < 1114112)) = true
          rw [List.all_eq_true]
          intro c hc
          simp only [decide_eq_true_eq]
          rcases hm c hc with w | w
          · have := hz.1 c w
            omega
          · simp at w
            omega
        rcases List.mem_append.mp hq with q1 | q1
        · obtain ⟨y, hy, rfl⟩ := List.mem_map.mp q1
          obtain ⟨c, hc, rfl⟩ := List.mem_map.mp (hm y hy)
          refine .both (sub _ fun k hk => ?_) (by simp only [szD]; simp; omega) (by simp [dpD])
          rcases List.mem_append.mp hk with w | w
          · rcases List.mem_append.mp w with w | w
            · exact .inl (List.mem_of_mem_take w)
            · rw [List.mem_singleton.mp w]
              exact .inr hc
          · exact .inl (List.mem_of_mem_drop w)
        · simp only [List.mem_cons, List.not_mem_nil, or_false] at q1
          rcases q1 with rfl | rfl | rfl | rfl | rfl | rfl
          · refine .both (sub _ fun k hk => ?_) (by simp only [szD]; simp; omega) (by simp [dpD])
            rcases List.mem_append.mp hk with w | w
            · exact .inl w
            · rw [List.mem_singleton.mp w]
              simp
          · exact .both (sub _ fun k hk => .inl (List.mem_of_mem_drop hk)) (by simp only [szD]; simp; omega) (by simp [dpD])
          · refine .both (fun b => ?_) (by simp only [szD]; simp; omega) (by simp [dpD])
            show ((z.map (· - 32)).all fun c => decide (c < 1114112)) = true
            rw [List.all_eq_true]
            intro c hc
            obtain ⟨e, he, rfl⟩ := List.mem_map.mp hc
            have := hz.1 e he
            simp only [decide_eq_true_eq]
            omega
          · exact ⟨.inl (by simp only [plD, plDs, Bool.true_and, Bool.and_true]; exact pz), by simp only [szD, szDs]; omega, by simp [dpD, dpDs]⟩
          · exact .both (fun b => by simp [plD]) (by simp [szD]) (by simp [dpD])
          · exact .both (fun b => by simp only [plD, plDs, Bool.and_true]; exact pz) (by simp only [szD, szDs]; omega) (by simp [dpD, dpDs])
  | tup l =>
    have hl : l.length ≤ 1000 ∧ ∀ y ∈ l, Bn d y := hb
    have pl : ∀ b, ∀ y ∈ l, plD b y = true := fun b y hy => (hl.2 y hy).pl b
    have ni := Bn.nice hb
    simp only [szD] at hs
    have base : ∀ n', n' ≤ n + 1 → l.length + (cutN l (some (-1)) none).length ≤ 1000000 ∧ l.length ≤ 999999 ∧ G_of [.pot, .lst [.lst l, .tup (cutN l (some 1) none), .tup (cutN l none (some (-1))), .tup (l ++ cutN l (some (-1)) none), .tup l.reverse, .tup [], .non, .tup (l ++ [.int 0])]] n' fun d n' => ∃ m, n' ≤ m ∧ m ≤ 1000000 ∧ QD d m := fun n' hn' => by
      rw [cutN_last, cutN_lo (by decide), cutN_butlast]
      refine ⟨by simp; omega, by omega, _, _, rfl, rfl, by simp, by simp, by omega, fun r hr => fin r _ ?_ (by omega)⟩
      have t1 := sz_take l 1
      have t2 := sz_take l (l.length - 1)
      have sub : ∀ m : List Dat, (∀ x ∈ m, x ∈ l) → ∀ b, plDs b m = true := fun m hm b => plDs_of fun x hx => pl b x (hm x hx)
      have dr : ∀ k, ∀ x ∈ l.drop k, x ∈ l := fun k x hx => List.mem_of_mem_drop hx
      have tk : ∀ k, ∀ x ∈ l.take k, x ∈ l := fun k x hx => List.mem_of_mem_take hx
      simp only [List.mem_cons, List.not_mem_nil, or_false] at hr
      rcases hr with rfl | rfl | rfl | rfl | rfl | rfl | rfl | rfl
      · exact ⟨.inl (by simp only [plD, Bool.true_and]; exact sub l (fun _ z => z) true), by simp only [szD]; omega, by simp only [dpD]; omega⟩
      · exact .both (fun b => sub _ (dr 1) b) (by simp only [szD]; show szDs (l.drop 1) ≤ _; omega) (by simp only [dpD]; have := dp_sub (dr 1); show dpDs (l.drop 1) + 1 ≤ _; omega)
      · exact .both (fun b => sub _ (tk _) b) (by simp only [szD]; omega) (by simp only [dpD]; have := dp_sub (tk (l.length - 1)); omega)
      · refine .both (fun b => sub _ (fun x hx => ?_) b) (by simp only [szD, szDs_app]; omega) (by simp only [dpD, dpDs_app]; have := dp_sub (dr (l.length - 1)); omega)
        rcases List.mem_append.mp hx with q | q
        · exact q
        · exact dr _ _ q
      · exact .both (fun b => sub _ (fun x hx => List.mem_reverse.mp hx) b) (by simp only [szD, szDs_rev]; omega) (by simp only [dpD]; have := dp_sub (l := l) (m := l.reverse) (fun x hx => List.mem_reverse.mp hx); omega)
      · exact .both (fun b => by simp [plD, plDs]) (by simp [szD, szDs]) (by simp [dpD, dpDs])
      · exact .both (fun b => by simp [plD]) (by simp [szD]) (by simp [dpD])
      · refine .both (fun b => ?_) (by simp only [szD, szDs_app, szDs]; omega) (by simp only [dpD, dpDs_app, dpDs]; omega)
        exact plDs_of fun x hx => by
          rcases List.mem_append.mp hx with q | q
          · exact pl b x q
          · rw [List.mem_singleton.mp q]
            simp [plD]
    walk_at "lits"
    walk_at "w"
    have nn : nice (d + 1) (.tup []) = true := by simp [nice_tup]
    refine ⟨cmpOk_nice ni (by omega), cmpOk_nice nn (by omega), ?_⟩
    by_cases c1 : l = []
    · subst c1
      exact nedN ni nn rfl (base n (by omega))
    · refine nedT ni nn (fun e => c1 (by injection e)) ?_
      refine ⟨6, rfl, by decide, by decide, by omega, fun r r0 r1 => ?_⟩
      walk_at "w"
      split
      · have hp := List.length_pos_iff.mpr c1
        refine ⟨l.length, rfl, by omega, by omega, by omega, fun a a0 a1 => ?_⟩
        have ha : a.toNat < l.length := by omega
        obtain ⟨x, hx⟩ : ∃ x, l[a.toNat]? = some x := ⟨_, List.getElem?_eq_getElem ha⟩
        have hxl := List.mem_of_getElem? hx
        walk_at "w"
        refine ⟨x, by rw [atI_pos a0]; exact hx, x, rfl, hl.2 x hxl, by omega, by have := szD_mem x hxl; omega, by omega, fun q hq => ?_⟩
        walk_at "w"
        rw [cutN_hi a0, cutN_lo (by omega), show (a + 1).toNat = a.toNat + 1 by omega]
        refine ⟨by simp; omega, by simp; omega, fin _ _ ?_ (by omega)⟩
        have es := szDs_split hx
        have z1 : szDs l = szDs (l.take a.toNat) + (szD x + 1 + szDs (l.drop (a.toNat + 1))) := by
          rw [← show szDs (x :: l.drop (a.toNat + 1)) = szD x + 1 + szDs (l.drop (a.toNat + 1)) from rfl, ← szDs_app, ← es]
        have h1 := hq.sz
        have h2 := hq.dp
        have h3 := dpD_mem x hxl
        have h4 := dp_sub (l := l) (m := l.take a.toNat) fun y hy => List.mem_of_mem_take hy
        have h5 := dp_sub (l := l) (m := l.drop (a.toNat + 1)) fun y hy => List.mem_of_mem_drop hy
        have pb : ∀ b, plD b q = true → plD b (.tup (l.take a.toNat ++ [q] ++ l.drop (a.toNat + 1))) = true := fun b hb => by
          simp only [plD]
          refine plDs_of fun y hy => ?_
          rcases List.mem_append.mp hy with z | z
          · rcases List.mem_append.mp z with z | z
            · exact pl b y (List.mem_of_mem_take z)
            · rw [List.mem_singleton.mp z]
              exact hb
          · exact pl b y (List.mem_of_mem_drop z)
        refine ⟨hq.pl.imp (pb true) (pb false), ?_, ?_⟩
        · simp only [szD, szDs_app, szDs]
          omega
        · simp only [dpD, dpDs_app, dpDs]
          omega
      · exact base (n + 1) (by omega)
  | _ => exact hb.elim

/-! ### checks that refuse -/
def L_check_lossX : WS := (wIfS (wNot (wTest (wCall G_is_lossG (wCons (wVar 0) wNil)))) (wRaise "BadLoss" (wCons (wVar 0) wNil)) wNext)
def G_check_lossX : FnX := fun ds n Q X => ∃ d, ds = [d] ∧ ShOk d ∧ (isLossB d = true → Q .non n) ∧ (isLossB d = false → X "BadLoss" d n)
theorem B_check_lossX {ds : List Dat} {n : Nat} {QD : Dat → Nat → Prop} {XD : Str → Dat → Nat → Prop} (h : G_check_lossX ds n QD XD) : bodyX 1 L_check_lossX ds n QD XD := by
  obtain ⟨d, rfl, h1, h2, h3⟩ := h
  unfold L_check_lossX
  walk_at "w"
  refine ⟨d, rfl, h1, ?_⟩
  cases c : isLossB d with
  | true => walk_at "w"; exact h2 c
  | false => walk_at "w"; exact h3 c
def L_check_roundsX : WS := (wIfS (wNot (wTest (wCall G_integerG (wCons (wVar 0) (wCons (wC (.int 0)) (wCons (wVar 1) wNil)))))) (wRaise "BadNumber" (wCons (wVar 0) wNil)) wNext)
def G_check_roundsX : FnX := fun ds n Q X => ∃ d hi, ds = [d, .int hi] ∧ ShOk d ∧ (intOf 0 hi d = true → Q .non n) ∧ (intOf 0 hi d = false → X "BadNumber" d n)
theorem B_check_roundsX {ds : List Dat} {n : Nat} {QD : Dat → Nat → Prop} {XD : Str → Dat → Nat → Prop} (h : G_check_roundsX ds n QD XD) : bodyX 2 L_check_roundsX ds n QD XD := by
  obtain ⟨d, hi, rfl, h1, h2, h3⟩ := h
  unfold L_check_roundsX
  walk_at "w"
  refine ⟨d, 0, hi, rfl, h1, ?_⟩
  cases c : intOf 0 hi d with
  | true => walk_at "w"; exact h2 c
  | false => walk_at "w"; exact h3 c
def L_leastX : WS := (wSeq (wDropX G_check_lossX (wCons (wVar 0) wNil))
  (wRet (wCall G_least_of (wCons (wOp aIx (wVar 0) (wC (.int 0))) (wCons (wOp aIx (wVar 0) (wC (.int 1))) wNil)))))
def G_leastX : FnX := fun ds n Q X => ∃ d, ds = [d] ∧ ShOk d ∧ (isLossB d = false → X "BadLoss" d n) ∧ ∀ x c, d = lossD x c → Loss x c → ∀ a b, Least (lt x c) a b → a ≤ x.length → b ≤ c.length → Q (leastD (lt x c) a b) n
theorem B_leastX {ds : List Dat} {n : Nat} {QD : Dat → Nat → Prop} {XD : Str → Dat → Nat → Prop} (h : G_leastX ds n QD XD) : bodyX 1 L_leastX ds n QD XD := by
  obtain ⟨d, rfl, h1, h2, h3⟩ := h
  unfold L_leastX
  walk_at "w"
  refine ⟨d, rfl, h1, fun q => ?_, h2⟩
  obtain ⟨x, c, rfl, hl⟩ := loss_of q
  have := hl.lh
  have := hl.lc
  unfold lossD
  walk_at "w"
  exact ⟨x, c, rfl, hl.ne, by omega, by omega, fun a b l ha hb => h3 x c rfl hl a b l ha hb⟩

theorem isLossB_loss {x c : List Nat} (hl : Loss x c) : isLossB (lossD x c) = true := by
  have e : ∀ {z : List Nat}, Lets z → z.all isLc = true := fun {z} h => by
    rw [List.all_eq_true]
    intro k hk
    have := h k hk
    simp [isLc]
    omega
  have h1 := hl.lh
  have h2 := hl.lc
  have h3 := c_pos hl.ne
  unfold lossD isLossB lettersOf
  simp only [e hl.hh, e hl.hc, Bool.and_true, Bool.and_eq_true, decide_eq_true_eq]
  omega
theorem sh_loss {x c : List Nat} (hl : Loss x c) : ShOk (lossD x c) := by
  have h1 := hl.lh
  have h2 := hl.lc
  refine ⟨.inl ?_, by simp only [lossD, szD, szDs]; omega, by simp [lossD, dpD, dpDs]⟩
  simp only [lossD, plD, plDs, Bool.and_true, Bool.and_eq_true]
  exact ⟨lets_pl hl.hh, lets_pl hl.hc⟩
theorem sh_int {i : Int} (h : -1000000000000 < i ∧ i < 1000000000000) : ShOk (.int i) := ⟨.inl (decide_eq_true h), by simp [szD], by simp [dpD]⟩
def L_check_lossP : WS := (wIfS (wNot (wTest (wCall G_is_lossG (wCons (wVar 0) wNil)))) wNever wNext)
abbrev G_check_lossP : Fn := G_check_loss
theorem B_check_lossP {ds : List Dat} {n : Nat} {QD : Dat → Nat → Prop} (h : G_check_lossP ds n QD) : bodyW 1 L_check_lossP ds n QD := by
  obtain ⟨x, c, rfl, hl, h⟩ := h
  unfold L_check_lossP
  walk_at "w"
  refine ⟨_, rfl, sh_loss hl, ?_⟩
  rw [isLossB_loss hl]
  walk_at "w"
  exact h
def L_letters_ofP : WS := (wSeq (wDrop (wCall G_check_lossP (wCons (wVar 0) wNil)))
  (wSeq (wIfS (wNot (wTest (wCall G_integerG (wCons (wVar 1) (wCons (wC (.int 0)) (wCons (wC (.int 200)) wNil)))))) wNever wNext)
  (wRet (wCall G_first (wCons (wVar 0) (wCons (wVar 1) wNil))))))
abbrev G_letters_ofP : Fn := G_letters_of
theorem B_letters_ofP {ds : List Dat} {n : Nat} {QD : Dat → Nat → Prop} (h : G_letters_ofP ds n QD) : bodyW 2 L_letters_ofP ds n QD := by
  obtain ⟨x, c, m, rfl, hl, hm, h⟩ := h
  unfold L_letters_ofP
  walk_at "w"
  refine ⟨x, c, rfl, hl, _, 0, 200, rfl, sh_int (by omega), ?_⟩
  have e : intOf 0 200 (.int (m : Nat)) = true := by
    unfold intOf
    simp
    omega
  rw [e]
  walk_at "w"
  exact ⟨x, c, m, rfl, hl.ne, by have := hl.lh; have := hl.lc; omega, h⟩

def L_is_wordG : WS := (wRet (wCall G_lettersG (wCons (wVar 0) (wCons (wC (.int 0)) (wCons (wC (.int 200)) wNil)))))
def G_is_wordG : Fn := fun ds n Q => ∃ d, ds = [d] ∧ ShOk d ∧ Q (.bl (lettersOf 0 200 d)) n
theorem B_is_wordG {ds : List Dat} {n : Nat} {QD : Dat → Nat → Prop} (h : G_is_wordG ds n QD) : bodyW 1 L_is_wordG ds n QD := by
  obtain ⟨d, rfl, h1, h⟩ := h
  unfold L_is_wordG
  walk_at "w"
  exact ⟨d, 0, 200, rfl, h1, by decide, h⟩
theorem lettersOf_ok {z : List Nat} {lo hi : Int} (h : Lets z) (h1 : lo ≤ z.length) (h2 : (z.length : Int) ≤ hi) : lettersOf lo hi (.str z) = true := by
  have e : z.all isLc = true := by
    rw [List.all_eq_true]
    intro k hk
    have := h k hk
    simp [isLc]
    omega
  unfold lettersOf
  simp [e, h1, h2]
def L_check_wordP : WS := (wIfS (wNot (wTest (wCall G_is_wordG (wCons (wVar 0) wNil)))) wNever wNext)
abbrev G_check_wordP : Fn := G_check_word
theorem B_check_wordP {ds : List Dat} {n : Nat} {QD : Dat → Nat → Prop} (h : G_check_wordP ds n QD) : bodyW 1 L_check_wordP ds n QD := by
  obtain ⟨z, rfl, h1, h2, h⟩ := h
  unfold L_check_wordP
  walk_at "w"
  refine ⟨_, rfl, ⟨.inl (lets_pl h1), by simp only [szD]; omega, by simp [dpD]⟩, ?_⟩
  rw [lettersOf_ok h1 (by omega) (by omega)]
  walk_at "w"
  exact h

def L_check_wordX : WS := (wIfS (wNot (wTest (wCall G_is_wordG (wCons (wVar 0) wNil)))) (wRaise "BadWord" (wCons (wVar 0) wNil)) wNext)
def G_check_wordX : FnX := fun ds n Q X => ∃ d, ds = [d] ∧ ShOk d ∧ (lettersOf 0 200 d = true → Q .non n) ∧ (lettersOf 0 200 d = false → X "BadWord" d n)
theorem B_check_wordX {ds : List Dat} {n : Nat} {QD : Dat → Nat → Prop} {XD : Str → Dat → Nat → Prop} (h : G_check_wordX ds n QD XD) : bodyX 1 L_check_wordX ds n QD XD := by
  obtain ⟨d, rfl, h1, h2, h3⟩ := h
  unfold L_check_wordX
  walk_at "w"
  refine ⟨d, rfl, h1, ?_⟩
  cases c : lettersOf 0 200 d with
  | true => walk_at "w"; exact h2 c
  | false => walk_at "w"; exact h3 c

end Dl
-- part M35
set_option Elab.async false
set_option linter.all false
set_option maxRecDepth 100000
set_option maxHeartbeats 4000000
namespace K35
open PySem PySem.Spec PyProof.Rows L2 Evl Dl
variable [LawTabs]

local macro_rules | `(tactic| walk_at "w") => `(tactic| (simp (maxSteps := 3000000) only [↓e_var0, ↓e_var0o, ↓e_varS, ↓e_anyIt, ↓e_par, ↓e_zip, ↓aAdd_i, ↓aAdd_s, ↓aAdd_t, ↓aAdd_l, ↓aMul_i, ↓aMul_s, ↓aMul_l, ↓eqS_i, ↓eqS_s, ↓eqS_b, ↓eqS_nn, ↓eqS_ni, ↓eqS_ns, ↓eqS_nt, ↓eqS_in, ↓eqS_sn, ↓eqS_is, ↓eqS_si, ↓eqS_t, ↓eqS_l, ↓inS_s, ↓inS_t, ↓inS_l, ↓lenD_s, ↓lenD_t, ↓lenD_l, ↓lenD_z, ↓ixD_t, ↓ixD_l, ↓ixD_z, ↓ixD_s, ↓ixD_0, ↓ixD_1, ↓ixD_2, ↓cutDd_s, ↓cutDd_l, ↓cutDd_z, ↓cutDd_t, ↓listD_l, ↓listD_z, ↓itemsD_l, ↓itemsD_t, ↓itemsQ_s, ↓itemsQ_l, ↓itemsQ_z, ↓itemsQ_t, ↓aInt_i, ↓aInt_b, ↓aTupOf_l, ↓aTupOf_t, ↓anyD_l, ↓anyD_z, ↓anyD_t, ↓anyD_s, ↓joinD_l, ↓joinD_t, ↓zipQ_t, ↓zipQ_l, ↓asB_bl, ↓asI_int, ↓as1_one, ↓as2_two, par2,
  bodyW, bodyX, bodyF, bodyP, start0, wRaise, wDropX, wRetX, wAsgX, wRetXN, wAct, wHand, wTryH, wLam, wXv, aIsiC, memN, eqN_of, flOf, capL, capsOk, noPot, noPots, wSeq, wAsg, wOwn, wIfS, wRet, wRetF, wRetO, wRetN, wDrop, wApp, wSet, setW, slotSet, wInc, wNext, wBreak, wContinue, wNever, wC, wOp, wUn, wIf, wTest, wAnd, wOr, wNot, wYes, wAndV, wOrV, wNotV, wChain, wNil, wCons, wTup, wLst, wFz, wCall, wCallF, wCallK, wCallN, wCB, wCBF, wBM, wBM0, tStr, wNone, wPart, wSl, wgN, wgNil, wgCons, wgTup, wFor, wWhile, wLc, wRng1, wRng2, wListRg, wPot, wipeL, restL, keepIm,
  aI0, aII, aNeg, aEq, aNe, aIn, aNotIn, aIsN, aIsNotN, isN, aIsW, aIsNotW, ↓isW_n, ↓isW_bb, ↓isW_nb, wRevS, wRevT, wDNew, wDisp, uC, uVar, uNil, uCons, uCB, wPopAt, wOwnLen, wUpper, aEqE, aIxG, wOwnD, wUpd, wOdV, wOrT, truD, List.isEmpty_cons, List.isEmpty_nil, wCat, wAsgCX, aRepr, aStrI, wParO, wSortK, lcW_nil, lcW_cons, wKIx, wKIn, aAbs, aMax, aMin, aMin1, aMax1, ↓partsD_l, ↓partsD_z, ↓partsD_t, aLen, aSum, aAll, aAny, aIsi, isi, goodTy, aIx, aListOf, idxS, wParOO, wP3, wP3O, wStar, wEnum, wDC, lastAt, wgLst, wExt, wExt.listL, aInDp, aNotInDp, inDp, Nat.reduceBEq,
  List.map_cons, List.map_nil, List.cons_append, List.nil_append, List.length_cons, List.length_nil, List.replicate_succ, List.replicate_zero, Nat.reduceAdd, Nat.reduceSub, List.getElem?_cons_zero, List.getElem?_cons_succ, List.set_cons_zero, List.set_cons_succ, reduceCtorEq, if_true, if_false, Bool.false_eq_true,
  decide_eq_true_eq, kinds, List.contains_cons, List.contains_nil, String.reduceBEq, String.reduceEq, Bool.or_true, Bool.true_or, Bool.or_false, Bool.false_or, Bool.not_true, Bool.not_false, Bool.not_eq_true, decide_true, decide_false, true_and, and_true, Int.reduceLT, Int.reduceLE, Int.reduceNeg, Nat.reduceLeDiff, cmuL, cmuR, cfdS, cpwS, atI_pos, Int.reduceToNat, isBls_nil, isBls_bl, Option.map_some, Option.some.injEq, exists_eq_left', List.all_cons, List.all_nil, id_eq, Bool.and_true, Bool.true_and, beq_self_eq_true]))


theorem lit0 : ("" : Str).cps.toList = [] := by decide +kernel
theorem lit1 : ("1" : Str).cps.toList = [49] := by decide +kernel
theorem lit2 : ("F" : Str).cps.toList = [70] := by decide +kernel
theorem lit3 : ("N" : Str).cps.toList = [78] := by decide +kernel
theorem lit4 : ("\n" : Str).cps.toList = [10] := by decide +kernel
theorem lit5 : ("a" : Str).cps.toList = [97] := by decide +kernel
theorem lit6 : ("distance" : Str).cps.toList = [100, 105, 115, 116, 97, 110, 99, 101] := by decide +kernel
theorem lit7 : ("ends" : Str).cps.toList = [101, 110, 100, 115] := by decide +kernel
theorem lit8 : ("f" : Str).cps.toList = [102] := by decide +kernel
theorem lit9 : ("first" : Str).cps.toList = [102, 105, 114, 115, 116] := by decide +kernel
theorem lit10 : ("fns" : Str).cps.toList = [102, 110, 115] := by decide +kernel
theorem lit11 : ("law" : Str).cps.toList = [108, 97, 119] := by decide +kernel
theorem lit12 : ("n" : Str).cps.toList = [110] := by decide +kernel
theorem lit13 : ("nf" : Str).cps.toList = [110, 102] := by decide +kernel
theorem lit14 : ("nfs" : Str).cps.toList = [110, 102, 115] := by decide +kernel
theorem lit15 : ("nfsax01 ;" : Str).cps.toList = [110, 102, 115, 97, 120, 48, 49, 32, 59] := by decide +kernel
theorem lit16 : ("nfx" : Str).cps.toList = [110, 102, 120] := by decide +kernel
theorem lit17 : ("no" : Str).cps.toList = [110, 111] := by decide +kernel
theorem lit18 : ("number" : Str).cps.toList = [110, 117, 109, 98, 101, 114] := by decide +kernel
theorem lit19 : ("s" : Str).cps.toList = [115] := by decide +kernel
theorem lit20 : ("snf" : Str).cps.toList = [115, 110, 102] := by decide +kernel
theorem lit21 : ("word" : Str).cps.toList = [119, 111, 114, 100] := by decide +kernel
theorem lit22 : ("worths" : Str).cps.toList = [119, 111, 114, 116, 104, 115] := by decide +kernel
theorem lit23 : ("x" : Str).cps.toList = [120] := by decide +kernel
theorem lit24 : ("yes" : Str).cps.toList = [121, 101, 115] := by decide +kernel
local macro_rules | `(tactic| walk_at "lit") => `(tactic| (simp only [lit0, lit1, lit2, lit3, lit4, lit5, lit6, lit7, lit8, lit9, lit10, lit11, lit12, lit13, lit14, lit15, lit16, lit17, lit18, lit19, lit20, lit21, lit22, lit23, lit24]))
--PRE
/-! fractions: two ints -/
abbrev frD (p q : Int) : Dat := .tup [.int p, .int q]
def Bd (k : Nat) (i : Int) : Prop := i.natAbs < 2 ^ k
theorem Bd.mono {j k : Nat} {i : Int} (h : Bd j i) (hk : j ≤ k) : Bd k i := Nat.lt_of_lt_of_le h (Nat.pow_le_pow_right (by decide) hk)
theorem Bd.mul {j k : Nat} {a b : Int} (h : Bd j a) (g : Bd k b) : Bd (j + k) (a * b) := by
  unfold Bd at *
  rw [Int.natAbs_mul, Nat.pow_add]
  exact Nat.mul_lt_mul'' h g
theorem Bd.sub {k : Nat} {a b : Int} (h : Bd k a) (g : Bd k b) : Bd (k + 1) (a - b) := by
  unfold Bd at *
  rw [Nat.pow_succ]
  omega
theorem Bd.add {k : Nat} {a b : Int} (h : Bd k a) (g : Bd k b) : Bd (k + 1) (a + b) := by
  unfold Bd at *
  rw [Nat.pow_succ]
  omega
theorem Bd.log {k : Nat} {a : Int} (h : Bd k a) : a.natAbs.log2 ≤ k := by
  by_cases z : a.natAbs = 0
  · rw [z]; exact Nat.zero_le _
  · exact Nat.le_of_lt ((Nat.log2_lt z).mpr h)
theorem cmuD {j k : Nat} {a b : Int} (h : Bd j a) (g : Bd k b) (hk : j + k < 1000000) : CMu a b := .inr (by
  have := h.log
  have := g.log
  show a.natAbs.log2 + b.natAbs.log2 < 1000000
  omega)
theorem cfdD {k : Nat} {i j : Int} (h0 : 0 < j) (h : Bd k j) (hk : k < 9000) : CFd i j := ⟨h0, by have := h.log; omega⟩
def isFr : Dat → Bool
  | .tup [.int p, .int q] => decide (1 ≤ q) && decide (Int.gcd p q = 1)
  | _ => false
theorem isFr_no {x y : Dat} (h : (Dl.isInt x && Dl.isInt y) = false) : isFr (.tup [x, y]) = false := by
  unfold isFr
  split
  · rename_i e
    injection e with e
    simp only [List.cons.injEq, and_true] at e
    rw [e.1, e.2] at h
    simp [Dl.isInt] at h
  · rfl
theorem isInt_of {x : Dat} (h : Dl.isInt x = true) : ∃ i, x = .int i := by
  cases x <;> simp [Dl.isInt] at h
  exact ⟨_, rfl⟩
theorem gcd1 (i j : Int) : (decide (((Int.gcd i j : Nat) : Int) = 1)) = decide (Int.gcd i j = 1) := decide_eq_decide.mpr (by omega)
theorem isFr_len {l : List Dat} (h : l.length ≠ 2) : isFr (.tup l) = false := by
  unfold isFr
  split
  · rename_i e
    injection e with e
    rw [e] at h
    simp at h
  · rfl
def isEn : Dat → Bool
  | .tup l => (decide (l.length = 2) || (decide (l.length = 4) || (decide (l.length = 10) || (decide (l.length = 28) || (decide (l.length = 82) || decide (l.length = 244)))))) && l.all isFr
  | _ => false
theorem isEn_pow {l : List Dat} (h : isEn (.tup l) = true) : ∃ m, m ≤ 5 ∧ l.length = 3 ^ m + 1 ∧ ∀ x ∈ l, isFr x = true := by
  unfold isEn at h
  simp only [Bool.and_eq_true, Bool.or_eq_true, decide_eq_true_eq, List.all_eq_true] at h
  obtain ⟨h1, h2⟩ := h
  rcases h1 with q | q | q | q | q | q
  · exact ⟨0, by decide, q, h2⟩
  · exact ⟨1, by decide, q, h2⟩
  · exact ⟨2, by decide, q, h2⟩
  · exact ⟨3, by decide, q, h2⟩
  · exact ⟨4, by decide, q, h2⟩
  · exact ⟨5, by decide, q, h2⟩
theorem pow_isEn {l : List Dat} {m : Nat} (hm : m ≤ 5) (hl : l.length = 3 ^ m + 1) : isEn (.tup l) = l.all isFr := by
  have : m = 0 ∨ m = 1 ∨ m = 2 ∨ m = 3 ∨ m = 4 ∨ m = 5 := by omega
  rcases this with rfl | rfl | rfl | rfl | rfl | rfl <;> simp [isEn, hl]
theorem isEn_tup {d : Dat} (c : isEn d = true) : ∃ l, d = .tup l := by
  unfold isEn at c
  split at c
  · exact ⟨_, rfl⟩
  · cases c
theorem isBls_fr : ∀ l : List Dat, ∃ bs, isBls (l.map fun x => Dat.bl (isFr x)) = some bs ∧ bs.all id = l.all isFr
  | [] => ⟨[], rfl, rfl⟩
  | x :: l => by
    obtain ⟨bs, h1, h2⟩ := isBls_fr l
    refine ⟨isFr x :: bs, ?_, by simp [h2]⟩
    rw [List.map_cons, isBls_bl, h1]
    rfl
def d_BACK : Dat := .tup [.str [115, 110, 102], .str [102, 110, 115]]
def d_THIRD : Dat := .tup [.int (1), .int (3)]
def k_near_0_word_worths_D : List Dat → List Dat → List Dat := fun ds es => [es.getD 1 .non, es.getD 0 .non]
def k_gap_0_rounds_worths_D : List Dat → List Dat → List Dat := fun ds es => [es.getD 1 .non, es.getD 0 .non]
abbrev G__law_pot : FnF := Dl.G_pot
def W__law_pot : WS := (wSeq (wAsg (wIf (wTest (wOp aLt (wVar 1) (wCB aLen (wCons (wVar 0) wNil)))) (wOp aIx (wVar 0) (wVar 1)) (wOp aAdd (wOp aAdd (wOp aMod (wCB aSum (wCons (wSl cutDd (wVar 0) wNone (wPart (wC (.int 1)))) wNil)) (wC (.int 1000003))) (wOp aMul (wC (.int 4566)) (wVar 1))) (wC (.int 2994)))) (wgN 2))
  (wSeq (wAsg (wOp aMul (wOp aMod (wCB aInt (wCons (wCB aAbs (wCons (wVar 2) wNil)) wNil)) (wOp aPow (wOp aPow (wC (.int 10)) (wC (.int 60))) (wC (.int 5)))) (wCB aInt (wCons (wOp aGe (wCB aAbs (wCons (wVar 2) wNil)) (wOp aPow (wC (.int 10)) (wC (.int 18)))) wNil))) (wgN 3))
  (wSeq (wAsg (wOp aMod (wCB aInt (wCons (wVar 2) wNil)) (wC (.int 2305843009213693951))) (wgN 4))
  (wRetF (wLst (wCons (wVar 3) (wCons (wOp aMod (wCB aInt (wCons (wOp aAdd (wOp aAdd (wOp aMul (wVar 4) (wC (.int 95672))) (wOp aMul (wOp aMul (wC (.int 16692)) (wVar 1)) (wVar 1))) (wC (.int 3302))) wNil)) (wC (.int 2305843009213693921))) (wCons (wC (.int 0)) wNil))))))))
theorem body__law_pot {ds : List Dat} {n : Nat} {QD : List Dat → Nat → Prop} (h : G__law_pot ds n QD) : bodyF 5 W__law_pot ds n QD := Dl.B_pot (by omega) h
abbrev G__law_bent_text : Fn := Dl.G_bent_text
abbrev G__law_take : Fn := Dl.G_take
def W__law_take : WS := (wSeq (wIfS (wTest (wOp aGt (wOp aIx (wVar 0) (wC (.int 0))) (wC (.int 0)))) (wSeq (wAsg (wOp aMod (wCB aInt (wCons (wOp aIx (wVar 0) (wC (.int 0))) wNil)) (wVar 1)) (wgN 2))
  (wSeq (wSet 0 (wOp aFd (wOp aIx (wVar 0) (wC (.int 0))) (wVar 1)) (wC (.int 0)))
  (wRet (wVar 2)))) wNext)
  (wSeq (wInc 0)
  (wSeq (wAsg (wOp aIx (wFz (wLst (wCons (wC (.int 2147483647)) (wCons (wC (.int 2147483629)) (wCons (wC (.int 2147483587)) (wCons (wC (.int 2147483579)) (wCons (wC (.int 2147483563)) wNil))))))) (wOp aMod (wCB aInt (wCons (wOp aIx (wVar 0) (wC (.int 2))) wNil)) (wC (.int 5)))) (wgN 3))
  (wSeq (wAsg (wOp aMod (wCB aInt (wCons (wOp aPow (wCB aInt (wCons (wOp aAdd (wOp aAdd (wOp aIx (wVar 0) (wC (.int 1))) (wOp aMul (wOp aMul (wC (.int 115058)) (wOp aIx (wVar 0) (wC (.int 2)))) (wOp aIx (wVar 0) (wC (.int 2))))) (wC (.int 4204))) wNil)) (wC (.int 3))) wNil)) (wVar 3)) (wgN 4))
  (wSeq (wAsg (wOp aMod (wCB aInt (wCons (wOp aMul (wVar 4) (wOp aAdd (wOp aMod (wCB aInt (wCons (wVar 4) wNil)) (wC (.int 15658))) (wOp aMul (wC (.int 2228)) (wOp aIx (wVar 0) (wC (.int 2)))))) wNil)) (wC (.int 2305843009213693907))) (wgN 4))
  (wRet (wOp aMod (wCB aInt (wCons (wOp aFd (wVar 4) (wC (.int 167))) wNil)) (wVar 1))))))))
theorem body__law_take {ds : List Dat} {n : Nat} {QD : Dat → Nat → Prop} (h : G__law_take ds n QD) : bodyP 5 W__law_take ds n QD := Dl.B_take (by omega) h
abbrev G__law_of : Fn := Dl.G_of
def W__law_of : WS := (wRet (wOp aIx (wVar 1) (wCall G__law_take (wCons (wVar 0) (wCons (wCB aLen (wCons (wVar 1) wNil)) wNil)))))
theorem body__law_of {ds : List Dat} {n : Nat} {QD : Dat → Nat → Prop} (h : G__law_of ds n QD) : bodyP 2 W__law_of ds n QD := Dl.B_of h
abbrev G__law_odd : Fn := Dl.G_odd
def W__law_odd : WS := (wSeq (wOwn (wLst (wCons (wC .non) (wCons (wC (.bl true)) (wCons (wC (.bl false)) (wCons (wC (.int 0)) (wCons (wC (.int 1)) (wCons (wUn aNeg (wC (.int 1))) (wCons (wC (.int 7)) (wCons (wOp aPow (wC (.int 10)) (wC (.int 8))) (wCons (wC (.str ("" : Str).cps.toList)) (wCons (wC (.str ("a" : Str).cps.toList)) (wCons (wC (.str ("n" : Str).cps.toList)) (wCons (wC (.str ("nfs" : Str).cps.toList)) (wCons (wC (.str ("law" : Str).cps.toList)) (wCons (wC (.str ("nfx" : Str).cps.toList)) (wCons (wTup wNil) (wCons (wFz (wLst wNil)) (wCons wDNew (wCons (wTup (wCons (wC (.int 0)) wNil)) wNil))))))))))))))))))) 1)
  (wSeq (wOwn (wCat (wVar 1) (wFz (wLst (wCons (wTup (wCons (wC (.str ("" : Str).cps.toList)) (wCons (wC (.str ("n" : Str).cps.toList)) wNil))) (wCons (wTup (wCons (wC (.str ("n" : Str).cps.toList)) (wCons (wC (.str ("" : Str).cps.toList)) wNil))) (wCons (wTup (wCons (wC (.str ("nf" : Str).cps.toList)) (wCons (wC (.str ("s" : Str).cps.toList)) wNil))) (wCons (wFz (wLst (wCons (wC (.str ("" : Str).cps.toList)) (wCons (wC (.str ("n" : Str).cps.toList)) wNil)))) (wCons (wTup (wCons (wC (.str ("" : Str).cps.toList)) (wCons (wC (.str ("n" : Str).cps.toList)) (wCons (wC (.str ("f" : Str).cps.toList)) wNil)))) (wCons (wTup (wCons (wC .non) wNil)) (wCons (wDisp [.inr "a"] (uCons (uC (.int 1)) uNil)) (wCons (wTup (wCons (wC (.bl true)) wNil)) (wCons (wTup (wCons (wC (.int 0)) (wCons (wC (.int 1)) wNil))) wNil)))))))))))) 1)
  (wSeq (wExt 1 (wFz (wLst (wCons (wTup (wCons (wTup (wCons (wC (.str ("" : Str).cps.toList)) (wCons (wC (.str ("n" : Str).cps.toList)) wNil))) wNil)) (wCons (wTup (wCons (wC (.str ("yes" : Str).cps.toList)) (wCons (wTup (wCons (wC (.str ("" : Str).cps.toList)) (wCons (wC (.str ("n" : Str).cps.toList)) wNil))) wNil))) (wCons (wTup (wCons (wC (.str ("no" : Str).cps.toList)) (wCons (wTup wNil) wNil))) (wCons (wTup (wCons (wC (.int 2)) (wCons (wC (.int 4)) wNil))) (wCons (wTup (wCons (wC (.str ("N" : Str).cps.toList)) (wCons (wC (.str ("n" : Str).cps.toList)) wNil))) (wCons (wTup (wCons (wC (.int 1)) (wCons (wC (.int 1)) wNil))) (wCons (wTup (wCons (wC (.str ("first" : Str).cps.toList)) wNil)) (wCons (wC (.str ("F" : Str).cps.toList)) wNil)))))))))))
  (wRet (wCall G__law_of (wCons (wVar 0) (wCons (wVar 1) wNil)))))))
theorem body__law_odd {ds : List Dat} {n : Nat} {QD : Dat → Nat → Prop} (h : G__law_odd ds n QD) : bodyP 2 W__law_odd ds n QD := Dl.B_odd h
abbrev G__law_some : Fn := Dl.G_some
def W__law_some : WS := (wSeq (wParOO 3 4 (wCBF aListOf (wCons (wVar 1) wNil)) (wLst wNil))
  (wSeq (wFor (wRng1 (wCons (wVar 2) wNil)) (wgN 5) (wApp 4 (wPopAt 3 (wCall G__law_take (wCons (wVar 0) (wCons (wOwnLen 3) wNil))))))
  (wRet (wVar 4))))
theorem body__law_some {ds : List Dat} {n : Nat} {QD : Dat → Nat → Prop} (h : G__law_some ds n QD) : bodyP 6 W__law_some ds n QD := Dl.B_some h
abbrev G__law_bent (d : Nat) : Fn := Dl.G_bent d
theorem G__law_bent_zero {ds : List Dat} {n : Nat} {QD : Dat → Nat → Prop} (h : G__law_bent 0 ds n QD) : False := Dl.G_bent_zero h
def W__law_bent (d : Nat) : WS := (wSeq (wIfS (wAnd (wTest (wCB aIsi (wCons (wVar 1) (wCons (wC (.ty "tuple")) wNil)))) (wAnd (wTest (wOp aNe (wVar 1) (wTup wNil))) (wTest (wOp aGt (wCall G__law_take (wCons (wVar 0) (wCons (wC (.int 6)) wNil))) (wC (.int 0)))))) (wSeq (wAsg (wCall G__law_take (wCons (wVar 0) (wCons (wCB aLen (wCons (wVar 1) wNil)) wNil))) (wgN 2))
  (wRet (wOp aAdd (wOp aAdd (wSl cutDd (wVar 1) wNone (wPart (wVar 2))) (wTup (wCons (wCall (G__law_bent d) (wCons (wVar 0) (wCons (wOp aIx (wVar 1) (wVar 2)) wNil))) wNil))) (wSl cutDd (wVar 1) (wPart (wOp aAdd (wVar 2) (wC (.int 1)))) wNone)))) wNext)
  (wSeq (wIfS (wTest (wCB aIsi (wCons (wVar 1) (wCons (wC (.ty "tuple")) wNil)))) (wSeq (wAsg (wFz (wLst (wCons (wFz (wCBF aListOf (wCons (wVar 1) wNil))) (wCons (wSl cutDd (wVar 1) (wPart (wC (.int 1))) wNone) (wCons (wSl cutDd (wVar 1) wNone (wPart (wUn aNeg (wC (.int 1))))) (wCons (wOp aAdd (wVar 1) (wSl cutDd (wVar 1) (wPart (wUn aNeg (wC (.int 1)))) wNone)) (wCons (wRevT (wVar 1) (wUn aNeg (wC (.int 1)))) (wCons (wTup wNil) (wCons (wC .non) (wCons (wOp aAdd (wVar 1) (wTup (wCons (wC (.int 0)) wNil))) wNil)))))))))) (wgN 3))
  (wRet (wCall G__law_of (wCons (wVar 0) (wCons (wVar 3) wNil))))) wNext)
  (wSeq (wIfS (wTest (wCB aIsi (wCons (wVar 1) (wCons (wC (.ty "bool")) wNil)))) (wRet (wCall G__law_of (wCons (wVar 0) (wCons (wFz (wLst (wCons (wNotV (wVar 1)) (wCons (wCB aInt (wCons (wVar 1) wNil)) (wCons (wC .non) wNil))))) wNil)))) wNext)
  (wSeq (wIfS (wTest (wCB aIsi (wCons (wVar 1) (wCons (wC (.ty "int")) wNil)))) (wRet (wCall G__law_of (wCons (wVar 0) (wCons (wFz (wLst (wCons (wOp aAdd (wVar 1) (wC (.int 1))) (wCons (wOp aSub (wVar 1) (wC (.int 1))) (wCons (wOp aEq (wVar 1) (wC (.int 1))) (wCons (wUn aNeg (wVar 1)) (wCons (wCB aStrI (wCons (wOp aMod (wCB aInt (wCons (wVar 1) wNil)) (wOp aPow (wC (.int 10)) (wC (.int 6)))) wNil)) (wCons (wC .non) (wCons (wTup (wCons (wVar 1) wNil)) wNil))))))))) wNil)))) wNext)
  (wSeq (wIfS (wAnd (wTest (wCB aIsi (wCons (wVar 1) (wCons (wC (.ty "str")) wNil)))) (wTest (wOp aIn (wC (.str ("\n" : Str).cps.toList)) (wVar 1)))) (wRet (wCall G__law_bent_text (wCons (wVar 0) (wCons (wVar 1) wNil)))) wNext)
  (wSeq (wIfS (wAnd (wTest (wCB aIsi (wCons (wVar 1) (wCons (wC (.ty "str")) wNil)))) (wTest (wOp aNe (wVar 1) (wC (.str ("" : Str).cps.toList))))) (wSeq (wAsg (wCall G__law_take (wCons (wVar 0) (wCons (wCB aLen (wCons (wVar 1) wNil)) wNil))) (wgN 2))
  (wSeq (wAsg (wFz (wLc (wAnyIt (wCall G__law_some (wCons (wVar 0) (wCons (wFz (wCBF aListOf (wCons (wC (.str ("nfsax01 ;" : Str).cps.toList)) wNil))) (wCons (wC (.int 4)) wNil))))) [4] (wgN 4) wYes (wOp aAdd (wOp aAdd (wSl cutDd (wVar 1) wNone (wPart (wVar 2))) (wVar 4)) (wSl cutDd (wVar 1) (wPart (wOp aAdd (wVar 2) (wC (.int 1)))) wNone)))) (wgN 3))
  (wRet (wCall G__law_of (wCons (wVar 0) (wCons (wOp aAdd (wVar 3) (wFz (wLst (wCons (wOp aAdd (wVar 1) (wC (.str ("a" : Str).cps.toList))) (wCons (wSl cutDd (wVar 1) (wPart (wC (.int 1))) wNone) (wCons (wUpper (wVar 1)) (wCons (wFz (wLst (wCons (wVar 1) wNil))) (wCons (wC .non) (wCons (wTup (wCons (wVar 1) wNil)) wNil))))))))) wNil)))))) wNext)
  (wRet (wCall G__law_odd (wCons (wVar 0) wNil)))))))))
theorem body__law_bent {d : Nat} {ds : List Dat} {n : Nat} {QD : Dat → Nat → Prop} (h : G__law_bent (d + 1) ds n QD) : bodyP 5 (W__law_bent d) ds n QD := Dl.B_bent h
abbrev G__law_frac_common : Fn := Dl.G_common
def W__law_frac_common : WS := (wSeq (wPar 0 1 (wCons (wCB aAbs (wCons (wVar 0) wNil)) (wCons (wCB aAbs (wCons (wVar 1) wNil)) wNil)))
  (wSeq (wWhile (wTest (wOp aGt (wVar 1) (wC (.int 0)))) (wPar 0 1 (wCons (wVar 1) (wCons (wOp aMod (wCB aInt (wCons (wVar 0) wNil)) (wVar 1)) wNil))))
  (wRet (wVar 0))))
theorem body__law_frac_common {ds : List Dat} {n : Nat} {QD : Dat → Nat → Prop} (h : G__law_frac_common ds n QD) : bodyW 2 W__law_frac_common ds n QD := Dl.B_common2 h
abbrev G__law_frac : Fn := Dl.G_ratio
def W__law_frac : WS := (wSeq (wAsg (wCall G__law_frac_common (wCons (wVar 0) (wCons (wVar 1) wNil))) (wgN 2))
  (wSeq (wAsg (wIf (wTest (wOp aGt (wVar 1) (wC (.int 0)))) (wVar 2) (wUn aNeg (wVar 2))) (wgN 2))
  (wRet (wTup (wCons (wOp aFd (wVar 0) (wVar 2)) (wCons (wOp aFd (wVar 1) (wVar 2)) wNil))))))
theorem body__law_frac {ds : List Dat} {n : Nat} {QD : Dat → Nat → Prop} (h : G__law_frac ds n QD) : bodyW 3 W__law_frac ds n QD := Dl.B_frac h
-- _law_frac_drawn names ['pot', 'low', 'high', 'bottom']
def W__law_frac_drawn : WS := (wSeq (wAsg (wCall G__law_of (wCons (wVar 0) (wCons (wFz (wLst (wCons (wC (.int 1)) (wCons (wC (.int 1)) (wCons (wC (.int 1)) (wCons (wC (.int 2)) (wCons (wC (.int 3)) (wCons (wC (.int 5)) wNil)))))))) wNil))) (wgN 3))
  (wRet (wCall G__law_frac (wCons (wOp aAdd (wOp aMul (wVar 1) (wVar 3)) (wCall G__law_take (wCons (wVar 0) (wCons (wOp aAdd (wOp aMul (wOp aSub (wVar 2) (wVar 1)) (wVar 3)) (wC (.int 1))) wNil)))) (wCons (wVar 3) wNil)))))
def G__law_frac_drawn : Fn := fun ds n Q => ∃ lo hi : Int, ds = [.pot, .int lo, .int hi] ∧ -5 ≤ lo ∧ lo ≤ hi ∧ hi ≤ 5 ∧ n + 2 ≤ 1000000 ∧ ∀ p q : Int, isFr (frD p q) = true → -1000 ≤ p → p ≤ 1000 → 1 ≤ q → q ≤ 1000 → Q (frD p q) (n + 2)
theorem fr_mk {t : Int} {b : Nat} (h0 : 0 < b) (h1 : b ≤ 1000) (h2 : -1000 ≤ t) (h3 : t ≤ 1000) {Q : Dat → Prop} (h : ∀ p q : Int, isFr (frD p q) = true → -1000 ≤ p → p ≤ 1000 → 1 ≤ q → q ≤ 1000 → Q (frD p q)) : Q (ratD (mkRat t b)) := by
  obtain ⟨e1, e2⟩ := mk_num t h0
  have d1 : (1 : Int) ≤ ((mkRat t b).den : Int) := by have := (mkRat t b).den_pos; omega
  have g0 : 0 < Int.gcd t b := Int.gcd_pos_of_ne_zero_right _ (by omega)
  refine h _ _ ?_ ?_ ?_ d1 ?_
  · unfold isFr
    simp only [Bool.and_eq_true, decide_eq_true_eq]
    exact ⟨d1, by have := (mkRat t b).reduced; rw [Int.gcd_eq_natAbs_gcd_natAbs, Int.natAbs_natCast]; exact this⟩
  · rw [e1]
    exact Int.le_ediv_of_mul_le (by omega) (by omega)
  · rw [e1]
    exact Int.ediv_le_of_le_mul (by omega) (by omega)
  · rw [e2]
    exact Int.ediv_le_of_le_mul (by omega) (by omega)
theorem body__law_frac_drawn {ds : List Dat} {n : Nat} {QD : Dat → Nat → Prop} (h : G__law_frac_drawn ds n QD) : bodyP 4 W__law_frac_drawn ds n QD := by
  obtain ⟨lo, hi, rfl, h0, h1, h2, hn, h⟩ := h
  unfold W__law_frac_drawn
  walk_at "w"
  refine ⟨_, _, rfl, rfl, by simp, by simp, by omega, fun b hb => ?_⟩
  simp only [List.mem_cons, List.not_mem_nil, or_false] at hb
  have fin : ∀ {t : Int} {b : Nat}, 0 < b → b ≤ 1000 → -1000 ≤ t → t ≤ 1000 → G__law_frac [.int t, .int b] (n + 1 + 1) fun d n' => ∃ m, n' ≤ m ∧ m ≤ 1000000 ∧ QD d m := fun {t b} a1 a2 a3 a4 =>
    ⟨t, b, rfl, a1, by omega, fr_mk (Q := fun d => ∃ m, n + 1 + 1 ≤ m ∧ m ≤ 1000000 ∧ QD d m) a1 a2 a3 a4 fun p q f1 f2 f3 f4 f5 => ⟨n + 2, by omega, by omega, h p q f1 f2 f3 f4 f5⟩⟩
  rcases hb with rfl | rfl | rfl | rfl | rfl | rfl
  all_goals
    walk_at "w"
    refine ⟨_, rfl, by omega, by omega, by omega, fun r r0 r1 => ?_⟩
    walk_at "w"
    first | exact fin (b := 1) (by decide) (by decide) (by omega) (by omega) | exact fin (b := 2) (by decide) (by decide) (by omega) (by omega) | exact fin (b := 3) (by decide) (by decide) (by omega) (by omega) | exact fin (b := 5) (by decide) (by decide) (by omega) (by omega) | trace_state
-- _law_frac_is names ['value', 'one']
def W__law_frac_is : WS := (wSeq (wIfS (wOr (wNot (wTest (wCB aIsi (wCons (wVar 0) (wCons (wC (.ty "tuple")) wNil))))) (wTest (wOp aNe (wCB aLen (wCons (wVar 0) wNil)) (wC (.int 2))))) (wRet (wC (.bl false))) wNext)
  (wSeq (wIfS (wOr (wNot (wTest (wCB aAll (wCons (wFz (wLc (wAnyIt (wVar 0)) [1] (wgN 1) wYes (wAndV (wCB aIsi (wCons (wVar 1) (wCons (wC (.ty "int")) wNil))) (wNotV (wCB aIsi (wCons (wVar 1) (wCons (wC (.ty "bool")) wNil))))))) wNil)))) (wTest (wOp aLt (wOp aIx (wVar 0) (wC (.int 1))) (wC (.int 1))))) (wRet (wC (.bl false))) wNext)
  (wRet (wOp aEq (wCall G__law_frac_common (wCons (wOp aIx (wVar 0) (wC (.int 0))) (wCons (wOp aIx (wVar 0) (wC (.int 1))) wNil))) (wC (.int 1))))))
def G__law_frac_is : Fn := fun ds n Q => ∃ d, ds = [d] ∧ ShOk d ∧ Q (.bl (isFr d)) n
theorem body__law_frac_is {ds : List Dat} {n : Nat} {QD : Dat → Nat → Prop} (h : G__law_frac_is ds n QD) : bodyW 2 W__law_frac_is ds n QD := by
  obtain ⟨d, rfl, sd, h⟩ := h
  obtain ⟨g, _⟩ := sd.good
  unfold W__law_frac_is
  cases d with
  | tup l =>
    by_cases c1 : l.length = 2
    · match l, c1 with
      | [x, y], _ =>
        obtain ⟨g1, _⟩ := (sd.mem (x := x) (by simp)).good
        obtain ⟨g2, _⟩ := (sd.mem (x := y) (by simp)).good
        cases q : (Dl.isInt x && Dl.isInt y) with
        | false =>
          rw [isFr_no q] at h
          cases x <;> (try (simp [goodTy] at g1; done)) <;> cases y <;> (try (simp [goodTy] at g2; done)) <;> (try (simp [Dl.isInt] at q; done)) <;> (walk_at "w"; exact ⟨by decide, by decide, h⟩)
        | true =>
          obtain ⟨q1, q2⟩ := Bool.and_eq_true_iff.mp q
          obtain ⟨i, rfl⟩ := isInt_of q1
          obtain ⟨j, rfl⟩ := isInt_of q2
          have h' : QD (.bl (decide (1 ≤ j) && decide (Int.gcd i j = 1))) n := h
          walk_at "w"
          rw [if_neg (by simp)]
          refine ⟨by decide, by decide, ?_⟩
          by_cases c : j < 1
          · rw [if_pos c]
            simpa [show ¬ 1 ≤ j by omega] using h'
          · rw [if_neg c]
            refine ⟨i, j, rfl, ?_⟩
            walk_at "w"
            rw [gcd1]
            simpa [show 1 ≤ j by omega] using h'
    · rw [isFr_len c1] at h
      walk_at "w"
      have c2 : ¬ ((l.length : Int) = 2) := by omega
      simpa [c2] using h
  | non => walk_at "w"; simpa [isFr] using h
  | bl b => walk_at "w"; simpa [isFr] using h
  | int i => walk_at "w"; simpa [isFr] using h
  | str z => walk_at "w"; simpa [isFr] using h
  | lst l => walk_at "w"; simpa [isFr] using h
  | dct l => walk_at "w"; simpa [isFr] using h
  | _ => simp [goodTy] at g
-- _law_are_ends names ['value', 'one']
def W__law_are_ends : WS := (wSeq (wIfS (wOr (wNot (wTest (wCB aIsi (wCons (wVar 0) (wCons (wC (.ty "tuple")) wNil))))) (wTest (wOp aNotIn (wCB aLen (wCons (wVar 0) wNil)) (wTup (wCons (wC (.int 2)) (wCons (wC (.int 4)) (wCons (wC (.int 10)) (wCons (wC (.int 28)) (wCons (wC (.int 82)) (wCons (wC (.int 244)) wNil)))))))))) (wRet (wC (.bl false))) wNext)
  (wRet (wCB aAll (wCons (wFz (wLc (wAnyIt (wVar 0)) [1] (wgN 1) wYes (wCall G__law_frac_is (wCons (wVar 1) wNil)))) wNil))))
def G__law_are_ends : Fn := fun ds n Q => ∃ d, ds = [d] ∧ ShOk d ∧ Q (.bl (isEn d)) n
theorem body__law_are_ends {ds : List Dat} {n : Nat} {QD : Dat → Nat → Prop} (h : G__law_are_ends ds n QD) : bodyW 2 W__law_are_ends ds n QD := by
  obtain ⟨d, rfl, sd, h⟩ := h
  obtain ⟨g, _⟩ := sd.good
  unfold W__law_are_ends
  cases d with
  | tup l =>
    have hl := sd.len
    walk_at "w"
    have e : inF (.int l.length) [.int 2, .int 4, .int 10, .int 28, .int 82, .int 244] = (decide (l.length = 2) || (decide (l.length = 4) || (decide (l.length = 10) || (decide (l.length = 28) || (decide (l.length = 82) || decide (l.length = 244)))))) := by
      have k : ∀ (m : Int) (q : Nat), m = q → (m == (l.length : Int)) = decide (l.length = q) := fun m q e => by
        subst e
        rw [Bool.eq_iff_iff, beq_iff_eq, decide_eq_true_iff]
        omega
      simp only [inF, eqF, List.any_cons, List.any_nil, Bool.or_false]
      rw [k 2 2 rfl, k 4 4 rfl, k 10 10 rfl, k 28 28 rfl, k 82 82 rfl, k 244 244 rfl]
    refine ⟨rfl, rfl, ?_⟩
    rw [e]
    have h' : QD (.bl ((decide (l.length = 2) || (decide (l.length = 4) || (decide (l.length = 10) || (decide (l.length = 28) || (decide (l.length = 82) || decide (l.length = 244)))))) && l.all isFr)) n := h
    cases c : (decide (l.length = 2) || (decide (l.length = 4) || (decide (l.length = 10) || (decide (l.length = 28) || (decide (l.length = 82) || decide (l.length = 244)))))) with
    | false =>
      rw [c] at h'
      simpa using h'
    | true =>
      rw [c, Bool.true_and] at h'
      rw [if_neg (by simp)]
      refine lcW_map (fun x => .bl (isFr x)) _ _ hl (fun x hx R R0 hR => ?_) ?_
      · walk_at "w"
        exact ⟨x, rfl, sd.mem hx, hR⟩
      · obtain ⟨bs, b1, b2⟩ := isBls_fr l
        refine ⟨bs, b1, ?_⟩
        rw [b2]
        exact h'
  | non => walk_at "w"; simpa [isEn] using h
  | bl b => walk_at "w"; simpa [isEn] using h
  | int i => walk_at "w"; simpa [isEn] using h
  | str z => walk_at "w"; simpa [isEn] using h
  | lst l => walk_at "w"; simpa [isEn] using h
  | dct l => walk_at "w"; simpa [isEn] using h
  | _ => simp [goodTy] at g
-- _law_are_worths names ['value', 'one']
def W__law_are_worths : WS := (wRet (wAndV (wCB aIsi (wCons (wVar 0) (wCons (wC (.ty "tuple")) wNil))) (wAndV (wOp aEq (wCB aLen (wCons (wVar 0) wNil)) (wC (.int 2))) (wCB aAll (wCons (wFz (wLc (wAnyIt (wVar 0)) [1] (wgN 1) wYes (wCall G__law_frac_is (wCons (wVar 1) wNil)))) wNil)))))
def isWo : Dat → Bool
  | .tup [x, y] => isFr x && isFr y
  | _ => false
theorem isWo_len {l : List Dat} (h : l.length ≠ 2) : isWo (.tup l) = false := by
  unfold isWo
  split
  · rename_i e
    injection e with e
    rw [e] at h
    simp at h
  · rfl
def G__law_are_worths : Fn := fun ds n Q => ∃ d, ds = [d] ∧ ShOk d ∧ Q (.bl (isWo d)) n
theorem body__law_are_worths {ds : List Dat} {n : Nat} {QD : Dat → Nat → Prop} (h : G__law_are_worths ds n QD) : bodyW 2 W__law_are_worths ds n QD := by
  obtain ⟨d, rfl, sd, h⟩ := h
  obtain ⟨g, _⟩ := sd.good
  unfold W__law_are_worths
  cases d with
  | tup l =>
    by_cases c1 : l.length = 2
    · match l, c1 with
      | [x, y], _ =>
        walk_at "w"
        refine ⟨x, rfl, sd.mem (by simp), by decide, y, rfl, sd.mem (by simp), by decide, _, rfl, ?_⟩
        simpa [isWo] using h
    · rw [isWo_len c1] at h
      walk_at "w"
      have c2 : ¬ ((l.length : Int) = 2) := by omega
      simpa [c2] using h
  | non => walk_at "w"; simpa [isWo] using h
  | bl b => walk_at "w"; simpa [isWo] using h
  | int i => walk_at "w"; simpa [isWo] using h
  | str z => walk_at "w"; simpa [isWo] using h
  | lst l => walk_at "w"; simpa [isWo] using h
  | dct l => walk_at "w"; simpa [isWo] using h
  | _ => simp [goodTy] at g
-- _law_frac_is_size names ['value']
def W__law_frac_is_size : WS := (wRet (wAndV (wCall G__law_frac_is (wCons (wVar 0) wNil)) (wOp aGt (wOp aIx (wVar 0) (wC (.int 0))) (wC (.int 0)))))
def isSz : Dat → Bool
  | .tup [.int p, .int q] => isFr (.tup [.int p, .int q]) && decide (0 < p)
  | _ => false
theorem isFr_of {d : Dat} (h : isFr d = true) : ∃ p q, d = frD p q ∧ 0 < q := by
  unfold isFr at h
  split at h
  · simp only [Bool.and_eq_true, decide_eq_true_eq] at h
    exact ⟨_, _, rfl, by omega⟩
  · cases h
theorem isSz_no {d : Dat} (h : isFr d = false) : isSz d = false := by
  unfold isSz
  split
  · rw [h]
    rfl
  · rfl
def G__law_frac_is_size : Fn := fun ds n Q => ∃ d, ds = [d] ∧ ShOk d ∧ Q (.bl (isSz d)) n
theorem body__law_frac_is_size {ds : List Dat} {n : Nat} {QD : Dat → Nat → Prop} (h : G__law_frac_is_size ds n QD) : bodyW 1 W__law_frac_is_size ds n QD := by
  obtain ⟨d, rfl, sd, h⟩ := h
  unfold W__law_frac_is_size
  walk_at "w"
  refine ⟨d, rfl, sd, ?_⟩
  cases c : isFr d with
  | false =>
    rw [isSz_no c] at h
    walk_at "w"
    exact h
  | true =>
    obtain ⟨p, q, rfl, _⟩ := isFr_of c
    have h' : QD (.bl (isFr (frD p q) && decide (0 < p))) n := h
    rw [c, Bool.true_and] at h'
    walk_at "w"
    exact h'
abbrev G__law_is_int : Fn := Dl.G_is_intG
def W__law_is_int : WS := (wRet (wAndV (wCB aIsi (wCons (wVar 0) (wCons (wC (.ty "int")) wNil))) (wAndV (wNotV (wCB aIsi (wCons (wVar 0) (wCons (wC (.ty "bool")) wNil)))) (wChain aLe aLe (wVar 1) (wVar 0) (wVar 2)))))
theorem body__law_is_int {ds : List Dat} {n : Nat} {QD : Dat → Nat → Prop} (h : G__law_is_int ds n QD) : bodyW 3 W__law_is_int ds n QD := Dl.B_is_intG h
-- _law_heard names ['call', 'caught', 'given', 'error']
def W__law_heard (G : Hp) (f : Addr) (fl : FnL) : WS := (wSeq (wAsg (wTup (wCons (wC .non) (wCons (wC .non) wNil))) (wgTup 2 (wgCons (wgN 1) (wgCons (wgN 2) wgNil))))
  (wSeq (wTryH [("BadDistance" : Str), ("BadEnds" : Str), ("BadNumber" : Str), ("BadWord" : Str), ("BadWorths" : Str)] 3 1 (wAct 0 G f fl (wgN 2)))
  (wRet (wTup (wCons (wVar 1) (wCons (wVar 2) wNil))))))
def G__law_heard : Hp → Addr → FnL → Fn := fun G f fl ds n Q => ds = [.lam G f] ∧ fl n (fun d n' => Q (.tup [.non, d]) n') (fun c v n' => memN c [("BadDistance" : Str), ("BadEnds" : Str), ("BadNumber" : Str), ("BadWord" : Str), ("BadWorths" : Str)] = true ∧ Q (.tup [.exc c v, .non]) n')
theorem body__law_heard {G : Hp} {f : Addr} {fl : FnL} {ds : List Dat} {n : Nat} {QD : Dat → Nat → Prop} (h : G__law_heard G f fl ds n QD) : bodyW 4 (W__law_heard G f fl) ds n QD := by
  obtain ⟨rfl, h⟩ := h
  unfold W__law_heard
  walk_at "w"
  simp only [memN, Bool.or_false] at h
  exact h
-- _law_is_raised names ['call', 'due', 'caught', 'kinds']
def W__law_is_raised (G : Hp) (f : Addr) (fl : FnL) : WS := (wSeq (wAsg (wOp aIxG (wHand (G__law_heard G f) fl (wCons (wVar 0) wNil)) (wC (.int 0))) (wgN 2))
  (wSeq (wIfS (wTest (wOp aEqE (wVar 1) (wFz (wLst wNil)))) (wRet (wOp aIsW (wVar 2) (wC .non))) wNext)
  (wSeq (wOwnD [.inr "worths", .inr "word"] (uCons (uCB (aIsiC [("BadDistance" : Str), ("BadEnds" : Str), ("BadNumber" : Str), ("BadWord" : Str), ("BadWorths" : Str)]) (uCons (uVar 2) (uCons (uC (.cls "BadWorths")) uNil))) (uCons (uCB (aIsiC [("BadDistance" : Str), ("BadEnds" : Str), ("BadNumber" : Str), ("BadWord" : Str), ("BadWorths" : Str)]) (uCons (uVar 2) (uCons (uC (.cls "BadWord")) uNil))) uNil)) 3)
  (wSeq (wUpd 3 [.inr "number", .inr "distance"] (uCons (uCB (aIsiC [("BadDistance" : Str), ("BadEnds" : Str), ("BadNumber" : Str), ("BadWord" : Str), ("BadWorths" : Str)]) (uCons (uVar 2) (uCons (uC (.cls "BadNumber")) uNil))) (uCons (uCB (aIsiC [("BadDistance" : Str), ("BadEnds" : Str), ("BadNumber" : Str), ("BadWord" : Str), ("BadWorths" : Str)]) (uCons (uVar 2) (uCons (uC (.cls "BadDistance")) uNil))) uNil)))
  (wSeq (wUpd 3 [.inr "ends"] (uCons (uCB (aIsiC [("BadDistance" : Str), ("BadEnds" : Str), ("BadNumber" : Str), ("BadWord" : Str), ("BadWorths" : Str)]) (uCons (uVar 2) (uCons (uC (.cls "BadEnds")) uNil))) uNil))
  (wRet (wAndV (wOp aIxG (wOdV 3) (wOp aIxG (wOp aIxG (wVar 1) (wC (.int 0))) (wC (.int 0)))) (wOp aEq (wCB aRepr (wCons (wXv [("BadDistance" : Str), ("BadEnds" : Str), ("BadNumber" : Str), ("BadWord" : Str), ("BadWorths" : Str)] (wVar 2)) wNil)) (wCB aRepr (wCons (wOp aIxG (wOp aIxG (wVar 1) (wC (.int 0))) (wC (.int 1))) wNil))))))))))
inductive Mk : List Nat → Str → Prop
  | worths : Mk [119, 111, 114, 116, 104, 115] "BadWorths"
  | word : Mk [119, 111, 114, 100] "BadWord"
  | number : Mk [110, 117, 109, 98, 101, 114] "BadNumber"
  | distance : Mk [100, 105, 115, 116, 97, 110, 99, 101] "BadDistance"
  | ends : Mk [101, 110, 100, 115] "BadEnds"
inductive Due (n : Nat) (QD : Dat → Nat → Prop) (XD : Str → Dat → Nat → Prop) : List Dat → Prop
  | none : (∀ d, QD d n) → Due n QD XD []
  | bad {w : List Nat} {c : Str} {v : Dat} {r : List Dat} : Mk w c → ShOk v → XD c v n → Due n QD XD (.tup [.str w, v] :: r)
def G__law_is_raised : Hp → Addr → FnL → Fn := fun G f fl ds n Q => ∃ due, ds = [.lam G f, .lst due] ∧ (due = [] ∨ ∃ w c v r, Mk w c ∧ ShOk v ∧ due = .tup [.str w, v] :: r) ∧ Q (.bl true) n ∧ ∀ QD XD, Due n QD XD due → fl n QD XD
theorem body__law_is_raised {G : Hp} {f : Addr} {fl : FnL} {ds : List Dat} {n : Nat} {QD : Dat → Nat → Prop} (h : G__law_is_raised G f fl ds n QD) : bodyW 4 (W__law_is_raised G f fl) ds n QD := by
  obtain ⟨due, rfl, hd, h, hf⟩ := h
  unfold W__law_is_raised
  walk_at "w"
  refine ⟨rfl, hf _ _ ?_⟩
  have nn : nice 1 (.lst []) = true := by simp [nice_lst]
  rcases hd with rfl | ⟨w, c, v, r, m, hv, rfl⟩
  · refine .none fun d => ?_
    walk_at "w"
    exact ⟨cmpOk_nice nn, cmpOk_nice nn, eqdT nn nn rfl h⟩
  · refine .bad m hv ?_
    cases m <;> (walk_at "w"; exact ⟨by decide, by decide +kernel, by decide +kernel, by decide, by decide +kernel, by decide, _, rfl, .bl true, rfl, hv, hv, h⟩)
abbrev G__law_law_is_word : Fn := Dl.G_law_wordG
def W__law_law_is_word : WS := (wRet (wAndV (wCB aIsi (wCons (wVar 0) (wCons (wC (.ty "str")) wNil))) (wAndV (wChain aLe aLe (wVar 1) (wCB aLen (wCons (wVar 0) wNil)) (wVar 2)) (wCB aAll (wCons (wFz (wLc (wAnyIt (wVar 0)) [3] (wgN 3) wYes (wOp aIn (wVar 3) (wC (.str ("nfs" : Str).cps.toList))))) wNil)))))
theorem body__law_law_is_word {ds : List Dat} {n : Nat} {QD : Dat → Nat → Prop} (h : G__law_law_is_word ds n QD) : bodyW 4 W__law_law_is_word ds n QD := Dl.B_law_wordG h
-- is_below names ['one', 'other']
def W_is_below : WS := (wRet (wOp aLt (wOp aMul (wOp aIx (wVar 0) (wC (.int 0))) (wOp aIx (wVar 1) (wC (.int 1)))) (wOp aMul (wOp aIx (wVar 1) (wC (.int 0))) (wOp aIx (wVar 0) (wC (.int 1))))))
def G_is_below : Fn := fun ds n Q => ∃ (a b c d : Int) (k : Nat), ds = [frD a b, frD c d] ∧ Bd k a ∧ Bd k b ∧ Bd k c ∧ Bd k d ∧ k ≤ 9000 ∧ Q (.bl (decide (a * d < c * b))) n
theorem body_is_below {ds : List Dat} {n : Nat} {QD : Dat → Nat → Prop} (h : G_is_below ds n QD) : bodyW 2 W_is_below ds n QD := by
  obtain ⟨a, b, c, d, k, rfl, ba, bb, bc, bd, hk, h⟩ := h
  unfold W_is_below
  walk_at "w"
  exact ⟨cmuD ba bd (by omega), cmuD bc bb (by omega), h⟩
abbrev G_common : Fn := Dl.G_common
def W_common : WS := (wSeq (wPar 0 1 (wCons (wCB aAbs (wCons (wVar 0) wNil)) (wCons (wCB aAbs (wCons (wVar 1) wNil)) wNil)))
  (wSeq (wWhile (wTest (wOp aGt (wVar 1) (wC (.int 0)))) (wPar 0 1 (wCons (wVar 1) (wCons (wOp aMod (wVar 0) (wVar 1)) wNil))))
  (wRet (wVar 0))))
theorem body_common {ds : List Dat} {n : Nat} {QD : Dat → Nat → Prop} (h : G_common ds n QD) : bodyW 2 W_common ds n QD := Dl.B_common h
-- ratio names ['top', 'bottom', 'by']
def W_ratio : WS := (wSeq (wAsg (wCall G_common (wCons (wVar 0) (wCons (wVar 1) wNil))) (wgN 2))
  (wSeq (wAsg (wIf (wTest (wOp aGt (wVar 1) (wC (.int 0)))) (wVar 2) (wOp aSub (wC (.int 0)) (wVar 2))) (wgN 2))
  (wRet (wTup (wCons (wOp aFd (wVar 0) (wVar 2)) (wCons (wOp aFd (wVar 1) (wVar 2)) wNil))))))
def G_ratio : Fn := fun ds n Q => ∃ (t b : Int) (k : Nat), ds = [.int t, .int b] ∧ 0 < b ∧ Bd k t ∧ Bd k b ∧ k ≤ 8000 ∧ ∀ p q : Int, 0 < q → Bd k p → Bd k q → p * b = t * q → Q (frD p q) n
theorem body_ratio {ds : List Dat} {n : Nat} {QD : Dat → Nat → Prop} (h : G_ratio ds n QD) : bodyW 3 W_ratio ds n QD := by
  obtain ⟨t, b, k, rfl, hb, bt, bb, hk, h⟩ := h
  have g0 : 0 < Int.gcd t b := Int.gcd_pos_of_ne_zero_right _ (by omega)
  have d1 : ((Int.gcd t b : Nat) : Int) ∣ t := Int.gcd_dvd_left ..
  have d2 : ((Int.gcd t b : Nat) : Int) ∣ b := Int.gcd_dvd_right ..
  have gB : Bd k (Int.gcd t b : Nat) := by
    unfold Bd at *
    have := Nat.le_of_dvd (by omega) (Int.natAbs_dvd_natAbs.mpr d2)
    omega
  unfold W_ratio
  walk_at "w"
  refine ⟨t, b, rfl, ?_⟩
  walk_at "w"
  rw [if_pos hb]
  refine ⟨cfdD (by omega) gB (by omega), cfdD (by omega) gB (by omega), ?_⟩
  obtain ⟨x, ex⟩ := d1
  obtain ⟨y, ey⟩ := d2
  have gn : ((Int.gcd t b : Nat) : Int) ≠ 0 := by omega
  generalize hg : ((Int.gcd t b : Nat) : Int) = g at *
  have e1 : t / g = x := by rw [ex, Int.mul_ediv_cancel_left _ gn]
  have e2 : b / g = y := by rw [ey, Int.mul_ediv_cancel_left _ gn]
  rw [e1, e2]
  have gp : 0 < g := by omega
  refine h x y ?_ ?_ ?_ ?_
  · rw [ey, Int.mul_comm] at hb
    exact Int.pos_of_mul_pos_left hb gp
  · unfold Bd at *
    rw [ex, Int.natAbs_mul] at bt
    exact Nat.lt_of_le_of_lt (Nat.le_mul_of_pos_left _ (by omega)) bt
  · unfold Bd at *
    rw [ey, Int.natAbs_mul] at bb
    exact Nat.lt_of_le_of_lt (Nat.le_mul_of_pos_left _ (by omega)) bb
  · rw [ex, ey]
    grind
-- less names ['one', 'other']
def W_less : WS := (wRet (wCall G_ratio (wCons (wOp aSub (wOp aMul (wOp aIx (wVar 0) (wC (.int 0))) (wOp aIx (wVar 1) (wC (.int 1)))) (wOp aMul (wOp aIx (wVar 1) (wC (.int 0))) (wOp aIx (wVar 0) (wC (.int 1))))) (wCons (wOp aMul (wOp aIx (wVar 0) (wC (.int 1))) (wOp aIx (wVar 1) (wC (.int 1)))) wNil))))
def G_less : Fn := fun ds n Q => ∃ (a b c d : Int) (k : Nat), ds = [frD a b, frD c d] ∧ 0 < b ∧ 0 < d ∧ Bd k a ∧ Bd k b ∧ Bd k c ∧ Bd k d ∧ k ≤ 3000 ∧ ∀ p q : Int, 0 < q → Bd (2 * k + 1) p → Bd (2 * k + 1) q → p * (b * d) = (a * d - c * b) * q → Q (frD p q) n
theorem body_less {ds : List Dat} {n : Nat} {QD : Dat → Nat → Prop} (h : G_less ds n QD) : bodyW 2 W_less ds n QD := by
  obtain ⟨a, b, c, d, k, rfl, hb, hd, ba, bb, bc, bd, hk, h⟩ := h
  unfold W_less
  walk_at "w"
  refine ⟨cmuD ba bd (by omega), cmuD bc bb (by omega), cmuD bb bd (by omega), _, _, 2 * k + 1, rfl, Int.mul_pos hb hd, ?_, ?_, by omega, h⟩
  · rw [Nat.two_mul]
    exact (ba.mul bd).sub (bc.mul bb)
  · exact (bb.mul bd).mono (by omega)
-- apart names ['one', 'other']
def W_apart : WS := (wRet (wIf (wTest (wCall G_is_below (wCons (wVar 0) (wCons (wVar 1) wNil)))) (wCall G_less (wCons (wVar 1) (wCons (wVar 0) wNil))) (wCall G_less (wCons (wVar 0) (wCons (wVar 1) wNil)))))
def G_apart : Fn := fun ds n Q => ∃ (a b c d : Int) (k : Nat), ds = [frD a b, frD c d] ∧ 0 < b ∧ 0 < d ∧ Bd k a ∧ Bd k b ∧ Bd k c ∧ Bd k d ∧ k ≤ 3000 ∧ ∀ p q : Int, 0 < q → Bd (2 * k + 1) p → Bd (2 * k + 1) q → Q (frD p q) n
theorem body_apart {ds : List Dat} {n : Nat} {QD : Dat → Nat → Prop} (h : G_apart ds n QD) : bodyW 2 W_apart ds n QD := by
  obtain ⟨a, b, c, d, k, rfl, hb, hd, ba, bb, bc, bd, hk, h⟩ := h
  unfold W_apart
  walk_at "w"
  refine ⟨a, b, c, d, k, rfl, ba, bb, bc, bd, by omega, ?_⟩
  walk_at "w"
  split
  · exact ⟨c, d, a, b, k, rfl, hd, hb, bc, bd, ba, bb, hk, fun p q hq bp bq _ => h p q hq bp bq⟩
  · exact ⟨a, b, c, d, k, rfl, hb, hd, ba, bb, bc, bd, hk, fun p q hq bp bq _ => h p q hq bp bq⟩
abbrev G_is_whole : Fn := Dl.G_wholeG
def W_is_whole : WS := (wRet (wAndV (wCB aIsi (wCons (wVar 0) (wCons (wC (.ty "int")) wNil))) (wNotV (wCB aIsi (wCons (wVar 0) (wCons (wC (.ty "bool")) wNil))))))
theorem body_is_whole {ds : List Dat} {n : Nat} {QD : Dat → Nat → Prop} (h : G_is_whole ds n QD) : bodyW 1 W_is_whole ds n QD := Dl.B_wholeG h
abbrev G_is_integer : Fn := Dl.G_integerG
def W_is_integer : WS := (wRet (wAndV (wCall G_is_whole (wCons (wVar 0) wNil)) (wChain aLe aLe (wVar 1) (wVar 0) (wVar 2))))
theorem body_is_integer {ds : List Dat} {n : Nat} {QD : Dat → Nat → Prop} (h : G_is_integer ds n QD) : bodyW 3 W_is_integer ds n QD := Dl.B_integerG h
abbrev G_check_rounds__X : FnX := Dl.G_check_roundsX
def W_check_rounds__X : WS := (wIfS (wNot (wTest (wCall G_is_integer (wCons (wVar 0) (wCons (wC (.int 0)) (wCons (wVar 1) wNil)))))) (wRaise "BadNumber" (wCons (wVar 0) wNil)) wNext)
theorem body_check_rounds__X {ds : List Dat} {n : Nat} {QD : Dat → Nat → Prop} {XD : Str → Dat → Nat → Prop} (h : G_check_rounds__X ds n QD XD) : bodyX 2 W_check_rounds__X ds n QD XD := Dl.B_check_roundsX h
-- is_ratio names ['value', 'one']
def W_is_ratio : WS := (wSeq (wIfS (wOr (wNot (wTest (wCB aIsi (wCons (wVar 0) (wCons (wC (.ty "tuple")) wNil))))) (wOr (wTest (wOp aNe (wCB aLen (wCons (wVar 0) wNil)) (wC (.int 2)))) (wNot (wTest (wCB aAll (wCons (wFz (wLc (wAnyIt (wVar 0)) [1] (wgN 1) wYes (wCall G_is_whole (wCons (wVar 1) wNil)))) wNil)))))) (wRet (wC (.bl false))) wNext)
  (wRet (wAndV (wOp aGe (wOp aIx (wVar 0) (wC (.int 1))) (wC (.int 1))) (wOp aEq (wCall G_common (wCons (wOp aIx (wVar 0) (wC (.int 0))) (wCons (wOp aIx (wVar 0) (wC (.int 1))) wNil))) (wC (.int 1))))))
def G_is_ratio : Fn := fun ds n Q => ∃ d, ds = [d] ∧ ShOk d ∧ Q (.bl (isFr d)) n
theorem body_is_ratio {ds : List Dat} {n : Nat} {QD : Dat → Nat → Prop} (h : G_is_ratio ds n QD) : bodyW 2 W_is_ratio ds n QD := by
  obtain ⟨d, rfl, sd, h⟩ := h
  obtain ⟨g, _⟩ := sd.good
  unfold W_is_ratio
  cases d with
  | tup l =>
    by_cases c1 : l.length = 2
    · match l, c1 with
      | [x, y], _ =>
        walk_at "w"
        refine ⟨x, rfl, sd.mem (by simp), by decide, y, rfl, sd.mem (by simp), by decide, ?_⟩
        walk_at "w"
        cases q : (Dl.isInt x && Dl.isInt y) with
        | false =>
          rw [isFr_no q] at h
          simpa [q] using h
        | true =>
          obtain ⟨q1, q2⟩ := Bool.and_eq_true_iff.mp q
          obtain ⟨i, rfl⟩ := isInt_of q1
          obtain ⟨j, rfl⟩ := isInt_of q2
          have h' : QD (.bl (decide (1 ≤ j) && decide (Int.gcd i j = 1))) n := h
          walk_at "w"
          by_cases c : 1 ≤ j
          · rw [if_pos c]
            refine ⟨i, j, rfl, ?_⟩
            walk_at "w"
            rw [gcd1]
            simpa [c] using h'
          · rw [if_neg c]
            simpa [c] using h'
    · rw [isFr_len c1] at h
      walk_at "w"
      have c2 : ¬ ((l.length : Int) = 2) := by omega
      simpa [c2] using h
  | non => walk_at "w"; simpa [isFr] using h
  | bl b => walk_at "w"; simpa [isFr] using h
  | int i => walk_at "w"; simpa [isFr] using h
  | str z => walk_at "w"; simpa [isFr] using h
  | lst l => walk_at "w"; simpa [isFr] using h
  | dct l => walk_at "w"; simpa [isFr] using h
  | _ => simp [goodTy] at g
abbrev G_is_tuple : Fn := Dl.G_tupleG
def W_is_tuple : WS := (wRet (wAndV (wCB aIsi (wCons (wVar 0) (wCons (wC (.ty "tuple")) wNil))) (wChain aLe aLe (wVar 1) (wCB aLen (wCons (wVar 0) wNil)) (wVar 2))))
theorem body_is_tuple {ds : List Dat} {n : Nat} {QD : Dat → Nat → Prop} (h : G_is_tuple ds n QD) : bodyW 3 W_is_tuple ds n QD := Dl.B_tupleG h
-- check_worths__X names ['worths', 'one']
def W_check_worths__X : WS := (wIfS (wOr (wNot (wTest (wCall G_is_tuple (wCons (wVar 0) (wCons (wC (.int 2)) (wCons (wC (.int 2)) wNil)))))) (wNot (wTest (wCB aAll (wCons (wFz (wLc (wAnyIt (wVar 0)) [1] (wgN 1) wYes (wCall G_is_ratio (wCons (wVar 1) wNil)))) wNil))))) (wRaise "BadWorths" (wCons (wVar 0) wNil)) wNext)
def G_check_worths__X : FnX := fun ds n Q X => ∃ d, ds = [d] ∧ ShOk d ∧ (isWo d = true → Q .non n) ∧ (isWo d = false → X "BadWorths" d n)
theorem body_check_worths__X {ds : List Dat} {n : Nat} {QD : Dat → Nat → Prop} {XD : Str → Dat → Nat → Prop} (h : G_check_worths__X ds n QD XD) : bodyX 2 W_check_worths__X ds n QD XD := by
  obtain ⟨d, rfl, sd, h1, h2⟩ := h
  unfold W_check_worths__X
  walk_at "w"
  refine ⟨d, 2, 2, rfl, sd, ?_⟩
  cases c1 : tupOf 2 2 d with
  | false =>
    have e : isWo d = false := by
      unfold isWo
      split
      · simp [tupOf] at c1
      · rfl
    walk_at "w"
    exact h2 e
  | true =>
    obtain ⟨x, y, rfl⟩ := tup_two c1
    walk_at "w"
    refine ⟨x, rfl, sd.mem (by simp), by decide, y, rfl, sd.mem (by simp), by decide, _, rfl, ?_⟩
    cases q : (isFr x && isFr y) with
    | true => simp [q]; exact h1 q
    | false => simp [q]; exact h2 q
abbrev G_power_of_three : Fn := Dl.G_power
def W_power_of_three : WS := (wSeq (wAsg (wC (.int 1)) (wgN 1))
  (wSeq (wFor (wRng1 (wCons (wVar 0) wNil)) (wgN 2) (wAsg (wOp aMul (wC (.int 3)) (wVar 1)) (wgN 1)))
  (wRet (wVar 1))))
theorem body_power_of_three {ds : List Dat} {n : Nat} {QD : Dat → Nat → Prop} (h : G_power_of_three ds n QD) : bodyW 3 W_power_of_three ds n QD := Dl.B_power h
-- times names ['one', 'other']
def W_times : WS := (wRet (wCall G_ratio (wCons (wOp aMul (wOp aIx (wVar 0) (wC (.int 0))) (wOp aIx (wVar 1) (wC (.int 0)))) (wCons (wOp aMul (wOp aIx (wVar 0) (wC (.int 1))) (wOp aIx (wVar 1) (wC (.int 1)))) wNil))))
def G_times : Fn := fun ds n Q => ∃ (a b c d : Int) (j k : Nat), ds = [frD a b, frD c d] ∧ 0 < b ∧ 0 < d ∧ Bd j a ∧ Bd j b ∧ Bd k c ∧ Bd k d ∧ j + k ≤ 6000 ∧ ∀ p q : Int, 0 < q → Bd (j + k) p → Bd (j + k) q → p * (b * d) = (a * c) * q → Q (frD p q) n
theorem body_times {ds : List Dat} {n : Nat} {QD : Dat → Nat → Prop} (h : G_times ds n QD) : bodyW 2 W_times ds n QD := by
  obtain ⟨a, b, c, d, j, k, rfl, hb, hd, ba, bb, bc, bd, hk, h⟩ := h
  unfold W_times
  walk_at "w"
  exact ⟨cmuD ba bc (by omega), cmuD bb bd (by omega), _, _, j + k, rfl, Int.mul_pos hb hd, ba.mul bc, bb.mul bd, by omega, h⟩
-- gap__X names ['worths', 'rounds']
def W_gap__X : WS := (wSeq (wDropX G_check_worths__X (wCons (wVar 0) wNil))
  (wSeq (wDropX G_check_rounds__X (wCons (wVar 1) (wCons (wC (.int 200)) wNil)))
  (wRet (wCall G_times (wCons (wCall G_apart (wCons (wOp aIx (wVar 0) (wC (.int 0))) (wCons (wOp aIx (wVar 0) (wC (.int 1))) wNil))) (wCons (wTup (wCons (wC (.int 1)) (wCons (wCall G_power_of_three (wCons (wVar 1) wNil)) wNil))) wNil))))))
theorem isWo_of {d : Dat} (h : isWo d = true) : ∃ a b c e, d = .tup [frD a b, frD c e] ∧ 0 < b ∧ 0 < e := by
  unfold isWo at h
  split at h
  · rename_i x y
    obtain ⟨h1, h2⟩ := Bool.and_eq_true_iff.mp h
    obtain ⟨a, b, rfl, hb⟩ := isFr_of h1
    obtain ⟨c, e, rfl, he⟩ := isFr_of h2
    exact ⟨a, b, c, e, rfl, hb, he⟩
  · cases h
theorem bd_sh {i : Int} (h : ShOk (.int i)) : Bd 40 i := by
  have : -1000000000000 < i ∧ i < 1000000000000 := by
    rcases h.pl with q | q <;> simpa [plD] using q
  unfold Bd
  omega
theorem int_of {lo hi : Int} {d : Dat} (h : intOf lo hi d = true) : ∃ i, d = .int i ∧ lo ≤ i ∧ i ≤ hi := by
  unfold intOf at h
  split at h
  · rename_i i
    simp only [Bool.and_eq_true, decide_eq_true_eq] at h
    exact ⟨i, rfl, h⟩
  · cases h
theorem bd_pow {k : Nat} (h : k ≤ 200) : Bd 400 (3 ^ k : Int) := by
  unfold Bd
  rw [Int.natAbs_pow]
  have h1 : (3 : Nat) ^ k ≤ 3 ^ 200 := Nat.pow_le_pow_right (by decide) h
  have h2 : (3 : Nat) ^ 200 < 2 ^ 400 := by decide +kernel
  exact Nat.lt_of_le_of_lt h1 h2
theorem sh_fr {a b : Int} (h : ShOk (frD a b)) : Bd 40 a ∧ Bd 40 b := ⟨bd_sh (h.mem (by simp)), bd_sh (h.mem (by simp))⟩
def G_gap__X : FnX := fun ds n Q X => ∃ d r, ds = [d, r] ∧ ShOk d ∧ ShOk r ∧ (isWo d = false → X "BadWorths" d n) ∧ (isWo d = true → intOf 0 200 r = false → X "BadNumber" r n) ∧ (isWo d = true → intOf 0 200 r = true → ∀ q, Q q n)
theorem body_gap__X {ds : List Dat} {n : Nat} {QD : Dat → Nat → Prop} {XD : Str → Dat → Nat → Prop} (h : G_gap__X ds n QD XD) : bodyX 2 W_gap__X ds n QD XD := by
  obtain ⟨d, r, rfl, sd, sr, h1, h2, h3⟩ := h
  unfold W_gap__X
  walk_at "w"
  refine ⟨d, rfl, sd, fun q1 => ?_, h1⟩
  walk_at "w"
  refine ⟨r, 200, rfl, sr, fun q2 => ?_, h2 q1⟩
  have h := h3 q1 q2
  obtain ⟨a, b, c, e, rfl, hb, he⟩ := isWo_of q1
  obtain ⟨i, rfl, i0, i1⟩ := int_of q2
  obtain ⟨ba, bb⟩ := sh_fr (sd.mem (x := frD a b) (by simp))
  obtain ⟨bc, be⟩ := sh_fr (sd.mem (x := frD c e) (by simp))
  walk_at "w"
  refine ⟨a, b, c, e, 40, rfl, hb, he, ba, bb, bc, be, by decide, fun p q hq bp bq => ?_⟩
  walk_at "w"
  refine ⟨i.toNat, by rw [Int.toNat_of_nonneg i0], by omega, ?_⟩
  walk_at "w"
  exact ⟨p, q, 1, 3 ^ i.toNat, 400, 400, rfl, hq, Int.pow_pos (by decide), bp.mono (by decide), bq.mono (by decide), by unfold Bd; decide +kernel, bd_pow (by omega), by decide, fun _ _ _ _ _ _ => h _⟩
abbrev G_are_letters : Fn := Dl.G_lettersG
def W_are_letters : WS := (wRet (wAndV (wCB aIsi (wCons (wVar 0) (wCons (wC (.ty "str")) wNil))) (wAndV (wChain aLe aLe (wVar 1) (wCB aLen (wCons (wVar 0) wNil)) (wVar 2)) (wCB aAll (wCons (wFz (wLc (wAnyIt (wVar 0)) [3] (wgN 3) wYes (wOp aIn (wVar 3) (wC (.str ("nfs" : Str).cps.toList))))) wNil)))))
theorem body_are_letters {ds : List Dat} {n : Nat} {QD : Dat → Nat → Prop} (h : G_are_letters ds n QD) : bodyW 4 W_are_letters ds n QD := Dl.B_lettersG h
abbrev G_is_word : Fn := Dl.G_is_wordG
def W_is_word : WS := (wRet (wCall G_are_letters (wCons (wVar 0) (wCons (wC (.int 0)) (wCons (wC (.int 200)) wNil)))))
theorem body_is_word {ds : List Dat} {n : Nat} {QD : Dat → Nat → Prop} (h : G_is_word ds n QD) : bodyW 1 W_is_word ds n QD := Dl.B_is_wordG h
abbrev G_check_word__X : FnX := Dl.G_check_wordX
def W_check_word__X : WS := (wIfS (wNot (wTest (wCall G_is_word (wCons (wVar 0) wNil)))) (wRaise "BadWord" (wCons (wVar 0) wNil)) wNext)
theorem body_check_word__X {ds : List Dat} {n : Nat} {QD : Dat → Nat → Prop} {XD : Str → Dat → Nat → Prop} (h : G_check_word__X ds n QD XD) : bodyX 1 W_check_word__X ds n QD XD := Dl.B_check_wordX h
abbrev G_numbers_at : Fn := Dl.G_numbers_at
def W_numbers_at : WS := (wRet (wIf (wTest (wOp aEq (wOp aMod (wVar 0) (wC (.int 2))) (wC (.int 0)))) (wTup (wCons (wVar 0) (wCons (wOp aAdd (wVar 0) (wC (.int 1))) wNil))) (wTup (wCons (wOp aAdd (wVar 0) (wC (.int 1))) (wCons (wVar 0) wNil)))))
theorem body_numbers_at {ds : List Dat} {n : Nat} {QD : Dat → Nat → Prop} (h : G_numbers_at ds n QD) : bodyW 1 W_numbers_at ds n QD := Dl.B_numbers_at h
abbrev G_place_of : Fn := Dl.G_place_of
def W_place_of : WS := (wSeq (wAsg (wC (.int 0)) (wgN 1))
  (wSeq (wFor (wAnyIt (wVar 0)) (wgN 2) (wAsg (wOp aAdd (wOp aMul (wC (.int 3)) (wVar 1)) (wBM tStr idxS (wOp aIx (wC d_BACK) (wOp aMod (wVar 1) (wC (.int 2)))) (wCons (wVar 2) wNil))) (wgN 1)))
  (wRet (wVar 1))))
theorem body_place_of {ds : List Dat} {n : Nat} {QD : Dat → Nat → Prop} (h : G_place_of ds n QD) : bodyW 3 W_place_of ds n QD := Dl.B_place_of h
-- plus names ['one', 'other']
def W_plus : WS := (wRet (wCall G_ratio (wCons (wOp aAdd (wOp aMul (wOp aIx (wVar 0) (wC (.int 0))) (wOp aIx (wVar 1) (wC (.int 1)))) (wOp aMul (wOp aIx (wVar 1) (wC (.int 0))) (wOp aIx (wVar 0) (wC (.int 1))))) (wCons (wOp aMul (wOp aIx (wVar 0) (wC (.int 1))) (wOp aIx (wVar 1) (wC (.int 1)))) wNil))))
def G_plus : Fn := fun ds n Q => ∃ (a b c d : Int) (k : Nat), ds = [frD a b, frD c d] ∧ 0 < b ∧ 0 < d ∧ Bd k a ∧ Bd k b ∧ Bd k c ∧ Bd k d ∧ k ≤ 3000 ∧ ∀ p q : Int, 0 < q → Bd (2 * k + 1) p → Bd (2 * k + 1) q → p * (b * d) = (a * d + c * b) * q → Q (frD p q) n
theorem body_plus {ds : List Dat} {n : Nat} {QD : Dat → Nat → Prop} (h : G_plus ds n QD) : bodyW 2 W_plus ds n QD := by
  obtain ⟨a, b, c, d, k, rfl, hb, hd, ba, bb, bc, bd, hk, h⟩ := h
  unfold W_plus
  walk_at "w"
  refine ⟨cmuD ba bd (by omega), cmuD bc bb (by omega), cmuD bb bd (by omega), _, _, 2 * k + 1, rfl, Int.mul_pos hb hd, ?_, ?_, by omega, h⟩
  · rw [Nat.two_mul]
    exact (ba.mul bd).add (bc.mul bb)
  · exact (bb.mul bd).mono (by omega)
-- near__X names ['worths', 'word', 'parts', 'way', 'ends', 'number']
def W_near__X : WS := (wSeq (wDropX G_check_worths__X (wCons (wVar 0) wNil))
  (wSeq (wDropX G_check_word__X (wCons (wVar 1) wNil))
  (wSeq (wAsg (wTup (wCons (wCall G_power_of_three (wCons (wCB aLen (wCons (wVar 1) wNil)) wNil)) (wCons (wCall G_less (wCons (wOp aIx (wVar 0) (wC (.int 1))) (wCons (wOp aIx (wVar 0) (wC (.int 0))) wNil))) wNil))) (wgTup 2 (wgCons (wgN 2) (wgCons (wgN 3) wgNil))))
  (wSeq (wAsg (wFz (wLc (wAnyIt (wCall G_numbers_at (wCons (wCall G_place_of (wCons (wVar 1) wNil)) wNil))) [5] (wgN 5) wYes (wCall G_plus (wCons (wOp aIx (wVar 0) (wC (.int 0))) (wCons (wCall G_times (wCons (wVar 3) (wCons (wCall G_ratio (wCons (wVar 5) (wCons (wVar 2) wNil))) wNil))) wNil))))) (wgN 4))
  (wRet (wCB aTupOf (wCons (wVar 4) wNil)))))))
theorem lets_of {lo hi : Int} {d : Dat} (h : lettersOf lo hi d = true) : ∃ z, d = .str z ∧ Lets z ∧ (z.length : Int) ≤ hi := by
  unfold lettersOf at h
  split at h
  · rename_i z
    simp only [Bool.and_eq_true, decide_eq_true_eq, List.all_eq_true] at h
    exact ⟨z, rfl, fun c hc => by have := h.2.2 c hc; simpa [isLc, or_assoc] using this, h.2.1⟩
  · cases h
theorem plc_bd {z : List Nat} (hz : Lets z) (h : (z.length : Int) ≤ 200) : 0 ≤ plc 0 z ∧ plc 0 z < 3 ^ z.length := by
  have h1 := (plc_zero z 0 (by decide) hz).1
  have h2 := (plc_top z 0 1 (by decide) (by decide) (by decide) hz).1
  rw [Int.one_mul] at h2
  exact ⟨h1, h2⟩
theorem bd_near {z : List Nat} (hz : Lets z) (h : (z.length : Int) ≤ 200) : Bd 401 (plc 0 z) ∧ Bd 401 (plc 0 z + 1) := by
  obtain ⟨h1, h2⟩ := plc_bd hz h
  have h3 : Bd 400 (3 ^ z.length : Int) := bd_pow (by omega)
  have h4 : Bd 400 (plc 0 z) := by unfold Bd at *; omega
  exact ⟨h4.mono (by decide), h4.add (by unfold Bd; decide +kernel)⟩
def G_near__X : FnX := fun ds n Q X => ∃ d w, ds = [d, w] ∧ ShOk d ∧ ShOk w ∧ (isWo d = false → X "BadWorths" d n) ∧ (isWo d = true → lettersOf 0 200 w = false → X "BadWord" w n) ∧ (isWo d = true → lettersOf 0 200 w = true → ∀ q, Q q n)
theorem body_near__X {ds : List Dat} {n : Nat} {QD : Dat → Nat → Prop} {XD : Str → Dat → Nat → Prop} (h : G_near__X ds n QD XD) : bodyX 6 W_near__X ds n QD XD := by
  obtain ⟨d, w, rfl, sd, sw, h1, h2, h3⟩ := h
  unfold W_near__X
  walk_at "w"
  refine ⟨d, rfl, sd, fun q1 => ?_, h1⟩
  walk_at "w"
  refine ⟨w, rfl, sw, fun q2 => ?_, h2 q1⟩
  have h := h3 q1 q2
  obtain ⟨a, b, c, e, rfl, hb, he⟩ := isWo_of q1
  obtain ⟨z, rfl, hz, lz⟩ := lets_of q2
  obtain ⟨ba, bb⟩ := sh_fr (sd.mem (x := frD a b) (by simp))
  obtain ⟨bc, be⟩ := sh_fr (sd.mem (x := frD c e) (by simp))
  obtain ⟨n1, n2⟩ := bd_near hz lz
  have b3 : Bd 401 (3 ^ z.length : Int) := (bd_pow (by omega)).mono (by decide)
  have p3' : (0 : Int) < 3 ^ z.length := Int.pow_pos (by decide)
  walk_at "w"
  refine ⟨by omega, z.length, rfl, by omega, ?_⟩
  walk_at "w"
  refine ⟨c, e, a, b, 40, rfl, he, hb, bc, be, ba, bb, by decide, fun p q hq bp bq _ => ?_⟩
  walk_at "w"
  refine ⟨z, rfl, hz, ?_⟩
  walk_at "w"
  refine ⟨plc 0 z, rfl, ?_⟩
  obtain ⟨e1, e2⟩ : Bd 401 (numbersAt (plc 0 z)).1 ∧ Bd 401 (numbersAt (plc 0 z)).2 := by
    unfold numbersAt
    split
    · exact ⟨n1, n2⟩
    · exact ⟨n2, n1⟩
  walk_at "w"
  refine ⟨_, _, 401, rfl, p3', e1, b3, by decide, fun p1 q1 hq1 bp1 bq1 _ => ?_⟩
  refine ⟨p, q, p1, q1, 401, 401, rfl, hq, hq1, bp.mono (by decide), bq.mono (by decide), bp1, bq1, by decide, fun p2 q2 hq2 bp2 bq2 _ => ?_⟩
  walk_at "w"
  refine ⟨a, b, p2, q2, 802, rfl, hb, hq2, ba.mono (by decide), bb.mono (by decide), bp2, bq2, by decide, fun p3 q3 hq3 bp3 bq3 _ => ?_⟩
  walk_at "w"
  refine ⟨by decide, _, _, 401, rfl, p3', e2, b3, by decide, fun p4 q4 hq4 bp4 bq4 _ => ?_⟩
  refine ⟨p, q, p4, q4, 401, 401, rfl, hq, hq4, bp.mono (by decide), bq.mono (by decide), bp4, bq4, by decide, fun p5 q5 hq5 bp5 bq5 _ => ?_⟩
  exact ⟨a, b, p5, q5, 802, rfl, hb, hq5, ba.mono (by decide), bb.mono (by decide), bp5, bq5, by decide, fun _ _ _ _ _ _ => ⟨by decide, h _⟩⟩
-- is_size names ['value']
def W_is_size : WS := (wRet (wAndV (wCall G_is_ratio (wCons (wVar 0) wNil)) (wOp aGt (wOp aIx (wVar 0) (wC (.int 0))) (wC (.int 0)))))
def G_is_size : Fn := fun ds n Q => ∃ d, ds = [d] ∧ ShOk d ∧ Q (.bl (isSz d)) n
theorem body_is_size {ds : List Dat} {n : Nat} {QD : Dat → Nat → Prop} (h : G_is_size ds n QD) : bodyW 1 W_is_size ds n QD := by
  obtain ⟨d, rfl, sd, h⟩ := h
  unfold W_is_size
  walk_at "w"
  refine ⟨d, rfl, sd, ?_⟩
  cases c : isFr d with
  | false =>
    rw [isSz_no c] at h
    walk_at "w"
    exact h
  | true =>
    obtain ⟨p, q, rfl, _⟩ := isFr_of c
    have h' : QD (.bl (isFr (frD p q) && decide (0 < p))) n := h
    rw [c, Bool.true_and] at h'
    walk_at "w"
    exact h'
-- needed__X names ['worths', 'distance', 'rounds', 'here']
def W_needed__X : WS := (wSeq (wDropX G_check_worths__X (wCons (wVar 0) wNil))
  (wSeq (wIfS (wNot (wTest (wCall G_is_size (wCons (wVar 1) wNil)))) (wRaise "BadDistance" (wCons (wVar 1) wNil)) wNext)
  (wSeq (wPar 2 3 (wCons (wC (.int 0)) (wCons (wCall G_apart (wCons (wOp aIx (wVar 0) (wC (.int 0))) (wCons (wOp aIx (wVar 0) (wC (.int 1))) wNil))) wNil)))
  (wSeq (wWhile (wTest (wCall G_is_below (wCons (wVar 1) (wCons (wVar 3) wNil)))) (wPar 2 3 (wCons (wOp aAdd (wVar 2) (wC (.int 1))) (wCons (wCall G_times (wCons (wVar 3) (wCons (wC d_THIRD) wNil))) wNil))))
  (wRet (wVar 2))))))
theorem three_121 {i : Nat} (h : (3 : Int) ^ i < 2 ^ 121) : i < 121 := by
  by_cases c : i < 121
  · exact c
  · have h1 : (3 : Nat) ^ 121 ≤ 3 ^ i := Nat.pow_le_pow_right (by decide) (by omega)
    have h2 : (2 : Nat) ^ 121 < 3 ^ 121 := by decide +kernel
    have h3 : ((3 ^ i : Nat) : Int) = 3 ^ i := by rw [Int.natCast_pow]; rfl
    have h4 : ((2 ^ 121 : Nat) : Int) = 2 ^ 121 := by decide +kernel
    omega
theorem lap_bd {a b p q s t : Int} {i : Nat} (hb : 0 < b) (hq : 0 < q) (hs : 0 < s) (ba : Bd 81 a) (bt : Bd 40 t) (e : p * (b * 3 ^ i) = a * q) (lt : s * q < p * t) (ht : 0 < t) : i < 121 := by
  have p3 : (0 : Int) < 3 ^ i := Int.pow_pos (by decide)
  have sq : q ≤ s * q := by
    have := Int.mul_le_mul_of_nonneg_right (show (1 : Int) ≤ s by omega) (Int.le_of_lt hq)
    omega
  have pp : 0 < p := by
    by_cases c : 0 < p
    · exact c
    · have := Int.mul_nonneg (show (0 : Int) ≤ -p by omega) (Int.le_of_lt ht)
      rw [Int.neg_mul] at this
      omega
  have a1 : a < 2 ^ 81 := by unfold Bd at ba; omega
  have t1 : t < 2 ^ 40 := by unfold Bd at bt; omega
  refine three_121 ?_
  have h1 : p * 3 ^ i ≤ a * q := by
    rw [← e]
    refine Int.mul_le_mul_of_nonneg_left ?_ (Int.le_of_lt pp)
    have := Int.mul_le_mul_of_nonneg_right (show (1 : Int) ≤ b by omega) (Int.le_of_lt p3)
    omega
  have h2 : a * q ≤ 2 ^ 81 * q := Int.mul_le_mul_of_nonneg_right (Int.le_of_lt a1) (Int.le_of_lt hq)
  have h3 : p * t ≤ p * 2 ^ 40 := Int.mul_le_mul_of_nonneg_left (Int.le_of_lt t1) (Int.le_of_lt pp)
  have h4 : p * 3 ^ i < p * 2 ^ 121 := by
    have : (2 : Int) ^ 121 = 2 ^ 40 * 2 ^ 81 := by decide +kernel
    rw [this, ← Int.mul_assoc]
    have : 2 ^ 81 * q < p * 2 ^ 40 * 2 ^ 81 := by
      rw [Int.mul_comm]
      exact Int.mul_lt_mul_of_pos_right (by omega) (by decide)
    omega
  exact Int.lt_of_mul_lt_mul_left h4 (Int.le_of_lt pp)
def G_needed__X : FnX := fun ds n Q X => ∃ d s, ds = [d, s] ∧ ShOk d ∧ ShOk s ∧ (isWo d = false → X "BadWorths" d n) ∧ (isWo d = true → isSz s = false → X "BadDistance" s n) ∧ (isWo d = true → isSz s = true → ∀ q, Q q n)
theorem isSz_of {d : Dat} (h : isSz d = true) : ∃ p q, d = frD p q ∧ 0 < q ∧ 0 < p := by
  unfold isSz at h
  split at h
  · rename_i p q
    have h' : (decide (1 ≤ q) && decide (Int.gcd p q = 1) && decide (0 < p)) = true := h
    simp only [Bool.and_eq_true, decide_eq_true_eq] at h'
    exact ⟨p, q, rfl, by omega, h'.2⟩
  · cases h
theorem body_needed__X {ds : List Dat} {n : Nat} {QD : Dat → Nat → Prop} {XD : Str → Dat → Nat → Prop} (h : G_needed__X ds n QD XD) : bodyX 4 W_needed__X ds n QD XD := by
  obtain ⟨d, s, rfl, sd, ss, h1, h2, h3⟩ := h
  unfold W_needed__X
  walk_at "w"
  refine ⟨d, rfl, sd, fun q1 => ?_, h1⟩
  walk_at "w"
  refine ⟨s, rfl, ss, ?_⟩
  cases q2 : isSz s with
  | false =>
    walk_at "w"
    exact h2 q1 q2
  | true =>
    have h := h3 q1 q2
    obtain ⟨a, b, c, e, rfl, hb, he⟩ := isWo_of q1
    obtain ⟨u, t, rfl, ht, hu⟩ := isSz_of q2
    obtain ⟨ba, bb⟩ := sh_fr (sd.mem (x := frD a b) (by simp))
    obtain ⟨bc, be⟩ := sh_fr (sd.mem (x := frD c e) (by simp))
    obtain ⟨bu, bt⟩ := sh_fr ss
    walk_at "w"
    refine ⟨a, b, c, e, 40, rfl, hb, he, ba, bb, bc, be, by decide, fun x y hy bx by' => ?_⟩
    walk_at "w"
    refine wWhile_at (fun S => ∃ (i : Nat) (p q : Int), i ≤ 121 ∧ 0 < q ∧ Bd (81 + 2 * i) p ∧ Bd (81 + 2 * i) q ∧ p * (y * 3 ^ i) = x * q ∧ S = ⟨[.im (.tup [frD a b, frD c e]), .im (frD u t), .im (.int i), .im (frD p q)], n⟩) (fun S => match S.sl with | [_, _, .im (.int i), _] => 121 - i.toNat | _ => 0) ?_ ⟨0, x, y, by decide, hy, bx, by', by rw [Int.pow_zero, Int.mul_one], rfl⟩
    rintro S ⟨i, p, q, hi, hq, bp, bq, ee, rfl⟩ N hN
    walk_at "w"
    refine ⟨u, t, p, q, 400, rfl, bu.mono (by decide), bt.mono (by decide), bp.mono (by omega), bq.mono (by omega), by decide, ?_⟩
    walk_at "w"
    by_cases lt : u * q < p * t
    · rw [if_pos lt]
      have i3 : i < 121 := lap_bd hy hq hu bx bt ee lt ht
      refine ⟨p, q, 1, 3, 81 + 2 * i, 2, rfl, hq, by decide, bp, bq, by unfold Bd; decide, by unfold Bd; decide, by omega, fun p2 q2 hq2 bp2 bq2 e2 => hN _ ⟨i + 1, p2, q2, by omega, hq2, bp2, bq2, ?_, rfl⟩ ?_⟩
      · have : p2 * (y * 3 ^ (i + 1)) * q = x * q2 * q := by
          rw [Int.pow_succ]
          calc p2 * (y * (3 ^ i * 3)) * q = (p2 * (q * 3)) * (y * 3 ^ i) := by grind
            _ = (p * 1 * q2) * (y * 3 ^ i) := by rw [e2]
            _ = (p * (y * 3 ^ i)) * q2 := by grind
            _ = x * q * q2 := by rw [ee]
            _ = x * q2 * q := by grind
        exact Int.eq_of_mul_eq_mul_right (by omega) this
      · show 121 - ((i : Int) + 1).toNat < 121 - (i : Int).toNat
        omega
    · rw [if_neg lt]
      exact h _
-- rounds_of_ends names ['value', 'rounds', 'many', 'one']
def W_rounds_of_ends : WS := (wSeq (wFor (wRng1 (wCons (wOp aAdd (wC (.int 5)) (wC (.int 1))) wNil)) (wgN 1) (wSeq (wAsg (wOp aAdd (wCall G_power_of_three (wCons (wVar 1) wNil)) (wC (.int 1))) (wgN 2))
  (wIfS (wTest (wCall G_is_tuple (wCons (wVar 0) (wCons (wVar 2) (wCons (wVar 2) wNil))))) (wRet (wIf (wTest (wCB aAll (wCons (wFz (wLc (wAnyIt (wVar 0)) [3] (wgN 3) wYes (wCall G_is_ratio (wCons (wVar 3) wNil)))) wNil))) (wVar 1) (wC .non))) wNext)))
  (wRet (wC .non)))
def G_rounds_of_ends : Fn := fun ds n Q => ∃ d, ds = [d] ∧ ShOk d ∧ (isEn d = false → Q .non n) ∧ ∀ (m : Nat) (l : List Dat), d = .tup l → m ≤ 5 → l.length = 3 ^ m + 1 → isEn d = true → Q (.int m) n
theorem body_rounds_of_ends {ds : List Dat} {n : Nat} {QD : Dat → Nat → Prop} (h : G_rounds_of_ends ds n QD) : bodyW 4 W_rounds_of_ends ds n QD := by
  obtain ⟨d, rfl, sd, h1, h2⟩ := h
  unfold W_rounds_of_ends
  walk_at "w"
  refine ⟨by decide, by decide, ?_⟩
  refine forW_at _ (fun i S => (∀ (m : Nat) (l : List Dat), m < i → d = .tup l → l.length ≠ 3 ^ m + 1) ∧ ∃ s1 s2, S = ⟨[.im d, s1, s2, .un], n⟩) _ ?_ ⟨fun _ _ h => absurd h (Nat.not_lt_zero _), _, _, rfl⟩ ?_
  · rintro i x S hd ⟨hi, s1, s2, rfl⟩ N hN
    obtain ⟨hi2, rfl⟩ := intsD_get hd
    walk_at "w"
    simp only [Int.zero_add]
    refine ⟨i, rfl, by omega, ?_⟩
    walk_at "w"
    refine ⟨_, _, _, rfl, sd, ?_⟩
    have i2 : (3 : Int) ^ i = ((3 ^ i : Nat) : Int) := by rw [Int.natCast_pow]; rfl
    cases c : tupOf (3 ^ i + 1) (3 ^ i + 1) d with
    | true =>
      obtain ⟨l, rfl⟩ : ∃ l, d = .tup l := by
        unfold tupOf at c
        split at c
        · exact ⟨_, rfl⟩
        · cases c
      have hl : l.length = 3 ^ i + 1 := by
        simp only [tupOf, Bool.and_eq_true, decide_eq_true_eq] at c
        rw [i2] at c
        omega
      have hi5 : i ≤ 5 := by omega
      have lb : l.length ≤ 100000 := sd.len
      walk_at "w"
      refine lcW_map (fun x => .bl (isFr x)) _ _ lb (fun x hx R R0 hR => ?_) ?_
      · walk_at "w"
        exact ⟨x, rfl, sd.mem hx, hR⟩
      · obtain ⟨bs, b1, b2⟩ := isBls_fr l
        refine ⟨bs, b1, ?_⟩
        rw [b2]
        have e1 := pow_isEn hi5 hl
        cases c2 : l.all isFr with
        | true =>
          rw [c2] at e1
          walk_at "w"
          exact h2 i l rfl hi5 hl e1
        | false =>
          rw [c2] at e1
          walk_at "w"
          exact h1 e1
    | false =>
      walk_at "w"
      refine hN _ ⟨fun m l hm e hl => ?_, _, _, rfl⟩
      by_cases q : m = i
      · subst q
        rw [e] at c
        simp only [tupOf, Bool.and_eq_false_iff, decide_eq_false_iff_not] at c
        rw [i2] at c
        omega
      · exact hi m l (by omega) e hl
  · rintro S ⟨hi, s1, s2, rfl⟩
    walk_at "w"
    refine h1 ?_
    cases c : isEn d with
    | false => rfl
    | true =>
      exfalso
      obtain ⟨l, rfl⟩ := isEn_tup c
      obtain ⟨m, hm, hl, _⟩ := isEn_pow c
      exact hi m l (by simp [intsD]; omega) rfl hl
abbrev G_word_of : Fn := Dl.G_word_of
def W_word_of : WS := (wSeq (wAsg (wC (.str ("" : Str).cps.toList)) (wgN 2))
  (wSeq (wFor (wRng1 (wCons (wVar 0) wNil)) (wgN 3) (wSeq (wAsg (wOp aFd (wVar 1) (wC (.int 3))) (wgN 4))
  (wSeq (wAsg (wOp aAdd (wOp aIx (wOp aIx (wC d_BACK) (wOp aMod (wVar 4) (wC (.int 2)))) (wOp aMod (wVar 1) (wC (.int 3)))) (wVar 2)) (wgN 2))
  (wAsg (wVar 4) (wgN 1)))))
  (wRet (wVar 2))))
theorem body_word_of {ds : List Dat} {n : Nat} {QD : Dat → Nat → Prop} (h : G_word_of ds n QD) : bodyW 5 W_word_of ds n QD := Dl.B_word_of h
-- widest__X names ['ends', 'rounds', 'found', 'most', 'its', 'here']
def W_widest__X : WS := (wSeq (wAsg (wCall G_rounds_of_ends (wCons (wVar 0) wNil)) (wgN 1))
  (wSeq (wIfS (wTest (wOp aIsW (wVar 1) (wC .non))) (wRaise "BadEnds" (wCons (wVar 0) wNil)) wNext)
  (wSeq (wPar 2 3 (wCons (wC (.int 0)) (wCons (wCall G_apart (wCons (wOp aIx (wVar 0) (wC (.int 0))) (wCons (wOp aIx (wVar 0) (wC (.int 1))) wNil))) wNil)))
  (wSeq (wFor (wRng2 (wCons (wC (.int 1)) (wCons (wCall G_power_of_three (wCons (wVar 1) wNil)) wNil))) (wgN 4) (wSeq (wAsg (wCall G_apart (wCons (wOp aIx (wVar 0) (wVar 4)) (wCons (wOp aIx (wVar 0) (wOp aAdd (wVar 4) (wC (.int 1)))) wNil))) (wgN 5))
  (wIfS (wTest (wCall G_is_below (wCons (wVar 3) (wCons (wVar 5) wNil)))) (wPar 2 3 (wCons (wVar 4) (wCons (wVar 5) wNil))) wNext)))
  (wRet (wTup (wCons (wCall G_word_of (wCons (wVar 1) (wCons (wVar 2) wNil))) (wCons (wVar 3) wNil))))))))
def G_widest__X : FnX := fun ds n Q X => ∃ d, ds = [d] ∧ ShOk d ∧ (isEn d = false → X "BadEnds" d n) ∧ (isEn d = true → ∀ q, Q q n)
theorem body_widest__X {ds : List Dat} {n : Nat} {QD : Dat → Nat → Prop} {XD : Str → Dat → Nat → Prop} (h : G_widest__X ds n QD XD) : bodyX 6 W_widest__X ds n QD XD := by
  obtain ⟨d, rfl, sd, h1, h2⟩ := h
  unfold W_widest__X
  walk_at "w"
  refine ⟨d, rfl, sd, fun e => ?_, fun m l el hm hl he => ?_⟩
  · walk_at "w"
    exact h1 e
  · subst el
    have h := h2 he
    obtain ⟨_, _, _, af⟩ := isEn_pow he
    have m3 : 3 ^ m ≤ 243 := Nat.pow_le_pow_right (n := 3) (by decide) hm
    have m1 : 1 ≤ 3 ^ m := Nat.pow_pos (by decide)
    have i2 : (3 : Int) ^ m = ((3 ^ m : Nat) : Int) := by rw [Int.natCast_pow]; rfl
    have frl : ∀ i : Nat, i < l.length → ∃ p q : Int, l[i]? = some (frD p q) ∧ 0 < q ∧ Bd 40 p ∧ Bd 40 q := fun i hi => by
      have hm := List.getElem_mem hi
      obtain ⟨p, q, e, hq⟩ := isFr_of (af _ hm)
      have sp := sd.mem hm
      rw [e] at sp
      exact ⟨p, q, by rw [List.getElem?_eq_getElem hi, e], hq, sh_fr sp⟩
    obtain ⟨p0, q0, g0, h0, b0, b0'⟩ := frl 0 (by omega)
    obtain ⟨p1, q1, g1, h1', b1, b1'⟩ := frl 1 (by omega)
    walk_at "w"
    refine ⟨_, g0, _, g1, p0, q0, p1, q1, 40, rfl, h0, h1', b0, b0', b1, b1', by decide, fun p q hq bp bq => ?_⟩
    refine ⟨m, rfl, by omega, ?_⟩
    walk_at "w"
    refine ⟨⟨by omega, by omega⟩, ?_⟩
    refine forW_at _ (fun i S => ∃ (k p q : Int), ∃ s1 s2, 0 ≤ k ∧ 0 < q ∧ Bd 81 p ∧ Bd 81 q ∧ S = ⟨[.im (.tup l), .im (.int m), .im (.int k), .im (frD p q), s1, s2], n⟩) _ ?_ ⟨0, p, q, _, _, by decide, hq, bp, bq, rfl⟩ ?_
    · rintro i x S hd ⟨k, p, q, s1, s2, hk, hq, bp, bq, rfl⟩ N hN
      obtain ⟨hi2, rfl⟩ := intsD_get hd
      obtain ⟨u0, v0, w0, z0, y0, y0'⟩ := frl (i + 1) (by omega)
      obtain ⟨u1, v1, w1, z1, y1, y1'⟩ := frl (i + 2) (by omega)
      have a1 : atI l (1 + (i : Int)) = some (frD u0 v0) := by
        have e : (1 + (i : Int)) = ((i + 1 : Nat) : Int) := by omega
        rw [e, atI_pos (by omega), Int.toNat_natCast]
        exact w0
      have a2 : atI l (1 + (i : Int) + 1) = some (frD u1 v1) := by
        have e : (1 + (i : Int) + 1) = ((i + 2 : Nat) : Int) := by omega
        rw [e, atI_pos (by omega), Int.toNat_natCast]
        exact w1
      walk_at "w"
      refine ⟨_, a1, _, a2, u0, v0, u1, v1, 40, rfl, z0, z1, y0, y0', y1, y1', by decide, fun p2 q2 hq2 bp2 bq2 => ?_⟩
      refine ⟨p, q, p2, q2, 81, rfl, bp, bq, bp2, bq2, by decide, ?_⟩
      by_cases c : p * q2 < p2 * q
      · rw [decide_eq_true c]
        exact hN _ ⟨_, p2, q2, _, _, by omega, hq2, bp2, bq2, rfl⟩
      · rw [decide_eq_false c]
        exact hN _ ⟨k, p, q, _, _, hk, hq, bp, bq, rfl⟩
    · rintro S ⟨k, p, q, s1, s2, hk, hq, bp, bq, rfl⟩
      walk_at "w"
      refine ⟨m, k, rfl, by omega, hk, ?_⟩
      walk_at "w"
      exact h _
-- _law_is_refused_right names ['worths', 'word', 'number', 'goal', 'marks', 'due', 'worse']
def W__law_is_refused_right : WS := (wSeq (wAsg (wIf (wTest (wCall G__law_are_worths (wCons (wVar 0) wNil))) (wFz (wLst wNil)) (wFz (wLst (wCons (wTup (wCons (wC (.str ("worths" : Str).cps.toList)) (wCons (wVar 0) wNil))) wNil)))) (wgN 5))
  (wSeq (wAsg (wIf (wTest (wCall G__law_law_is_word (wCons (wVar 1) (wCons (wC (.int 0)) (wCons (wC (.int 200)) wNil))))) (wFz (wLst wNil)) (wFz (wLst (wCons (wTup (wCons (wC (.str ("word" : Str).cps.toList)) (wCons (wVar 1) wNil))) wNil)))) (wgN 6))
  (wSeq (wIfS (wNot (wTest (wLam [0, 1] G__law_is_raised (wRetXN 0 2 G_near__X k_near_0_word_worths_D wNil (wCons (wVar 1) (wCons (wVar 0) wNil))) (wCons (wOp aAdd (wVar 5) (wVar 6)) wNil)))) (wRet (wC (.bl false))) wNext)
  (wSeq (wAsg (wIf (wTest (wCall G__law_is_int (wCons (wVar 2) (wCons (wC (.int 0)) (wCons (wC (.int 200)) wNil))))) (wFz (wLst wNil)) (wFz (wLst (wCons (wTup (wCons (wC (.str ("number" : Str).cps.toList)) (wCons (wVar 2) wNil))) wNil)))) (wgN 6))
  (wSeq (wIfS (wNot (wTest (wLam [0, 2] G__law_is_raised (wRetXN 0 2 G_gap__X k_gap_0_rounds_worths_D wNil (wCons (wVar 2) (wCons (wVar 0) wNil))) (wCons (wOp aAdd (wVar 5) (wVar 6)) wNil)))) (wRet (wC (.bl false))) wNext)
  (wSeq (wAsg (wIf (wTest (wCall G__law_frac_is_size (wCons (wVar 3) wNil))) (wFz (wLst wNil)) (wFz (wLst (wCons (wTup (wCons (wC (.str ("distance" : Str).cps.toList)) (wCons (wVar 3) wNil))) wNil)))) (wgN 6))
  (wSeq (wIfS (wNot (wTest (wLam [0, 3] G__law_is_raised (wRetX G_needed__X (wCons (wVar 0) (wCons (wVar 3) wNil))) (wCons (wOp aAdd (wVar 5) (wVar 6)) wNil)))) (wRet (wC (.bl false))) wNext)
  (wRet (wLam [4] G__law_is_raised (wRetX G_widest__X (wCons (wVar 4) wNil)) (wCons (wIf (wTest (wCall G__law_are_ends (wCons (wVar 4) wNil))) (wFz (wLst wNil)) (wFz (wLst (wCons (wTup (wCons (wC (.str ("ends" : Str).cps.toList)) (wCons (wVar 4) wNil))) wNil)))) wNil))))))))))
theorem Mk.uniq {w : List Nat} {c c' : Str} (h : Mk w c) (h' : Mk w c') : c = c' := by
  cases h <;> cases h' <;> rfl
theorem due_head {n : Nat} {QD : Dat → Nat → Prop} {XD : Str → Dat → Nat → Prop} {w : List Nat} {c : Str} {v : Dat} {r : List Dat} (m : Mk w c) (h : Due n QD XD (.tup [.str w, v] :: r)) : XD c v n := by
  cases h with
  | bad m' sv hx =>
    rw [m.uniq m']
    exact hx
theorem due_nil {n : Nat} {QD : Dat → Nat → Prop} {XD : Str → Dat → Nat → Prop} (h : Due n QD XD []) (d : Dat) : QD d n := by
  cases h with
  | none h => exact h d
theorem tf {P : Prop} {b : Bool} (h : b = true) (g : b = false) : P := by
  rw [h] at g
  cases g
def C4__law_is_refused_right : WS := (wRet (wLam [4] G__law_is_raised (wRetX G_widest__X (wCons (wVar 4) wNil)) (wCons (wIf (wTest (wCall G__law_are_ends (wCons (wVar 4) wNil))) (wFz (wLst wNil)) (wFz (wLst (wCons (wTup (wCons (wC (.str ("ends" : Str).cps.toList)) (wCons (wVar 4) wNil))) wNil)))) wNil)))
def C3__law_is_refused_right : WS := (wSeq (wAsg (wIf (wTest (wCall G__law_frac_is_size (wCons (wVar 3) wNil))) (wFz (wLst wNil)) (wFz (wLst (wCons (wTup (wCons (wC (.str ("distance" : Str).cps.toList)) (wCons (wVar 3) wNil))) wNil)))) (wgN 6))
  (wSeq (wIfS (wNot (wTest (wLam [0, 3] G__law_is_raised (wRetX G_needed__X (wCons (wVar 0) (wCons (wVar 3) wNil))) (wCons (wOp aAdd (wVar 5) (wVar 6)) wNil)))) (wRet (wC (.bl false))) wNext)
  C4__law_is_refused_right))
def C2__law_is_refused_right : WS := (wSeq (wAsg (wIf (wTest (wCall G__law_is_int (wCons (wVar 2) (wCons (wC (.int 0)) (wCons (wC (.int 200)) wNil))))) (wFz (wLst wNil)) (wFz (wLst (wCons (wTup (wCons (wC (.str ("number" : Str).cps.toList)) (wCons (wVar 2) wNil))) wNil)))) (wgN 6))
  (wSeq (wIfS (wNot (wTest (wLam [0, 2] G__law_is_raised (wRetXN 0 2 G_gap__X k_gap_0_rounds_worths_D wNil (wCons (wVar 2) (wCons (wVar 0) wNil))) (wCons (wOp aAdd (wVar 5) (wVar 6)) wNil)))) (wRet (wC (.bl false))) wNext)
  C3__law_is_refused_right))
def C1__law_is_refused_right : WS := (wSeq (wAsg (wIf (wTest (wCall G__law_law_is_word (wCons (wVar 1) (wCons (wC (.int 0)) (wCons (wC (.int 200)) wNil))))) (wFz (wLst wNil)) (wFz (wLst (wCons (wTup (wCons (wC (.str ("word" : Str).cps.toList)) (wCons (wVar 1) wNil))) wNil)))) (wgN 6))
  (wSeq (wIfS (wNot (wTest (wLam [0, 1] G__law_is_raised (wRetXN 0 2 G_near__X k_near_0_word_worths_D wNil (wCons (wVar 1) (wCons (wVar 0) wNil))) (wCons (wOp aAdd (wVar 5) (wVar 6)) wNil)))) (wRet (wC (.bl false))) wNext)
  C2__law_is_refused_right))
theorem c__law_is_refused_right : W__law_is_refused_right = (wSeq (wAsg (wIf (wTest (wCall G__law_are_worths (wCons (wVar 0) wNil))) (wFz (wLst wNil)) (wFz (wLst (wCons (wTup (wCons (wC (.str ("worths" : Str).cps.toList)) (wCons (wVar 0) wNil))) wNil)))) (wgN 5))
  C1__law_is_refused_right) := rfl
def HL (m : List Nat) (b : Bool) (v : Dat) (L : List Dat) : Prop := (b = true ∧ L = []) ∨ (b = false ∧ L = [.tup [.str m, v]])
theorem HL.le {m : List Nat} {b : Bool} {v : Dat} {L : List Dat} (h : HL m b v L) : L.length ≤ 1 := by
  rcases h with ⟨_, rfl⟩ | ⟨_, rfl⟩ <;> simp
theorem HL.pick {m : List Nat} {c : Str} {b : Bool} {v : Dat} {L : List Dat} (h : HL m b v L) (M : Mk m c) (s : ShOk v) : L = [] ∨ ∃ w c v r, Mk w c ∧ ShOk v ∧ L = .tup [.str w, v] :: r := by
  rcases h with ⟨_, rfl⟩ | ⟨_, rfl⟩
  · exact .inl rfl
  · exact .inr ⟨_, _, _, _, M, s, rfl⟩
theorem HL.pick2 {m m2 : List Nat} {c c2 : Str} {b b2 : Bool} {v v2 : Dat} {L L2 : List Dat} (h : HL m b v L) (M : Mk m c) (s : ShOk v) (h2 : HL m2 b2 v2 L2) (M2 : Mk m2 c2) (s2 : ShOk v2) : L ++ L2 = [] ∨ ∃ w c v r, Mk w c ∧ ShOk v ∧ L ++ L2 = .tup [.str w, v] :: r := by
  rcases h with ⟨_, rfl⟩ | ⟨_, rfl⟩
  · exact h2.pick M2 s2
  · exact .inr ⟨_, _, _, _, M, s, rfl⟩
theorem HL.d1 {n : Nat} {QD : Dat → Nat → Prop} {XD : Str → Dat → Nat → Prop} {m : List Nat} {c : Str} {b : Bool} {v : Dat} {L R : List Dat} (h : HL m b v L) (M : Mk m c) (hX : Due n QD XD (L ++ R)) (q : b = false) : XD c v n := by
  rcases h with ⟨q', rfl⟩ | ⟨_, rfl⟩
  · exact tf q' q
  · exact due_head M hX
theorem HL.d0 {n : Nat} {QD : Dat → Nat → Prop} {XD : Str → Dat → Nat → Prop} {m : List Nat} {b : Bool} {v : Dat} {L R : List Dat} (h : HL m b v L) (hX : Due n QD XD (L ++ R)) (q : b = true) : Due n QD XD R := by
  rcases h with ⟨_, rfl⟩ | ⟨q', rfl⟩
  · exact hX
  · exact tf q q'
theorem HL.e1 {n : Nat} {QD : Dat → Nat → Prop} {XD : Str → Dat → Nat → Prop} {m : List Nat} {c : Str} {b : Bool} {v : Dat} {L : List Dat} (h : HL m b v L) (M : Mk m c) (hX : Due n QD XD L) (q : b = false) : XD c v n := by
  rcases h with ⟨q', rfl⟩ | ⟨_, rfl⟩
  · exact tf q' q
  · exact due_head M hX
theorem HL.e0 {n : Nat} {QD : Dat → Nat → Prop} {XD : Str → Dat → Nat → Prop} {m : List Nat} {b : Bool} {v : Dat} {L : List Dat} (h : HL m b v L) (hX : Due n QD XD L) (q : b = true) (d : Dat) : QD d n := by
  rcases h with ⟨_, rfl⟩ | ⟨q', rfl⟩
  · exact due_nil hX d
  · exact tf q q'
theorem HL.t {m : List Nat} {b : Bool} {v : Dat} (e : b = true) : HL m b v [] := .inl ⟨e, rfl⟩
theorem HL.f {m : List Nat} {b : Bool} {v : Dat} (e : b = false) : HL m b v [.tup [.str m, v]] := .inr ⟨e, rfl⟩
def G__law_is_refused_right : Fn := fun ds n Q => ∃ d w r s e, ds = [d, w, r, s, e] ∧ ShOk d ∧ ShOk w ∧ ShOk r ∧ ShOk s ∧ ShOk e ∧ Q (.bl true) n
theorem st4 {D : Dx} {d w r s e : Dat} {s5 s6 : Sl} {n : Nat} (se : ShOk e) (h : D.rt (.bl true) n) : C4__law_is_refused_right D ⟨[.im d, .im w, .im r, .im s, .im e, s5, s6], n⟩ := by
  unfold C4__law_is_refused_right
  walk_at "lit"
  walk_at "w"
  refine ⟨se.good.2, fun G f => ⟨e, rfl, se, ?_⟩⟩
  cases e5 : isEn e
  · walk_at "w"
    refine ⟨_, rfl, (HL.f (m := [101, 110, 100, 115]) e5).pick .ends se, h, fun QD XD hX => ?_⟩
    walk_at "w"
    exact ⟨e, rfl, se, fun q1 => (HL.f (m := [101, 110, 100, 115]) e5).e1 .ends hX q1, fun q1 q => tf q1 e5⟩
  · walk_at "w"
    refine ⟨_, rfl, (HL.t (m := [101, 110, 100, 115]) (v := e) e5).pick .ends se, h, fun QD XD hX => ?_⟩
    walk_at "w"
    exact ⟨e, rfl, se, fun q1 => tf e5 q1, fun q1 q => due_nil hX _⟩
theorem st3 {D : Dx} {d w r s e : Dat} {s6 : Sl} {n : Nat} {L : List Dat} (sd : ShOk d) (ss : ShOk s) (se : ShOk e) (hL : HL [119, 111, 114, 116, 104, 115] (isWo d) d L) (h : D.rt (.bl true) n) : C3__law_is_refused_right D ⟨[.im d, .im w, .im r, .im s, .im e, .im (.lst L), s6], n⟩ := by
  unfold C3__law_is_refused_right
  walk_at "lit"
  walk_at "w"
  refine ⟨s, rfl, ss, ?_⟩
  cases e4 : isSz s
  all_goals
    walk_at "w"
    refine ⟨⟨sd.good.2, ss.good.2⟩, fun G f => ⟨by have := hL.le; omega, _, rfl, hL.pick2 .worths sd (by first | exact HL.f (m := [100, 105, 115, 116, 97, 110, 99, 101]) e4 | exact HL.t (m := [100, 105, 115, 116, 97, 110, 99, 101]) (v := s) e4) .distance ss, ?_, fun QD XD hX => ?_⟩⟩
    rotate_left
    · walk_at "w"
      refine ⟨d, s, rfl, sd, ss, fun q1 => hL.d1 .worths hX q1, fun q1 q2 => ?_, fun q1 q2 q => ?_⟩
      all_goals
        have hX2 := hL.d0 hX q1
        first | exact tf q2 e4 | exact tf e4 q2 | exact due_head .distance hX2 | exact due_nil hX2 _
    walk_at "w"
    exact st4 se h
theorem st2 {D : Dx} {d w r s e : Dat} {s6 : Sl} {n : Nat} {L : List Dat} (sd : ShOk d) (sr : ShOk r) (ss : ShOk s) (se : ShOk e) (hL : HL [119, 111, 114, 116, 104, 115] (isWo d) d L) (h : D.rt (.bl true) n) : C2__law_is_refused_right D ⟨[.im d, .im w, .im r, .im s, .im e, .im (.lst L), s6], n⟩ := by
  unfold C2__law_is_refused_right
  walk_at "lit"
  walk_at "w"
  refine ⟨r, 0, 200, rfl, sr, ?_⟩
  cases e4 : intOf 0 200 r
  all_goals
    walk_at "w"
    refine ⟨⟨sd.good.2, sr.good.2⟩, fun G f => ⟨by have := hL.le; omega, _, rfl, hL.pick2 .worths sd (by first | exact HL.f (m := [110, 117, 109, 98, 101, 114]) e4 | exact HL.t (m := [110, 117, 109, 98, 101, 114]) (v := r) e4) .number sr, ?_, fun QD XD hX => ?_⟩⟩
    rotate_left
    · walk_at "w"
      simp only [k_gap_0_rounds_worths_D, List.getD_cons_zero, List.getD_cons_succ]
      refine ⟨d, r, rfl, sd, sr, fun q1 => hL.d1 .worths hX q1, fun q1 q2 => ?_, fun q1 q2 q => ?_⟩
      all_goals
        have hX2 := hL.d0 hX q1
        first | exact tf q2 e4 | exact tf e4 q2 | exact due_head .number hX2 | exact due_nil hX2 _
    walk_at "w"
    exact st3 sd ss se hL h
theorem st1 {D : Dx} {d w r s e : Dat} {s6 : Sl} {n : Nat} {L : List Dat} (sd : ShOk d) (sw : ShOk w) (sr : ShOk r) (ss : ShOk s) (se : ShOk e) (hL : HL [119, 111, 114, 116, 104, 115] (isWo d) d L) (h : D.rt (.bl true) n) : C1__law_is_refused_right D ⟨[.im d, .im w, .im r, .im s, .im e, .im (.lst L), s6], n⟩ := by
  unfold C1__law_is_refused_right
  walk_at "lit"
  walk_at "w"
  refine ⟨w, 0, 200, rfl, sw, ?_⟩
  cases e4 : lettersOf 0 200 w
  all_goals
    walk_at "w"
    refine ⟨⟨sd.good.2, sw.good.2⟩, fun G f => ⟨by have := hL.le; omega, _, rfl, hL.pick2 .worths sd (by first | exact HL.f (m := [119, 111, 114, 100]) e4 | exact HL.t (m := [119, 111, 114, 100]) (v := w) e4) .word sw, ?_, fun QD XD hX => ?_⟩⟩
    rotate_left
    · walk_at "w"
      simp only [k_near_0_word_worths_D, List.getD_cons_zero, List.getD_cons_succ]
      refine ⟨d, w, rfl, sd, sw, fun q1 => hL.d1 .worths hX q1, fun q1 q2 => ?_, fun q1 q2 q => ?_⟩
      all_goals
        have hX2 := hL.d0 hX q1
        first | exact tf q2 e4 | exact tf e4 q2 | exact due_head .word hX2 | exact due_nil hX2 _
    walk_at "w"
    exact st2 sd sr ss se hL h
theorem body__law_is_refused_right {ds : List Dat} {n : Nat} {QD : Dat → Nat → Prop} (h : G__law_is_refused_right ds n QD) : bodyW 7 W__law_is_refused_right ds n QD := by
  obtain ⟨d, w, r, s, e, rfl, sd, sw, sr, ss, se, h⟩ := h
  rw [c__law_is_refused_right]
  walk_at "lit"
  walk_at "w"
  refine ⟨d, rfl, sd, ?_⟩
  cases e1 : isWo d
  all_goals
    walk_at "w"
    exact st1 sd sw sr ss se (by first | exact HL.f e1 | exact HL.t e1) h
abbrev G__law_law_word_drawn : Fn := Dl.G_word_drawn
def W__law_law_word_drawn : WS := (wRet (wBM tStr joinD (wC (.str ("" : Str).cps.toList)) (wCons (wFz (wLc (wRng1 (wCons (wCall G__law_take (wCons (wVar 0) (wCons (wOp aAdd (wVar 1) (wC (.int 1))) wNil))) wNil)) [2] (wgN 2) wYes (wCall G__law_of (wCons (wVar 0) (wCons (wFz (wCBF aListOf (wCons (wC (.str ("nfs" : Str).cps.toList)) wNil))) wNil))))) wNil)))
theorem body__law_law_word_drawn {ds : List Dat} {n : Nat} {QD : Dat → Nat → Prop} (h : G__law_law_word_drawn ds n QD) : bodyP 3 W__law_law_word_drawn ds n QD := Dl.B_word_drawn h
-- _law_right names ['pot', 'lap', 'worths', 'some', 'word', 'words', 'numbers', 'goals', 'many', 'marks', 'others', 'told', 'where']
def W__law_right : WS := (wSeq (wFor (wRng1 (wCons (wC (.int 10)) wNil)) (wgN 1) (wSeq (wAsg (wTup (wCons (wCall G__law_frac_drawn (wCons (wVar 0) (wCons (wUn aNeg (wC (.int 5))) (wCons (wC (.int 5)) wNil)))) (wCons (wCall G__law_frac_drawn (wCons (wVar 0) (wCons (wUn aNeg (wC (.int 5))) (wCons (wC (.int 5)) wNil)))) wNil))) (wgN 2))
  (wSeq (wAsg (wFz (wLst (wCons (wVar 2) (wCons (wVar 2) (wCons (wCall (G__law_bent 4) (wCons (wVar 0) (wCons (wVar 2) wNil))) (wCons (wFz (wCBF aListOf (wCons (wVar 2) wNil))) (wCons (wTup (wCons (wC (.int 1)) (wCons (wC (.int 2)) wNil))) (wCons (wCall G__law_odd (wCons (wVar 0) wNil)) wNil)))))))) (wgN 3))
  (wSeq (wAsg (wCall G__law_law_word_drawn (wCons (wVar 0) (wCons (wC (.int 5)) wNil))) (wgN 4))
  (wSeq (wAsg (wFz (wLst (wCons (wVar 4) (wCons (wVar 4) (wCons (wOp aAdd (wVar 4) (wC (.str ("x" : Str).cps.toList))) (wCons (wOp aMul (wC (.str ("n" : Str).cps.toList)) (wC (.int 200))) (wCons (wOp aMul (wC (.str ("n" : Str).cps.toList)) (wC (.int 201))) (wCons (wC .non) (wCons (wC (.int 7)) (wCons (wCall G__law_odd (wCons (wVar 0) wNil)) wNil)))))))))) (wgN 5))
  (wSeq (wAsg (wFz (wLst (wCons (wC (.int 0)) (wCons (wC (.int 3)) (wCons (wC (.int 200)) (wCons (wC (.int 201)) (wCons (wUn aNeg (wC (.int 1))) (wCons (wC (.bl true)) (wCons (wC .non) (wCons (wC (.str ("1" : Str).cps.toList)) (wCons (wCall G__law_odd (wCons (wVar 0) wNil)) wNil))))))))))) (wgN 6))
  (wSeq (wAsg (wFz (wLst (wCons (wTup (wCons (wC (.int 1)) (wCons (wC (.int 9)) wNil))) (wCons (wTup (wCons (wC (.int 0)) (wCons (wC (.int 1)) wNil))) (wCons (wTup (wCons (wUn aNeg (wC (.int 1))) (wCons (wC (.int 3)) wNil))) (wCons (wTup (wCons (wC (.int 2)) (wCons (wC (.int 4)) wNil))) (wCons (wTup (wCons (wC (.int 1)) (wCons (wC (.int 0)) wNil))) (wCons (wC (.int 1)) (wCons (wC .non) (wCons (wTup (wCons (wC (.bl true)) (wCons (wC (.int 1)) wNil))) (wCons (wCall G__law_odd (wCons (wVar 0) wNil)) wNil))))))))))) (wgN 7))
  (wSeq (wAsg (wCall G__law_of (wCons (wVar 0) (wCons (wFz (wLst (wCons (wC (.int 2)) (wCons (wC (.int 4)) (wCons (wC (.int 10)) (wCons (wC (.int 3)) (wCons (wC (.int 1)) (wCons (wC (.int 0)) (wCons (wC (.int 5)) (wCons (wC (.int 28)) wNil)))))))))) wNil))) (wgN 8))
  (wSeq (wAsg (wCB aTupOf (wCons (wFz (wLc (wRng1 (wCons (wVar 8) wNil)) [1] (wgN 1) wYes (wCall G__law_frac_drawn (wCons (wVar 0) (wCons (wUn aNeg (wC (.int 2))) (wCons (wC (.int 2)) wNil)))))) wNil)) (wgN 9))
  (wSeq (wOwn (wLst (wCons (wVar 9) (wCons (wVar 9) (wCons (wCall (G__law_bent 4) (wCons (wVar 0) (wCons (wVar 9) wNil))) (wCons (wFz (wCBF aListOf (wCons (wVar 9) wNil))) (wCons (wCall G__law_odd (wCons (wVar 0) wNil)) wNil)))))) 10)
  (wSeq (wApp 10 (wOp aMulT (wTup (wCons (wTup (wCons (wC (.int 0)) (wCons (wC (.int 1)) wNil))) wNil)) (wCall G__law_of (wCons (wVar 0) (wCons (wFz (wLst (wCons (wC (.int 82)) (wCons (wC (.int 244)) (wCons (wC (.int 730)) wNil))))) wNil)))))
  (wSeq (wPar 11 12 (wCons (wTup (wCons (wCall G__law_of (wCons (wVar 0) (wCons (wVar 3) wNil))) (wCons (wCall G__law_of (wCons (wVar 0) (wCons (wVar 5) wNil))) wNil))) (wCons (wTup (wCons (wCall G__law_of (wCons (wVar 0) (wCons (wVar 6) wNil))) (wCons (wCall G__law_of (wCons (wVar 0) (wCons (wVar 7) wNil))) wNil))) wNil)))
  (wIfS (wNot (wTest (wCall G__law_is_refused_right (wCons (wOp aIx (wVar 11) (wC (.int 0))) (wCons (wOp aIx (wVar 11) (wC (.int 1))) (wCons (wOp aIx (wVar 12) (wC (.int 0))) (wCons (wOp aIx (wVar 12) (wC (.int 1))) (wCons (wCall G__law_of (wCons (wVar 0) (wCons (wVar 10) wNil))) wNil)))))))) (wRet (wC (.bl false))) wNext)))))))))))))
  (wRet (wC (.bl true))))
def B0C7__law_right : WS := (wSeq (wPar 11 12 (wCons (wTup (wCons (wCall G__law_of (wCons (wVar 0) (wCons (wVar 3) wNil))) (wCons (wCall G__law_of (wCons (wVar 0) (wCons (wVar 5) wNil))) wNil))) (wCons (wTup (wCons (wCall G__law_of (wCons (wVar 0) (wCons (wVar 6) wNil))) (wCons (wCall G__law_of (wCons (wVar 0) (wCons (wVar 7) wNil))) wNil))) wNil)))
  (wIfS (wNot (wTest (wCall G__law_is_refused_right (wCons (wOp aIx (wVar 11) (wC (.int 0))) (wCons (wOp aIx (wVar 11) (wC (.int 1))) (wCons (wOp aIx (wVar 12) (wC (.int 0))) (wCons (wOp aIx (wVar 12) (wC (.int 1))) (wCons (wCall G__law_of (wCons (wVar 0) (wCons (wVar 10) wNil))) wNil)))))))) (wRet (wC (.bl false))) wNext))
def SB0C6__law_right (C : WS) : WS := (wSeq (wApp 10 (wOp aMulT (wTup (wCons (wTup (wCons (wC (.int 0)) (wCons (wC (.int 1)) wNil))) wNil)) (wCall G__law_of (wCons (wVar 0) (wCons (wFz (wLst (wCons (wC (.int 82)) (wCons (wC (.int 244)) (wCons (wC (.int 730)) wNil))))) wNil)))))
  C)
def B0C6__law_right : WS := SB0C6__law_right B0C7__law_right
def SB0C5__law_right (C : WS) : WS := (wSeq (wOwn (wLst (wCons (wVar 9) (wCons (wVar 9) (wCons (wCall (G__law_bent 4) (wCons (wVar 0) (wCons (wVar 9) wNil))) (wCons (wFz (wCBF aListOf (wCons (wVar 9) wNil))) (wCons (wCall G__law_odd (wCons (wVar 0) wNil)) wNil)))))) 10)
  C)
def B0C5__law_right : WS := SB0C5__law_right B0C6__law_right
def SB0C4__law_right (C : WS) : WS := (wSeq (wAsg (wCall G__law_of (wCons (wVar 0) (wCons (wFz (wLst (wCons (wC (.int 2)) (wCons (wC (.int 4)) (wCons (wC (.int 10)) (wCons (wC (.int 3)) (wCons (wC (.int 1)) (wCons (wC (.int 0)) (wCons (wC (.int 5)) (wCons (wC (.int 28)) wNil)))))))))) wNil))) (wgN 8))
  (wSeq (wAsg (wCB aTupOf (wCons (wFz (wLc (wRng1 (wCons (wVar 8) wNil)) [1] (wgN 1) wYes (wCall G__law_frac_drawn (wCons (wVar 0) (wCons (wUn aNeg (wC (.int 2))) (wCons (wC (.int 2)) wNil)))))) wNil)) (wgN 9))
  C))
def B0C4__law_right : WS := SB0C4__law_right B0C5__law_right
def SB0C3__law_right (C : WS) : WS := (wSeq (wAsg (wFz (wLst (wCons (wC (.int 0)) (wCons (wC (.int 3)) (wCons (wC (.int 200)) (wCons (wC (.int 201)) (wCons (wUn aNeg (wC (.int 1))) (wCons (wC (.bl true)) (wCons (wC .non) (wCons (wC (.str ("1" : Str).cps.toList)) (wCons (wCall G__law_odd (wCons (wVar 0) wNil)) wNil))))))))))) (wgN 6))
  (wSeq (wAsg (wFz (wLst (wCons (wTup (wCons (wC (.int 1)) (wCons (wC (.int 9)) wNil))) (wCons (wTup (wCons (wC (.int 0)) (wCons (wC (.int 1)) wNil))) (wCons (wTup (wCons (wUn aNeg (wC (.int 1))) (wCons (wC (.int 3)) wNil))) (wCons (wTup (wCons (wC (.int 2)) (wCons (wC (.int 4)) wNil))) (wCons (wTup (wCons (wC (.int 1)) (wCons (wC (.int 0)) wNil))) (wCons (wC (.int 1)) (wCons (wC .non) (wCons (wTup (wCons (wC (.bl true)) (wCons (wC (.int 1)) wNil))) (wCons (wCall G__law_odd (wCons (wVar 0) wNil)) wNil))))))))))) (wgN 7))
  C))
def B0C3__law_right : WS := SB0C3__law_right B0C4__law_right
def SB0C2__law_right (C : WS) : WS := (wSeq (wAsg (wCall G__law_law_word_drawn (wCons (wVar 0) (wCons (wC (.int 5)) wNil))) (wgN 4))
  (wSeq (wAsg (wFz (wLst (wCons (wVar 4) (wCons (wVar 4) (wCons (wOp aAdd (wVar 4) (wC (.str ("x" : Str).cps.toList))) (wCons (wOp aMul (wC (.str ("n" : Str).cps.toList)) (wC (.int 200))) (wCons (wOp aMul (wC (.str ("n" : Str).cps.toList)) (wC (.int 201))) (wCons (wC .non) (wCons (wC (.int 7)) (wCons (wCall G__law_odd (wCons (wVar 0) wNil)) wNil)))))))))) (wgN 5))
  C))
def B0C2__law_right : WS := SB0C2__law_right B0C3__law_right
def SB0C1__law_right (C : WS) : WS := (wSeq (wAsg (wFz (wLst (wCons (wVar 2) (wCons (wVar 2) (wCons (wCall (G__law_bent 4) (wCons (wVar 0) (wCons (wVar 2) wNil))) (wCons (wFz (wCBF aListOf (wCons (wVar 2) wNil))) (wCons (wTup (wCons (wC (.int 1)) (wCons (wC (.int 2)) wNil))) (wCons (wCall G__law_odd (wCons (wVar 0) wNil)) wNil)))))))) (wgN 3))
  C)
def B0C1__law_right : WS := SB0C1__law_right B0C2__law_right
def SB0__law_right (C : WS) : WS := (wSeq (wAsg (wTup (wCons (wCall G__law_frac_drawn (wCons (wVar 0) (wCons (wUn aNeg (wC (.int 5))) (wCons (wC (.int 5)) wNil)))) (wCons (wCall G__law_frac_drawn (wCons (wVar 0) (wCons (wUn aNeg (wC (.int 5))) (wCons (wC (.int 5)) wNil)))) wNil))) (wgN 2))
  C)
def B0__law_right : WS := SB0__law_right B0C1__law_right
theorem c__law_right : W__law_right = (wSeq (wFor (wRng1 (wCons (wC (.int 10)) wNil)) (wgN 1) B0__law_right)
  (wRet (wC (.bl true)))) := rfl
def Al (A : List Dat) : Prop := (∀ x ∈ A, ShOk x) ∧ 0 < A.length ∧ A.length ≤ 1000
def Inv (k : Nat) (S : Sx) : Prop := ∃ s1 s2 s3 s4 s5 s6 s7 s8 s9 s10 s11 s12 j, j ≤ k ∧ S = ⟨[.im .pot, s1, s2, s3, s4, s5, s6, s7, s8, s9, s10, s11, s12], j⟩
def FrS (x : Dat) : Prop := ∃ p q : Int, x = frD p q ∧ -1000 ≤ p ∧ p ≤ 1000 ∧ 1 ≤ q ∧ q ≤ 1000
theorem FrS.bn {x : Dat} (h : FrS x) (d : Nat) : Bn (d + 2) x := by
  obtain ⟨p, q, rfl, h1, h2, h3, h4⟩ := h
  refine ⟨by simp, fun y hy => ?_⟩
  simp only [List.mem_cons, List.not_mem_nil, or_false] at hy
  rcases hy with rfl | rfl
  · exact ⟨by omega, by omega⟩
  · exact ⟨by omega, by omega⟩
theorem FrS.sz {x : Dat} (h : FrS x) : szD x = 2 := by
  obtain ⟨p, q, rfl, _⟩ := h
  rfl
theorem FrS.dp {x : Dat} (h : FrS x) : dpD x ≤ 1 := by
  obtain ⟨p, q, rfl, _⟩ := h
  exact Nat.le_refl _
theorem frs_sz : ∀ {M : List Dat}, (∀ x ∈ M, FrS x) → szDs M = 3 * M.length
  | [], _ => rfl
  | x :: M, h => by
    have h1 := (h x (by simp)).sz
    have h2 := frs_sz (M := M) fun y hy => h y (by simp [hy])
    simp only [szDs, List.length_cons]
    omega
theorem frs_dp : ∀ {M : List Dat}, (∀ x ∈ M, FrS x) → dpDs M ≤ 1
  | [], _ => by simp [dpDs]
  | x :: M, h => by
    have h1 := (h x (by simp)).dp
    have h2 := frs_dp (M := M) fun y hy => h y (by simp [hy])
    simp only [dpDs]
    omega
theorem frs_pl {M : List Dat} (h : ∀ x ∈ M, FrS x) (b : Bool) : plDs b M = true := plDs_of fun x hx => ((h x hx).bn 0).pl b
theorem frs_t {M : List Dat} (h : ∀ x ∈ M, FrS x) (hl : M.length ≤ 1000) : ShOk (.tup M) := by
  have h1 := frs_sz h
  have h2 := frs_dp h
  refine ⟨.inl (by simp only [plD]; exact frs_pl h true), ?_, ?_⟩
  · simp only [szD]; omega
  · simp only [dpD]; omega
theorem frs_l {M : List Dat} (h : ∀ x ∈ M, FrS x) (hl : M.length ≤ 1000) : ShOk (.lst M) := by
  have h1 := frs_sz h
  have h2 := frs_dp h
  refine ⟨.inl (by simp only [plD]; exact frs_pl h true), ?_, ?_⟩
  · simp only [szD]; omega
  · simp only [dpD]; omega
theorem frs_b {M : List Dat} (h : ∀ x ∈ M, FrS x) (hl : M.length ≤ 1000) : Bn 4 (.tup M) := ⟨hl, fun x hx => (h x hx).bn 1⟩
theorem frs_r {M : List Dat} (h : ∀ x ∈ M, FrS x) (hl : M.length ≤ 1000) {r : Dat} (hr : RB (.tup M) r) : ShOk r := by
  have h1 := frs_sz h
  have h2 := frs_dp h
  have h3 := hr.sz
  have h4 := hr.dp
  simp only [szD, dpD] at h3 h4
  exact ⟨hr.pl, by omega, by omega⟩
theorem sh_str {z : List Nat} (h : ∀ c ∈ z, c < 1114112) (hl : z.length ≤ 1000) : ShOk (.str z) := by
  refine ⟨.inl ?_, by simp only [szD]; omega, by simp [dpD]⟩
  simp only [plD, List.all_eq_true, decide_eq_true_eq]
  exact h
theorem lr5 {D : Dx} {s1 s2 s4 s8 s9 s11 s12 : Sl} {A3 A5 A6 A7 A10 : List Dat} {n : Nat} (a3 : Al A3) (a5 : Al A5) (a6 : Al A6) (a7 : Al A7) (a10 : Al A10) (hn : n ≤ 900000) (h : ∀ S, Inv (n + 5) S → D.nx S) :
    B0C7__law_right D ⟨[.im .pot, s1, s2, .im (.lst A3), s4, .im (.lst A5), .im (.lst A6), .im (.lst A7), s8, s9, .ow A10, s11, s12], n⟩ := by
  unfold B0C7__law_right
  walk_at "w"
  refine ⟨_, _, rfl, rfl, a3.2.1, by have := a3.2.2; omega, by omega, fun d h3 => ⟨_, _, rfl, rfl, a5.2.1, by have := a5.2.2; omega, by omega, fun w h5 => ⟨_, _, rfl, rfl, a6.2.1, by have := a6.2.2; omega, by omega, fun r h6 => ⟨_, _, rfl, rfl, a7.2.1, by have := a7.2.2; omega, by omega, fun s h7 => ⟨_, _, rfl, rfl, a10.2.1, by have := a10.2.2; omega, by omega, fun e h10 => ?_⟩⟩⟩⟩⟩
  refine ⟨d, w, r, s, e, rfl, a3.1 _ h3, a5.1 _ h5, a6.1 _ h6, a7.1 _ h7, a10.1 _ h10, ?_⟩
  walk_at "w"
  exact h _ ⟨_, _, _, _, _, _, _, _, _, _, _, _, _, by omega, rfl⟩
theorem lr4b {C : WS} {D : Dx} {s1 s2 s3 s4 s5 s6 s7 s8 s9 s11 s12 : Sl} {A10 : List Dat} {n : Nat} (a10 : Al A10) (hl : A10.length ≤ 900) (hn : n ≤ 850000) (hC : ∀ A, Al A → C D ⟨[.im .pot, s1, s2, s3, s4, s5, s6, s7, s8, s9, .ow A, s11, s12], n + 1⟩) :
    SB0C6__law_right C D ⟨[.im .pot, s1, s2, s3, s4, s5, s6, s7, s8, s9, .ow A10, s11, s12], n⟩ := by
  unfold SB0C6__law_right
  walk_at "w"
  refine ⟨_, _, rfl, rfl, by simp, by simp, by omega, fun d hd => ?_⟩
  have key : ∃ m : Nat, d = .int m ∧ 2 ≤ m ∧ m ≤ 730 := by
    simp only [List.mem_cons, List.not_mem_nil, or_false] at hd
    rcases hd with rfl | rfl | rfl
    all_goals exact ⟨_, rfl, by decide, by decide⟩
  obtain ⟨m, rfl, h2, hm⟩ := key
  show aMulT (Dat.tup [Dat.tup [Dat.int 0, Dat.int 1]]) (Dat.int ↑m) _
  rw [aMulT_t]
  have hr : ∀ x ∈ repL [Dat.tup [Dat.int 0, Dat.int 1]] m, FrS x := fun x hx => by
    unfold repL at hx
    obtain ⟨l, hl, hx⟩ := List.mem_flatten.mp hx
    rw [List.eq_of_mem_replicate hl] at hx
    simp only [List.mem_cons, List.not_mem_nil, or_false] at hx
    subst hx
    exact ⟨0, 1, rfl, by decide, by decide, by decide, by decide⟩
  have hrl : (repL [Dat.tup [Dat.int 0, Dat.int 1]] m).length = m := by
    unfold repL
    rw [PyProof.Rows.lm_len_rep_flat]
    simp
  refine ⟨⟨by simp, by omega, by omega, by simp⟩, by omega, ?_⟩
  rw [Int.toNat_natCast]
  refine hC _ ⟨fun x hx => ?_, by simp, by simp; omega⟩
  rcases List.mem_append.mp hx with g | g
  · exact a10.1 _ g
  · simp only [List.mem_cons, List.not_mem_nil, or_false] at g
    subst g
    exact frs_t hr (by omega)
theorem lr4 {C : WS} {D : Dx} {s1 s2 s3 s4 s5 s6 s7 s8 s10 s11 s12 : Sl} {M : List Dat} {n : Nat} (hM : ∀ x ∈ M, FrS x) (hl : M.length ≤ 100) (hn : n ≤ 800000) (hC : ∀ A, Al A → A.length ≤ 900 → C D ⟨[.im .pot, s1, s2, s3, s4, s5, s6, s7, s8, .im (.tup M), .ow A, s11, s12], n + 33⟩) :
    SB0C5__law_right C D ⟨[.im .pot, s1, s2, s3, s4, s5, s6, s7, s8, .im (.tup M), s10, s11, s12], n⟩ := by
  unfold SB0C5__law_right
  walk_at "w"
  refine ⟨_, rfl, frs_b hM (by omega), by decide, by simp only [szD, frs_sz hM]; omega, by omega, fun r hr => ⟨rfl, by omega, fun o o1 o2 o3 => ?_⟩⟩
  refine hC _ ⟨fun x hx => ?_, by simp, by simp⟩ (by simp)
  simp only [List.mem_cons, List.not_mem_nil, or_false] at hx
  rcases hx with rfl | rfl | rfl | rfl | rfl
  · exact frs_t hM (by omega)
  · exact frs_t hM (by omega)
  · exact frs_r hM (by omega) hr
  · exact frs_l hM (by omega)
  · exact shB_ok o1
theorem lr3 {C : WS} {D : Dx} {s1 s2 s3 s4 s5 s6 s7 s8 s9 s10 s11 s12 : Sl} {n : Nat} (hn : n ≤ 700000) (hC : ∀ t1 t8 M k, (∀ x ∈ M, FrS x) → M.length ≤ 100 → k ≤ n + 60 → C D ⟨[.im .pot, t1, s2, s3, s4, s5, s6, s7, t8, .im (.tup M), s10, s11, s12], k⟩) :
    SB0C4__law_right C D ⟨[.im .pot, s1, s2, s3, s4, s5, s6, s7, s8, s9, s10, s11, s12], n⟩ := by
  unfold SB0C4__law_right
  walk_at "w"
  refine ⟨_, _, rfl, rfl, by simp, by simp, by omega, fun d hd => ?_⟩
  have key : ∃ m : Nat, d = .int m ∧ m ≤ 28 := by
    simp only [List.mem_cons, List.not_mem_nil, or_false] at hd
    rcases hd with rfl | rfl | rfl | rfl | rfl | rfl | rfl | rfl
    all_goals exact ⟨_, rfl, by decide⟩
  obtain ⟨m, rfl, hm⟩ := key
  walk_at "w"
  refine ⟨by omega, by omega, ?_⟩
  have len : (intsD 0 ((m : Int).toNat)).length = m := by simp [intsD]
  refine lcW_draw FrS 2 _ _ _ _ (by rw [len]; simp; omega) (by rw [len]; omega) (fun d hd n R R0 hn hR => ?_) (fun xs hl hx => ?_)
  · walk_at "w"
    exact ⟨_, _, rfl, by decide, by decide, by decide, by omega, fun p q f1 f2 f3 f4 f5 => hR _ ⟨p, q, rfl, f2, f3, f4, f5⟩⟩
  · rw [len] at hl ⊢
    cases s1
    all_goals
      walk_at "w"
      exact hC _ _ _ _ hx (by omega) (by omega)
theorem lr2 {C : WS} {D : Dx} {s1 s2 s3 s4 s5 s6 s7 s8 s9 s10 s11 s12 : Sl} {n : Nat} (hn : n ≤ 600000) (hC : ∀ A B, Al A → Al B → C D ⟨[.im .pot, s1, s2, s3, s4, s5, .im (.lst A), .im (.lst B), s8, s9, s10, s11, s12], n + 2⟩) :
    SB0C3__law_right C D ⟨[.im .pot, s1, s2, s3, s4, s5, s6, s7, s8, s9, s10, s11, s12], n⟩ := by
  unfold SB0C3__law_right
  walk_at "w"
  refine ⟨rfl, by omega, fun o o1 o2 o3 => ⟨rfl, by omega, fun q q1 q2 q3 => ?_⟩⟩
  refine hC _ _ ⟨fun x hx => ?_, by simp, by simp⟩ ⟨fun x hx => ?_, by simp, by simp⟩
  · simp only [List.mem_cons, List.not_mem_nil, or_false] at hx
    rcases hx with rfl | rfl | rfl | rfl | rfl | rfl | rfl | rfl | rfl
    all_goals first | exact shB_ok o1 | exact shB_ok (by decide +kernel)
  · simp only [List.mem_cons, List.not_mem_nil, or_false] at hx
    rcases hx with rfl | rfl | rfl | rfl | rfl | rfl | rfl | rfl | rfl
    all_goals first | exact shB_ok q1 | exact shB_ok (by decide +kernel)
theorem lr1 {C : WS} {D : Dx} {s1 s2 s3 s4 s5 s6 s7 s8 s9 s10 s11 s12 : Sl} {n : Nat} (hn : n ≤ 500000) (hC : ∀ t4 A, Al A → C D ⟨[.im .pot, s1, s2, s3, t4, .im (.lst A), s6, s7, s8, s9, s10, s11, s12], n + 7⟩) :
    SB0C2__law_right C D ⟨[.im .pot, s1, s2, s3, s4, s5, s6, s7, s8, s9, s10, s11, s12], n⟩ := by
  unfold SB0C2__law_right
  walk_at "w"
  refine ⟨5, rfl, by decide, by omega, fun z lz hz => ?_⟩
  walk_at "w"
  have ex : ("x" : Str).cps.toList.length = 1 := by decide +kernel
  refine ⟨by omega, by decide +kernel, by decide +kernel, rfl, by omega, fun o o1 o2 o3 => ?_⟩
  refine hC _ _ ⟨fun x hx => ?_, by simp, by simp⟩
  have zs : ShOk (.str z) := sh_str (fun c hc => by have := lz c hc; omega) (by omega)
  have zx : ShOk (.str (z ++ ("x" : Str).cps.toList)) := by
    have e : ("x" : Str).cps.toList = [120] := by decide +kernel
    rw [e]
    refine sh_str (fun c hc => ?_) (by simp; omega)
    rcases List.mem_append.mp hc with g | g
    · have := lz c g; omega
    · simp at g; omega
  simp only [List.mem_cons, List.not_mem_nil, or_false] at hx
  rcases hx with rfl | rfl | rfl | rfl | rfl | rfl | rfl | rfl
  all_goals first | exact zs | exact zx | exact shB_ok o1 | exact shB_ok (by decide +kernel)
theorem lr0b {C : WS} {D : Dx} {a b : Dat} {s1 s3 s4 s5 s6 s7 s8 s9 s10 s11 s12 : Sl} {n : Nat} (hM : ∀ x ∈ [a, b], FrS x) (hn : n ≤ 450000) (hC : ∀ A, Al A → C D ⟨[.im .pot, s1, .im (.tup [a, b]), .im (.lst A), s4, s5, s6, s7, s8, s9, s10, s11, s12], n + 33⟩) :
    SB0C1__law_right C D ⟨[.im .pot, s1, .im (.tup [a, b]), s3, s4, s5, s6, s7, s8, s9, s10, s11, s12], n⟩ := by
  unfold SB0C1__law_right
  walk_at "w"
  refine ⟨_, rfl, frs_b hM (by simp), by decide, by simp only [szD, frs_sz hM]; simp, by omega, fun r hr => ⟨rfl, by omega, fun o o1 o2 o3 => ?_⟩⟩
  refine hC _ ⟨fun x hx => ?_, by simp, by simp⟩
  simp only [List.mem_cons, List.not_mem_nil, or_false] at hx
  rcases hx with rfl | rfl | rfl | rfl | rfl | rfl
  · exact frs_t hM (by simp)
  · exact frs_t hM (by simp)
  · exact frs_r hM (by simp) hr
  · exact frs_l hM (by simp)
  · exact shB_ok (by decide +kernel)
  · exact shB_ok o1
theorem lr0 {C : WS} {D : Dx} {s1 s2 s3 s4 s5 s6 s7 s8 s9 s10 s11 s12 : Sl} {n : Nat} (hn : n ≤ 400000) (hC : ∀ a b, (∀ x ∈ [a, b], FrS x) → C D ⟨[.im .pot, s1, .im (.tup [a, b]), s3, s4, s5, s6, s7, s8, s9, s10, s11, s12], n + 4⟩) :
    SB0__law_right C D ⟨[.im .pot, s1, s2, s3, s4, s5, s6, s7, s8, s9, s10, s11, s12], n⟩ := by
  unfold SB0__law_right
  walk_at "w"
  refine ⟨_, _, rfl, by decide, by decide, by decide, by omega, fun p q f1 f2 f3 f4 f5 => ⟨_, _, rfl, by decide, by decide, by decide, by omega, fun p' q' g1 g2 g3 g4 g5 => ?_⟩⟩
  refine hC _ _ fun x hx => ?_
  simp only [List.mem_cons, List.not_mem_nil, or_false] at hx
  rcases hx with rfl | rfl
  · exact ⟨p, q, rfl, f2, f3, f4, f5⟩
  · exact ⟨p', q', rfl, g2, g3, g4, g5⟩
theorem lrAll {D : Dx} {s1 s2 s3 s4 s5 s6 s7 s8 s9 s10 s11 s12 : Sl} {n : Nat} (hn : n ≤ 300000) (h : ∀ S, Inv (n + 300) S → D.nx S) :
    B0__law_right D ⟨[.im .pot, s1, s2, s3, s4, s5, s6, s7, s8, s9, s10, s11, s12], n⟩ := by
  refine lr0 (by omega) fun a b hab => ?_
  refine lr0b hab (by omega) fun A3 a3 => ?_
  refine lr1 (by omega) fun t4 A5 a5 => ?_
  refine lr2 (by omega) fun A6 A7 a6 a7 => ?_
  refine lr3 (by omega) fun t1 t8 M k hM hl hk => ?_
  refine lr4 hM hl (by omega) fun A a hA => ?_
  refine lr4b a hA (by omega) fun A10 a10 => ?_
  refine lr5 a3 a5 a6 a7 a10 (by omega) fun S hS => h S ?_
  obtain ⟨s1, s2, s3, s4, s5, s6, s7, s8, s9, s10, s11, s12, j, hj, rfl⟩ := hS
  exact ⟨_, _, _, _, _, _, _, _, _, _, _, _, _, by omega, rfl⟩
def G__law_right : Fn := fun ds n Q => ds = [.pot] ∧ n = 0 ∧ Q (.bl true) 3000
theorem body__law_right {ds : List Dat} {n : Nat} {QD : Dat → Nat → Prop} (h : G__law_right ds n QD) : bodyP 13 W__law_right ds n QD := by
  obtain ⟨rfl, rfl, h⟩ := h
  rw [c__law_right]
  walk_at "w"
  refine forW_at _ (fun i S => Inv (300 * i) S) _ ?_ ⟨_, _, _, _, _, _, _, _, _, _, _, _, _, Nat.le_refl _, rfl⟩ ?_
  · rintro i d S hd ⟨s1, s2, s3, s4, s5, s6, s7, s8, s9, s10, s11, s12, k, hk, rfl⟩ N hN
    obtain ⟨hi, rfl⟩ := intsD_get hd
    walk_at "w"
    refine lrAll (by omega) fun S hS => hN S ?_
    obtain ⟨s1, s2, s3, s4, s5, s6, s7, s8, s9, s10, s11, s12, j, hj, rfl⟩ := hS
    exact ⟨_, _, _, _, _, _, _, _, _, _, _, _, _, by omega, rfl⟩
  · rintro S ⟨s1, s2, s3, s4, s5, s6, s7, s8, s9, s10, s11, s12, k, hk, rfl⟩
    have : (intsD 0 10).length = 10 := by simp [intsD]
    exact ⟨3000, by show k ≤ 3000; omega, by decide, h⟩
-- law names ['script']
def W_law : WS := (wRet (wPot G__law_right G__law_pot (wCons (wVar 0) (wCons (wC (.int 0)) wNil))))
def G_law : Fn := fun ds n Q => ∃ l : List Int, ds = [.fz (l.map Dat.int)] ∧ l.length ≤ 63 ∧ Q (.bl true) n
theorem body_law {ds : List Dat} {n : Nat} {QD : Dat → Nat → Prop} (h : G_law ds n QD) : bodyW 1 W_law ds n QD := by
  obtain ⟨l, rfl, hl, h⟩ := h
  unfold W_law
  walk_at "w"
  exact ⟨l, 0, by simp, by omega, fun x y h0 h1 h2 => ⟨x, y, rfl, h0, h1, h2, rfl, rfl, h⟩⟩
theorem law_true (ns : List Int) (h : ns.length ≤ 63) : G_law [.fz (ns.map Dat.int)] 0 fun d _ => d = .bl true := ⟨ns, rfl, h, rfl⟩

end K35
-- part P35
set_option Elab.async false
set_option linter.all false
set_option maxRecDepth 100000
set_option maxHeartbeats 4000000
namespace K35
open PySem PySem.Spec PyProof.Rows L2 Evl RZ Dl
variable [LawTabs]
local macro_rules | `(tactic| walk_at "len") => `(tactic| (rename_i h; first | (rcases h with ⟨e, _⟩; cases e; rfl) | (rcases h with ⟨_, e, _⟩; cases e; rfl) | (rcases h with ⟨_, _, e, _⟩; cases e; rfl) | (rcases h with ⟨_, _, _, e, _⟩; cases e; rfl) | (rcases h with ⟨_, _, _, _, e, _⟩; cases e; rfl) | (rcases h with ⟨_, _, _, _, _, e, _⟩; cases e; rfl) | (rcases h with ⟨_, _, _, _, _, _, e, _⟩; cases e; rfl) | (rcases h with ⟨_, _, _, _, _, _, _, e, _⟩; cases e; rfl)))
set_option synthInstance.maxSize 100000
set_option synthInstance.maxHeartbeats 0
section LT
variable [LawTabs]
def topS (i : Nat) : Stmt := PySem.Challenge.pw_twofarplayers_k35_worths_words_distances.main.body.getD i (.Pass ⟨0, 0, 0, 0⟩)
abbrev s__law_pot : Stmt := topS 48
abbrev s__law_bent_text : Stmt := topS 59
abbrev s__law_take : Stmt := topS 49
abbrev s__law_of : Stmt := topS 50
abbrev s__law_odd : Stmt := topS 56
abbrev s__law_some : Stmt := topS 51
abbrev s__law_bent : Stmt := topS 57
abbrev s__law_frac_common : Stmt := topS 60
abbrev s__law_frac : Stmt := topS 61
abbrev s__law_frac_drawn : Stmt := topS 64
abbrev s__law_frac_is : Stmt := topS 62
abbrev s__law_are_ends : Stmt := topS 67
abbrev s__law_are_worths : Stmt := topS 66
abbrev s__law_frac_is_size : Stmt := topS 63
abbrev s__law_is_int : Stmt := topS 53
abbrev s__law_heard : Stmt := topS 52
abbrev s__law_is_raised : Stmt := topS 65
abbrev s__law_law_is_word : Stmt := topS 54
abbrev s_is_below : Stmt := topS 24
abbrev s_common : Stmt := topS 19
abbrev s_ratio : Stmt := topS 20
abbrev s_less : Stmt := topS 22
abbrev s_apart : Stmt := topS 41
abbrev s_is_whole : Stmt := topS 3
abbrev s_is_integer : Stmt := topS 4
abbrev s_check_rounds : Stmt := topS 31
abbrev s_is_ratio : Stmt := topS 25
abbrev s_is_tuple : Stmt := topS 5
abbrev s_check_worths : Stmt := topS 40
abbrev s_power_of_three : Stmt := topS 32
abbrev s_times : Stmt := topS 23
abbrev s_gap : Stmt := topS 43
abbrev s_are_letters : Stmt := topS 6
abbrev s_is_word : Stmt := topS 7
abbrev s_check_word : Stmt := topS 16
abbrev s_numbers_at : Stmt := topS 35
abbrev s_place_of : Stmt := topS 33
abbrev s_plus : Stmt := topS 21
abbrev s_near : Stmt := topS 42
abbrev s_is_size : Stmt := topS 26
abbrev s_needed : Stmt := topS 44
abbrev s_rounds_of_ends : Stmt := topS 45
abbrev s_word_of : Stmt := topS 34
abbrev s_widest : Stmt := topS 46
abbrev s__law_is_refused_right : Stmt := topS 68
abbrev s__law_law_word_drawn : Stmt := topS 55
abbrev s__law_right : Stmt := topS 69
abbrev s_law : Stmt := topS 70
theorem sc__law_pot : FnScope ["script", "at", "cell", "own", "small"] ["script", "at"] (defScope s__law_pot) := ⟨rfl, rfl, rfl, by decide +kernel, rfl, by decide +kernel, by decide +kernel⟩
theorem sc__law_bent_text : FnScope ["pot", "text", "lines", "way", "at", "more"] ["pot", "text"] (defScope s__law_bent_text) := ⟨rfl, rfl, rfl, by decide +kernel, rfl, by decide +kernel, by decide +kernel⟩
theorem sc__law_take : FnScope ["pot", "upto", "digit", "prime", "blend"] ["pot", "upto"] (defScope s__law_take) := ⟨rfl, rfl, rfl, by decide +kernel, rfl, by decide +kernel, by decide +kernel⟩
theorem sc__law_of : FnScope ["pot", "some"] ["pot", "some"] (defScope s__law_of) := ⟨rfl, rfl, rfl, by decide +kernel, rfl, by decide +kernel, by decide +kernel⟩
theorem sc__law_odd : FnScope ["pot", "some"] ["pot"] (defScope s__law_odd) := ⟨rfl, rfl, rfl, by decide +kernel, rfl, by decide +kernel, by decide +kernel⟩
theorem sc__law_some : FnScope ["pot", "pool", "many", "rests", "found", "lap"] ["pot", "pool", "many"] (defScope s__law_some) := ⟨rfl, rfl, rfl, by decide +kernel, rfl, by decide +kernel, by decide +kernel⟩
theorem sc__law_bent : FnScope ["pot", "value", "at", "some", "sign"] ["pot", "value"] (defScope s__law_bent) := ⟨rfl, rfl, rfl, by decide +kernel, rfl, by decide +kernel, by decide +kernel⟩
theorem sc__law_frac_common : FnScope ["one", "other"] ["one", "other"] (defScope s__law_frac_common) := ⟨rfl, rfl, rfl, by decide +kernel, rfl, by decide +kernel, by decide +kernel⟩
theorem sc__law_frac : FnScope ["top", "bottom", "by"] ["top", "bottom"] (defScope s__law_frac) := ⟨rfl, rfl, rfl, by decide +kernel, rfl, by decide +kernel, by decide +kernel⟩
theorem sc__law_frac_drawn : FnScope ["pot", "low", "high", "bottom"] ["pot", "low", "high"] (defScope s__law_frac_drawn) := ⟨rfl, rfl, rfl, by decide +kernel, rfl, by decide +kernel, by decide +kernel⟩
theorem sc__law_frac_is : FnScope ["value", "one"] ["value"] (defScope s__law_frac_is) := ⟨rfl, rfl, rfl, by decide +kernel, rfl, by decide +kernel, by decide +kernel⟩
theorem sc__law_are_ends : FnScope ["value", "one"] ["value"] (defScope s__law_are_ends) := ⟨rfl, rfl, rfl, by decide +kernel, rfl, by decide +kernel, by decide +kernel⟩
theorem sc__law_are_worths : FnScope ["value", "one"] ["value"] (defScope s__law_are_worths) := ⟨rfl, rfl, rfl, by decide +kernel, rfl, by decide +kernel, by decide +kernel⟩
theorem sc__law_frac_is_size : FnScope ["value"] ["value"] (defScope s__law_frac_is_size) := ⟨rfl, rfl, rfl, by decide +kernel, rfl, by decide +kernel, by decide +kernel⟩
theorem sc__law_is_int : FnScope ["value", "low", "high"] ["value", "low", "high"] (defScope s__law_is_int) := ⟨rfl, rfl, rfl, by decide +kernel, rfl, by decide +kernel, by decide +kernel⟩
theorem sc__law_heard : FnScope ["call", "caught", "given", "error"] ["call"] (defScope s__law_heard) := ⟨rfl, rfl, rfl, by decide +kernel, rfl, by decide +kernel, by decide +kernel⟩
theorem sc__law_is_raised : FnScope ["call", "due", "caught", "kinds"] ["call", "due"] (defScope s__law_is_raised) := ⟨rfl, rfl, rfl, by decide +kernel, rfl, by decide +kernel, by decide +kernel⟩
theorem sc__law_law_is_word : FnScope ["value", "low", "high", "sign"] ["value", "low", "high"] (defScope s__law_law_is_word) := ⟨rfl, rfl, rfl, by decide +kernel, rfl, by decide +kernel, by decide +kernel⟩
theorem sc_is_below : FnScope ["one", "other"] ["one", "other"] (defScope s_is_below) := ⟨rfl, rfl, rfl, by decide +kernel, rfl, by decide +kernel, by decide +kernel⟩
theorem sc_common : FnScope ["one", "other"] ["one", "other"] (defScope s_common) := ⟨rfl, rfl, rfl, by decide +kernel, rfl, by decide +kernel, by decide +kernel⟩
theorem sc_ratio : FnScope ["top", "bottom", "by"] ["top", "bottom"] (defScope s_ratio) := ⟨rfl, rfl, rfl, by decide +kernel, rfl, by decide +kernel, by decide +kernel⟩
theorem sc_less : FnScope ["one", "other"] ["one", "other"] (defScope s_less) := ⟨rfl, rfl, rfl, by decide +kernel, rfl, by decide +kernel, by decide +kernel⟩
theorem sc_apart : FnScope ["one", "other"] ["one", "other"] (defScope s_apart) := ⟨rfl, rfl, rfl, by decide +kernel, rfl, by decide +kernel, by decide +kernel⟩
theorem sc_is_whole : FnScope ["value"] ["value"] (defScope s_is_whole) := ⟨rfl, rfl, rfl, by decide +kernel, rfl, by decide +kernel, by decide +kernel⟩
theorem sc_is_integer : FnScope ["value", "low", "high"] ["value", "low", "high"] (defScope s_is_integer) := ⟨rfl, rfl, rfl, by decide +kernel, rfl, by decide +kernel, by decide +kernel⟩
theorem sc_check_rounds : FnScope ["rounds", "most"] ["rounds", "most"] (defScope s_check_rounds) := ⟨rfl, rfl, rfl, by decide +kernel, rfl, by decide +kernel, by decide +kernel⟩
theorem sc_is_ratio : FnScope ["value", "one"] ["value"] (defScope s_is_ratio) := ⟨rfl, rfl, rfl, by decide +kernel, rfl, by decide +kernel, by decide +kernel⟩
theorem sc_is_tuple : FnScope ["value", "low", "high"] ["value", "low", "high"] (defScope s_is_tuple) := ⟨rfl, rfl, rfl, by decide +kernel, rfl, by decide +kernel, by decide +kernel⟩
theorem sc_check_worths : FnScope ["worths", "one"] ["worths"] (defScope s_check_worths) := ⟨rfl, rfl, rfl, by decide +kernel, rfl, by decide +kernel, by decide +kernel⟩
theorem sc_power_of_three : FnScope ["rounds", "found", "lap"] ["rounds"] (defScope s_power_of_three) := ⟨rfl, rfl, rfl, by decide +kernel, rfl, by decide +kernel, by decide +kernel⟩
theorem sc_times : FnScope ["one", "other"] ["one", "other"] (defScope s_times) := ⟨rfl, rfl, rfl, by decide +kernel, rfl, by decide +kernel, by decide +kernel⟩
theorem sc_gap : FnScope ["worths", "rounds"] ["worths", "rounds"] (defScope s_gap) := ⟨rfl, rfl, rfl, by decide +kernel, rfl, by decide +kernel, by decide +kernel⟩
theorem sc_are_letters : FnScope ["value", "low", "high", "sign"] ["value", "low", "high"] (defScope s_are_letters) := ⟨rfl, rfl, rfl, by decide +kernel, rfl, by decide +kernel, by decide +kernel⟩
theorem sc_is_word : FnScope ["value"] ["value"] (defScope s_is_word) := ⟨rfl, rfl, rfl, by decide +kernel, rfl, by decide +kernel, by decide +kernel⟩
theorem sc_check_word : FnScope ["word"] ["word"] (defScope s_check_word) := ⟨rfl, rfl, rfl, by decide +kernel, rfl, by decide +kernel, by decide +kernel⟩
theorem sc_numbers_at : FnScope ["its"] ["its"] (defScope s_numbers_at) := ⟨rfl, rfl, rfl, by decide +kernel, rfl, by decide +kernel, by decide +kernel⟩
theorem sc_place_of : FnScope ["word", "found", "fate"] ["word"] (defScope s_place_of) := ⟨rfl, rfl, rfl, by decide +kernel, rfl, by decide +kernel, by decide +kernel⟩
theorem sc_plus : FnScope ["one", "other"] ["one", "other"] (defScope s_plus) := ⟨rfl, rfl, rfl, by decide +kernel, rfl, by decide +kernel, by decide +kernel⟩
theorem sc_near : FnScope ["worths", "word", "parts", "way", "ends", "number"] ["worths", "word"] (defScope s_near) := ⟨rfl, rfl, rfl, by decide +kernel, rfl, by decide +kernel, by decide +kernel⟩
theorem sc_is_size : FnScope ["value"] ["value"] (defScope s_is_size) := ⟨rfl, rfl, rfl, by decide +kernel, rfl, by decide +kernel, by decide +kernel⟩
theorem sc_needed : FnScope ["worths", "distance", "rounds", "here"] ["worths", "distance"] (defScope s_needed) := ⟨rfl, rfl, rfl, by decide +kernel, rfl, by decide +kernel, by decide +kernel⟩
theorem sc_rounds_of_ends : FnScope ["value", "rounds", "many", "one"] ["value"] (defScope s_rounds_of_ends) := ⟨rfl, rfl, rfl, by decide +kernel, rfl, by decide +kernel, by decide +kernel⟩
theorem sc_word_of : FnScope ["rounds", "its", "found", "lap", "ahead"] ["rounds", "its"] (defScope s_word_of) := ⟨rfl, rfl, rfl, by decide +kernel, rfl, by decide +kernel, by decide +kernel⟩
theorem sc_widest : FnScope ["ends", "rounds", "found", "most", "its", "here"] ["ends"] (defScope s_widest) := ⟨rfl, rfl, rfl, by decide +kernel, rfl, by decide +kernel, by decide +kernel⟩
theorem sc__law_is_refused_right : FnScope ["worths", "word", "number", "goal", "marks", "due", "worse"] ["worths", "word", "number", "goal", "marks"] (defScope s__law_is_refused_right) := ⟨rfl, rfl, rfl, by decide +kernel, rfl, by decide +kernel, by decide +kernel⟩
theorem sc__law_law_word_drawn : FnScope ["pot", "most", "lap"] ["pot", "most"] (defScope s__law_law_word_drawn) := ⟨rfl, rfl, rfl, by decide +kernel, rfl, by decide +kernel, by decide +kernel⟩
theorem sc__law_right : FnScope ["pot", "lap", "worths", "some", "word", "words", "numbers", "goals", "many", "marks", "others", "told", "where"] ["pot"] (defScope s__law_right) := ⟨rfl, rfl, rfl, by decide +kernel, rfl, by decide +kernel, by decide +kernel⟩
theorem sc_law : FnScope ["script"] ["script"] (defScope s_law) := ⟨rfl, rfl, rfl, by decide +kernel, rfl, by decide +kernel, by decide +kernel⟩
def k_near_0_word_worths_V : List V → List V → List V := fun vs ws => [ws.getD 1 .non, ws.getD 0 .non]
def k_near_0_word_worths_U : List Value → List Value → List Value := fun us ws => [ws.getD 1 .none, ws.getD 0 .none]
instance : KPerm k_near_0_word_worths_V k_near_0_word_worths_D := ⟨fun r1 r2 => .cons (reps_getD r2 1) (.cons (reps_getD r2 0) (.nil))⟩
def k_gap_0_rounds_worths_V : List V → List V → List V := fun vs ws => [ws.getD 1 .non, ws.getD 0 .non]
def k_gap_0_rounds_worths_U : List Value → List Value → List Value := fun us ws => [ws.getD 1 .none, ws.getD 0 .none]
instance : KPerm k_gap_0_rounds_worths_V k_gap_0_rounds_worths_D := ⟨fun r1 r2 => .cons (reps_getD r2 1) (.cons (reps_getD r2 0) (.nil))⟩
structure Txt (P : Program) (w : World) (K : PySem.W.Frag) (mg : Str → Option Value) (base : Heap) where
  a_BadDistance : Addr
  g_BadDistance : mg "BadDistance" = some (.ref a_BadDistance)
  cn_BadDistance : ClsN K a_BadDistance "BadDistance"
  a_BadEnds : Addr
  g_BadEnds : mg "BadEnds" = some (.ref a_BadEnds)
  cn_BadEnds : ClsN K a_BadEnds "BadEnds"
  a_BadNumber : Addr
  g_BadNumber : mg "BadNumber" = some (.ref a_BadNumber)
  cn_BadNumber : ClsN K a_BadNumber "BadNumber"
  a_BadWord : Addr
  g_BadWord : mg "BadWord" = some (.ref a_BadWord)
  cn_BadWord : ClsN K a_BadWord "BadWord"
  a_BadWorths : Addr
  g_BadWorths : mg "BadWorths" = some (.ref a_BadWorths)
  cn_BadWorths : ClsN K a_BadWorths "BadWorths"
  a_PlayError : Addr
  g_PlayError : mg "PlayError" = some (.ref a_PlayError)
  cn_PlayError : ClsN K a_PlayError "PlayError"
  fI : Addr
  plb : PlE.Base K P mg a_PlayError fI
  plk : PlK K [("BadDistance" : Str), ("BadEnds" : Str), ("BadNumber" : Str), ("BadWord" : Str), ("BadWorths" : Str)]
  plh : HeirsP K a_PlayError [("BadDistance" : Str), ("BadEnds" : Str), ("BadNumber" : Str), ("BadWord" : Str), ("BadWorths" : Str)]
  ph_BadDistance : PlE.Heir K a_PlayError fI a_BadDistance
  ph_BadEnds : PlE.Heir K a_PlayError fI a_BadEnds
  ph_BadNumber : PlE.Heir K a_PlayError fI a_BadNumber
  ph_BadWord : PlE.Heir K a_PlayError fI a_BadWord
  ph_BadWorths : PlE.Heir K a_PlayError fI a_BadWorths
  a__law_pot : Addr
  fd__law_pot : FuncData
  F__law_pot : Fun K "_law_pot" "_law_pot" s__law_pot a__law_pot fd__law_pot
  g__law_pot : mg "_law_pot" = some (.ref a__law_pot)
  b__law_pot : Binds K fd__law_pot ["script", "at"] []
  a__law_bent_text : Addr
  fd__law_bent_text : FuncData
  F__law_bent_text : Fun K "_law_bent_text" "_law_bent_text" s__law_bent_text a__law_bent_text fd__law_bent_text
  g__law_bent_text : mg "_law_bent_text" = some (.ref a__law_bent_text)
  b__law_bent_text : Binds K fd__law_bent_text ["pot", "text"] []
  a__law_take : Addr
  fd__law_take : FuncData
  F__law_take : Fun K "_law_take" "_law_take" s__law_take a__law_take fd__law_take
  g__law_take : mg "_law_take" = some (.ref a__law_take)
  b__law_take : Binds K fd__law_take ["pot", "upto"] []
  a__law_of : Addr
  fd__law_of : FuncData
  F__law_of : Fun K "_law_of" "_law_of" s__law_of a__law_of fd__law_of
  g__law_of : mg "_law_of" = some (.ref a__law_of)
  b__law_of : Binds K fd__law_of ["pot", "some"] []
  a__law_odd : Addr
  fd__law_odd : FuncData
  F__law_odd : Fun K "_law_odd" "_law_odd" s__law_odd a__law_odd fd__law_odd
  g__law_odd : mg "_law_odd" = some (.ref a__law_odd)
  b__law_odd : Binds K fd__law_odd ["pot"] []
  a__law_some : Addr
  fd__law_some : FuncData
  F__law_some : Fun K "_law_some" "_law_some" s__law_some a__law_some fd__law_some
  g__law_some : mg "_law_some" = some (.ref a__law_some)
  b__law_some : Binds K fd__law_some ["pot", "pool", "many"] []
  a__law_bent : Addr
  fd__law_bent : FuncData
  F__law_bent : Fun K "_law_bent" "_law_bent" s__law_bent a__law_bent fd__law_bent
  g__law_bent : mg "_law_bent" = some (.ref a__law_bent)
  b__law_bent : Binds K fd__law_bent ["pot", "value"] []
  a__law_frac_common : Addr
  fd__law_frac_common : FuncData
  F__law_frac_common : Fun K "_law_frac_common" "_law_frac_common" s__law_frac_common a__law_frac_common fd__law_frac_common
  g__law_frac_common : mg "_law_frac_common" = some (.ref a__law_frac_common)
  b__law_frac_common : Binds K fd__law_frac_common ["one", "other"] []
  a__law_frac : Addr
  fd__law_frac : FuncData
  F__law_frac : Fun K "_law_frac" "_law_frac" s__law_frac a__law_frac fd__law_frac
  g__law_frac : mg "_law_frac" = some (.ref a__law_frac)
  b__law_frac : Binds K fd__law_frac ["top", "bottom"] []
  a__law_frac_drawn : Addr
  fd__law_frac_drawn : FuncData
  F__law_frac_drawn : Fun K "_law_frac_drawn" "_law_frac_drawn" s__law_frac_drawn a__law_frac_drawn fd__law_frac_drawn
  g__law_frac_drawn : mg "_law_frac_drawn" = some (.ref a__law_frac_drawn)
  b__law_frac_drawn : Binds K fd__law_frac_drawn ["pot", "low", "high"] []
  a__law_frac_is : Addr
  fd__law_frac_is : FuncData
  F__law_frac_is : Fun K "_law_frac_is" "_law_frac_is" s__law_frac_is a__law_frac_is fd__law_frac_is
  g__law_frac_is : mg "_law_frac_is" = some (.ref a__law_frac_is)
  b__law_frac_is : Binds K fd__law_frac_is ["value"] []
  a__law_are_ends : Addr
  fd__law_are_ends : FuncData
  F__law_are_ends : Fun K "_law_are_ends" "_law_are_ends" s__law_are_ends a__law_are_ends fd__law_are_ends
  g__law_are_ends : mg "_law_are_ends" = some (.ref a__law_are_ends)
  b__law_are_ends : Binds K fd__law_are_ends ["value"] []
  a__law_are_worths : Addr
  fd__law_are_worths : FuncData
  F__law_are_worths : Fun K "_law_are_worths" "_law_are_worths" s__law_are_worths a__law_are_worths fd__law_are_worths
  g__law_are_worths : mg "_law_are_worths" = some (.ref a__law_are_worths)
  b__law_are_worths : Binds K fd__law_are_worths ["value"] []
  a__law_frac_is_size : Addr
  fd__law_frac_is_size : FuncData
  F__law_frac_is_size : Fun K "_law_frac_is_size" "_law_frac_is_size" s__law_frac_is_size a__law_frac_is_size fd__law_frac_is_size
  g__law_frac_is_size : mg "_law_frac_is_size" = some (.ref a__law_frac_is_size)
  b__law_frac_is_size : Binds K fd__law_frac_is_size ["value"] []
  a__law_is_int : Addr
  fd__law_is_int : FuncData
  F__law_is_int : Fun K "_law_is_int" "_law_is_int" s__law_is_int a__law_is_int fd__law_is_int
  g__law_is_int : mg "_law_is_int" = some (.ref a__law_is_int)
  b__law_is_int : Binds K fd__law_is_int ["value", "low", "high"] []
  a__law_heard : Addr
  fd__law_heard : FuncData
  F__law_heard : Fun K "_law_heard" "_law_heard" s__law_heard a__law_heard fd__law_heard
  g__law_heard : mg "_law_heard" = some (.ref a__law_heard)
  b__law_heard : Binds K fd__law_heard ["call"] []
  a__law_is_raised : Addr
  fd__law_is_raised : FuncData
  F__law_is_raised : Fun K "_law_is_raised" "_law_is_raised" s__law_is_raised a__law_is_raised fd__law_is_raised
  g__law_is_raised : mg "_law_is_raised" = some (.ref a__law_is_raised)
  b__law_is_raised : Binds K fd__law_is_raised ["call", "due"] []
  a__law_law_is_word : Addr
  fd__law_law_is_word : FuncData
  F__law_law_is_word : Fun K "_law_law_is_word" "_law_law_is_word" s__law_law_is_word a__law_law_is_word fd__law_law_is_word
  g__law_law_is_word : mg "_law_law_is_word" = some (.ref a__law_law_is_word)
  b__law_law_is_word : Binds K fd__law_law_is_word ["value", "low", "high"] []
  a_is_below : Addr
  fd_is_below : FuncData
  F_is_below : Fun K "is_below" "is_below" s_is_below a_is_below fd_is_below
  g_is_below : mg "is_below" = some (.ref a_is_below)
  b_is_below : Binds K fd_is_below ["one", "other"] []
  a_common : Addr
  fd_common : FuncData
  F_common : Fun K "common" "common" s_common a_common fd_common
  g_common : mg "common" = some (.ref a_common)
  b_common : Binds K fd_common ["one", "other"] []
  a_ratio : Addr
  fd_ratio : FuncData
  F_ratio : Fun K "ratio" "ratio" s_ratio a_ratio fd_ratio
  g_ratio : mg "ratio" = some (.ref a_ratio)
  b_ratio : Binds K fd_ratio ["top", "bottom"] []
  a_less : Addr
  fd_less : FuncData
  F_less : Fun K "less" "less" s_less a_less fd_less
  g_less : mg "less" = some (.ref a_less)
  b_less : Binds K fd_less ["one", "other"] []
  a_apart : Addr
  fd_apart : FuncData
  F_apart : Fun K "apart" "apart" s_apart a_apart fd_apart
  g_apart : mg "apart" = some (.ref a_apart)
  b_apart : Binds K fd_apart ["one", "other"] []
  a_is_whole : Addr
  fd_is_whole : FuncData
  F_is_whole : Fun K "is_whole" "is_whole" s_is_whole a_is_whole fd_is_whole
  g_is_whole : mg "is_whole" = some (.ref a_is_whole)
  b_is_whole : Binds K fd_is_whole ["value"] []
  a_is_integer : Addr
  fd_is_integer : FuncData
  F_is_integer : Fun K "is_integer" "is_integer" s_is_integer a_is_integer fd_is_integer
  g_is_integer : mg "is_integer" = some (.ref a_is_integer)
  b_is_integer : Binds K fd_is_integer ["value", "low", "high"] []
  a_check_rounds : Addr
  fd_check_rounds : FuncData
  F_check_rounds : Fun K "check_rounds" "check_rounds" s_check_rounds a_check_rounds fd_check_rounds
  g_check_rounds : mg "check_rounds" = some (.ref a_check_rounds)
  b_check_rounds : Binds K fd_check_rounds ["rounds", "most"] []
  a_is_ratio : Addr
  fd_is_ratio : FuncData
  F_is_ratio : Fun K "is_ratio" "is_ratio" s_is_ratio a_is_ratio fd_is_ratio
  g_is_ratio : mg "is_ratio" = some (.ref a_is_ratio)
  b_is_ratio : Binds K fd_is_ratio ["value"] []
  a_is_tuple : Addr
  fd_is_tuple : FuncData
  F_is_tuple : Fun K "is_tuple" "is_tuple" s_is_tuple a_is_tuple fd_is_tuple
  g_is_tuple : mg "is_tuple" = some (.ref a_is_tuple)
  b_is_tuple : Binds K fd_is_tuple ["value", "low", "high"] []
  a_check_worths : Addr
  fd_check_worths : FuncData
  F_check_worths : Fun K "check_worths" "check_worths" s_check_worths a_check_worths fd_check_worths
  g_check_worths : mg "check_worths" = some (.ref a_check_worths)
  b_check_worths : Binds K fd_check_worths ["worths"] []
  a_power_of_three : Addr
  fd_power_of_three : FuncData
  F_power_of_three : Fun K "power_of_three" "power_of_three" s_power_of_three a_power_of_three fd_power_of_three
  g_power_of_three : mg "power_of_three" = some (.ref a_power_of_three)
  b_power_of_three : Binds K fd_power_of_three ["rounds"] []
  a_times : Addr
  fd_times : FuncData
  F_times : Fun K "times" "times" s_times a_times fd_times
  g_times : mg "times" = some (.ref a_times)
  b_times : Binds K fd_times ["one", "other"] []
  a_gap : Addr
  fd_gap : FuncData
  F_gap : Fun K "gap" "gap" s_gap a_gap fd_gap
  g_gap : mg "gap" = some (.ref a_gap)
  b_gap : Binds K fd_gap ["worths", "rounds"] []
  a_are_letters : Addr
  fd_are_letters : FuncData
  F_are_letters : Fun K "are_letters" "are_letters" s_are_letters a_are_letters fd_are_letters
  g_are_letters : mg "are_letters" = some (.ref a_are_letters)
  b_are_letters : Binds K fd_are_letters ["value", "low", "high"] []
  a_is_word : Addr
  fd_is_word : FuncData
  F_is_word : Fun K "is_word" "is_word" s_is_word a_is_word fd_is_word
  g_is_word : mg "is_word" = some (.ref a_is_word)
  b_is_word : Binds K fd_is_word ["value"] []
  a_check_word : Addr
  fd_check_word : FuncData
  F_check_word : Fun K "check_word" "check_word" s_check_word a_check_word fd_check_word
  g_check_word : mg "check_word" = some (.ref a_check_word)
  b_check_word : Binds K fd_check_word ["word"] []
  a_numbers_at : Addr
  fd_numbers_at : FuncData
  F_numbers_at : Fun K "numbers_at" "numbers_at" s_numbers_at a_numbers_at fd_numbers_at
  g_numbers_at : mg "numbers_at" = some (.ref a_numbers_at)
  b_numbers_at : Binds K fd_numbers_at ["its"] []
  a_place_of : Addr
  fd_place_of : FuncData
  F_place_of : Fun K "place_of" "place_of" s_place_of a_place_of fd_place_of
  g_place_of : mg "place_of" = some (.ref a_place_of)
  b_place_of : Binds K fd_place_of ["word"] []
  a_plus : Addr
  fd_plus : FuncData
  F_plus : Fun K "plus" "plus" s_plus a_plus fd_plus
  g_plus : mg "plus" = some (.ref a_plus)
  b_plus : Binds K fd_plus ["one", "other"] []
  a_near : Addr
  fd_near : FuncData
  F_near : Fun K "near" "near" s_near a_near fd_near
  g_near : mg "near" = some (.ref a_near)
  b_near : Binds K fd_near ["worths", "word"] []
  a_is_size : Addr
  fd_is_size : FuncData
  F_is_size : Fun K "is_size" "is_size" s_is_size a_is_size fd_is_size
  g_is_size : mg "is_size" = some (.ref a_is_size)
  b_is_size : Binds K fd_is_size ["value"] []
  a_needed : Addr
  fd_needed : FuncData
  F_needed : Fun K "needed" "needed" s_needed a_needed fd_needed
  g_needed : mg "needed" = some (.ref a_needed)
  b_needed : Binds K fd_needed ["worths", "distance"] []
  a_rounds_of_ends : Addr
  fd_rounds_of_ends : FuncData
  F_rounds_of_ends : Fun K "rounds_of_ends" "rounds_of_ends" s_rounds_of_ends a_rounds_of_ends fd_rounds_of_ends
  g_rounds_of_ends : mg "rounds_of_ends" = some (.ref a_rounds_of_ends)
  b_rounds_of_ends : Binds K fd_rounds_of_ends ["value"] []
  a_word_of : Addr
  fd_word_of : FuncData
  F_word_of : Fun K "word_of" "word_of" s_word_of a_word_of fd_word_of
  g_word_of : mg "word_of" = some (.ref a_word_of)
  b_word_of : Binds K fd_word_of ["rounds", "its"] []
  a_widest : Addr
  fd_widest : FuncData
  F_widest : Fun K "widest" "widest" s_widest a_widest fd_widest
  g_widest : mg "widest" = some (.ref a_widest)
  b_widest : Binds K fd_widest ["ends"] []
  a__law_is_refused_right : Addr
  fd__law_is_refused_right : FuncData
  F__law_is_refused_right : Fun K "_law_is_refused_right" "_law_is_refused_right" s__law_is_refused_right a__law_is_refused_right fd__law_is_refused_right
  g__law_is_refused_right : mg "_law_is_refused_right" = some (.ref a__law_is_refused_right)
  b__law_is_refused_right : Binds K fd__law_is_refused_right ["worths", "word", "number", "goal", "marks"] []
  a__law_law_word_drawn : Addr
  fd__law_law_word_drawn : FuncData
  F__law_law_word_drawn : Fun K "_law_law_word_drawn" "_law_law_word_drawn" s__law_law_word_drawn a__law_law_word_drawn fd__law_law_word_drawn
  g__law_law_word_drawn : mg "_law_law_word_drawn" = some (.ref a__law_law_word_drawn)
  b__law_law_word_drawn : Binds K fd__law_law_word_drawn ["pot", "most"] []
  a__law_right : Addr
  fd__law_right : FuncData
  F__law_right : Fun K "_law_right" "_law_right" s__law_right a__law_right fd__law_right
  g__law_right : mg "_law_right" = some (.ref a__law_right)
  b__law_right : Binds K fd__law_right ["pot"] []
  a_law : Addr
  fd_law : FuncData
  F_law : Fun K "law" "law" s_law a_law fd_law
  g_law : mg "law" = some (.ref a_law)
  b_law : Binds K fd_law ["script"] []
  b_k_near_0_word_worths : KBn K fd_near ["worths", "word"] 0 ["word", "worths"] k_near_0_word_worths_U k_near_0_word_worths_V
  b_k_gap_0_rounds_worths : KBn K fd_gap ["worths", "rounds"] 0 ["rounds", "worths"] k_gap_0_rounds_worths_U k_gap_0_rounds_worths_V
  c__law_is_refused_right : Addr
  p__law_is_refused_right : Addr
  co__law_is_refused_right : fd__law_is_refused_right.code = .ref c__law_is_refused_right
  tb__law_is_refused_right : LamX.TabB base mg c__law_is_refused_right p__law_is_refused_right
  ti__law_is_refused_right : TabIn p__law_is_refused_right (("_law_is_refused_right" : Str) ++ ".<locals>." ++ "<lambda>")
  z_abs : mg "abs" = none
  z_all : mg "all" = none
  z_bool : mg "bool" = none
  z_int : mg "int" = none
  z_isinstance : mg "isinstance" = none
  z_len : mg "len" = none
  z_list : mg "list" = none
  z_range : mg "range" = none
  z_repr : mg "repr" = none
  z_str : mg "str" = none
  z_sum : mg "sum" = none
  z_tuple : mg "tuple" = none
  a_BACK : Addr
  c_BACK : mg "BACK" = some (.ref a_BACK)
  r_BACK : CV K (.ref a_BACK) d_BACK
  c_LETTERS : ∃ t, mg "LETTERS" = some (.str "nfs" t)
  c_MOST_ENDS_ROUNDS : ∃ t, mg "MOST_ENDS_ROUNDS" = some (.int 5 t)
  c_MOST_ROUNDS : ∃ t, mg "MOST_ROUNDS" = some (.int 200 t)
  c_MOST_WORD : ∃ t, mg "MOST_WORD" = some (.int 200 t)
  c_PAIR_nearness : ∃ t, mg "PAIR_nearness" = some (.int 2 t)
  c_PAIR_ratios : ∃ t, mg "PAIR_ratios" = some (.int 2 t)
  a_THIRD : Addr
  c_THIRD : mg "THIRD" = some (.ref a_THIRD)
  r_THIRD : CV K (.ref a_THIRD) d_THIRD
  c_THREE : ∃ t, mg "THREE" = some (.int 3 t)
section
variable {P : Program} {w : World} {K : PySem.W.Frag} {mg : Str → Option Value} {base : Heap}
theorem ok__law_pot (T : Txt P w K mg base) : FnOk P w K mg base CX0 1 T.a__law_pot T.fd__law_pot ["script", "at"] (spFF K G__law_pot) := by
  haveI := T.cn_BadDistance
  haveI := T.cn_BadEnds
  haveI := T.cn_BadNumber
  haveI := T.cn_BadWord
  haveI := T.cn_BadWorths
  haveI := T.cn_PlayError
  haveI := T.plk
  haveI := T.plh
  exact okF T.F__law_pot sc__law_pot (fun _ _ _ _ => by walk_at "len") (fun cdv A outer s H hr => ⟨_, (pss_cons (ps_set (i := 2) sc__law_pot.nd rfl (.inl rfl) (pe_ifExp (pt_cmpR op_lt (pv 1) (pe_callB (lenK K) (by rfl) T.z_len (by decide +kernel) (pa_cons (pv 0) pa_nil)) (nomark _)) (pe_ix (ixK K) (pv 0) (pv 1) (fun _ _ => rfl)) (pe_op (addK K) (pe_op (addK K) (pe_op op_mod (pe_callB (sumK K rfl) (by rfl) T.z_sum (by decide +kernel) (pa_cons (pe_slice (slK K) (pv 0) po_none (po_some pe_int)) pa_nil)) pe_int) (pe_op op_mulG pe_int (pv 1))) pe_int)))
      (pss_cons (ps_set (i := 3) sc__law_pot.nd rfl (.inl rfl) (pe_op op_mulG (pe_op op_mod (pe_callTy call_intG (by rfl) T.z_int (by decide +kernel) (pa_cons (pe_callB call_absG (by rfl) T.z_abs (by decide +kernel) (pa_cons (pv 2) pa_nil)) pa_nil)) (pe_op op_powG (pe_op op_powG pe_int pe_int) pe_int)) (pe_callTy call_intG (by rfl) T.z_int (by decide +kernel) (pa_cons (pe_cmpR op_ge (pe_callB call_absG (by rfl) T.z_abs (by decide +kernel) (pa_cons (pv 2) pa_nil)) (pe_op op_powG pe_int pe_int) (nomark _)) pa_nil))))
      (pss_cons (ps_set (i := 4) sc__law_pot.nd rfl (.inl rfl) (pe_op op_mod (pe_callTy call_intG (by rfl) T.z_int (by decide +kernel) (pa_cons (pv 2) pa_nil)) pe_int))
      (pss_one (ps_retF (ps_ret (pe_lst (pa_cons (pv 3) (pa_cons (pe_op op_mod (pe_callTy call_intG (by rfl) T.z_int (by decide +kernel) (pa_cons (pe_op (addK K) (pe_op (addK K) (pe_op op_mulG (pv 4) pe_int) (pe_op op_mulG (pe_op op_mulG pe_int (pv 1)) (pv 1))) pe_int) pa_nil)) pe_int) (pa_cons pe_int pa_nil)))))))))), W__law_pot, inferInstance, fun ds n QD h => body__law_pot h⟩)
theorem ok__law_bent_text (T : Txt P w K mg base) : FnOk P w K mg base CX0 1 T.a__law_bent_text T.fd__law_bent_text ["pot", "text"] (spF K G__law_bent_text) := fn_none (fun ds n QD h => h)
theorem ok__law_take (T : Txt P w K mg base) : FnOk P w K mg base CX0 1 T.a__law_take T.fd__law_take ["pot", "upto"] (spF K G__law_take) := by
  haveI := T.cn_BadDistance
  haveI := T.cn_BadEnds
  haveI := T.cn_BadNumber
  haveI := T.cn_BadWord
  haveI := T.cn_BadWorths
  haveI := T.cn_PlayError
  haveI := T.plk
  haveI := T.plh
  exact okP T.F__law_take sc__law_take (fun _ _ _ _ => by walk_at "len") (fun cdv A outer s H hr => ⟨_, (pss_cons (ps_if (pt_cmpR op_gt (pe_ix (ixK K) (pv 0) pe_int (fun _ _ => rfl)) pe_int (nomark _)) (pss_cons (ps_set (i := 2) sc__law_take.nd rfl (.inl rfl) (pe_op op_mod (pe_callTy call_intG (by rfl) T.z_int (by decide +kernel) (pa_cons (pe_ix (ixK K) (pv 0) pe_int (fun _ _ => rfl)) pa_nil)) (pv 1)))
      (pss_cons (ps_asg (pe_op op_fdivW (pe_ix (ixK K) (pv 0) pe_int (fun _ _ => rfl)) (pv 1)) (pg_sub (pv 0) pe_int set_list))
      (pss_one (ps_ret (pv 2))))) pss_nil)
      (pss_cons (ps_inc (ps_asg (pe_op (addK K) (pe_ix (ixK K) (pv 0) pe_int (fun _ _ => rfl)) pe_int) (pg_sub (pv 0) pe_int set_list)))
      (pss_cons (ps_set (i := 3) sc__law_take.nd rfl (.inl rfl) (pe_ix (ixK K) (pe_lst (pa_cons pe_int (pa_cons pe_int (pa_cons pe_int (pa_cons pe_int (pa_cons pe_int pa_nil)))))) (pe_op op_mod (pe_callTy call_intG (by rfl) T.z_int (by decide +kernel) (pa_cons (pe_ix (ixK K) (pv 0) pe_int (fun _ _ => rfl)) pa_nil)) pe_int) (fun _ _ => rfl)))
      (pss_cons (ps_set (i := 4) sc__law_take.nd rfl (.inl rfl) (pe_op op_mod (pe_callTy call_intG (by rfl) T.z_int (by decide +kernel) (pa_cons (pe_op op_powG (pe_callTy call_intG (by rfl) T.z_int (by decide +kernel) (pa_cons (pe_op (addK K) (pe_op (addK K) (pe_ix (ixK K) (pv 0) pe_int (fun _ _ => rfl)) (pe_op op_mulG (pe_op op_mulG pe_int (pe_ix (ixK K) (pv 0) pe_int (fun _ _ => rfl))) (pe_ix (ixK K) (pv 0) pe_int (fun _ _ => rfl)))) pe_int) pa_nil)) pe_int) pa_nil)) (pv 3)))
      (pss_cons (ps_set (i := 4) sc__law_take.nd rfl (.inl rfl) (pe_op op_mod (pe_callTy call_intG (by rfl) T.z_int (by decide +kernel) (pa_cons (pe_op op_mulG (pv 4) (pe_op (addK K) (pe_op op_mod (pe_callTy call_intG (by rfl) T.z_int (by decide +kernel) (pa_cons (pv 4) pa_nil)) pe_int) (pe_op op_mulG pe_int (pe_ix (ixK K) (pv 0) pe_int (fun _ _ => rfl))))) pa_nil)) pe_int))
      (pss_one (ps_ret (pe_op op_mod (pe_callTy call_intG (by rfl) T.z_int (by decide +kernel) (pa_cons (pe_op op_fdivW (pv 4) pe_int) pa_nil)) (pv 1))))))))), W__law_take, inferInstance, fun ds n QD h => body__law_take h⟩)
theorem ok__law_of (T : Txt P w K mg base) : FnOk P w K mg base CX0 2 T.a__law_of T.fd__law_of ["pot", "some"] (spF K G__law_of) := by
  haveI := T.cn_BadDistance
  haveI := T.cn_BadEnds
  haveI := T.cn_BadNumber
  haveI := T.cn_BadWord
  haveI := T.cn_BadWorths
  haveI := T.cn_PlayError
  haveI := T.plk
  haveI := T.plh
  exact okP T.F__law_of sc__law_of (fun _ _ _ _ => by walk_at "len") (fun cdv A outer s H hr => ⟨_, (pss_one (ps_ret (pe_ix (ixK K) (pv 1) (pe_call (ok__law_take (P := P) (w := w) (base := base) T) (hr.mono (by decide)) (by rfl) T.g__law_take T.F__law_take.kp T.b__law_take .nil pass0 (pa_cons (pv 0) (pa_cons (pe_callB (lenK K) (by rfl) T.z_len (by decide +kernel) (pa_cons (pv 1) pa_nil)) pa_nil))) (fun _ _ => rfl)))), W__law_of, inferInstance, fun ds n QD h => body__law_of h⟩)
theorem ok__law_odd (T : Txt P w K mg base) : FnOk P w K mg base CX0 3 T.a__law_odd T.fd__law_odd ["pot"] (spF K G__law_odd) := by
  haveI := T.cn_BadDistance
  haveI := T.cn_BadEnds
  haveI := T.cn_BadNumber
  haveI := T.cn_BadWord
  haveI := T.cn_BadWorths
  haveI := T.cn_PlayError
  haveI := T.plk
  haveI := T.plh
  exact okP T.F__law_odd sc__law_odd (fun _ _ _ _ => by walk_at "len") (fun cdv A outer s H hr => ⟨_, (pss_cons (ps_own (i := 1) sc__law_odd.nd rfl (.inl rfl) (pe_lst (pa_cons pe_non (pa_cons pe_bl (pa_cons pe_bl (pa_cons pe_int (pa_cons pe_int (pa_cons (pe_un un_neg pe_int) (pa_cons pe_int (pa_cons (pe_op op_powG pe_int pe_int) (pa_cons pe_str (pa_cons pe_str (pa_cons pe_str (pa_cons pe_str (pa_cons pe_str (pa_cons pe_str (pa_cons (pe_tup pa_nil) (pa_cons (pe_lst pa_nil) (pa_cons pe_dnewK (pa_cons (pe_tup (pa_cons pe_int pa_nil)) pa_nil))))))))))))))))))))
      (pss_cons (ps_own (i := 1) sc__law_odd.nd rfl (.inl rfl) (pe_op (addK K) (pv 1) (pe_lst (pa_cons (pe_tup (pa_cons pe_str (pa_cons pe_str pa_nil))) (pa_cons (pe_tup (pa_cons pe_str (pa_cons pe_str pa_nil))) (pa_cons (pe_tup (pa_cons pe_str (pa_cons pe_str pa_nil))) (pa_cons (pe_lst (pa_cons pe_str (pa_cons pe_str pa_nil))) (pa_cons (pe_tup (pa_cons pe_str (pa_cons pe_str (pa_cons pe_str pa_nil)))) (pa_cons (pe_tup (pa_cons pe_non pa_nil)) (pa_cons (pe_disp (pps_cons pe_str pe_int pps_nil) (by rfl) (by rfl) (by simp) (by decide)) (pa_cons (pe_tup (pa_cons pe_bl pa_nil)) (pa_cons (pe_tup (pa_cons pe_int (pa_cons pe_int pa_nil))) pa_nil))))))))))))
      (pss_cons (ps_ext (ps_expr (bmK K PySem.F.plainAttrs_list PySem.F.slot_list_extend PySem.F.type_list_extend mt_extend (pv 1) (pa_cons (pe_lst (pa_cons (pe_tup (pa_cons (pe_tup (pa_cons pe_str (pa_cons pe_str pa_nil))) pa_nil)) (pa_cons (pe_tup (pa_cons pe_str (pa_cons (pe_tup (pa_cons pe_str (pa_cons pe_str pa_nil))) pa_nil))) (pa_cons (pe_tup (pa_cons pe_str (pa_cons (pe_tup pa_nil) pa_nil))) (pa_cons (pe_tup (pa_cons pe_int (pa_cons pe_int pa_nil))) (pa_cons (pe_tup (pa_cons pe_str (pa_cons pe_str pa_nil))) (pa_cons (pe_tup (pa_cons pe_int (pa_cons pe_int pa_nil))) (pa_cons (pe_tup (pa_cons pe_str pa_nil)) (pa_cons pe_str pa_nil))))))))) pa_nil))))
      (pss_one (ps_ret (pe_call (ok__law_of (P := P) (w := w) (base := base) T) (hr.mono (by decide)) (by rfl) T.g__law_of T.F__law_of.kp T.b__law_of .nil pass0 (pa_cons (pv 0) (pa_cons (pv 1) pa_nil)))))))), W__law_odd, inferInstance, fun ds n QD h => body__law_odd h⟩)
theorem ok__law_some (T : Txt P w K mg base) : FnOk P w K mg base CX0 2 T.a__law_some T.fd__law_some ["pot", "pool", "many"] (spF K G__law_some) := by
  haveI := T.cn_BadDistance
  haveI := T.cn_BadEnds
  haveI := T.cn_BadNumber
  haveI := T.cn_BadWord
  haveI := T.cn_BadWorths
  haveI := T.cn_PlayError
  haveI := T.plk
  haveI := T.plh
  exact okP T.F__law_some sc__law_some (fun _ _ _ _ => by walk_at "len") (fun cdv A outer s H hr => ⟨_, (pss_cons (ps_parOO (ps_par (i := 3) (j := 4) rfl sc__law_some.nd rfl rfl (by decide) rfl rfl (pa_cons (pe_callTy (listK K rfl) (by rfl) T.z_list (by decide +kernel) (pa_cons (pv 1) pa_nil)) (pa_cons (pe_lst pa_nil) pa_nil)) (by rfl)))
      (pss_cons (ps_for PassesOwn.never rfl (pi_range1 (by rfl) T.z_range (pa_cons (pv 2) pa_nil)) (pg_name (i := 5) sc__law_some.nd rfl (.inl rfl)) (pss_one (ps_app (ps_expr (bmK K PySem.F.plainAttrs_list PySem.F.slot_list_append PySem.F.type_list_append mt_append (pv 4) (pa_cons (pe_popAt (bmK K PySem.F.plainAttrs_list PySem.F.slot_list_pop PySem.F.type_list_pop mt_popAt (pv 3) (pa_cons (pe_call (ok__law_take (P := P) (w := w) (base := base) T) (hr.mono (by decide)) (by rfl) T.g__law_take T.F__law_take.kp T.b__law_take .nil pass0 (pa_cons (pv 0) (pa_cons (pe_ownLen (pe_callB (lenK K) (by rfl) T.z_len (by decide +kernel) (pa_cons (pv 3) pa_nil))) pa_nil))) pa_nil))) pa_nil))))))
      (pss_one (ps_ret (pv 4))))), W__law_some, inferInstance, fun ds n QD h => body__law_some h⟩)
theorem okr__law_bent (T : Txt P w K mg base) : ∀ d : Nat, FnOk P w K mg base CX0 (d + 4) T.a__law_bent T.fd__law_bent ["pot", "value"] (spF K (G__law_bent d))
  | 0 => fn_none (fun ds n QD h => G__law_bent_zero h)
  | d + 1 => by
    have ih := okr__law_bent T d
    exact okP T.F__law_bent sc__law_bent (fun _ _ _ _ => by walk_at "len") (fun cdv A outer s H hr => ⟨_, (pss_cons (ps_if (PW.pt (pw_and (pt_val (pe_callB (isiK K) (by rfl) T.z_isinstance (by decide +kernel) (pa_cons (pv 1) (pa_cons (pe_bltn (v := .ty "tuple") (u := .type "tuple") (by rfl) T.z_tuple (by decide +kernel) rfl) pa_nil)))) (pw_and (pt_cmpR (neK K hr.units) (pv 1) (pe_tup pa_nil) (nomark _)) (pw_and1 (pt_cmpR op_gt (pe_call (ok__law_take (P := P) (w := w) (base := base) T) (hr.mono (by omega)) (by rfl) T.g__law_take T.F__law_take.kp T.b__law_take .nil pass0 (pa_cons (pv 0) (pa_cons pe_int pa_nil))) pe_int (nomark _)))))) (pss_cons (ps_set (i := 2) sc__law_bent.nd rfl (.inr rfl) (pe_call (ok__law_take (P := P) (w := w) (base := base) T) (hr.mono (by omega)) (by rfl) T.g__law_take T.F__law_take.kp T.b__law_take .nil pass0 (pa_cons (pv 0) (pa_cons (pe_callB (lenK K) (by rfl) T.z_len (by decide +kernel) (pa_cons (pv 1) pa_nil)) pa_nil))))
      (pss_one (ps_ret (pe_op (addK K) (pe_op (addK K) (pe_slice (slK K) (pv 1) po_none (po_some (pv 2))) (pe_tup (pa_cons (pe_call ih (hr.mono (by omega)) (by rfl) T.g__law_bent T.F__law_bent.kp T.b__law_bent .nil pass0 (pa_cons (pv 0) (pa_cons (pe_ix (ixK K) (pv 1) (pv 2) (fun _ _ => rfl)) pa_nil))) pa_nil))) (pe_slice (slK K) (pv 1) (po_some (pe_op (addK K) (pv 2) pe_int)) po_none))))) pss_nil)
      (pss_cons (ps_if (pt_val (pe_callB (isiK K) (by rfl) T.z_isinstance (by decide +kernel) (pa_cons (pv 1) (pa_cons (pe_bltn (v := .ty "tuple") (u := .type "tuple") (by rfl) T.z_tuple (by decide +kernel) rfl) pa_nil)))) (pss_cons (ps_set (i := 3) sc__law_bent.nd rfl (.inl rfl) (pe_lst (pa_cons (pe_callTy (listK K rfl) (by rfl) T.z_list (by decide +kernel) (pa_cons (pv 1) pa_nil)) (pa_cons (pe_slice (slK K) (pv 1) (po_some pe_int) po_none) (pa_cons (pe_slice (slK K) (pv 1) po_none (po_some (pe_un un_neg pe_int))) (pa_cons (pe_op (addK K) (pv 1) (pe_slice (slK K) (pv 1) (po_some (pe_un un_neg pe_int)) po_none)) (pa_cons (pe_revT K (pv 1) (pe_un un_neg pe_int)) (pa_cons (pe_tup pa_nil) (pa_cons pe_non (pa_cons (pe_op (addK K) (pv 1) (pe_tup (pa_cons pe_int pa_nil))) pa_nil))))))))))
      (pss_one (ps_ret (pe_call (ok__law_of (P := P) (w := w) (base := base) T) (hr.mono (by omega)) (by rfl) T.g__law_of T.F__law_of.kp T.b__law_of .nil pass0 (pa_cons (pv 0) (pa_cons (pv 3) pa_nil)))))) pss_nil)
      (pss_cons (ps_if (pt_val (pe_callB (isiK K) (by rfl) T.z_isinstance (by decide +kernel) (pa_cons (pv 1) (pa_cons (pe_bltn (v := .ty "bool") (u := .type "bool") (by rfl) T.z_bool (by decide +kernel) rfl) pa_nil)))) (pss_one (ps_ret (pe_call (ok__law_of (P := P) (w := w) (base := base) T) (hr.mono (by omega)) (by rfl) T.g__law_of T.F__law_of.kp T.b__law_of .nil pass0 (pa_cons (pv 0) (pa_cons (pe_lst (pa_cons (pe_not (pv 1)) (pa_cons (pe_callTy call_intG (by rfl) T.z_int (by decide +kernel) (pa_cons (pv 1) pa_nil)) (pa_cons pe_non pa_nil)))) pa_nil))))) pss_nil)
      (pss_cons (ps_if (pt_val (pe_callB (isiK K) (by rfl) T.z_isinstance (by decide +kernel) (pa_cons (pv 1) (pa_cons (pe_bltn (v := .ty "int") (u := .type "int") (by rfl) T.z_int (by decide +kernel) rfl) pa_nil)))) (pss_one (ps_ret (pe_call (ok__law_of (P := P) (w := w) (base := base) T) (hr.mono (by omega)) (by rfl) T.g__law_of T.F__law_of.kp T.b__law_of .nil pass0 (pa_cons (pv 0) (pa_cons (pe_lst (pa_cons (pe_op (addK K) (pv 1) pe_int) (pa_cons (pe_op op_sub (pv 1) pe_int) (pa_cons (pe_cmpR (eqK K hr.units) (pv 1) pe_int (nomark _)) (pa_cons (pe_un un_neg (pv 1)) (pa_cons (pe_callTy strIK (by rfl) T.z_str (by decide +kernel) (pa_cons (pe_op op_mod (pe_callTy call_intG (by rfl) T.z_int (by decide +kernel) (pa_cons (pv 1) pa_nil)) (pe_op op_powG pe_int pe_int)) pa_nil)) (pa_cons pe_non (pa_cons (pe_tup (pa_cons (pv 1) pa_nil)) pa_nil)))))))) pa_nil))))) pss_nil)
      (pss_cons (ps_if (PW.pt (pw_and (pt_val (pe_callB (isiK K) (by rfl) T.z_isinstance (by decide +kernel) (pa_cons (pv 1) (pa_cons (pe_bltn (v := .ty "str") (u := .type "str") (by rfl) T.z_str (by decide +kernel) rfl) pa_nil)))) (pw_and1 (pt_cmpR (inK K) pe_str (pv 1) (by rfl))))) (pss_one (ps_ret (pe_call (ok__law_bent_text (P := P) (w := w) (base := base) T) (hr.mono (by omega)) (by rfl) T.g__law_bent_text T.F__law_bent_text.kp T.b__law_bent_text .nil pass0 (pa_cons (pv 0) (pa_cons (pv 1) pa_nil))))) pss_nil)
      (pss_cons (ps_if (PW.pt (pw_and (pt_val (pe_callB (isiK K) (by rfl) T.z_isinstance (by decide +kernel) (pa_cons (pv 1) (pa_cons (pe_bltn (v := .ty "str") (u := .type "str") (by rfl) T.z_str (by decide +kernel) rfl) pa_nil)))) (pw_and1 (pt_cmpR (neK K hr.units) (pv 1) pe_str (nomark _))))) (pss_cons (ps_set (i := 2) sc__law_bent.nd rfl (.inr rfl) (pe_call (ok__law_take (P := P) (w := w) (base := base) T) (hr.mono (by omega)) (by rfl) T.g__law_take T.F__law_take.kp T.b__law_take .nil pass0 (pa_cons (pv 0) (pa_cons (pe_callB (lenK K) (by rfl) T.z_len (by decide +kernel) (pa_cons (pv 1) pa_nil)) pa_nil))))
      (pss_cons (setLcK 3 [("sign", 4)] [4] rfl sc__law_bent.nd rfl rfl (sw_true rfl rfl rfl (by decide +kernel)) (piK K (pe_call (ok__law_some (P := P) (w := w) (base := base) T) (hr.mono (by omega)) (by rfl) T.g__law_some T.F__law_some.kp T.b__law_some .nil pass0 (pa_cons (pv 0) (pa_cons (pe_callTy (listK K rfl) (by rfl) T.z_list (by decide +kernel) (pa_cons pe_str pa_nil)) (pa_cons pe_int pa_nil))))) (blkOk_by (own := [("sign", 4)]) (N := ["pot", "value", "at", "some", "sign"]) (sc := defScope s__law_bent) (by decide +kernel)) (fun _ _ _ _ _ => (pg_name (i := 4) sc__law_bent.nd rfl (.inl rfl))) (fun _ _ _ _ _ => pts_nil) (fun _ _ _ _ _ => (pe_op (addK K) (pe_op (addK K) (pe_slice (slK K) (pv 1) po_none (po_some (pv 2))) (pv 4)) (pe_slice (slK K) (pv 1) (po_some (pe_op (addK K) (pv 2) pe_int)) po_none))))
      (pss_one (ps_ret (pe_call (ok__law_of (P := P) (w := w) (base := base) T) (hr.mono (by omega)) (by rfl) T.g__law_of T.F__law_of.kp T.b__law_of .nil pass0 (pa_cons (pv 0) (pa_cons (pe_op (addK K) (pv 3) (pe_lst (pa_cons (pe_op (addK K) (pv 1) pe_str) (pa_cons (pe_slice (slK K) (pv 1) (po_some pe_int) po_none) (pa_cons (pe_upperZ (pv 1)) (pa_cons (pe_lst (pa_cons (pv 1) pa_nil)) (pa_cons pe_non (pa_cons (pe_tup (pa_cons (pv 1) pa_nil)) pa_nil)))))))) pa_nil))))))) pss_nil)
      (pss_one (ps_ret (pe_call (ok__law_odd (P := P) (w := w) (base := base) T) (hr.mono (by omega)) (by rfl) T.g__law_odd T.F__law_odd.kp T.b__law_odd .nil pass0 (pa_cons (pv 0) pa_nil)))))))))), W__law_bent d, inferInstance, fun ds n QD h => body__law_bent h⟩)
theorem ok__law_bent (T : Txt P w K mg base) : FnOk P w K mg base CX0 8 T.a__law_bent T.fd__law_bent ["pot", "value"] (spF K (G__law_bent 4)) := (okr__law_bent T 4).mono (by decide)
theorem ok__law_frac_common (T : Txt P w K mg base) : FnOk P w K mg base CX0 1 T.a__law_frac_common T.fd__law_frac_common ["one", "other"] (spF K G__law_frac_common) := by
  haveI := T.cn_BadDistance
  haveI := T.cn_BadEnds
  haveI := T.cn_BadNumber
  haveI := T.cn_BadWord
  haveI := T.cn_BadWorths
  haveI := T.cn_PlayError
  haveI := T.plk
  haveI := T.plh
  exact okD T.F__law_frac_common sc__law_frac_common (fun _ _ _ _ => by walk_at "len") (fun cdv A outer s H hr => ⟨_, (pss_cons (ps_par (i := 0) (j := 1) rfl sc__law_frac_common.nd rfl rfl (by decide) rfl rfl (pa_cons (pe_callB call_absG (by rfl) T.z_abs (by decide +kernel) (pa_cons (pv 0) pa_nil)) (pa_cons (pe_callB call_absG (by rfl) T.z_abs (by decide +kernel) (pa_cons (pv 1) pa_nil)) pa_nil)) (by rfl))
      (pss_cons (ps_while PassesOwn.never (pt_cmpR op_gt (pv 1) pe_int (nomark _)) (pss_one (ps_par (i := 0) (j := 1) rfl sc__law_frac_common.nd rfl rfl (by decide) rfl rfl (pa_cons (pv 1) (pa_cons (pe_op op_mod (pe_callTy call_intG (by rfl) T.z_int (by decide +kernel) (pa_cons (pv 0) pa_nil)) (pv 1)) pa_nil)) (by rfl))))
      (pss_one (ps_ret (pv 0))))), W__law_frac_common, inferInstance, fun ds n QD h => body__law_frac_common h⟩)
theorem ok__law_frac (T : Txt P w K mg base) : FnOk P w K mg base CX0 2 T.a__law_frac T.fd__law_frac ["top", "bottom"] (spF K G__law_frac) := by
  haveI := T.cn_BadDistance
  haveI := T.cn_BadEnds
  haveI := T.cn_BadNumber
  haveI := T.cn_BadWord
  haveI := T.cn_BadWorths
  haveI := T.cn_PlayError
  haveI := T.plk
  haveI := T.plh
  exact okD T.F__law_frac sc__law_frac (fun _ _ _ _ => by walk_at "len") (fun cdv A outer s H hr => ⟨_, (pss_cons (ps_set (i := 2) sc__law_frac.nd rfl (.inl rfl) (pe_call (ok__law_frac_common (P := P) (w := w) (base := base) T) (hr.mono (by decide)) (by rfl) T.g__law_frac_common T.F__law_frac_common.kp T.b__law_frac_common .nil pass0 (pa_cons (pv 0) (pa_cons (pv 1) pa_nil))))
      (pss_cons (ps_set (i := 2) sc__law_frac.nd rfl (.inl rfl) (pe_ifExp (pt_cmpR op_gt (pv 1) pe_int (nomark _)) (pv 2) (pe_un un_neg (pv 2))))
      (pss_one (ps_ret (pe_tup (pa_cons (pe_op op_fdivW (pv 0) (pv 2)) (pa_cons (pe_op op_fdivW (pv 1) (pv 2)) pa_nil))))))), W__law_frac, inferInstance, fun ds n QD h => body__law_frac h⟩)
theorem ok__law_frac_drawn (T : Txt P w K mg base) : FnOk P w K mg base CX0 3 T.a__law_frac_drawn T.fd__law_frac_drawn ["pot", "low", "high"] (spF K G__law_frac_drawn) := by
  haveI := T.cn_BadDistance
  haveI := T.cn_BadEnds
  haveI := T.cn_BadNumber
  haveI := T.cn_BadWord
  haveI := T.cn_BadWorths
  haveI := T.cn_PlayError
  haveI := T.plk
  haveI := T.plh
  exact okP T.F__law_frac_drawn sc__law_frac_drawn (fun _ _ _ _ => by walk_at "len") (fun cdv A outer s H hr => ⟨_, (pss_cons (ps_set (i := 3) sc__law_frac_drawn.nd rfl (.inl rfl) (pe_call (ok__law_of (P := P) (w := w) (base := base) T) (hr.mono (by decide)) (by rfl) T.g__law_of T.F__law_of.kp T.b__law_of .nil pass0 (pa_cons (pv 0) (pa_cons (pe_lst (pa_cons pe_int (pa_cons pe_int (pa_cons pe_int (pa_cons pe_int (pa_cons pe_int (pa_cons pe_int pa_nil))))))) pa_nil))))
      (pss_one (ps_ret (pe_call (ok__law_frac (P := P) (w := w) (base := base) T) (hr.mono (by decide)) (by rfl) T.g__law_frac T.F__law_frac.kp T.b__law_frac .nil pass0 (pa_cons (pe_op (addK K) (pe_op op_mulG (pv 1) (pv 3)) (pe_call (ok__law_take (P := P) (w := w) (base := base) T) (hr.mono (by decide)) (by rfl) T.g__law_take T.F__law_take.kp T.b__law_take .nil pass0 (pa_cons (pv 0) (pa_cons (pe_op (addK K) (pe_op op_mulG (pe_op op_sub (pv 2) (pv 1)) (pv 3)) pe_int) pa_nil)))) (pa_cons (pv 3) pa_nil)))))), W__law_frac_drawn, inferInstance, fun ds n QD h => body__law_frac_drawn h⟩)
theorem ok__law_frac_is (T : Txt P w K mg base) : FnOk P w K mg base CX0 2 T.a__law_frac_is T.fd__law_frac_is ["value"] (spF K G__law_frac_is) := by
  haveI := T.cn_BadDistance
  haveI := T.cn_BadEnds
  haveI := T.cn_BadNumber
  haveI := T.cn_BadWord
  haveI := T.cn_BadWorths
  haveI := T.cn_PlayError
  haveI := T.plk
  haveI := T.plh
  exact okD T.F__law_frac_is sc__law_frac_is (fun _ _ _ _ => by walk_at "len") (fun cdv A outer s H hr => ⟨_, (pss_cons (ps_if (PW.pt (pw_or (pt_not (pt_val (pe_callB (isiK K) (by rfl) T.z_isinstance (by decide +kernel) (pa_cons (pv 0) (pa_cons (pe_bltn (v := .ty "tuple") (u := .type "tuple") (by rfl) T.z_tuple (by decide +kernel) rfl) pa_nil))))) (pw_or1 (pt_cmpR (neK K hr.units) (pe_callB (lenK K) (by rfl) T.z_len (by decide +kernel) (pa_cons (pv 0) pa_nil)) pe_int (nomark _))))) (pss_one (ps_ret pe_bl)) pss_nil)
      (pss_cons (ps_if (PW.pt (pw_or (pt_not (pt_val (pe_callB (allK K rfl) (by rfl) T.z_all (by decide +kernel) (pa_cons (lcK [("one", 1)] [1] rfl sc__law_frac_is.nd (piK K (pv 0)) (blkOk_by (own := [("one", 1)]) (N := ["value", "one"]) (sc := defScope s__law_frac_is) (by decide +kernel)) (fun _ _ _ _ _ => (pg_name (i := 1) sc__law_frac_is.nd rfl (.inl rfl))) (fun _ _ _ _ _ => pts_nil) (fun _ _ _ _ _ => (pe_and (pe_callB (isiK K) (by rfl) T.z_isinstance (by decide +kernel) (pa_cons (pv 1) (pa_cons (pe_bltn (v := .ty "int") (u := .type "int") (by rfl) T.z_int (by decide +kernel) rfl) pa_nil))) (pe_one (pe_not (pe_callB (isiK K) (by rfl) T.z_isinstance (by decide +kernel) (pa_cons (pv 1) (pa_cons (pe_bltn (v := .ty "bool") (u := .type "bool") (by rfl) T.z_bool (by decide +kernel) rfl) pa_nil)))))))) pa_nil)))) (pw_or1 (pt_cmpR op_lt (pe_ix (ixK K) (pv 0) pe_int (fun _ _ => rfl)) pe_int (nomark _))))) (pss_one (ps_ret pe_bl)) pss_nil)
      (pss_one (ps_ret (pe_cmpR (eqK K hr.units) (pe_call (ok__law_frac_common (P := P) (w := w) (base := base) T) (hr.mono (by decide)) (by rfl) T.g__law_frac_common T.F__law_frac_common.kp T.b__law_frac_common .nil pass0 (pa_cons (pe_ix (ixK K) (pv 0) pe_int (fun _ _ => rfl)) (pa_cons (pe_ix (ixK K) (pv 0) pe_int (fun _ _ => rfl)) pa_nil))) pe_int (nomark _)))))), W__law_frac_is, inferInstance, fun ds n QD h => body__law_frac_is h⟩)
theorem ok__law_are_ends (T : Txt P w K mg base) : FnOk P w K mg base CX0 3 T.a__law_are_ends T.fd__law_are_ends ["value"] (spF K G__law_are_ends) := by
  haveI := T.cn_BadDistance
  haveI := T.cn_BadEnds
  haveI := T.cn_BadNumber
  haveI := T.cn_BadWord
  haveI := T.cn_BadWorths
  haveI := T.cn_PlayError
  haveI := T.plk
  haveI := T.plh
  exact okD T.F__law_are_ends sc__law_are_ends (fun _ _ _ _ => by walk_at "len") (fun cdv A outer s H hr => ⟨_, (pss_cons (ps_if (PW.pt (pw_or (pt_not (pt_val (pe_callB (isiK K) (by rfl) T.z_isinstance (by decide +kernel) (pa_cons (pv 0) (pa_cons (pe_bltn (v := .ty "tuple") (u := .type "tuple") (by rfl) T.z_tuple (by decide +kernel) rfl) pa_nil))))) (pw_or1 (pt_cmpR (notInK K) (pe_callB (lenK K) (by rfl) T.z_len (by decide +kernel) (pa_cons (pv 0) pa_nil)) (pe_tup (pa_cons pe_int (pa_cons pe_int (pa_cons pe_int (pa_cons pe_int (pa_cons pe_int (pa_cons pe_int pa_nil))))))) (by rfl))))) (pss_one (ps_ret pe_bl)) pss_nil)
      (pss_one (ps_ret (pe_callB (allK K rfl) (by rfl) T.z_all (by decide +kernel) (pa_cons (lcK [("one", 1)] [1] rfl sc__law_are_ends.nd (piK K (pv 0)) (blkOk_by (own := [("one", 1)]) (N := ["value", "one"]) (sc := defScope s__law_are_ends) (by decide +kernel)) (fun _ _ _ _ _ => (pg_name (i := 1) sc__law_are_ends.nd rfl (.inl rfl))) (fun _ _ _ _ _ => pts_nil) (fun _ _ _ _ _ => (pe_call (ok__law_frac_is (P := P) (w := w) (base := base) T) (hr.mono (by decide)) (by rfl) T.g__law_frac_is T.F__law_frac_is.kp T.b__law_frac_is .nil pass0 (pa_cons (pv 1) pa_nil)))) pa_nil))))), W__law_are_ends, inferInstance, fun ds n QD h => body__law_are_ends h⟩)
theorem ok__law_are_worths (T : Txt P w K mg base) : FnOk P w K mg base CX0 3 T.a__law_are_worths T.fd__law_are_worths ["value"] (spF K G__law_are_worths) := by
  haveI := T.cn_BadDistance
  haveI := T.cn_BadEnds
  haveI := T.cn_BadNumber
  haveI := T.cn_BadWord
  haveI := T.cn_BadWorths
  haveI := T.cn_PlayError
  haveI := T.plk
  haveI := T.plh
  exact okD T.F__law_are_worths sc__law_are_worths (fun _ _ _ _ => by walk_at "len") (fun cdv A outer s H hr => ⟨_, (pss_one (ps_ret (pe_and (pe_callB (isiK K) (by rfl) T.z_isinstance (by decide +kernel) (pa_cons (pv 0) (pa_cons (pe_bltn (v := .ty "tuple") (u := .type "tuple") (by rfl) T.z_tuple (by decide +kernel) rfl) pa_nil))) (pe_and (pe_cmpR (eqK K hr.units) (pe_callB (lenK K) (by rfl) T.z_len (by decide +kernel) (pa_cons (pv 0) pa_nil)) pe_int (nomark _)) (pe_one (pe_callB (allK K rfl) (by rfl) T.z_all (by decide +kernel) (pa_cons (lcK [("one", 1)] [1] rfl sc__law_are_worths.nd (piK K (pv 0)) (blkOk_by (own := [("one", 1)]) (N := ["value", "one"]) (sc := defScope s__law_are_worths) (by decide +kernel)) (fun _ _ _ _ _ => (pg_name (i := 1) sc__law_are_worths.nd rfl (.inl rfl))) (fun _ _ _ _ _ => pts_nil) (fun _ _ _ _ _ => (pe_call (ok__law_frac_is (P := P) (w := w) (base := base) T) (hr.mono (by decide)) (by rfl) T.g__law_frac_is T.F__law_frac_is.kp T.b__law_frac_is .nil pass0 (pa_cons (pv 1) pa_nil)))) pa_nil))))))), W__law_are_worths, inferInstance, fun ds n QD h => body__law_are_worths h⟩)
theorem ok__law_frac_is_size (T : Txt P w K mg base) : FnOk P w K mg base CX0 3 T.a__law_frac_is_size T.fd__law_frac_is_size ["value"] (spF K G__law_frac_is_size) := by
  haveI := T.cn_BadDistance
  haveI := T.cn_BadEnds
  haveI := T.cn_BadNumber
  haveI := T.cn_BadWord
  haveI := T.cn_BadWorths
  haveI := T.cn_PlayError
  haveI := T.plk
  haveI := T.plh
  exact okD T.F__law_frac_is_size sc__law_frac_is_size (fun _ _ _ _ => by walk_at "len") (fun cdv A outer s H hr => ⟨_, (pss_one (ps_ret (pe_and (pe_call (ok__law_frac_is (P := P) (w := w) (base := base) T) (hr.mono (by decide)) (by rfl) T.g__law_frac_is T.F__law_frac_is.kp T.b__law_frac_is .nil pass0 (pa_cons (pv 0) pa_nil)) (pe_one (pe_cmpR op_gt (pe_ix (ixK K) (pv 0) pe_int (fun _ _ => rfl)) pe_int (nomark _)))))), W__law_frac_is_size, inferInstance, fun ds n QD h => body__law_frac_is_size h⟩)
theorem ok__law_is_int (T : Txt P w K mg base) : FnOk P w K mg base CX0 1 T.a__law_is_int T.fd__law_is_int ["value", "low", "high"] (spF K G__law_is_int) := by
  haveI := T.cn_BadDistance
  haveI := T.cn_BadEnds
  haveI := T.cn_BadNumber
  haveI := T.cn_BadWord
  haveI := T.cn_BadWorths
  haveI := T.cn_PlayError
  haveI := T.plk
  haveI := T.plh
  exact okD T.F__law_is_int sc__law_is_int (fun _ _ _ _ => by walk_at "len") (fun cdv A outer s H hr => ⟨_, (pss_one (ps_ret (pe_and (pe_callB (isiK K) (by rfl) T.z_isinstance (by decide +kernel) (pa_cons (pv 0) (pa_cons (pe_bltn (v := .ty "int") (u := .type "int") (by rfl) T.z_int (by decide +kernel) rfl) pa_nil))) (pe_and (pe_not (pe_callB (isiK K) (by rfl) T.z_isinstance (by decide +kernel) (pa_cons (pv 0) (pa_cons (pe_bltn (v := .ty "bool") (u := .type "bool") (by rfl) T.z_bool (by decide +kernel) rfl) pa_nil)))) (pe_one (pe_chain op_le op_le (pv 1) (pv 0) (pv 2))))))), W__law_is_int, inferInstance, fun ds n QD h => body__law_is_int h⟩)
theorem ok__law_heard (T : Txt P w K mg base) : FnLk P w K mg base false 7 5 T.a__law_heard T.fd__law_heard ["call"] (spLF K G__law_heard) := by
  haveI := T.cn_BadDistance
  haveI := T.cn_BadEnds
  haveI := T.cn_BadNumber
  haveI := T.cn_BadWord
  haveI := T.cn_BadWorths
  haveI := T.cn_PlayError
  haveI := T.plk
  haveI := T.plh
  exact okL T.F__law_heard sc__law_heard (fun _ _ _ _ _ _ _ => by walk_at "len") (fun cdv A outer s H f G fl hr hgd hL => ⟨_, (pss_cons (ps_asg (pe_tup (pa_cons pe_non (pa_cons pe_non pa_nil))) (tgK K 2 rfl (pgs_cons (pg_name (i := 1) sc__law_heard.nd rfl (.inl rfl)) (pgs_cons (pg_name (i := 2) sc__law_heard.nd rfl (.inl rfl)) pgs_nil))))
      (pss_cons (ps_tryH (i := 3) (j := 1) (tb := fun W => tAsg (tAct 0 f (spL K G fl) W) (gName 2)) rfl rfl rfl sc__law_heard.nd rfl rfl (by decide) rfl rfl ⟨rfl, by decide, .inl T.g_PlayError⟩ L2.takes0 (fun W pn xe tk _ => pss_one (ps_set (i := 2) sc__law_heard.nd rfl (.inl rfl) (pe_act rfl hL tk (hr.mono (by decide)) rfl (.inl rfl)))))
      (pss_one (ps_ret (pe_tup (pa_cons (pv 1) (pa_cons (pv 2) pa_nil))))))), W__law_heard G f fl, inferInstance, fun ds n QD h => body__law_heard h⟩)
theorem ok__law_is_raised (T : Txt P w K mg base) : FnLk P w K mg base true 8 5 T.a__law_is_raised T.fd__law_is_raised ["call", "due"] (spLF K G__law_is_raised) := by
  haveI := T.cn_BadDistance
  haveI := T.cn_BadEnds
  haveI := T.cn_BadNumber
  haveI := T.cn_BadWord
  haveI := T.cn_BadWorths
  haveI := T.cn_PlayError
  haveI := T.plk
  haveI := T.plh
  exact okL T.F__law_is_raised sc__law_is_raised (fun _ _ _ _ _ _ _ => by walk_at "len") (fun cdv A outer s H f G fl hr hgd hL => ⟨_, (pss_cons (ps_set (i := 2) sc__law_is_raised.nd rfl (.inl rfl) (pe_ix (ixGK K) (pe_hand (fs := []) (ok__law_heard (P := P) (w := w) (base := base) T) (fun h => nomatch h) rfl rfl hL (hr.mono (by decide)) (by rfl) T.g__law_heard T.F__law_heard.kp T.b__law_heard (pa_cons (pv 0) pa_nil)) pe_int (fun _ _ => rfl)))
      (pss_cons (ps_if (pt_cmpR (eqEK K hr.units) (pv 1) (pe_lst pa_nil) (nomark _)) (pss_one (ps_ret (pe_cmpR op_isW (pv 2) pe_non (nomark _)))) pss_nil)
      (pss_cons (ps_ownD (ps_set (i := 3) sc__law_is_raised.nd rfl (.inl rfl) (pe_disp (pps_cons pe_str (pe_callB (isiCK K) (by rfl) T.z_isinstance (by decide +kernel) (pa_cons (pv 2) (pa_cons (pe_glob (v := .ref T.a_BadWorths) (by rfl) T.g_BadWorths rfl) pa_nil))) (pps_cons pe_str (pe_callB (isiCK K) (by rfl) T.z_isinstance (by decide +kernel) (pa_cons (pv 2) (pa_cons (pe_glob (v := .ref T.a_BadWord) (by rfl) T.g_BadWord rfl) pa_nil))) pps_nil)) (by rfl) (by rfl) (by simp) (by decide))))
      (pss_cons (ps_upd (ps_expr (bmK K PySem.F.plainAttrs_dict PySem.F.slot_dict_update PySem.F.type_dict_update mt_update (pv 3) (pa_cons (pe_disp (pps_cons pe_str (pe_callB (isiCK K) (by rfl) T.z_isinstance (by decide +kernel) (pa_cons (pv 2) (pa_cons (pe_glob (v := .ref T.a_BadNumber) (by rfl) T.g_BadNumber rfl) pa_nil))) (pps_cons pe_str (pe_callB (isiCK K) (by rfl) T.z_isinstance (by decide +kernel) (pa_cons (pv 2) (pa_cons (pe_glob (v := .ref T.a_BadDistance) (by rfl) T.g_BadDistance rfl) pa_nil))) pps_nil)) (by rfl) (by rfl) (by simp) (by decide)) pa_nil))))
      (pss_cons (ps_upd (ps_expr (bmK K PySem.F.plainAttrs_dict PySem.F.slot_dict_update PySem.F.type_dict_update mt_update (pv 3) (pa_cons (pe_disp (pps_cons pe_str (pe_callB (isiCK K) (by rfl) T.z_isinstance (by decide +kernel) (pa_cons (pv 2) (pa_cons (pe_glob (v := .ref T.a_BadEnds) (by rfl) T.g_BadEnds rfl) pa_nil))) pps_nil) (by rfl) (by rfl) (by simp) (by decide)) pa_nil))))
      (pss_one (ps_ret (pe_and (pe_ix (ixGK K) (pe_odV (pv 3)) (pe_ix (ixGK K) (pe_ix (ixGK K) (pv 1) pe_int (fun _ _ => rfl)) pe_int (fun _ _ => rfl)) (fun _ _ => rfl)) (pe_one (pe_cmpR (eqK K hr.units) (pe_callB (reprK K (hgd rfl) hr) (by rfl) T.z_repr (by decide +kernel) (pa_cons (pe_xv (pv 2)) pa_nil)) (pe_callB (reprK K (hgd rfl) hr) (by rfl) T.z_repr (by decide +kernel) (pa_cons (pe_ix (ixGK K) (pe_ix (ixGK K) (pv 1) pe_int (fun _ _ => rfl)) pe_int (fun _ _ => rfl)) pa_nil)) (nomark _))))))))))), W__law_is_raised G f fl, inferInstance, fun ds n QD h => body__law_is_raised h⟩)
theorem ok__law_law_is_word (T : Txt P w K mg base) : FnOk P w K mg base CX0 1 T.a__law_law_is_word T.fd__law_law_is_word ["value", "low", "high"] (spF K G__law_law_is_word) := by
  haveI := T.cn_BadDistance
  haveI := T.cn_BadEnds
  haveI := T.cn_BadNumber
  haveI := T.cn_BadWord
  haveI := T.cn_BadWorths
  haveI := T.cn_PlayError
  haveI := T.plk
  haveI := T.plh
  exact okD T.F__law_law_is_word sc__law_law_is_word (fun _ _ _ _ => by walk_at "len") (fun cdv A outer s H hr => ⟨_, (pss_one (ps_ret (pe_and (pe_callB (isiK K) (by rfl) T.z_isinstance (by decide +kernel) (pa_cons (pv 0) (pa_cons (pe_bltn (v := .ty "str") (u := .type "str") (by rfl) T.z_str (by decide +kernel) rfl) pa_nil))) (pe_and (pe_chain op_le op_le (pv 1) (pe_callB (lenK K) (by rfl) T.z_len (by decide +kernel) (pa_cons (pv 0) pa_nil)) (pv 2)) (pe_one (pe_callB (allK K rfl) (by rfl) T.z_all (by decide +kernel) (pa_cons (lcK [("sign", 3)] [3] rfl sc__law_law_is_word.nd (piK K (pv 0)) (blkOk_by (own := [("sign", 3)]) (N := ["value", "low", "high", "sign"]) (sc := defScope s__law_law_is_word) (by decide +kernel)) (fun _ _ _ _ _ => (pg_name (i := 3) sc__law_law_is_word.nd rfl (.inl rfl))) (fun _ _ _ _ _ => pts_nil) (fun _ _ _ _ _ => (pe_cmpR (inK K) (pv 3) pe_str (by rfl)))) pa_nil))))))), W__law_law_is_word, inferInstance, fun ds n QD h => body__law_law_is_word h⟩)
theorem ok_is_below (T : Txt P w K mg base) : FnOk P w K mg base CX0 1 T.a_is_below T.fd_is_below ["one", "other"] (spF K G_is_below) := by
  haveI := T.cn_BadDistance
  haveI := T.cn_BadEnds
  haveI := T.cn_BadNumber
  haveI := T.cn_BadWord
  haveI := T.cn_BadWorths
  haveI := T.cn_PlayError
  haveI := T.plk
  haveI := T.plh
  exact okD T.F_is_below sc_is_below (fun _ _ _ _ => by walk_at "len") (fun cdv A outer s H hr => ⟨_, (pss_one (ps_ret (pe_cmpR op_lt (pe_op op_mulG (pe_ix (ixK K) (pv 0) pe_int (fun _ _ => rfl)) (pe_ix (ixK K) (pv 1) pe_int (fun _ _ => rfl))) (pe_op op_mulG (pe_ix (ixK K) (pv 1) pe_int (fun _ _ => rfl)) (pe_ix (ixK K) (pv 0) pe_int (fun _ _ => rfl))) (nomark _)))), W_is_below, inferInstance, fun ds n QD h => body_is_below h⟩)
theorem ok_common (T : Txt P w K mg base) : FnOk P w K mg base CX0 1 T.a_common T.fd_common ["one", "other"] (spF K G_common) := by
  haveI := T.cn_BadDistance
  haveI := T.cn_BadEnds
  haveI := T.cn_BadNumber
  haveI := T.cn_BadWord
  haveI := T.cn_BadWorths
  haveI := T.cn_PlayError
  haveI := T.plk
  haveI := T.plh
  exact okD T.F_common sc_common (fun _ _ _ _ => by walk_at "len") (fun cdv A outer s H hr => ⟨_, (pss_cons (ps_par (i := 0) (j := 1) rfl sc_common.nd rfl rfl (by decide) rfl rfl (pa_cons (pe_callB call_absG (by rfl) T.z_abs (by decide +kernel) (pa_cons (pv 0) pa_nil)) (pa_cons (pe_callB call_absG (by rfl) T.z_abs (by decide +kernel) (pa_cons (pv 1) pa_nil)) pa_nil)) (by rfl))
      (pss_cons (ps_while PassesOwn.never (pt_cmpR op_gt (pv 1) pe_int (nomark _)) (pss_one (ps_par (i := 0) (j := 1) rfl sc_common.nd rfl rfl (by decide) rfl rfl (pa_cons (pv 1) (pa_cons (pe_op op_mod (pv 0) (pv 1)) pa_nil)) (by rfl))))
      (pss_one (ps_ret (pv 0))))), W_common, inferInstance, fun ds n QD h => body_common h⟩)
theorem ok_ratio (T : Txt P w K mg base) : FnOk P w K mg base CX0 2 T.a_ratio T.fd_ratio ["top", "bottom"] (spF K G_ratio) := by
  haveI := T.cn_BadDistance
  haveI := T.cn_BadEnds
  haveI := T.cn_BadNumber
  haveI := T.cn_BadWord
  haveI := T.cn_BadWorths
  haveI := T.cn_PlayError
  haveI := T.plk
  haveI := T.plh
  exact okD T.F_ratio sc_ratio (fun _ _ _ _ => by walk_at "len") (fun cdv A outer s H hr => ⟨_, (pss_cons (ps_set (i := 2) sc_ratio.nd rfl (.inl rfl) (pe_call (ok_common (P := P) (w := w) (base := base) T) (hr.mono (by decide)) (by rfl) T.g_common T.F_common.kp T.b_common .nil pass0 (pa_cons (pv 0) (pa_cons (pv 1) pa_nil))))
      (pss_cons (ps_set (i := 2) sc_ratio.nd rfl (.inl rfl) (pe_ifExp (pt_cmpR op_gt (pv 1) pe_int (nomark _)) (pv 2) (pe_op op_sub pe_int (pv 2))))
      (pss_one (ps_ret (pe_tup (pa_cons (pe_op op_fdivW (pv 0) (pv 2)) (pa_cons (pe_op op_fdivW (pv 1) (pv 2)) pa_nil))))))), W_ratio, inferInstance, fun ds n QD h => body_ratio h⟩)
theorem ok_less (T : Txt P w K mg base) : FnOk P w K mg base CX0 3 T.a_less T.fd_less ["one", "other"] (spF K G_less) := by
  haveI := T.cn_BadDistance
  haveI := T.cn_BadEnds
  haveI := T.cn_BadNumber
  haveI := T.cn_BadWord
  haveI := T.cn_BadWorths
  haveI := T.cn_PlayError
  haveI := T.plk
  haveI := T.plh
  exact okD T.F_less sc_less (fun _ _ _ _ => by walk_at "len") (fun cdv A outer s H hr => ⟨_, (pss_one (ps_ret (pe_call (ok_ratio (P := P) (w := w) (base := base) T) (hr.mono (by decide)) (by rfl) T.g_ratio T.F_ratio.kp T.b_ratio .nil pass0 (pa_cons (pe_op op_sub (pe_op op_mulG (pe_ix (ixK K) (pv 0) pe_int (fun _ _ => rfl)) (pe_ix (ixK K) (pv 1) pe_int (fun _ _ => rfl))) (pe_op op_mulG (pe_ix (ixK K) (pv 1) pe_int (fun _ _ => rfl)) (pe_ix (ixK K) (pv 0) pe_int (fun _ _ => rfl)))) (pa_cons (pe_op op_mulG (pe_ix (ixK K) (pv 0) pe_int (fun _ _ => rfl)) (pe_ix (ixK K) (pv 1) pe_int (fun _ _ => rfl))) pa_nil))))), W_less, inferInstance, fun ds n QD h => body_less h⟩)
theorem ok_apart (T : Txt P w K mg base) : FnOk P w K mg base CX0 4 T.a_apart T.fd_apart ["one", "other"] (spF K G_apart) := by
  haveI := T.cn_BadDistance
  haveI := T.cn_BadEnds
  haveI := T.cn_BadNumber
  haveI := T.cn_BadWord
  haveI := T.cn_BadWorths
  haveI := T.cn_PlayError
  haveI := T.plk
  haveI := T.plh
  exact okD T.F_apart sc_apart (fun _ _ _ _ => by walk_at "len") (fun cdv A outer s H hr => ⟨_, (pss_one (ps_ret (pe_ifExp (pt_val (pe_call (ok_is_below (P := P) (w := w) (base := base) T) (hr.mono (by decide)) (by rfl) T.g_is_below T.F_is_below.kp T.b_is_below .nil pass0 (pa_cons (pv 0) (pa_cons (pv 1) pa_nil)))) (pe_call (ok_less (P := P) (w := w) (base := base) T) (hr.mono (by decide)) (by rfl) T.g_less T.F_less.kp T.b_less .nil pass0 (pa_cons (pv 1) (pa_cons (pv 0) pa_nil))) (pe_call (ok_less (P := P) (w := w) (base := base) T) (hr.mono (by decide)) (by rfl) T.g_less T.F_less.kp T.b_less .nil pass0 (pa_cons (pv 0) (pa_cons (pv 1) pa_nil)))))), W_apart, inferInstance, fun ds n QD h => body_apart h⟩)
theorem ok_is_whole (T : Txt P w K mg base) : FnOk P w K mg base CX0 1 T.a_is_whole T.fd_is_whole ["value"] (spF K G_is_whole) := by
  haveI := T.cn_BadDistance
  haveI := T.cn_BadEnds
  haveI := T.cn_BadNumber
  haveI := T.cn_BadWord
  haveI := T.cn_BadWorths
  haveI := T.cn_PlayError
  haveI := T.plk
  haveI := T.plh
  exact okD T.F_is_whole sc_is_whole (fun _ _ _ _ => by walk_at "len") (fun cdv A outer s H hr => ⟨_, (pss_one (ps_ret (pe_and (pe_callB (isiK K) (by rfl) T.z_isinstance (by decide +kernel) (pa_cons (pv 0) (pa_cons (pe_bltn (v := .ty "int") (u := .type "int") (by rfl) T.z_int (by decide +kernel) rfl) pa_nil))) (pe_one (pe_not (pe_callB (isiK K) (by rfl) T.z_isinstance (by decide +kernel) (pa_cons (pv 0) (pa_cons (pe_bltn (v := .ty "bool") (u := .type "bool") (by rfl) T.z_bool (by decide +kernel) rfl) pa_nil)))))))), W_is_whole, inferInstance, fun ds n QD h => body_is_whole h⟩)
theorem ok_is_integer (T : Txt P w K mg base) : FnOk P w K mg base CX0 2 T.a_is_integer T.fd_is_integer ["value", "low", "high"] (spF K G_is_integer) := by
  haveI := T.cn_BadDistance
  haveI := T.cn_BadEnds
  haveI := T.cn_BadNumber
  haveI := T.cn_BadWord
  haveI := T.cn_BadWorths
  haveI := T.cn_PlayError
  haveI := T.plk
  haveI := T.plh
  exact okD T.F_is_integer sc_is_integer (fun _ _ _ _ => by walk_at "len") (fun cdv A outer s H hr => ⟨_, (pss_one (ps_ret (pe_and (pe_call (ok_is_whole (P := P) (w := w) (base := base) T) (hr.mono (by decide)) (by rfl) T.g_is_whole T.F_is_whole.kp T.b_is_whole .nil pass0 (pa_cons (pv 0) pa_nil)) (pe_one (pe_chain op_le op_le (pv 1) (pv 0) (pv 2)))))), W_is_integer, inferInstance, fun ds n QD h => body_is_integer h⟩)
theorem ok_check_rounds__X (T : Txt P w K mg base) : FnOk P w K mg base (L2.CX P w) 3 T.a_check_rounds T.fd_check_rounds ["rounds", "most"] (spX K G_check_rounds__X) := by
  haveI := T.cn_BadDistance
  haveI := T.cn_BadEnds
  haveI := T.cn_BadNumber
  haveI := T.cn_BadWord
  haveI := T.cn_BadWorths
  haveI := T.cn_PlayError
  haveI := T.plk
  haveI := T.plh
  exact okX T.F_check_rounds sc_check_rounds (fun _ _ _ _ _ => by walk_at "len") (fun cdv A outer s H E hr => ⟨_, (pss_one (ps_if (pt_not (pt_val (pe_call (ok_is_integer (P := P) (w := w) (base := base) T) (hr.mono (by decide)) (by rfl) T.g_is_integer T.F_is_integer.kp T.b_is_integer .nil pass0 (pa_cons (pv 0) (pa_cons pe_int (pa_cons (pv 1) pa_nil)))))) (pss_one (ps_raiseP rfl (L2.takes_of rfl rfl rfl rfl) T.plb T.ph_BadNumber T.g_BadNumber hr (pa_cons (pv 0) pa_nil))) pss_nil)), W_check_rounds__X, inferInstance, fun ds n QD XD h => body_check_rounds__X h⟩)
theorem ok_is_ratio (T : Txt P w K mg base) : FnOk P w K mg base CX0 2 T.a_is_ratio T.fd_is_ratio ["value"] (spF K G_is_ratio) := by
  haveI := T.cn_BadDistance
  haveI := T.cn_BadEnds
  haveI := T.cn_BadNumber
  haveI := T.cn_BadWord
  haveI := T.cn_BadWorths
  haveI := T.cn_PlayError
  haveI := T.plk
  haveI := T.plh
  exact okD T.F_is_ratio sc_is_ratio (fun _ _ _ _ => by walk_at "len") (fun cdv A outer s H hr => ⟨_, (pss_cons (ps_if (PW.pt (pw_or (pt_not (pt_val (pe_callB (isiK K) (by rfl) T.z_isinstance (by decide +kernel) (pa_cons (pv 0) (pa_cons (pe_bltn (v := .ty "tuple") (u := .type "tuple") (by rfl) T.z_tuple (by decide +kernel) rfl) pa_nil))))) (pw_or (pt_cmpR (neK K hr.units) (pe_callB (lenK K) (by rfl) T.z_len (by decide +kernel) (pa_cons (pv 0) pa_nil)) (pe_glob (v := .int 2) (by rfl) T.c_PAIR_ratios.choose_spec ⟨_, rfl⟩) (nomark _)) (pw_or1 (pt_not (pt_val (pe_callB (allK K rfl) (by rfl) T.z_all (by decide +kernel) (pa_cons (lcK [("one", 1)] [1] rfl sc_is_ratio.nd (piK K (pv 0)) (blkOk_by (own := [("one", 1)]) (N := ["value", "one"]) (sc := defScope s_is_ratio) (by decide +kernel)) (fun _ _ _ _ _ => (pg_name (i := 1) sc_is_ratio.nd rfl (.inl rfl))) (fun _ _ _ _ _ => pts_nil) (fun _ _ _ _ _ => (pe_call (ok_is_whole (P := P) (w := w) (base := base) T) (hr.mono (by decide)) (by rfl) T.g_is_whole T.F_is_whole.kp T.b_is_whole .nil pass0 (pa_cons (pv 1) pa_nil)))) pa_nil)))))))) (pss_one (ps_ret pe_bl)) pss_nil)
      (pss_one (ps_ret (pe_and (pe_cmpR op_ge (pe_ix (ixK K) (pv 0) pe_int (fun _ _ => rfl)) pe_int (nomark _)) (pe_one (pe_cmpR (eqK K hr.units) (pe_call (ok_common (P := P) (w := w) (base := base) T) (hr.mono (by decide)) (by rfl) T.g_common T.F_common.kp T.b_common .nil pass0 (pa_cons (pe_ix (ixK K) (pv 0) pe_int (fun _ _ => rfl)) (pa_cons (pe_ix (ixK K) (pv 0) pe_int (fun _ _ => rfl)) pa_nil))) pe_int (nomark _))))))), W_is_ratio, inferInstance, fun ds n QD h => body_is_ratio h⟩)
theorem ok_is_tuple (T : Txt P w K mg base) : FnOk P w K mg base CX0 1 T.a_is_tuple T.fd_is_tuple ["value", "low", "high"] (spF K G_is_tuple) := by
  haveI := T.cn_BadDistance
  haveI := T.cn_BadEnds
  haveI := T.cn_BadNumber
  haveI := T.cn_BadWord
  haveI := T.cn_BadWorths
  haveI := T.cn_PlayError
  haveI := T.plk
  haveI := T.plh
  exact okD T.F_is_tuple sc_is_tuple (fun _ _ _ _ => by walk_at "len") (fun cdv A outer s H hr => ⟨_, (pss_one (ps_ret (pe_and (pe_callB (isiK K) (by rfl) T.z_isinstance (by decide +kernel) (pa_cons (pv 0) (pa_cons (pe_bltn (v := .ty "tuple") (u := .type "tuple") (by rfl) T.z_tuple (by decide +kernel) rfl) pa_nil))) (pe_one (pe_chain op_le op_le (pv 1) (pe_callB (lenK K) (by rfl) T.z_len (by decide +kernel) (pa_cons (pv 0) pa_nil)) (pv 2)))))), W_is_tuple, inferInstance, fun ds n QD h => body_is_tuple h⟩)
theorem ok_check_worths__X (T : Txt P w K mg base) : FnOk P w K mg base (L2.CX P w) 3 T.a_check_worths T.fd_check_worths ["worths"] (spX K G_check_worths__X) := by
  haveI := T.cn_BadDistance
  haveI := T.cn_BadEnds
  haveI := T.cn_BadNumber
  haveI := T.cn_BadWord
  haveI := T.cn_BadWorths
  haveI := T.cn_PlayError
  haveI := T.plk
  haveI := T.plh
  exact okX T.F_check_worths sc_check_worths (fun _ _ _ _ _ => by walk_at "len") (fun cdv A outer s H E hr => ⟨_, (pss_one (ps_if (PW.pt (pw_or (pt_not (pt_val (pe_call (ok_is_tuple (P := P) (w := w) (base := base) T) (hr.mono (by decide)) (by rfl) T.g_is_tuple T.F_is_tuple.kp T.b_is_tuple .nil pass0 (pa_cons (pv 0) (pa_cons (pe_glob (v := .int 2) (by rfl) T.c_PAIR_nearness.choose_spec ⟨_, rfl⟩) (pa_cons (pe_glob (v := .int 2) (by rfl) T.c_PAIR_nearness.choose_spec ⟨_, rfl⟩) pa_nil)))))) (pw_or1 (pt_not (pt_val (pe_callB (allK K rfl) (by rfl) T.z_all (by decide +kernel) (pa_cons (lcK [("one", 1)] [1] rfl sc_check_worths.nd (piK K (pv 0)) (blkOk_by (own := [("one", 1)]) (N := ["worths", "one"]) (sc := defScope s_check_worths) (by decide +kernel)) (fun _ _ _ _ _ => (pg_name (i := 1) sc_check_worths.nd rfl (.inl rfl))) (fun _ _ _ _ _ => pts_nil) (fun _ _ _ _ _ => (pe_call (ok_is_ratio (P := P) (w := w) (base := base) T) (hr.mono (by decide)) (by rfl) T.g_is_ratio T.F_is_ratio.kp T.b_is_ratio .nil pass0 (pa_cons (pv 1) pa_nil)))) pa_nil))))))) (pss_one (ps_raiseP rfl (L2.takes_of rfl rfl rfl rfl) T.plb T.ph_BadWorths T.g_BadWorths hr (pa_cons (pv 0) pa_nil))) pss_nil)), W_check_worths__X, inferInstance, fun ds n QD XD h => body_check_worths__X h⟩)
theorem ok_power_of_three (T : Txt P w K mg base) : FnOk P w K mg base CX0 1 T.a_power_of_three T.fd_power_of_three ["rounds"] (spF K G_power_of_three) := by
  haveI := T.cn_BadDistance
  haveI := T.cn_BadEnds
  haveI := T.cn_BadNumber
  haveI := T.cn_BadWord
  haveI := T.cn_BadWorths
  haveI := T.cn_PlayError
  haveI := T.plk
  haveI := T.plh
  exact okD T.F_power_of_three sc_power_of_three (fun _ _ _ _ => by walk_at "len") (fun cdv A outer s H hr => ⟨_, (pss_cons (ps_set (i := 1) sc_power_of_three.nd rfl (.inl rfl) pe_int)
      (pss_cons (ps_for PassesOwn.never rfl (pi_range1 (by rfl) T.z_range (pa_cons (pv 0) pa_nil)) (pg_name (i := 2) sc_power_of_three.nd rfl (.inl rfl)) (pss_one (ps_set (i := 1) sc_power_of_three.nd rfl (.inl rfl) (pe_op op_mulG (pe_glob (v := .int 3) (by rfl) T.c_THREE.choose_spec ⟨_, rfl⟩) (pv 1)))))
      (pss_one (ps_ret (pv 1))))), W_power_of_three, inferInstance, fun ds n QD h => body_power_of_three h⟩)
theorem ok_times (T : Txt P w K mg base) : FnOk P w K mg base CX0 3 T.a_times T.fd_times ["one", "other"] (spF K G_times) := by
  haveI := T.cn_BadDistance
  haveI := T.cn_BadEnds
  haveI := T.cn_BadNumber
  haveI := T.cn_BadWord
  haveI := T.cn_BadWorths
  haveI := T.cn_PlayError
  haveI := T.plk
  haveI := T.plh
  exact okD T.F_times sc_times (fun _ _ _ _ => by walk_at "len") (fun cdv A outer s H hr => ⟨_, (pss_one (ps_ret (pe_call (ok_ratio (P := P) (w := w) (base := base) T) (hr.mono (by decide)) (by rfl) T.g_ratio T.F_ratio.kp T.b_ratio .nil pass0 (pa_cons (pe_op op_mulG (pe_ix (ixK K) (pv 0) pe_int (fun _ _ => rfl)) (pe_ix (ixK K) (pv 1) pe_int (fun _ _ => rfl))) (pa_cons (pe_op op_mulG (pe_ix (ixK K) (pv 0) pe_int (fun _ _ => rfl)) (pe_ix (ixK K) (pv 1) pe_int (fun _ _ => rfl))) pa_nil))))), W_times, inferInstance, fun ds n QD h => body_times h⟩)
theorem ok_gap__X (T : Txt P w K mg base) : FnOk P w K mg base (L2.CX P w) 5 T.a_gap T.fd_gap ["worths", "rounds"] (spX K G_gap__X) := by
  haveI := T.cn_BadDistance
  haveI := T.cn_BadEnds
  haveI := T.cn_BadNumber
  haveI := T.cn_BadWord
  haveI := T.cn_BadWorths
  haveI := T.cn_PlayError
  haveI := T.plk
  haveI := T.plh
  exact okX T.F_gap sc_gap (fun _ _ _ _ _ => by walk_at "len") (fun cdv A outer s H E hr => ⟨_, (pss_cons (ps_expr (pe_call (ok_check_worths__X (P := P) (w := w) (base := base) T) (hr.mono (by decide)) (by rfl) T.g_check_worths T.F_check_worths.kp T.b_check_worths .nil (L2.passes_call (W := fun cls d _ H => E cls d H) (E := E) (L2.takes_of rfl rfl rfl rfl) (fun _ _ _ _ h => h)) (pa_cons (pv 0) pa_nil)))
      (pss_cons (ps_expr (pe_call (ok_check_rounds__X (P := P) (w := w) (base := base) T) (hr.mono (by decide)) (by rfl) T.g_check_rounds T.F_check_rounds.kp T.b_check_rounds .nil (L2.passes_call (W := fun cls d _ H => E cls d H) (E := E) (L2.takes_of rfl rfl rfl rfl) (fun _ _ _ _ h => h)) (pa_cons (pv 1) (pa_cons (pe_glob (v := .int 200) (by rfl) T.c_MOST_ROUNDS.choose_spec ⟨_, rfl⟩) pa_nil))))
      (pss_one (ps_ret (pe_call (ok_times (P := P) (w := w) (base := base) T) (hr.mono (by decide)) (by rfl) T.g_times T.F_times.kp T.b_times .nil pass0 (pa_cons (pe_call (ok_apart (P := P) (w := w) (base := base) T) (hr.mono (by decide)) (by rfl) T.g_apart T.F_apart.kp T.b_apart .nil pass0 (pa_cons (pe_ix (ixK K) (pv 0) pe_int (fun _ _ => rfl)) (pa_cons (pe_ix (ixK K) (pv 0) pe_int (fun _ _ => rfl)) pa_nil))) (pa_cons (pe_tup (pa_cons pe_int (pa_cons (pe_call (ok_power_of_three (P := P) (w := w) (base := base) T) (hr.mono (by decide)) (by rfl) T.g_power_of_three T.F_power_of_three.kp T.b_power_of_three .nil pass0 (pa_cons (pv 1) pa_nil)) pa_nil))) pa_nil))))))), W_gap__X, inferInstance, fun ds n QD XD h => body_gap__X h⟩)
theorem ok_are_letters (T : Txt P w K mg base) : FnOk P w K mg base CX0 1 T.a_are_letters T.fd_are_letters ["value", "low", "high"] (spF K G_are_letters) := by
  haveI := T.cn_BadDistance
  haveI := T.cn_BadEnds
  haveI := T.cn_BadNumber
  haveI := T.cn_BadWord
  haveI := T.cn_BadWorths
  haveI := T.cn_PlayError
  haveI := T.plk
  haveI := T.plh
  exact okD T.F_are_letters sc_are_letters (fun _ _ _ _ => by walk_at "len") (fun cdv A outer s H hr => ⟨_, (pss_one (ps_ret (pe_and (pe_callB (isiK K) (by rfl) T.z_isinstance (by decide +kernel) (pa_cons (pv 0) (pa_cons (pe_bltn (v := .ty "str") (u := .type "str") (by rfl) T.z_str (by decide +kernel) rfl) pa_nil))) (pe_and (pe_chain op_le op_le (pv 1) (pe_callB (lenK K) (by rfl) T.z_len (by decide +kernel) (pa_cons (pv 0) pa_nil)) (pv 2)) (pe_one (pe_callB (allK K rfl) (by rfl) T.z_all (by decide +kernel) (pa_cons (lcK [("sign", 3)] [3] rfl sc_are_letters.nd (piK K (pv 0)) (blkOk_by (own := [("sign", 3)]) (N := ["value", "low", "high", "sign"]) (sc := defScope s_are_letters) (by decide +kernel)) (fun _ _ _ _ _ => (pg_name (i := 3) sc_are_letters.nd rfl (.inl rfl))) (fun _ _ _ _ _ => pts_nil) (fun _ _ _ _ _ => (pe_cmpR (inK K) (pv 3) (pe_glob (v := .str "nfs") (by rfl) T.c_LETTERS.choose_spec ⟨_, rfl⟩) (by rfl)))) pa_nil))))))), W_are_letters, inferInstance, fun ds n QD h => body_are_letters h⟩)
theorem ok_is_word (T : Txt P w K mg base) : FnOk P w K mg base CX0 2 T.a_is_word T.fd_is_word ["value"] (spF K G_is_word) := by
  haveI := T.cn_BadDistance
  haveI := T.cn_BadEnds
  haveI := T.cn_BadNumber
  haveI := T.cn_BadWord
  haveI := T.cn_BadWorths
  haveI := T.cn_PlayError
  haveI := T.plk
  haveI := T.plh
  exact okD T.F_is_word sc_is_word (fun _ _ _ _ => by walk_at "len") (fun cdv A outer s H hr => ⟨_, (pss_one (ps_ret (pe_call (ok_are_letters (P := P) (w := w) (base := base) T) (hr.mono (by decide)) (by rfl) T.g_are_letters T.F_are_letters.kp T.b_are_letters .nil pass0 (pa_cons (pv 0) (pa_cons pe_int (pa_cons (pe_glob (v := .int 200) (by rfl) T.c_MOST_WORD.choose_spec ⟨_, rfl⟩) pa_nil)))))), W_is_word, inferInstance, fun ds n QD h => body_is_word h⟩)
theorem ok_check_word__X (T : Txt P w K mg base) : FnOk P w K mg base (L2.CX P w) 3 T.a_check_word T.fd_check_word ["word"] (spX K G_check_word__X) := by
  haveI := T.cn_BadDistance
  haveI := T.cn_BadEnds
  haveI := T.cn_BadNumber
  haveI := T.cn_BadWord
  haveI := T.cn_BadWorths
  haveI := T.cn_PlayError
  haveI := T.plk
  haveI := T.plh
  exact okX T.F_check_word sc_check_word (fun _ _ _ _ _ => by walk_at "len") (fun cdv A outer s H E hr => ⟨_, (pss_one (ps_if (pt_not (pt_val (pe_call (ok_is_word (P := P) (w := w) (base := base) T) (hr.mono (by decide)) (by rfl) T.g_is_word T.F_is_word.kp T.b_is_word .nil pass0 (pa_cons (pv 0) pa_nil)))) (pss_one (ps_raiseP rfl (L2.takes_of rfl rfl rfl rfl) T.plb T.ph_BadWord T.g_BadWord hr (pa_cons (pv 0) pa_nil))) pss_nil)), W_check_word__X, inferInstance, fun ds n QD XD h => body_check_word__X h⟩)
theorem ok_numbers_at (T : Txt P w K mg base) : FnOk P w K mg base CX0 1 T.a_numbers_at T.fd_numbers_at ["its"] (spF K G_numbers_at) := by
  haveI := T.cn_BadDistance
  haveI := T.cn_BadEnds
  haveI := T.cn_BadNumber
  haveI := T.cn_BadWord
  haveI := T.cn_BadWorths
  haveI := T.cn_PlayError
  haveI := T.plk
  haveI := T.plh
  exact okD T.F_numbers_at sc_numbers_at (fun _ _ _ _ => by walk_at "len") (fun cdv A outer s H hr => ⟨_, (pss_one (ps_ret (pe_ifExp (pt_cmpR (eqK K hr.units) (pe_op op_mod (pv 0) pe_int) pe_int (nomark _)) (pe_tup (pa_cons (pv 0) (pa_cons (pe_op (addK K) (pv 0) pe_int) pa_nil))) (pe_tup (pa_cons (pe_op (addK K) (pv 0) pe_int) (pa_cons (pv 0) pa_nil)))))), W_numbers_at, inferInstance, fun ds n QD h => body_numbers_at h⟩)
theorem ok_place_of (T : Txt P w K mg base) : FnOk P w K mg base CX0 1 T.a_place_of T.fd_place_of ["word"] (spF K G_place_of) := by
  haveI := T.r_BACK
  haveI := T.cn_BadDistance
  haveI := T.cn_BadEnds
  haveI := T.cn_BadNumber
  haveI := T.cn_BadWord
  haveI := T.cn_BadWorths
  haveI := T.cn_PlayError
  haveI := T.plk
  haveI := T.plh
  exact okD T.F_place_of sc_place_of (fun _ _ _ _ => by walk_at "len") (fun cdv A outer s H hr => ⟨_, (pss_cons (ps_set (i := 1) sc_place_of.nd rfl (.inl rfl) pe_int)
      (pss_cons (ps_for PassesOwn.never rfl (piK K (pv 0)) (pg_name (i := 2) sc_place_of.nd rfl (.inl rfl)) (pss_one (ps_set (i := 1) sc_place_of.nd rfl (.inl rfl) (pe_op (addK K) (pe_op op_mulG (pe_glob (v := .int 3) (by rfl) T.c_THREE.choose_spec ⟨_, rfl⟩) (pv 1)) (bmK K PySem.F.plainAttrs_str PySem.F.slot_str_index PySem.F.type_str_index (mt_idxS rfl) (pe_ix (ixK K) (pe_glob (v := .ref T.a_BACK) (by rfl) T.c_BACK rfl) (pe_op op_mod (pv 1) pe_int) (fun _ _ => rfl)) (pa_cons (pv 2) pa_nil))))))
      (pss_one (ps_ret (pv 1))))), W_place_of, inferInstance, fun ds n QD h => body_place_of h⟩)
theorem ok_plus (T : Txt P w K mg base) : FnOk P w K mg base CX0 3 T.a_plus T.fd_plus ["one", "other"] (spF K G_plus) := by
  haveI := T.cn_BadDistance
  haveI := T.cn_BadEnds
  haveI := T.cn_BadNumber
  haveI := T.cn_BadWord
  haveI := T.cn_BadWorths
  haveI := T.cn_PlayError
  haveI := T.plk
  haveI := T.plh
  exact okD T.F_plus sc_plus (fun _ _ _ _ => by walk_at "len") (fun cdv A outer s H hr => ⟨_, (pss_one (ps_ret (pe_call (ok_ratio (P := P) (w := w) (base := base) T) (hr.mono (by decide)) (by rfl) T.g_ratio T.F_ratio.kp T.b_ratio .nil pass0 (pa_cons (pe_op (addK K) (pe_op op_mulG (pe_ix (ixK K) (pv 0) pe_int (fun _ _ => rfl)) (pe_ix (ixK K) (pv 1) pe_int (fun _ _ => rfl))) (pe_op op_mulG (pe_ix (ixK K) (pv 1) pe_int (fun _ _ => rfl)) (pe_ix (ixK K) (pv 0) pe_int (fun _ _ => rfl)))) (pa_cons (pe_op op_mulG (pe_ix (ixK K) (pv 0) pe_int (fun _ _ => rfl)) (pe_ix (ixK K) (pv 1) pe_int (fun _ _ => rfl))) pa_nil))))), W_plus, inferInstance, fun ds n QD h => body_plus h⟩)
theorem ok_near__X (T : Txt P w K mg base) : FnOk P w K mg base (L2.CX P w) 4 T.a_near T.fd_near ["worths", "word"] (spX K G_near__X) := by
  haveI := T.cn_BadDistance
  haveI := T.cn_BadEnds
  haveI := T.cn_BadNumber
  haveI := T.cn_BadWord
  haveI := T.cn_BadWorths
  haveI := T.cn_PlayError
  haveI := T.plk
  haveI := T.plh
  exact okX T.F_near sc_near (fun _ _ _ _ _ => by walk_at "len") (fun cdv A outer s H E hr => ⟨_, (pss_cons (ps_expr (pe_call (ok_check_worths__X (P := P) (w := w) (base := base) T) (hr.mono (by decide)) (by rfl) T.g_check_worths T.F_check_worths.kp T.b_check_worths .nil (L2.passes_call (W := fun cls d _ H => E cls d H) (E := E) (L2.takes_of rfl rfl rfl rfl) (fun _ _ _ _ h => h)) (pa_cons (pv 0) pa_nil)))
      (pss_cons (ps_expr (pe_call (ok_check_word__X (P := P) (w := w) (base := base) T) (hr.mono (by decide)) (by rfl) T.g_check_word T.F_check_word.kp T.b_check_word .nil (L2.passes_call (W := fun cls d _ H => E cls d H) (E := E) (L2.takes_of rfl rfl rfl rfl) (fun _ _ _ _ h => h)) (pa_cons (pv 1) pa_nil)))
      (pss_cons (ps_asg (pe_tup (pa_cons (pe_call (ok_power_of_three (P := P) (w := w) (base := base) T) (hr.mono (by decide)) (by rfl) T.g_power_of_three T.F_power_of_three.kp T.b_power_of_three .nil pass0 (pa_cons (pe_callB (lenK K) (by rfl) T.z_len (by decide +kernel) (pa_cons (pv 1) pa_nil)) pa_nil)) (pa_cons (pe_call (ok_less (P := P) (w := w) (base := base) T) (hr.mono (by decide)) (by rfl) T.g_less T.F_less.kp T.b_less .nil pass0 (pa_cons (pe_ix (ixK K) (pv 0) pe_int (fun _ _ => rfl)) (pa_cons (pe_ix (ixK K) (pv 0) pe_int (fun _ _ => rfl)) pa_nil))) pa_nil))) (tgK K 2 rfl (pgs_cons (pg_name (i := 2) sc_near.nd rfl (.inr rfl)) (pgs_cons (pg_name (i := 3) sc_near.nd rfl (.inr rfl)) pgs_nil))))
      (pss_cons (setLcK 4 [("number", 5)] [5] rfl sc_near.nd rfl rfl (sw_true rfl rfl rfl (by decide +kernel)) (piK K (pe_call (ok_numbers_at (P := P) (w := w) (base := base) T) (hr.mono (by decide)) (by rfl) T.g_numbers_at T.F_numbers_at.kp T.b_numbers_at .nil pass0 (pa_cons (pe_call (ok_place_of (P := P) (w := w) (base := base) T) (hr.mono (by decide)) (by rfl) T.g_place_of T.F_place_of.kp T.b_place_of .nil pass0 (pa_cons (pv 1) pa_nil)) pa_nil))) (blkOk_by (own := [("number", 5)]) (N := ["worths", "word", "parts", "way", "ends", "number"]) (sc := defScope s_near) (by decide +kernel)) (fun _ _ _ _ _ => (pg_name (i := 5) sc_near.nd rfl (.inl rfl))) (fun _ _ _ _ _ => pts_nil) (fun _ _ _ _ _ => (pe_call (ok_plus (P := P) (w := w) (base := base) T) (hr.mono (by decide)) (by rfl) T.g_plus T.F_plus.kp T.b_plus .nil pass0 (pa_cons (pe_ix (ixK K) (pv 0) pe_int (fun _ _ => rfl)) (pa_cons (pe_call (ok_times (P := P) (w := w) (base := base) T) (hr.mono (by decide)) (by rfl) T.g_times T.F_times.kp T.b_times .nil pass0 (pa_cons (pv 3) (pa_cons (pe_call (ok_ratio (P := P) (w := w) (base := base) T) (hr.mono (by decide)) (by rfl) T.g_ratio T.F_ratio.kp T.b_ratio .nil pass0 (pa_cons (pv 5) (pa_cons (pv 2) pa_nil))) pa_nil))) pa_nil)))))
      (pss_one (ps_ret (pe_callTy (tupK K) (by rfl) T.z_tuple (by decide +kernel) (pa_cons (pv 4) pa_nil)))))))), W_near__X, inferInstance, fun ds n QD XD h => body_near__X h⟩)
theorem ok_is_size (T : Txt P w K mg base) : FnOk P w K mg base CX0 3 T.a_is_size T.fd_is_size ["value"] (spF K G_is_size) := by
  haveI := T.cn_BadDistance
  haveI := T.cn_BadEnds
  haveI := T.cn_BadNumber
  haveI := T.cn_BadWord
  haveI := T.cn_BadWorths
  haveI := T.cn_PlayError
  haveI := T.plk
  haveI := T.plh
  exact okD T.F_is_size sc_is_size (fun _ _ _ _ => by walk_at "len") (fun cdv A outer s H hr => ⟨_, (pss_one (ps_ret (pe_and (pe_call (ok_is_ratio (P := P) (w := w) (base := base) T) (hr.mono (by decide)) (by rfl) T.g_is_ratio T.F_is_ratio.kp T.b_is_ratio .nil pass0 (pa_cons (pv 0) pa_nil)) (pe_one (pe_cmpR op_gt (pe_ix (ixK K) (pv 0) pe_int (fun _ _ => rfl)) pe_int (nomark _)))))), W_is_size, inferInstance, fun ds n QD h => body_is_size h⟩)
theorem ok_needed__X (T : Txt P w K mg base) : FnOk P w K mg base (L2.CX P w) 5 T.a_needed T.fd_needed ["worths", "distance"] (spX K G_needed__X) := by
  haveI := T.r_THIRD
  haveI := T.cn_BadDistance
  haveI := T.cn_BadEnds
  haveI := T.cn_BadNumber
  haveI := T.cn_BadWord
  haveI := T.cn_BadWorths
  haveI := T.cn_PlayError
  haveI := T.plk
  haveI := T.plh
  exact okX T.F_needed sc_needed (fun _ _ _ _ _ => by walk_at "len") (fun cdv A outer s H E hr => ⟨_, (pss_cons (ps_expr (pe_call (ok_check_worths__X (P := P) (w := w) (base := base) T) (hr.mono (by decide)) (by rfl) T.g_check_worths T.F_check_worths.kp T.b_check_worths .nil (L2.passes_call (W := fun cls d _ H => E cls d H) (E := E) (L2.takes_of rfl rfl rfl rfl) (fun _ _ _ _ h => h)) (pa_cons (pv 0) pa_nil)))
      (pss_cons (ps_if (pt_not (pt_val (pe_call (ok_is_size (P := P) (w := w) (base := base) T) (hr.mono (by decide)) (by rfl) T.g_is_size T.F_is_size.kp T.b_is_size .nil pass0 (pa_cons (pv 1) pa_nil)))) (pss_one (ps_raiseP rfl (L2.takes_of rfl rfl rfl rfl) T.plb T.ph_BadDistance T.g_BadDistance hr (pa_cons (pv 1) pa_nil))) pss_nil)
      (pss_cons (ps_par (i := 2) (j := 3) rfl sc_needed.nd rfl rfl (by decide) rfl rfl (pa_cons pe_int (pa_cons (pe_call (ok_apart (P := P) (w := w) (base := base) T) (hr.mono (by decide)) (by rfl) T.g_apart T.F_apart.kp T.b_apart .nil pass0 (pa_cons (pe_ix (ixK K) (pv 0) pe_int (fun _ _ => rfl)) (pa_cons (pe_ix (ixK K) (pv 0) pe_int (fun _ _ => rfl)) pa_nil))) pa_nil)) (by rfl))
      (pss_cons (ps_while (L2.passes_of rfl) (pt_val (pe_call (ok_is_below (P := P) (w := w) (base := base) T) (hr.mono (by decide)) (by rfl) T.g_is_below T.F_is_below.kp T.b_is_below .nil pass0 (pa_cons (pv 1) (pa_cons (pv 3) pa_nil)))) (pss_one (ps_par (i := 2) (j := 3) rfl sc_needed.nd rfl rfl (by decide) rfl rfl (pa_cons (pe_op (addK K) (pv 2) pe_int) (pa_cons (pe_call (ok_times (P := P) (w := w) (base := base) T) (hr.mono (by decide)) (by rfl) T.g_times T.F_times.kp T.b_times .nil pass0 (pa_cons (pv 3) (pa_cons (pe_glob (v := .ref T.a_THIRD) (by rfl) T.c_THIRD rfl) pa_nil))) pa_nil)) (by rfl))))
      (pss_one (ps_ret (pv 2))))))), W_needed__X, inferInstance, fun ds n QD XD h => body_needed__X h⟩)
theorem ok_rounds_of_ends (T : Txt P w K mg base) : FnOk P w K mg base CX0 3 T.a_rounds_of_ends T.fd_rounds_of_ends ["value"] (spF K G_rounds_of_ends) := by
  haveI := T.cn_BadDistance
  haveI := T.cn_BadEnds
  haveI := T.cn_BadNumber
  haveI := T.cn_BadWord
  haveI := T.cn_BadWorths
  haveI := T.cn_PlayError
  haveI := T.plk
  haveI := T.plh
  exact okD T.F_rounds_of_ends sc_rounds_of_ends (fun _ _ _ _ => by walk_at "len") (fun cdv A outer s H hr => ⟨_, (pss_cons (ps_for PassesOwn.never rfl (pi_range1 (by rfl) T.z_range (pa_cons (pe_op (addK K) (pe_glob (v := .int 5) (by rfl) T.c_MOST_ENDS_ROUNDS.choose_spec ⟨_, rfl⟩) pe_int) pa_nil)) (pg_name (i := 1) sc_rounds_of_ends.nd rfl (.inl rfl)) (pss_cons (ps_set (i := 2) sc_rounds_of_ends.nd rfl (.inl rfl) (pe_op (addK K) (pe_call (ok_power_of_three (P := P) (w := w) (base := base) T) (hr.mono (by decide)) (by rfl) T.g_power_of_three T.F_power_of_three.kp T.b_power_of_three .nil pass0 (pa_cons (pv 1) pa_nil)) pe_int))
      (pss_one (ps_if (pt_val (pe_call (ok_is_tuple (P := P) (w := w) (base := base) T) (hr.mono (by decide)) (by rfl) T.g_is_tuple T.F_is_tuple.kp T.b_is_tuple .nil pass0 (pa_cons (pv 0) (pa_cons (pv 2) (pa_cons (pv 2) pa_nil))))) (pss_one (ps_ret (pe_ifExp (pt_val (pe_callB (allK K rfl) (by rfl) T.z_all (by decide +kernel) (pa_cons (lcK [("one", 3)] [3] rfl sc_rounds_of_ends.nd (piK K (pv 0)) (blkOk_by (own := [("one", 3)]) (N := ["value", "rounds", "many", "one"]) (sc := defScope s_rounds_of_ends) (by decide +kernel)) (fun _ _ _ _ _ => (pg_name (i := 3) sc_rounds_of_ends.nd rfl (.inl rfl))) (fun _ _ _ _ _ => pts_nil) (fun _ _ _ _ _ => (pe_call (ok_is_ratio (P := P) (w := w) (base := base) T) (hr.mono (by decide)) (by rfl) T.g_is_ratio T.F_is_ratio.kp T.b_is_ratio .nil pass0 (pa_cons (pv 3) pa_nil)))) pa_nil))) (pv 1) pe_non))) pss_nil))))
      (pss_one (ps_ret pe_non))), W_rounds_of_ends, inferInstance, fun ds n QD h => body_rounds_of_ends h⟩)
theorem ok_word_of (T : Txt P w K mg base) : FnOk P w K mg base CX0 1 T.a_word_of T.fd_word_of ["rounds", "its"] (spF K G_word_of) := by
  haveI := T.r_BACK
  haveI := T.cn_BadDistance
  haveI := T.cn_BadEnds
  haveI := T.cn_BadNumber
  haveI := T.cn_BadWord
  haveI := T.cn_BadWorths
  haveI := T.cn_PlayError
  haveI := T.plk
  haveI := T.plh
  exact okD T.F_word_of sc_word_of (fun _ _ _ _ => by walk_at "len") (fun cdv A outer s H hr => ⟨_, (pss_cons (ps_set (i := 2) sc_word_of.nd rfl (.inl rfl) pe_str)
      (pss_cons (ps_for PassesOwn.never rfl (pi_range1 (by rfl) T.z_range (pa_cons (pv 0) pa_nil)) (pg_name (i := 3) sc_word_of.nd rfl (.inl rfl)) (pss_cons (ps_set (i := 4) sc_word_of.nd rfl (.inl rfl) (pe_op op_fdivW (pv 1) (pe_glob (v := .int 3) (by rfl) T.c_THREE.choose_spec ⟨_, rfl⟩)))
      (pss_cons (ps_set (i := 2) sc_word_of.nd rfl (.inl rfl) (pe_op (addK K) (pe_ix (ixK K) (pe_ix (ixK K) (pe_glob (v := .ref T.a_BACK) (by rfl) T.c_BACK rfl) (pe_op op_mod (pv 4) pe_int) (fun _ _ => rfl)) (pe_op op_mod (pv 1) (pe_glob (v := .int 3) (by rfl) T.c_THREE.choose_spec ⟨_, rfl⟩)) (fun _ _ => rfl)) (pv 2)))
      (pss_one (ps_set (i := 1) sc_word_of.nd rfl (.inl rfl) (pv 4))))))
      (pss_one (ps_ret (pv 2))))), W_word_of, inferInstance, fun ds n QD h => body_word_of h⟩)
theorem ok_widest__X (T : Txt P w K mg base) : FnOk P w K mg base (L2.CX P w) 5 T.a_widest T.fd_widest ["ends"] (spX K G_widest__X) := by
  haveI := T.cn_BadDistance
  haveI := T.cn_BadEnds
  haveI := T.cn_BadNumber
  haveI := T.cn_BadWord
  haveI := T.cn_BadWorths
  haveI := T.cn_PlayError
  haveI := T.plk
  haveI := T.plh
  exact okX T.F_widest sc_widest (fun _ _ _ _ _ => by walk_at "len") (fun cdv A outer s H E hr => ⟨_, (pss_cons (ps_set (i := 1) sc_widest.nd rfl (.inl rfl) (pe_call (ok_rounds_of_ends (P := P) (w := w) (base := base) T) (hr.mono (by decide)) (by rfl) T.g_rounds_of_ends T.F_rounds_of_ends.kp T.b_rounds_of_ends .nil pass0 (pa_cons (pv 0) pa_nil)))
      (pss_cons (ps_if (pt_cmpR op_isW (pv 1) pe_non (nomark _)) (pss_one (ps_raiseP rfl (L2.takes_of rfl rfl rfl rfl) T.plb T.ph_BadEnds T.g_BadEnds hr (pa_cons (pv 0) pa_nil))) pss_nil)
      (pss_cons (ps_par (i := 2) (j := 3) rfl sc_widest.nd rfl rfl (by decide) rfl rfl (pa_cons pe_int (pa_cons (pe_call (ok_apart (P := P) (w := w) (base := base) T) (hr.mono (by decide)) (by rfl) T.g_apart T.F_apart.kp T.b_apart .nil pass0 (pa_cons (pe_ix (ixK K) (pv 0) pe_int (fun _ _ => rfl)) (pa_cons (pe_ix (ixK K) (pv 0) pe_int (fun _ _ => rfl)) pa_nil))) pa_nil)) (by rfl))
      (pss_cons (ps_for (L2.passes_of rfl) rfl (pi_range2 (by rfl) T.z_range (pa_cons pe_int (pa_cons (pe_call (ok_power_of_three (P := P) (w := w) (base := base) T) (hr.mono (by decide)) (by rfl) T.g_power_of_three T.F_power_of_three.kp T.b_power_of_three .nil pass0 (pa_cons (pv 1) pa_nil)) pa_nil))) (pg_name (i := 4) sc_widest.nd rfl (.inl rfl)) (pss_cons (ps_set (i := 5) sc_widest.nd rfl (.inl rfl) (pe_call (ok_apart (P := P) (w := w) (base := base) T) (hr.mono (by decide)) (by rfl) T.g_apart T.F_apart.kp T.b_apart .nil pass0 (pa_cons (pe_ix (ixK K) (pv 0) (pv 4) (fun _ _ => rfl)) (pa_cons (pe_ix (ixK K) (pv 0) (pe_op (addK K) (pv 4) pe_int) (fun _ _ => rfl)) pa_nil))))
      (pss_one (ps_if (pt_val (pe_call (ok_is_below (P := P) (w := w) (base := base) T) (hr.mono (by decide)) (by rfl) T.g_is_below T.F_is_below.kp T.b_is_below .nil pass0 (pa_cons (pv 3) (pa_cons (pv 5) pa_nil)))) (pss_one (ps_par (i := 2) (j := 3) rfl sc_widest.nd rfl rfl (by decide) rfl rfl (pa_cons (pv 4) (pa_cons (pv 5) pa_nil)) (by rfl))) pss_nil))))
      (pss_one (ps_ret (pe_tup (pa_cons (pe_call (ok_word_of (P := P) (w := w) (base := base) T) (hr.mono (by decide)) (by rfl) T.g_word_of T.F_word_of.kp T.b_word_of .nil pass0 (pa_cons (pv 1) (pa_cons (pv 2) pa_nil))) (pa_cons (pv 3) pa_nil))))))))), W_widest__X, inferInstance, fun ds n QD XD h => body_widest__X h⟩)
theorem ok__law_is_refused_right (T : Txt P w K mg base) : FnG P w K mg base 9 T.a__law_is_refused_right T.fd__law_is_refused_right ["worths", "word", "number", "goal", "marks"] (spF K G__law_is_refused_right) := by
  haveI := T.cn_BadDistance
  haveI := T.cn_BadEnds
  haveI := T.cn_BadNumber
  haveI := T.cn_BadWord
  haveI := T.cn_BadWorths
  haveI := T.cn_PlayError
  haveI := T.plk
  haveI := T.plh
  haveI := T.ti__law_is_refused_right
  exact okGD T.F__law_is_refused_right sc__law_is_refused_right (fun _ _ _ _ => by walk_at "len") (fun cdv A outer s H hcdv hr hgd => ⟨_, (pss_cons (ps_set (i := 5) sc__law_is_refused_right.nd rfl (.inl rfl) (pe_ifExp (pt_val (pe_call (ok__law_are_worths (P := P) (w := w) (base := base) T) (hr.mono (by decide)) (by rfl) T.g__law_are_worths T.F__law_are_worths.kp T.b__law_are_worths .nil pass0 (pa_cons (pv 0) pa_nil))) (pe_lst pa_nil) (pe_lst (pa_cons (pe_tup (pa_cons pe_str (pa_cons (pv 0) pa_nil))) pa_nil))))
      (pss_cons (ps_set (i := 6) sc__law_is_refused_right.nd rfl (.inl rfl) (pe_ifExp (pt_val (pe_call (ok__law_law_is_word (P := P) (w := w) (base := base) T) (hr.mono (by decide)) (by rfl) T.g__law_law_is_word T.F__law_law_is_word.kp T.b__law_law_is_word .nil pass0 (pa_cons (pv 1) (pa_cons pe_int (pa_cons pe_int pa_nil))))) (pe_lst pa_nil) (pe_lst (pa_cons (pe_tup (pa_cons pe_str (pa_cons (pv 1) pa_nil))) pa_nil))))
      (pss_cons (ps_if (pt_not (pt_val (pe_lamQ [0, 1] (("_law_is_refused_right" : Str) ++ ".<locals>." ++ "<lambda>") (ok__law_is_raised (P := P) (w := w) (base := base) T) (fun _ => hgd) (hr.mono (by decide)) (by rfl) T.g__law_is_raised T.F__law_is_raised.kp T.b__law_is_raised T.tb__law_is_refused_right (hcdv.symm.trans T.co__law_is_refused_right) (LamX.lamS_by (show LamX.lamSB (defScope s__law_is_refused_right) _ = true by decide +kernel)) (by rfl) (fun _ _ _ _ _ => by rfl) (fun A outer s H E f c' hr2 => (pe_callN0 (ok_near__X (P := P) (w := w) (base := base) T) (hr2.mono (by decide)) (by rfl) T.g_near T.F_near.kp T.b_k_near_0_word_worths (L2.passes_call (W := fun cls d _ H => E cls d H) (E := E) (L2.takes_of rfl rfl rfl rfl) (fun _ _ _ _ h => h)) (pk_cons (pv 1) (pk_cons (pv 0) pk_nil)))) (pa_cons (pe_op (addK K) (pv 5) (pv 6)) pa_nil)))) (pss_one (ps_ret pe_bl)) pss_nil)
      (pss_cons (ps_set (i := 6) sc__law_is_refused_right.nd rfl (.inl rfl) (pe_ifExp (pt_val (pe_call (ok__law_is_int (P := P) (w := w) (base := base) T) (hr.mono (by decide)) (by rfl) T.g__law_is_int T.F__law_is_int.kp T.b__law_is_int .nil pass0 (pa_cons (pv 2) (pa_cons pe_int (pa_cons pe_int pa_nil))))) (pe_lst pa_nil) (pe_lst (pa_cons (pe_tup (pa_cons pe_str (pa_cons (pv 2) pa_nil))) pa_nil))))
      (pss_cons (ps_if (pt_not (pt_val (pe_lamQ [0, 2] (("_law_is_refused_right" : Str) ++ ".<locals>." ++ "<lambda>") (ok__law_is_raised (P := P) (w := w) (base := base) T) (fun _ => hgd) (hr.mono (by decide)) (by rfl) T.g__law_is_raised T.F__law_is_raised.kp T.b__law_is_raised T.tb__law_is_refused_right (hcdv.symm.trans T.co__law_is_refused_right) (LamX.lamS_by (show LamX.lamSB (defScope s__law_is_refused_right) _ = true by decide +kernel)) (by rfl) (fun _ _ _ _ _ => by rfl) (fun A outer s H E f c' hr2 => (pe_callN0 (ok_gap__X (P := P) (w := w) (base := base) T) (hr2.mono (by decide)) (by rfl) T.g_gap T.F_gap.kp T.b_k_gap_0_rounds_worths (L2.passes_call (W := fun cls d _ H => E cls d H) (E := E) (L2.takes_of rfl rfl rfl rfl) (fun _ _ _ _ h => h)) (pk_cons (pv 2) (pk_cons (pv 0) pk_nil)))) (pa_cons (pe_op (addK K) (pv 5) (pv 6)) pa_nil)))) (pss_one (ps_ret pe_bl)) pss_nil)
      (pss_cons (ps_set (i := 6) sc__law_is_refused_right.nd rfl (.inl rfl) (pe_ifExp (pt_val (pe_call (ok__law_frac_is_size (P := P) (w := w) (base := base) T) (hr.mono (by decide)) (by rfl) T.g__law_frac_is_size T.F__law_frac_is_size.kp T.b__law_frac_is_size .nil pass0 (pa_cons (pv 3) pa_nil))) (pe_lst pa_nil) (pe_lst (pa_cons (pe_tup (pa_cons pe_str (pa_cons (pv 3) pa_nil))) pa_nil))))
      (pss_cons (ps_if (pt_not (pt_val (pe_lamQ [0, 3] (("_law_is_refused_right" : Str) ++ ".<locals>." ++ "<lambda>") (ok__law_is_raised (P := P) (w := w) (base := base) T) (fun _ => hgd) (hr.mono (by decide)) (by rfl) T.g__law_is_raised T.F__law_is_raised.kp T.b__law_is_raised T.tb__law_is_refused_right (hcdv.symm.trans T.co__law_is_refused_right) (LamX.lamS_by (show LamX.lamSB (defScope s__law_is_refused_right) _ = true by decide +kernel)) (by rfl) (fun _ _ _ _ _ => by rfl) (fun A outer s H E f c' hr2 => (pe_call (ok_needed__X (P := P) (w := w) (base := base) T) (hr2.mono (by decide)) (by rfl) T.g_needed T.F_needed.kp T.b_needed .nil (L2.passes_call (W := fun cls d _ H => E cls d H) (E := E) (L2.takes_of rfl rfl rfl rfl) (fun _ _ _ _ h => h)) (pa_cons (pv 0) (pa_cons (pv 3) pa_nil)))) (pa_cons (pe_op (addK K) (pv 5) (pv 6)) pa_nil)))) (pss_one (ps_ret pe_bl)) pss_nil)
      (pss_one (ps_ret (pe_lamQ [4] (("_law_is_refused_right" : Str) ++ ".<locals>." ++ "<lambda>") (ok__law_is_raised (P := P) (w := w) (base := base) T) (fun _ => hgd) (hr.mono (by decide)) (by rfl) T.g__law_is_raised T.F__law_is_raised.kp T.b__law_is_raised T.tb__law_is_refused_right (hcdv.symm.trans T.co__law_is_refused_right) (LamX.lamS_by (show LamX.lamSB (defScope s__law_is_refused_right) _ = true by decide +kernel)) (by rfl) (fun _ _ _ _ _ => by rfl) (fun A outer s H E f c' hr2 => (pe_call (ok_widest__X (P := P) (w := w) (base := base) T) (hr2.mono (by decide)) (by rfl) T.g_widest T.F_widest.kp T.b_widest .nil (L2.passes_call (W := fun cls d _ H => E cls d H) (E := E) (L2.takes_of rfl rfl rfl rfl) (fun _ _ _ _ h => h)) (pa_cons (pv 4) pa_nil))) (pa_cons (pe_ifExp (pt_val (pe_call (ok__law_are_ends (P := P) (w := w) (base := base) T) (hr.mono (by decide)) (by rfl) T.g__law_are_ends T.F__law_are_ends.kp T.b__law_are_ends .nil pass0 (pa_cons (pv 4) pa_nil))) (pe_lst pa_nil) (pe_lst (pa_cons (pe_tup (pa_cons pe_str (pa_cons (pv 4) pa_nil))) pa_nil))) pa_nil))))))))))), W__law_is_refused_right, inferInstance, fun ds n QD h => body__law_is_refused_right h⟩)
theorem ok__law_law_word_drawn (T : Txt P w K mg base) : FnOk P w K mg base CX0 3 T.a__law_law_word_drawn T.fd__law_law_word_drawn ["pot", "most"] (spF K G__law_law_word_drawn) := by
  haveI := T.cn_BadDistance
  haveI := T.cn_BadEnds
  haveI := T.cn_BadNumber
  haveI := T.cn_BadWord
  haveI := T.cn_BadWorths
  haveI := T.cn_PlayError
  haveI := T.plk
  haveI := T.plh
  exact okP T.F__law_law_word_drawn sc__law_law_word_drawn (fun _ _ _ _ => by walk_at "len") (fun cdv A outer s H hr => ⟨_, (pss_one (ps_ret (bmK K PySem.F.plainAttrs_str PySem.F.slot_str_join PySem.F.type_str_join (joinK K) pe_str (pa_cons (lcK [("lap", 2)] [2] rfl sc__law_law_word_drawn.nd (pi_range1 (by rfl) T.z_range (pa_cons (pe_call (ok__law_take (P := P) (w := w) (base := base) T) (hr.mono (by decide)) (by rfl) T.g__law_take T.F__law_take.kp T.b__law_take .nil pass0 (pa_cons (pv 0) (pa_cons (pe_op (addK K) (pv 1) pe_int) pa_nil))) pa_nil)) (blkOk_by (own := [("lap", 2)]) (N := ["pot", "most", "lap"]) (sc := defScope s__law_law_word_drawn) (by decide +kernel)) (fun _ _ _ _ _ => (pg_name (i := 2) sc__law_law_word_drawn.nd rfl (.inl rfl))) (fun _ _ _ _ _ => pts_nil) (fun _ _ _ _ _ => (pe_call (ok__law_of (P := P) (w := w) (base := base) T) (hr.mono (by decide)) (by rfl) T.g__law_of T.F__law_of.kp T.b__law_of .nil pass0 (pa_cons (pv 0) (pa_cons (pe_callTy (listK K rfl) (by rfl) T.z_list (by decide +kernel) (pa_cons pe_str pa_nil)) pa_nil))))) pa_nil)))), W__law_law_word_drawn, inferInstance, fun ds n QD h => body__law_law_word_drawn h⟩)
theorem ok__law_right (T : Txt P w K mg base) : FnG P w K mg base 10 T.a__law_right T.fd__law_right ["pot"] (spF K G__law_right) := by
  haveI := T.cn_BadDistance
  haveI := T.cn_BadEnds
  haveI := T.cn_BadNumber
  haveI := T.cn_BadWord
  haveI := T.cn_BadWorths
  haveI := T.cn_PlayError
  haveI := T.plk
  haveI := T.plh
  exact okGP T.F__law_right sc__law_right (fun _ _ _ _ => by walk_at "len") (fun cdv A outer s H hcdv hr hgd => ⟨_, (pss_cons (ps_for PassesOwn.never rfl (pi_range1 (by rfl) T.z_range (pa_cons pe_int pa_nil)) (pg_name (i := 1) sc__law_right.nd rfl (.inl rfl)) (pss_cons (ps_set (i := 2) sc__law_right.nd rfl (.inl rfl) (pe_tup (pa_cons (pe_call (ok__law_frac_drawn (P := P) (w := w) (base := base) T) (hr.mono (by decide)) (by rfl) T.g__law_frac_drawn T.F__law_frac_drawn.kp T.b__law_frac_drawn .nil pass0 (pa_cons (pv 0) (pa_cons (pe_un un_neg pe_int) (pa_cons pe_int pa_nil)))) (pa_cons (pe_call (ok__law_frac_drawn (P := P) (w := w) (base := base) T) (hr.mono (by decide)) (by rfl) T.g__law_frac_drawn T.F__law_frac_drawn.kp T.b__law_frac_drawn .nil pass0 (pa_cons (pv 0) (pa_cons (pe_un un_neg pe_int) (pa_cons pe_int pa_nil)))) pa_nil))))
      (pss_cons (ps_set (i := 3) sc__law_right.nd rfl (.inl rfl) (pe_lst (pa_cons (pv 2) (pa_cons (pv 2) (pa_cons (pe_call (ok__law_bent (P := P) (w := w) (base := base) T) (hr.mono (by decide)) (by rfl) T.g__law_bent T.F__law_bent.kp T.b__law_bent .nil pass0 (pa_cons (pv 0) (pa_cons (pv 2) pa_nil))) (pa_cons (pe_callTy (listK K rfl) (by rfl) T.z_list (by decide +kernel) (pa_cons (pv 2) pa_nil)) (pa_cons (pe_tup (pa_cons pe_int (pa_cons pe_int pa_nil))) (pa_cons (pe_call (ok__law_odd (P := P) (w := w) (base := base) T) (hr.mono (by decide)) (by rfl) T.g__law_odd T.F__law_odd.kp T.b__law_odd .nil pass0 (pa_cons (pv 0) pa_nil)) pa_nil))))))))
      (pss_cons (ps_set (i := 4) sc__law_right.nd rfl (.inl rfl) (pe_call (ok__law_law_word_drawn (P := P) (w := w) (base := base) T) (hr.mono (by decide)) (by rfl) T.g__law_law_word_drawn T.F__law_law_word_drawn.kp T.b__law_law_word_drawn .nil pass0 (pa_cons (pv 0) (pa_cons pe_int pa_nil))))
      (pss_cons (ps_set (i := 5) sc__law_right.nd rfl (.inl rfl) (pe_lst (pa_cons (pv 4) (pa_cons (pv 4) (pa_cons (pe_op (addK K) (pv 4) pe_str) (pa_cons (pe_op op_mulG pe_str pe_int) (pa_cons (pe_op op_mulG pe_str pe_int) (pa_cons pe_non (pa_cons pe_int (pa_cons (pe_call (ok__law_odd (P := P) (w := w) (base := base) T) (hr.mono (by decide)) (by rfl) T.g__law_odd T.F__law_odd.kp T.b__law_odd .nil pass0 (pa_cons (pv 0) pa_nil)) pa_nil))))))))))
      (pss_cons (ps_set (i := 6) sc__law_right.nd rfl (.inl rfl) (pe_lst (pa_cons pe_int (pa_cons pe_int (pa_cons pe_int (pa_cons pe_int (pa_cons (pe_un un_neg pe_int) (pa_cons pe_bl (pa_cons pe_non (pa_cons pe_str (pa_cons (pe_call (ok__law_odd (P := P) (w := w) (base := base) T) (hr.mono (by decide)) (by rfl) T.g__law_odd T.F__law_odd.kp T.b__law_odd .nil pass0 (pa_cons (pv 0) pa_nil)) pa_nil)))))))))))
      (pss_cons (ps_set (i := 7) sc__law_right.nd rfl (.inl rfl) (pe_lst (pa_cons (pe_tup (pa_cons pe_int (pa_cons pe_int pa_nil))) (pa_cons (pe_tup (pa_cons pe_int (pa_cons pe_int pa_nil))) (pa_cons (pe_tup (pa_cons (pe_un un_neg pe_int) (pa_cons pe_int pa_nil))) (pa_cons (pe_tup (pa_cons pe_int (pa_cons pe_int pa_nil))) (pa_cons (pe_tup (pa_cons pe_int (pa_cons pe_int pa_nil))) (pa_cons pe_int (pa_cons pe_non (pa_cons (pe_tup (pa_cons pe_bl (pa_cons pe_int pa_nil))) (pa_cons (pe_call (ok__law_odd (P := P) (w := w) (base := base) T) (hr.mono (by decide)) (by rfl) T.g__law_odd T.F__law_odd.kp T.b__law_odd .nil pass0 (pa_cons (pv 0) pa_nil)) pa_nil)))))))))))
      (pss_cons (ps_set (i := 8) sc__law_right.nd rfl (.inl rfl) (pe_call (ok__law_of (P := P) (w := w) (base := base) T) (hr.mono (by decide)) (by rfl) T.g__law_of T.F__law_of.kp T.b__law_of .nil pass0 (pa_cons (pv 0) (pa_cons (pe_lst (pa_cons pe_int (pa_cons pe_int (pa_cons pe_int (pa_cons pe_int (pa_cons pe_int (pa_cons pe_int (pa_cons pe_int (pa_cons pe_int pa_nil))))))))) pa_nil))))
      (pss_cons (ps_set (i := 9) sc__law_right.nd rfl (.inl rfl) (pe_callTy (tupK K) (by rfl) T.z_tuple (by decide +kernel) (pa_cons (lcK [("lap", 1)] [1] rfl sc__law_right.nd (pi_range1 (by rfl) T.z_range (pa_cons (pv 8) pa_nil)) (blkOk_by (own := [("lap", 1)]) (N := ["pot", "lap", "worths", "some", "word", "words", "numbers", "goals", "many", "marks", "others", "told", "where"]) (sc := defScope s__law_right) (by decide +kernel)) (fun _ _ _ _ _ => (pg_name (i := 1) sc__law_right.nd rfl (.inl rfl))) (fun _ _ _ _ _ => pts_nil) (fun _ _ _ _ _ => (pe_call (ok__law_frac_drawn (P := P) (w := w) (base := base) T) (hr.mono (by decide)) (by rfl) T.g__law_frac_drawn T.F__law_frac_drawn.kp T.b__law_frac_drawn .nil pass0 (pa_cons (pv 0) (pa_cons (pe_un un_neg pe_int) (pa_cons pe_int pa_nil)))))) pa_nil)))
      (pss_cons (ps_own (i := 10) sc__law_right.nd rfl (.inl rfl) (pe_lst (pa_cons (pv 9) (pa_cons (pv 9) (pa_cons (pe_call (ok__law_bent (P := P) (w := w) (base := base) T) (hr.mono (by decide)) (by rfl) T.g__law_bent T.F__law_bent.kp T.b__law_bent .nil pass0 (pa_cons (pv 0) (pa_cons (pv 9) pa_nil))) (pa_cons (pe_callTy (listK K rfl) (by rfl) T.z_list (by decide +kernel) (pa_cons (pv 9) pa_nil)) (pa_cons (pe_call (ok__law_odd (P := P) (w := w) (base := base) T) (hr.mono (by decide)) (by rfl) T.g__law_odd T.F__law_odd.kp T.b__law_odd .nil pass0 (pa_cons (pv 0) pa_nil)) pa_nil)))))))
      (pss_cons (ps_app (ps_expr (bmK K PySem.F.plainAttrs_list PySem.F.slot_list_append PySem.F.type_list_append mt_append (pv 10) (pa_cons (pe_op (mulTK K) (pe_tup (pa_cons (pe_tup (pa_cons pe_int (pa_cons pe_int pa_nil))) pa_nil)) (pe_call (ok__law_of (P := P) (w := w) (base := base) T) (hr.mono (by decide)) (by rfl) T.g__law_of T.F__law_of.kp T.b__law_of .nil pass0 (pa_cons (pv 0) (pa_cons (pe_lst (pa_cons pe_int (pa_cons pe_int (pa_cons pe_int pa_nil)))) pa_nil)))) pa_nil))))
      (pss_cons (ps_par (i := 11) (j := 12) rfl sc__law_right.nd rfl rfl (by decide) rfl rfl (pa_cons (pe_tup (pa_cons (pe_call (ok__law_of (P := P) (w := w) (base := base) T) (hr.mono (by decide)) (by rfl) T.g__law_of T.F__law_of.kp T.b__law_of .nil pass0 (pa_cons (pv 0) (pa_cons (pv 3) pa_nil))) (pa_cons (pe_call (ok__law_of (P := P) (w := w) (base := base) T) (hr.mono (by decide)) (by rfl) T.g__law_of T.F__law_of.kp T.b__law_of .nil pass0 (pa_cons (pv 0) (pa_cons (pv 5) pa_nil))) pa_nil))) (pa_cons (pe_tup (pa_cons (pe_call (ok__law_of (P := P) (w := w) (base := base) T) (hr.mono (by decide)) (by rfl) T.g__law_of T.F__law_of.kp T.b__law_of .nil pass0 (pa_cons (pv 0) (pa_cons (pv 6) pa_nil))) (pa_cons (pe_call (ok__law_of (P := P) (w := w) (base := base) T) (hr.mono (by decide)) (by rfl) T.g__law_of T.F__law_of.kp T.b__law_of .nil pass0 (pa_cons (pv 0) (pa_cons (pv 7) pa_nil))) pa_nil))) pa_nil)) (by rfl))
      (pss_one (ps_if (pt_not (pt_val (pe_callG (ok__law_is_refused_right (P := P) (w := w) (base := base) T) hgd (hr.mono (by decide)) (by rfl) T.g__law_is_refused_right T.F__law_is_refused_right.kp T.b__law_is_refused_right (pa_cons (pe_ix (ixK K) (pv 11) pe_int (fun _ _ => rfl)) (pa_cons (pe_ix (ixK K) (pv 11) pe_int (fun _ _ => rfl)) (pa_cons (pe_ix (ixK K) (pv 12) pe_int (fun _ _ => rfl)) (pa_cons (pe_ix (ixK K) (pv 12) pe_int (fun _ _ => rfl)) (pa_cons (pe_call (ok__law_of (P := P) (w := w) (base := base) T) (hr.mono (by decide)) (by rfl) T.g__law_of T.F__law_of.kp T.b__law_of .nil pass0 (pa_cons (pv 0) (pa_cons (pv 10) pa_nil))) pa_nil)))))))) (pss_one (ps_ret pe_bl)) pss_nil))))))))))))))
      (pss_one (ps_ret pe_bl))), W__law_right, inferInstance, fun ds n QD h => body__law_right h⟩)
theorem ok_law (T : Txt P w K mg base) : FnG P w K mg base 11 T.a_law T.fd_law ["script"] (spF K G_law) := by
  haveI := T.cn_BadDistance
  haveI := T.cn_BadEnds
  haveI := T.cn_BadNumber
  haveI := T.cn_BadWord
  haveI := T.cn_BadWorths
  haveI := T.cn_PlayError
  haveI := T.plk
  haveI := T.plh
  exact okGD T.F_law sc_law (fun _ _ _ _ => by walk_at "len") (fun cdv A outer s H hcdv hr hgd => ⟨_, (pss_one (ps_ret (pe_pot (pe_callG (ok__law_right (P := P) (w := w) (base := base) T) hgd (hr.mono (by decide)) (by rfl) T.g__law_right T.F__law_right.kp T.b__law_right (pa_cons (pe_call (ok__law_pot (P := P) (w := w) (base := base) T) (hr.mono (by decide)) (by rfl) T.g__law_pot T.F__law_pot.kp T.b__law_pot .nil pass0 (pa_cons (pv 0) (pa_cons pe_int pa_nil))) pa_nil))))), W_law, inferInstance, fun ds n QD h => body_law h⟩)
end
end LT
theorem vals_BACK {u0 u1 : Tok} : Vals [.str "snf", .str "fns"] [.str "snf" u0, .str "fns" u1] := .cons ⟨_, rfl⟩ (.cons ⟨_, rfl⟩ (.nil))
theorem rep_BACK {K : PySem.W.Frag} (p : Amb) (F : Hp) : Reps K p F [.str "snf", .str "fns"] [.str [115, 110, 102], .str [102, 110, 115]] := .cons (rep_str (by decide +kernel)) (.cons (rep_str (by decide +kernel)) (.nil))
theorem vals_THIRD {u0 u1 : Tok} : Vals [.int (1), .int (3)] [.int (1) u0, .int (3) u1] := .cons ⟨_, rfl⟩ (.cons ⟨_, rfl⟩ (.nil))
theorem rep_THIRD {K : PySem.W.Frag} (p : Amb) (F : Hp) : Reps K p F [.int (1), .int (3)] [.int (1), .int (3)] := .cons (.int _) (.cons (.int _) (.nil))
theorem all_mk {l : PySem.W.OpenLaw} {pq : Program} {w : World} {K : PySem.W.Frag} {h : Heap} {mg : Str → Option Value} {fa : Addr} (X : K.In h) (G : h.Ns mainGlobals mg) (hfa : mg "law" = some (.ref fa))
    {f0 f1 f2 f3 f4 f5 f6 f7 f8 f9 f10 f11 f12 f13 f14 f15 f16 f17 f18 f19 f20 f21 f22 f23 f24 f25 f26 f27 f28 f29 f30 f31 f32 f33 f34 f35 f36 f37 f38 f39 f40 f41 f42 f43 f44 f45 f46 f47 : Addr}
    {od0 an0 od1 an1 od2 an2 od3 an3 od4 an4 od5 an5 od6 an6 od7 an7 od8 an8 od9 an9 od10 an10 od11 an11 od12 an12 od13 an13 od14 an14 od15 an15 od16 an16 od17 an17 od18 an18 od19 an19 od20 an20 od21 an21 od22 an22 od23 an23 od24 an24 od25 an25 od26 an26 od27 an27 od28 an28 od29 an29 od30 an30 od31 an31 od32 an32 od33 an33 od34 an34 od35 an35 od36 an36 od37 an37 od38 an38 od39 an39 od40 an40 od41 an41 od42 an42 od43 an43 od44 an44 od45 an45 od46 an46 od47 an47 : Option Addr} {sl0 sl1 sl2 sl3 sl4 sl5 sl6 sl7 sl8 sl9 sl10 sl11 sl12 sl13 sl14 sl15 sl16 sl17 sl18 sl19 sl20 sl21 sl22 sl23 sl24 sl25 sl26 sl27 sl28 sl29 sl30 sl31 sl32 sl33 sl34 sl35 sl36 sl37 sl38 sl39 sl40 sl41 sl42 sl43 sl44 sl45 sl46 sl47 : Array (Option Value)}
    {oc0 kV0 dc0 pm0 cd0 ct0 oc1 kV1 dc1 pm1 cd1 ct1 oc2 kV2 dc2 pm2 cd2 ct2 oc3 kV3 dc3 pm3 cd3 ct3 oc4 kV4 dc4 pm4 cd4 ct4 oc5 kV5 dc5 pm5 cd5 ct5 oc6 kV6 dc6 pm6 cd6 ct6 oc7 kV7 dc7 pm7 cd7 ct7 oc8 kV8 dc8 pm8 cd8 ct8 oc9 kV9 dc9 pm9 cd9 ct9 oc10 kV10 dc10 pm10 cd10 ct10 oc11 kV11 dc11 pm11 cd11 ct11 oc12 kV12 dc12 pm12 cd12 ct12 oc13 kV13 dc13 pm13 cd13 ct13 oc14 kV14 dc14 pm14 cd14 ct14 oc15 kV15 dc15 pm15 cd15 ct15 oc16 kV16 dc16 pm16 cd16 ct16 oc17 kV17 dc17 pm17 cd17 ct17 oc18 kV18 dc18 pm18 cd18 ct18 oc19 kV19 dc19 pm19 cd19 ct19 oc20 kV20 dc20 pm20 cd20 ct20 oc21 kV21 dc21 pm21 cd21 ct21 oc22 kV22 dc22 pm22 cd22 ct22 oc23 kV23 dc23 pm23 cd23 ct23 oc24 kV24 dc24 pm24 cd24 ct24 oc25 kV25 dc25 pm25 cd25 ct25 oc26 kV26 dc26 pm26 cd26 ct26 oc27 kV27 dc27 pm27 cd27 ct27 oc28 kV28 dc28 pm28 cd28 ct28 oc29 kV29 dc29 pm29 cd29 ct29 oc30 kV30 dc30 pm30 cd30 ct30 oc31 kV31 dc31 pm31 cd31 ct31 oc32 kV32 dc32 pm32 cd32 ct32 oc33 kV33 dc33 pm33 cd33 ct33 oc34 kV34 dc34 pm34 cd34 ct34 oc35 kV35 dc35 pm35 cd35 ct35 oc36 kV36 dc36 pm36 cd36 ct36 oc37 kV37 dc37 pm37 cd37 ct37 oc38 kV38 dc38 pm38 cd38 ct38 oc39 kV39 dc39 pm39 cd39 ct39 oc40 kV40 dc40 pm40 cd40 ct40 oc41 kV41 dc41 pm41 cd41 ct41 oc42 kV42 dc42 pm42 cd42 ct42 oc43 kV43 dc43 pm43 cd43 ct43 oc44 kV44 dc44 pm44 ct44 oc45 kV45 dc45 pm45 cd45 ct45 oc46 kV46 dc46 pm46 cd46 ct46 oc47 kV47 dc47 pm47 cd47 ct47 : Value}
    {cc__law_is_refused_right P__law_is_refused_right : Addr} {mc__law_is_refused_right : Value} {md__law_is_refused_right : Option Addr} {mv__law_is_refused_right : Array Value} {ms__law_is_refused_right : Array (Option Value)}
    {C_BadDistance C_BadEnds C_BadNumber C_BadWord C_BadWorths C_PlayError f_I : Addr}
    {nm_BadDistance q_BadDistance : Str} {N_BadDistance : Addr} {bs_BadDistance sub_BadDistance : List Value} {sn_BadDistance : List Str} {ab_BadDistance : Bool} {co_BadDistance : Option Bool} {dd_BadDistance : Option Addr} {m0_BadDistance m1_BadDistance m2_BadDistance m3_BadDistance m5_BadDistance : Option Value}
    (aC_BadDistance : PySem.W.nsIn K mainGlobals "BadDistance" = some (some (.ref C_BadDistance)))
    {nm_BadEnds q_BadEnds : Str} {N_BadEnds : Addr} {bs_BadEnds sub_BadEnds : List Value} {sn_BadEnds : List Str} {ab_BadEnds : Bool} {co_BadEnds : Option Bool} {dd_BadEnds : Option Addr} {m0_BadEnds m1_BadEnds m2_BadEnds m3_BadEnds m5_BadEnds : Option Value}
    (aC_BadEnds : PySem.W.nsIn K mainGlobals "BadEnds" = some (some (.ref C_BadEnds)))
    {nm_BadNumber q_BadNumber : Str} {N_BadNumber : Addr} {bs_BadNumber sub_BadNumber : List Value} {sn_BadNumber : List Str} {ab_BadNumber : Bool} {co_BadNumber : Option Bool} {dd_BadNumber : Option Addr} {m0_BadNumber m1_BadNumber m2_BadNumber m3_BadNumber m5_BadNumber : Option Value}
    (aC_BadNumber : PySem.W.nsIn K mainGlobals "BadNumber" = some (some (.ref C_BadNumber)))
    {nm_BadWord q_BadWord : Str} {N_BadWord : Addr} {bs_BadWord sub_BadWord : List Value} {sn_BadWord : List Str} {ab_BadWord : Bool} {co_BadWord : Option Bool} {dd_BadWord : Option Addr} {m0_BadWord m1_BadWord m2_BadWord m3_BadWord m5_BadWord : Option Value}
    (aC_BadWord : PySem.W.nsIn K mainGlobals "BadWord" = some (some (.ref C_BadWord)))
    {nm_BadWorths q_BadWorths : Str} {N_BadWorths : Addr} {bs_BadWorths sub_BadWorths : List Value} {sn_BadWorths : List Str} {ab_BadWorths : Bool} {co_BadWorths : Option Bool} {dd_BadWorths : Option Addr} {m0_BadWorths m1_BadWorths m2_BadWorths m3_BadWorths m5_BadWorths : Option Value}
    (aC_BadWorths : PySem.W.nsIn K mainGlobals "BadWorths" = some (some (.ref C_BadWorths)))
    (aC_PlayError : PySem.W.nsIn K mainGlobals "PlayError" = some (some (.ref C_PlayError)))
    (xL_BadDistance : K.lookup C_BadDistance = some (excClassObj nm_BadDistance q_BadDistance C_BadDistance N_BadDistance bs_BadDistance [.ref C_PlayError, .type "ValueError", .type "Exception", .type "BaseException", .type "object"] true sn_BadDistance sub_BadDistance ab_BadDistance co_BadDistance dd_BadDistance m0_BadDistance m1_BadDistance m2_BadDistance m3_BadDistance m5_BadDistance "ValueError.__new__"))
    (sa_BadDistance : PySem.W.findIn K (.ref C_BadDistance) "__setattr__" = some (some (.builtin "object.__setattr__")))
    (ga_BadDistance : PySem.W.findIn K (.ref C_BadDistance) "__getattribute__" = some (some (.builtin "BaseException.__getattribute__")))
    (gg_BadDistance : PySem.W.findIn K (.ref C_BadDistance) "__getattr__" = some none)
    (nb_BadDistance : PySem.W.findIn K (.ref C_BadDistance) "value" = some none)
    (iC_BadDistance : PySem.W.findIn K (.ref C_BadDistance) "__init__" = some (some (.ref f_I)))
    (kC_BadDistance : PySem.W.keepIn K (.ref C_BadDistance) = true)
    (eC_BadDistance : PySem.W.subIn K (.ref C_BadDistance) (.type "BaseException") = some true)
    (tC_BadDistance : PySem.W.typeIn K (.ref C_BadDistance) = some (.type "type"))
    (hC_BadDistance : PySem.W.hasDictIn K C_BadDistance = true)
    (cl_BadDistance : PySem.W.findIn K (.ref C_BadDistance) "__class__" = some (some (.builtin "object.__class__")))
    (mo_BadDistance : PySem.W.mroIn K C_BadDistance (.type "object") = some true)
    (vB_BadDistance : PySem.W.subIn K (.ref C_BadDistance) (.type "ValueError") = some true)
    (ip_BadDistance : PySem.W.isClsIn K C_BadDistance = true)
    (sR_BadDistance : PySem.W.subIn K (.ref C_BadDistance) (.ref C_PlayError) = some true)
    (ne_BadDistance : (C_BadDistance == C_PlayError) = false)
    (xL_BadEnds : K.lookup C_BadEnds = some (excClassObj nm_BadEnds q_BadEnds C_BadEnds N_BadEnds bs_BadEnds [.ref C_PlayError, .type "ValueError", .type "Exception", .type "BaseException", .type "object"] true sn_BadEnds sub_BadEnds ab_BadEnds co_BadEnds dd_BadEnds m0_BadEnds m1_BadEnds m2_BadEnds m3_BadEnds m5_BadEnds "ValueError.__new__"))
    (sa_BadEnds : PySem.W.findIn K (.ref C_BadEnds) "__setattr__" = some (some (.builtin "object.__setattr__")))
    (ga_BadEnds : PySem.W.findIn K (.ref C_BadEnds) "__getattribute__" = some (some (.builtin "BaseException.__getattribute__")))
    (gg_BadEnds : PySem.W.findIn K (.ref C_BadEnds) "__getattr__" = some none)
    (nb_BadEnds : PySem.W.findIn K (.ref C_BadEnds) "value" = some none)
    (iC_BadEnds : PySem.W.findIn K (.ref C_BadEnds) "__init__" = some (some (.ref f_I)))
    (kC_BadEnds : PySem.W.keepIn K (.ref C_BadEnds) = true)
    (eC_BadEnds : PySem.W.subIn K (.ref C_BadEnds) (.type "BaseException") = some true)
    (tC_BadEnds : PySem.W.typeIn K (.ref C_BadEnds) = some (.type "type"))
    (hC_BadEnds : PySem.W.hasDictIn K C_BadEnds = true)
    (cl_BadEnds : PySem.W.findIn K (.ref C_BadEnds) "__class__" = some (some (.builtin "object.__class__")))
    (mo_BadEnds : PySem.W.mroIn K C_BadEnds (.type "object") = some true)
    (vB_BadEnds : PySem.W.subIn K (.ref C_BadEnds) (.type "ValueError") = some true)
    (ip_BadEnds : PySem.W.isClsIn K C_BadEnds = true)
    (sR_BadEnds : PySem.W.subIn K (.ref C_BadEnds) (.ref C_PlayError) = some true)
    (ne_BadEnds : (C_BadEnds == C_PlayError) = false)
    (xL_BadNumber : K.lookup C_BadNumber = some (excClassObj nm_BadNumber q_BadNumber C_BadNumber N_BadNumber bs_BadNumber [.ref C_PlayError, .type "ValueError", .type "Exception", .type "BaseException", .type "object"] true sn_BadNumber sub_BadNumber ab_BadNumber co_BadNumber dd_BadNumber m0_BadNumber m1_BadNumber m2_BadNumber m3_BadNumber m5_BadNumber "ValueError.__new__"))
    (sa_BadNumber : PySem.W.findIn K (.ref C_BadNumber) "__setattr__" = some (some (.builtin "object.__setattr__")))
    (ga_BadNumber : PySem.W.findIn K (.ref C_BadNumber) "__getattribute__" = some (some (.builtin "BaseException.__getattribute__")))
    (gg_BadNumber : PySem.W.findIn K (.ref C_BadNumber) "__getattr__" = some none)
    (nb_BadNumber : PySem.W.findIn K (.ref C_BadNumber) "value" = some none)
    (iC_BadNumber : PySem.W.findIn K (.ref C_BadNumber) "__init__" = some (some (.ref f_I)))
    (kC_BadNumber : PySem.W.keepIn K (.ref C_BadNumber) = true)
    (eC_BadNumber : PySem.W.subIn K (.ref C_BadNumber) (.type "BaseException") = some true)
    (tC_BadNumber : PySem.W.typeIn K (.ref C_BadNumber) = some (.type "type"))
    (hC_BadNumber : PySem.W.hasDictIn K C_BadNumber = true)
    (cl_BadNumber : PySem.W.findIn K (.ref C_BadNumber) "__class__" = some (some (.builtin "object.__class__")))
    (mo_BadNumber : PySem.W.mroIn K C_BadNumber (.type "object") = some true)
    (vB_BadNumber : PySem.W.subIn K (.ref C_BadNumber) (.type "ValueError") = some true)
    (ip_BadNumber : PySem.W.isClsIn K C_BadNumber = true)
    (sR_BadNumber : PySem.W.subIn K (.ref C_BadNumber) (.ref C_PlayError) = some true)
    (ne_BadNumber : (C_BadNumber == C_PlayError) = false)
    (xL_BadWord : K.lookup C_BadWord = some (excClassObj nm_BadWord q_BadWord C_BadWord N_BadWord bs_BadWord [.ref C_PlayError, .type "ValueError", .type "Exception", .type "BaseException", .type "object"] true sn_BadWord sub_BadWord ab_BadWord co_BadWord dd_BadWord m0_BadWord m1_BadWord m2_BadWord m3_BadWord m5_BadWord "ValueError.__new__"))
    (sa_BadWord : PySem.W.findIn K (.ref C_BadWord) "__setattr__" = some (some (.builtin "object.__setattr__")))
    (ga_BadWord : PySem.W.findIn K (.ref C_BadWord) "__getattribute__" = some (some (.builtin "BaseException.__getattribute__")))
    (gg_BadWord : PySem.W.findIn K (.ref C_BadWord) "__getattr__" = some none)
    (nb_BadWord : PySem.W.findIn K (.ref C_BadWord) "value" = some none)
    (iC_BadWord : PySem.W.findIn K (.ref C_BadWord) "__init__" = some (some (.ref f_I)))
    (kC_BadWord : PySem.W.keepIn K (.ref C_BadWord) = true)
    (eC_BadWord : PySem.W.subIn K (.ref C_BadWord) (.type "BaseException") = some true)
    (tC_BadWord : PySem.W.typeIn K (.ref C_BadWord) = some (.type "type"))
    (hC_BadWord : PySem.W.hasDictIn K C_BadWord = true)
    (cl_BadWord : PySem.W.findIn K (.ref C_BadWord) "__class__" = some (some (.builtin "object.__class__")))
    (mo_BadWord : PySem.W.mroIn K C_BadWord (.type "object") = some true)
    (vB_BadWord : PySem.W.subIn K (.ref C_BadWord) (.type "ValueError") = some true)
    (ip_BadWord : PySem.W.isClsIn K C_BadWord = true)
    (sR_BadWord : PySem.W.subIn K (.ref C_BadWord) (.ref C_PlayError) = some true)
    (ne_BadWord : (C_BadWord == C_PlayError) = false)
    (xL_BadWorths : K.lookup C_BadWorths = some (excClassObj nm_BadWorths q_BadWorths C_BadWorths N_BadWorths bs_BadWorths [.ref C_PlayError, .type "ValueError", .type "Exception", .type "BaseException", .type "object"] true sn_BadWorths sub_BadWorths ab_BadWorths co_BadWorths dd_BadWorths m0_BadWorths m1_BadWorths m2_BadWorths m3_BadWorths m5_BadWorths "ValueError.__new__"))
    (sa_BadWorths : PySem.W.findIn K (.ref C_BadWorths) "__setattr__" = some (some (.builtin "object.__setattr__")))
    (ga_BadWorths : PySem.W.findIn K (.ref C_BadWorths) "__getattribute__" = some (some (.builtin "BaseException.__getattribute__")))
    (gg_BadWorths : PySem.W.findIn K (.ref C_BadWorths) "__getattr__" = some none)
    (nb_BadWorths : PySem.W.findIn K (.ref C_BadWorths) "value" = some none)
    (iC_BadWorths : PySem.W.findIn K (.ref C_BadWorths) "__init__" = some (some (.ref f_I)))
    (kC_BadWorths : PySem.W.keepIn K (.ref C_BadWorths) = true)
    (eC_BadWorths : PySem.W.subIn K (.ref C_BadWorths) (.type "BaseException") = some true)
    (tC_BadWorths : PySem.W.typeIn K (.ref C_BadWorths) = some (.type "type"))
    (hC_BadWorths : PySem.W.hasDictIn K C_BadWorths = true)
    (cl_BadWorths : PySem.W.findIn K (.ref C_BadWorths) "__class__" = some (some (.builtin "object.__class__")))
    (mo_BadWorths : PySem.W.mroIn K C_BadWorths (.type "object") = some true)
    (vB_BadWorths : PySem.W.subIn K (.ref C_BadWorths) (.type "ValueError") = some true)
    (ip_BadWorths : PySem.W.isClsIn K C_BadWorths = true)
    (sR_BadWorths : PySem.W.subIn K (.ref C_BadWorths) (.ref C_PlayError) = some true)
    (ne_BadWorths : (C_BadWorths == C_PlayError) = false)
    (sb_BadDistance_BadEnds : PySem.W.subIn K (.ref C_BadDistance) (.ref C_BadEnds) = some false) (ne_BadDistance_BadEnds : (C_BadDistance == C_BadEnds) = false)
    (sb_BadDistance_BadNumber : PySem.W.subIn K (.ref C_BadDistance) (.ref C_BadNumber) = some false) (ne_BadDistance_BadNumber : (C_BadDistance == C_BadNumber) = false)
    (sb_BadDistance_BadWord : PySem.W.subIn K (.ref C_BadDistance) (.ref C_BadWord) = some false) (ne_BadDistance_BadWord : (C_BadDistance == C_BadWord) = false)
    (sb_BadDistance_BadWorths : PySem.W.subIn K (.ref C_BadDistance) (.ref C_BadWorths) = some false) (ne_BadDistance_BadWorths : (C_BadDistance == C_BadWorths) = false)
    (sb_BadEnds_BadDistance : PySem.W.subIn K (.ref C_BadEnds) (.ref C_BadDistance) = some false) (ne_BadEnds_BadDistance : (C_BadEnds == C_BadDistance) = false)
    (sb_BadEnds_BadNumber : PySem.W.subIn K (.ref C_BadEnds) (.ref C_BadNumber) = some false) (ne_BadEnds_BadNumber : (C_BadEnds == C_BadNumber) = false)
    (sb_BadEnds_BadWord : PySem.W.subIn K (.ref C_BadEnds) (.ref C_BadWord) = some false) (ne_BadEnds_BadWord : (C_BadEnds == C_BadWord) = false)
    (sb_BadEnds_BadWorths : PySem.W.subIn K (.ref C_BadEnds) (.ref C_BadWorths) = some false) (ne_BadEnds_BadWorths : (C_BadEnds == C_BadWorths) = false)
    (sb_BadNumber_BadDistance : PySem.W.subIn K (.ref C_BadNumber) (.ref C_BadDistance) = some false) (ne_BadNumber_BadDistance : (C_BadNumber == C_BadDistance) = false)
    (sb_BadNumber_BadEnds : PySem.W.subIn K (.ref C_BadNumber) (.ref C_BadEnds) = some false) (ne_BadNumber_BadEnds : (C_BadNumber == C_BadEnds) = false)
    (sb_BadNumber_BadWord : PySem.W.subIn K (.ref C_BadNumber) (.ref C_BadWord) = some false) (ne_BadNumber_BadWord : (C_BadNumber == C_BadWord) = false)
    (sb_BadNumber_BadWorths : PySem.W.subIn K (.ref C_BadNumber) (.ref C_BadWorths) = some false) (ne_BadNumber_BadWorths : (C_BadNumber == C_BadWorths) = false)
    (sb_BadWord_BadDistance : PySem.W.subIn K (.ref C_BadWord) (.ref C_BadDistance) = some false) (ne_BadWord_BadDistance : (C_BadWord == C_BadDistance) = false)
    (sb_BadWord_BadEnds : PySem.W.subIn K (.ref C_BadWord) (.ref C_BadEnds) = some false) (ne_BadWord_BadEnds : (C_BadWord == C_BadEnds) = false)
    (sb_BadWord_BadNumber : PySem.W.subIn K (.ref C_BadWord) (.ref C_BadNumber) = some false) (ne_BadWord_BadNumber : (C_BadWord == C_BadNumber) = false)
    (sb_BadWord_BadWorths : PySem.W.subIn K (.ref C_BadWord) (.ref C_BadWorths) = some false) (ne_BadWord_BadWorths : (C_BadWord == C_BadWorths) = false)
    (sb_BadWorths_BadDistance : PySem.W.subIn K (.ref C_BadWorths) (.ref C_BadDistance) = some false) (ne_BadWorths_BadDistance : (C_BadWorths == C_BadDistance) = false)
    (sb_BadWorths_BadEnds : PySem.W.subIn K (.ref C_BadWorths) (.ref C_BadEnds) = some false) (ne_BadWorths_BadEnds : (C_BadWorths == C_BadEnds) = false)
    (sb_BadWorths_BadNumber : PySem.W.subIn K (.ref C_BadWorths) (.ref C_BadNumber) = some false) (ne_BadWorths_BadNumber : (C_BadWorths == C_BadNumber) = false)
    (sb_BadWorths_BadWord : PySem.W.subIn K (.ref C_BadWorths) (.ref C_BadWord) = some false) (ne_BadWorths_BadWord : (C_BadWorths == C_BadWord) = false)
    (ipR : PySem.W.isClsIn K C_PlayError = true) (eR : PySem.W.subIn K (.ref C_PlayError) (.type "BaseException") = some true) (tR : PySem.W.typeIn K (.ref C_PlayError) = some (.type "type")) (tI : PySem.W.typeIn K (.ref f_I) = some (.type "function")) (hnX : PySem.W.specialIn K (.builtin "object.__class__") "__get__" = some (some (.builtin "getset_descriptor.__get__"))) (htX : PySem.W.takesIn K (.builtin "object.__class__") = some true)
    {ocI : Value} {odI anI : Option Addr} {dcI pmI ctI : Value} {cdaI ccI : Addr} {slI : Array (Option Value)} {clI : Value} {cddI : Option Addr} {vsI : Array Value} {csI : Array (Option Value)} {fileI : Str} {tfI : Tok} {cvI : Value} {cwI : Option Addr} {cxI : Array (Option Value)}
    (lI : K.lookup f_I = some ⟨ocI, odI, .func (PySem.W.ksFn "__init__" "PlayError.__init__" (PlE.argsI ⟨17, 17, 17, 21⟩ ⟨17, 23, 17, 28⟩) (PlE.bodyI ⟨18, 8, 18, 13⟩ ⟨18, 8, 18, 15⟩ ⟨18, 8, 18, 24⟩ ⟨18, 25, 18, 30⟩ ⟨18, 8, 18, 31⟩ ⟨18, 8, 18, 31⟩ ⟨19, 8, 19, 12⟩ ⟨19, 8, 19, 18⟩ ⟨19, 21, 19, 26⟩ ⟨19, 8, 19, 26⟩) PlE.scopeI .none .none dcI pmI anI (.ref cdaI) ctI ccI), slI⟩)
    (cI : PySem.W.codeIn K (.ref cdaI) "PlayError.__init__" = true) (lcI : K.lookup cdaI = some ⟨clI, cddI, .fields vsI, csI⟩) (hvI : vsI[2]? = some (.str fileI tfI)) (hfI : ((l.prog.main.file : Str) == fileI) = true) (lccI : K.lookup ccI = some ⟨cvI, cwI, .cell (some (.ref C_PlayError)), cxI⟩) (zsI : PySem.W.nsIn K mainGlobals "super" = some none) (tpI : (l.prog.main.scope.names.lookup ("super" : Str)).isSome = false) (stI : PySem.W.nsIn K cStatics "thirdparty.any" = some none)
    (a0 : PySem.W.nsIn K mainGlobals "_law_pot" = some (some (.ref f0))) (l0 : K.lookup f0 = some ⟨oc0, od0, .func (PySem.W.fnOf "_law_pot" "_law_pot" (defArgs s__law_pot) (defBody s__law_pot) (defScope s__law_pot) .none kV0 dc0 pm0 an0 cd0 ct0), sl0⟩) (c0 : PySem.W.codeIn K cd0 "_law_pot" = true) (k0 : PySem.W.keepIn K (.ref f0) = true)
    (a1 : PySem.W.nsIn K mainGlobals "_law_bent_text" = some (some (.ref f1))) (l1 : K.lookup f1 = some ⟨oc1, od1, .func (PySem.W.fnOf "_law_bent_text" "_law_bent_text" (defArgs s__law_bent_text) (defBody s__law_bent_text) (defScope s__law_bent_text) .none kV1 dc1 pm1 an1 cd1 ct1), sl1⟩) (c1 : PySem.W.codeIn K cd1 "_law_bent_text" = true) (k1 : PySem.W.keepIn K (.ref f1) = true)
    (a2 : PySem.W.nsIn K mainGlobals "_law_take" = some (some (.ref f2))) (l2 : K.lookup f2 = some ⟨oc2, od2, .func (PySem.W.fnOf "_law_take" "_law_take" (defArgs s__law_take) (defBody s__law_take) (defScope s__law_take) .none kV2 dc2 pm2 an2 cd2 ct2), sl2⟩) (c2 : PySem.W.codeIn K cd2 "_law_take" = true) (k2 : PySem.W.keepIn K (.ref f2) = true)
    (a3 : PySem.W.nsIn K mainGlobals "_law_of" = some (some (.ref f3))) (l3 : K.lookup f3 = some ⟨oc3, od3, .func (PySem.W.fnOf "_law_of" "_law_of" (defArgs s__law_of) (defBody s__law_of) (defScope s__law_of) .none kV3 dc3 pm3 an3 cd3 ct3), sl3⟩) (c3 : PySem.W.codeIn K cd3 "_law_of" = true) (k3 : PySem.W.keepIn K (.ref f3) = true)
    (a4 : PySem.W.nsIn K mainGlobals "_law_odd" = some (some (.ref f4))) (l4 : K.lookup f4 = some ⟨oc4, od4, .func (PySem.W.fnOf "_law_odd" "_law_odd" (defArgs s__law_odd) (defBody s__law_odd) (defScope s__law_odd) .none kV4 dc4 pm4 an4 cd4 ct4), sl4⟩) (c4 : PySem.W.codeIn K cd4 "_law_odd" = true) (k4 : PySem.W.keepIn K (.ref f4) = true)
    (a5 : PySem.W.nsIn K mainGlobals "_law_some" = some (some (.ref f5))) (l5 : K.lookup f5 = some ⟨oc5, od5, .func (PySem.W.fnOf "_law_some" "_law_some" (defArgs s__law_some) (defBody s__law_some) (defScope s__law_some) .none kV5 dc5 pm5 an5 cd5 ct5), sl5⟩) (c5 : PySem.W.codeIn K cd5 "_law_some" = true) (k5 : PySem.W.keepIn K (.ref f5) = true)
    (a6 : PySem.W.nsIn K mainGlobals "_law_bent" = some (some (.ref f6))) (l6 : K.lookup f6 = some ⟨oc6, od6, .func (PySem.W.fnOf "_law_bent" "_law_bent" (defArgs s__law_bent) (defBody s__law_bent) (defScope s__law_bent) .none kV6 dc6 pm6 an6 cd6 ct6), sl6⟩) (c6 : PySem.W.codeIn K cd6 "_law_bent" = true) (k6 : PySem.W.keepIn K (.ref f6) = true)
    (a7 : PySem.W.nsIn K mainGlobals "_law_frac_common" = some (some (.ref f7))) (l7 : K.lookup f7 = some ⟨oc7, od7, .func (PySem.W.fnOf "_law_frac_common" "_law_frac_common" (defArgs s__law_frac_common) (defBody s__law_frac_common) (defScope s__law_frac_common) .none kV7 dc7 pm7 an7 cd7 ct7), sl7⟩) (c7 : PySem.W.codeIn K cd7 "_law_frac_common" = true) (k7 : PySem.W.keepIn K (.ref f7) = true)
    (a8 : PySem.W.nsIn K mainGlobals "_law_frac" = some (some (.ref f8))) (l8 : K.lookup f8 = some ⟨oc8, od8, .func (PySem.W.fnOf "_law_frac" "_law_frac" (defArgs s__law_frac) (defBody s__law_frac) (defScope s__law_frac) .none kV8 dc8 pm8 an8 cd8 ct8), sl8⟩) (c8 : PySem.W.codeIn K cd8 "_law_frac" = true) (k8 : PySem.W.keepIn K (.ref f8) = true)
    (a9 : PySem.W.nsIn K mainGlobals "_law_frac_drawn" = some (some (.ref f9))) (l9 : K.lookup f9 = some ⟨oc9, od9, .func (PySem.W.fnOf "_law_frac_drawn" "_law_frac_drawn" (defArgs s__law_frac_drawn) (defBody s__law_frac_drawn) (defScope s__law_frac_drawn) .none kV9 dc9 pm9 an9 cd9 ct9), sl9⟩) (c9 : PySem.W.codeIn K cd9 "_law_frac_drawn" = true) (k9 : PySem.W.keepIn K (.ref f9) = true)
    (a10 : PySem.W.nsIn K mainGlobals "_law_frac_is" = some (some (.ref f10))) (l10 : K.lookup f10 = some ⟨oc10, od10, .func (PySem.W.fnOf "_law_frac_is" "_law_frac_is" (defArgs s__law_frac_is) (defBody s__law_frac_is) (defScope s__law_frac_is) .none kV10 dc10 pm10 an10 cd10 ct10), sl10⟩) (c10 : PySem.W.codeIn K cd10 "_law_frac_is" = true) (k10 : PySem.W.keepIn K (.ref f10) = true)
    (a11 : PySem.W.nsIn K mainGlobals "_law_are_ends" = some (some (.ref f11))) (l11 : K.lookup f11 = some ⟨oc11, od11, .func (PySem.W.fnOf "_law_are_ends" "_law_are_ends" (defArgs s__law_are_ends) (defBody s__law_are_ends) (defScope s__law_are_ends) .none kV11 dc11 pm11 an11 cd11 ct11), sl11⟩) (c11 : PySem.W.codeIn K cd11 "_law_are_ends" = true) (k11 : PySem.W.keepIn K (.ref f11) = true)
    (a12 : PySem.W.nsIn K mainGlobals "_law_are_worths" = some (some (.ref f12))) (l12 : K.lookup f12 = some ⟨oc12, od12, .func (PySem.W.fnOf "_law_are_worths" "_law_are_worths" (defArgs s__law_are_worths) (defBody s__law_are_worths) (defScope s__law_are_worths) .none kV12 dc12 pm12 an12 cd12 ct12), sl12⟩) (c12 : PySem.W.codeIn K cd12 "_law_are_worths" = true) (k12 : PySem.W.keepIn K (.ref f12) = true)
    (a13 : PySem.W.nsIn K mainGlobals "_law_frac_is_size" = some (some (.ref f13))) (l13 : K.lookup f13 = some ⟨oc13, od13, .func (PySem.W.fnOf "_law_frac_is_size" "_law_frac_is_size" (defArgs s__law_frac_is_size) (defBody s__law_frac_is_size) (defScope s__law_frac_is_size) .none kV13 dc13 pm13 an13 cd13 ct13), sl13⟩) (c13 : PySem.W.codeIn K cd13 "_law_frac_is_size" = true) (k13 : PySem.W.keepIn K (.ref f13) = true)
    (a14 : PySem.W.nsIn K mainGlobals "_law_is_int" = some (some (.ref f14))) (l14 : K.lookup f14 = some ⟨oc14, od14, .func (PySem.W.fnOf "_law_is_int" "_law_is_int" (defArgs s__law_is_int) (defBody s__law_is_int) (defScope s__law_is_int) .none kV14 dc14 pm14 an14 cd14 ct14), sl14⟩) (c14 : PySem.W.codeIn K cd14 "_law_is_int" = true) (k14 : PySem.W.keepIn K (.ref f14) = true)
    (a15 : PySem.W.nsIn K mainGlobals "_law_heard" = some (some (.ref f15))) (l15 : K.lookup f15 = some ⟨oc15, od15, .func (PySem.W.fnOf "_law_heard" "_law_heard" (defArgs s__law_heard) (defBody s__law_heard) (defScope s__law_heard) .none kV15 dc15 pm15 an15 cd15 ct15), sl15⟩) (c15 : PySem.W.codeIn K cd15 "_law_heard" = true) (k15 : PySem.W.keepIn K (.ref f15) = true)
    (a16 : PySem.W.nsIn K mainGlobals "_law_is_raised" = some (some (.ref f16))) (l16 : K.lookup f16 = some ⟨oc16, od16, .func (PySem.W.fnOf "_law_is_raised" "_law_is_raised" (defArgs s__law_is_raised) (defBody s__law_is_raised) (defScope s__law_is_raised) .none kV16 dc16 pm16 an16 cd16 ct16), sl16⟩) (c16 : PySem.W.codeIn K cd16 "_law_is_raised" = true) (k16 : PySem.W.keepIn K (.ref f16) = true)
    (a17 : PySem.W.nsIn K mainGlobals "_law_law_is_word" = some (some (.ref f17))) (l17 : K.lookup f17 = some ⟨oc17, od17, .func (PySem.W.fnOf "_law_law_is_word" "_law_law_is_word" (defArgs s__law_law_is_word) (defBody s__law_law_is_word) (defScope s__law_law_is_word) .none kV17 dc17 pm17 an17 cd17 ct17), sl17⟩) (c17 : PySem.W.codeIn K cd17 "_law_law_is_word" = true) (k17 : PySem.W.keepIn K (.ref f17) = true)
    (a18 : PySem.W.nsIn K mainGlobals "is_below" = some (some (.ref f18))) (l18 : K.lookup f18 = some ⟨oc18, od18, .func (PySem.W.fnOf "is_below" "is_below" (defArgs s_is_below) (defBody s_is_below) (defScope s_is_below) .none kV18 dc18 pm18 an18 cd18 ct18), sl18⟩) (c18 : PySem.W.codeIn K cd18 "is_below" = true) (k18 : PySem.W.keepIn K (.ref f18) = true)
    (a19 : PySem.W.nsIn K mainGlobals "common" = some (some (.ref f19))) (l19 : K.lookup f19 = some ⟨oc19, od19, .func (PySem.W.fnOf "common" "common" (defArgs s_common) (defBody s_common) (defScope s_common) .none kV19 dc19 pm19 an19 cd19 ct19), sl19⟩) (c19 : PySem.W.codeIn K cd19 "common" = true) (k19 : PySem.W.keepIn K (.ref f19) = true)
    (a20 : PySem.W.nsIn K mainGlobals "ratio" = some (some (.ref f20))) (l20 : K.lookup f20 = some ⟨oc20, od20, .func (PySem.W.fnOf "ratio" "ratio" (defArgs s_ratio) (defBody s_ratio) (defScope s_ratio) .none kV20 dc20 pm20 an20 cd20 ct20), sl20⟩) (c20 : PySem.W.codeIn K cd20 "ratio" = true) (k20 : PySem.W.keepIn K (.ref f20) = true)
    (a21 : PySem.W.nsIn K mainGlobals "less" = some (some (.ref f21))) (l21 : K.lookup f21 = some ⟨oc21, od21, .func (PySem.W.fnOf "less" "less" (defArgs s_less) (defBody s_less) (defScope s_less) .none kV21 dc21 pm21 an21 cd21 ct21), sl21⟩) (c21 : PySem.W.codeIn K cd21 "less" = true) (k21 : PySem.W.keepIn K (.ref f21) = true)
    (a22 : PySem.W.nsIn K mainGlobals "apart" = some (some (.ref f22))) (l22 : K.lookup f22 = some ⟨oc22, od22, .func (PySem.W.fnOf "apart" "apart" (defArgs s_apart) (defBody s_apart) (defScope s_apart) .none kV22 dc22 pm22 an22 cd22 ct22), sl22⟩) (c22 : PySem.W.codeIn K cd22 "apart" = true) (k22 : PySem.W.keepIn K (.ref f22) = true)
    (a23 : PySem.W.nsIn K mainGlobals "is_whole" = some (some (.ref f23))) (l23 : K.lookup f23 = some ⟨oc23, od23, .func (PySem.W.fnOf "is_whole" "is_whole" (defArgs s_is_whole) (defBody s_is_whole) (defScope s_is_whole) .none kV23 dc23 pm23 an23 cd23 ct23), sl23⟩) (c23 : PySem.W.codeIn K cd23 "is_whole" = true) (k23 : PySem.W.keepIn K (.ref f23) = true)
    (a24 : PySem.W.nsIn K mainGlobals "is_integer" = some (some (.ref f24))) (l24 : K.lookup f24 = some ⟨oc24, od24, .func (PySem.W.fnOf "is_integer" "is_integer" (defArgs s_is_integer) (defBody s_is_integer) (defScope s_is_integer) .none kV24 dc24 pm24 an24 cd24 ct24), sl24⟩) (c24 : PySem.W.codeIn K cd24 "is_integer" = true) (k24 : PySem.W.keepIn K (.ref f24) = true)
    (a25 : PySem.W.nsIn K mainGlobals "check_rounds" = some (some (.ref f25))) (l25 : K.lookup f25 = some ⟨oc25, od25, .func (PySem.W.fnOf "check_rounds" "check_rounds" (defArgs s_check_rounds) (defBody s_check_rounds) (defScope s_check_rounds) .none kV25 dc25 pm25 an25 cd25 ct25), sl25⟩) (c25 : PySem.W.codeIn K cd25 "check_rounds" = true) (k25 : PySem.W.keepIn K (.ref f25) = true)
    (a26 : PySem.W.nsIn K mainGlobals "is_ratio" = some (some (.ref f26))) (l26 : K.lookup f26 = some ⟨oc26, od26, .func (PySem.W.fnOf "is_ratio" "is_ratio" (defArgs s_is_ratio) (defBody s_is_ratio) (defScope s_is_ratio) .none kV26 dc26 pm26 an26 cd26 ct26), sl26⟩) (c26 : PySem.W.codeIn K cd26 "is_ratio" = true) (k26 : PySem.W.keepIn K (.ref f26) = true)
    (a27 : PySem.W.nsIn K mainGlobals "is_tuple" = some (some (.ref f27))) (l27 : K.lookup f27 = some ⟨oc27, od27, .func (PySem.W.fnOf "is_tuple" "is_tuple" (defArgs s_is_tuple) (defBody s_is_tuple) (defScope s_is_tuple) .none kV27 dc27 pm27 an27 cd27 ct27), sl27⟩) (c27 : PySem.W.codeIn K cd27 "is_tuple" = true) (k27 : PySem.W.keepIn K (.ref f27) = true)
    (a28 : PySem.W.nsIn K mainGlobals "check_worths" = some (some (.ref f28))) (l28 : K.lookup f28 = some ⟨oc28, od28, .func (PySem.W.fnOf "check_worths" "check_worths" (defArgs s_check_worths) (defBody s_check_worths) (defScope s_check_worths) .none kV28 dc28 pm28 an28 cd28 ct28), sl28⟩) (c28 : PySem.W.codeIn K cd28 "check_worths" = true) (k28 : PySem.W.keepIn K (.ref f28) = true)
    (a29 : PySem.W.nsIn K mainGlobals "power_of_three" = some (some (.ref f29))) (l29 : K.lookup f29 = some ⟨oc29, od29, .func (PySem.W.fnOf "power_of_three" "power_of_three" (defArgs s_power_of_three) (defBody s_power_of_three) (defScope s_power_of_three) .none kV29 dc29 pm29 an29 cd29 ct29), sl29⟩) (c29 : PySem.W.codeIn K cd29 "power_of_three" = true) (k29 : PySem.W.keepIn K (.ref f29) = true)
    (a30 : PySem.W.nsIn K mainGlobals "times" = some (some (.ref f30))) (l30 : K.lookup f30 = some ⟨oc30, od30, .func (PySem.W.fnOf "times" "times" (defArgs s_times) (defBody s_times) (defScope s_times) .none kV30 dc30 pm30 an30 cd30 ct30), sl30⟩) (c30 : PySem.W.codeIn K cd30 "times" = true) (k30 : PySem.W.keepIn K (.ref f30) = true)
    (a31 : PySem.W.nsIn K mainGlobals "gap" = some (some (.ref f31))) (l31 : K.lookup f31 = some ⟨oc31, od31, .func (PySem.W.fnOf "gap" "gap" (defArgs s_gap) (defBody s_gap) (defScope s_gap) .none kV31 dc31 pm31 an31 cd31 ct31), sl31⟩) (c31 : PySem.W.codeIn K cd31 "gap" = true) (k31 : PySem.W.keepIn K (.ref f31) = true)
    (a32 : PySem.W.nsIn K mainGlobals "are_letters" = some (some (.ref f32))) (l32 : K.lookup f32 = some ⟨oc32, od32, .func (PySem.W.fnOf "are_letters" "are_letters" (defArgs s_are_letters) (defBody s_are_letters) (defScope s_are_letters) .none kV32 dc32 pm32 an32 cd32 ct32), sl32⟩) (c32 : PySem.W.codeIn K cd32 "are_letters" = true) (k32 : PySem.W.keepIn K (.ref f32) = true)
    (a33 : PySem.W.nsIn K mainGlobals "is_word" = some (some (.ref f33))) (l33 : K.lookup f33 = some ⟨oc33, od33, .func (PySem.W.fnOf "is_word" "is_word" (defArgs s_is_word) (defBody s_is_word) (defScope s_is_word) .none kV33 dc33 pm33 an33 cd33 ct33), sl33⟩) (c33 : PySem.W.codeIn K cd33 "is_word" = true) (k33 : PySem.W.keepIn K (.ref f33) = true)
    (a34 : PySem.W.nsIn K mainGlobals "check_word" = some (some (.ref f34))) (l34 : K.lookup f34 = some ⟨oc34, od34, .func (PySem.W.fnOf "check_word" "check_word" (defArgs s_check_word) (defBody s_check_word) (defScope s_check_word) .none kV34 dc34 pm34 an34 cd34 ct34), sl34⟩) (c34 : PySem.W.codeIn K cd34 "check_word" = true) (k34 : PySem.W.keepIn K (.ref f34) = true)
    (a35 : PySem.W.nsIn K mainGlobals "numbers_at" = some (some (.ref f35))) (l35 : K.lookup f35 = some ⟨oc35, od35, .func (PySem.W.fnOf "numbers_at" "numbers_at" (defArgs s_numbers_at) (defBody s_numbers_at) (defScope s_numbers_at) .none kV35 dc35 pm35 an35 cd35 ct35), sl35⟩) (c35 : PySem.W.codeIn K cd35 "numbers_at" = true) (k35 : PySem.W.keepIn K (.ref f35) = true)
    (a36 : PySem.W.nsIn K mainGlobals "place_of" = some (some (.ref f36))) (l36 : K.lookup f36 = some ⟨oc36, od36, .func (PySem.W.fnOf "place_of" "place_of" (defArgs s_place_of) (defBody s_place_of) (defScope s_place_of) .none kV36 dc36 pm36 an36 cd36 ct36), sl36⟩) (c36 : PySem.W.codeIn K cd36 "place_of" = true) (k36 : PySem.W.keepIn K (.ref f36) = true)
    (a37 : PySem.W.nsIn K mainGlobals "plus" = some (some (.ref f37))) (l37 : K.lookup f37 = some ⟨oc37, od37, .func (PySem.W.fnOf "plus" "plus" (defArgs s_plus) (defBody s_plus) (defScope s_plus) .none kV37 dc37 pm37 an37 cd37 ct37), sl37⟩) (c37 : PySem.W.codeIn K cd37 "plus" = true) (k37 : PySem.W.keepIn K (.ref f37) = true)
    (a38 : PySem.W.nsIn K mainGlobals "near" = some (some (.ref f38))) (l38 : K.lookup f38 = some ⟨oc38, od38, .func (PySem.W.fnOf "near" "near" (defArgs s_near) (defBody s_near) (defScope s_near) .none kV38 dc38 pm38 an38 cd38 ct38), sl38⟩) (c38 : PySem.W.codeIn K cd38 "near" = true) (k38 : PySem.W.keepIn K (.ref f38) = true)
    (a39 : PySem.W.nsIn K mainGlobals "is_size" = some (some (.ref f39))) (l39 : K.lookup f39 = some ⟨oc39, od39, .func (PySem.W.fnOf "is_size" "is_size" (defArgs s_is_size) (defBody s_is_size) (defScope s_is_size) .none kV39 dc39 pm39 an39 cd39 ct39), sl39⟩) (c39 : PySem.W.codeIn K cd39 "is_size" = true) (k39 : PySem.W.keepIn K (.ref f39) = true)
    (a40 : PySem.W.nsIn K mainGlobals "needed" = some (some (.ref f40))) (l40 : K.lookup f40 = some ⟨oc40, od40, .func (PySem.W.fnOf "needed" "needed" (defArgs s_needed) (defBody s_needed) (defScope s_needed) .none kV40 dc40 pm40 an40 cd40 ct40), sl40⟩) (c40 : PySem.W.codeIn K cd40 "needed" = true) (k40 : PySem.W.keepIn K (.ref f40) = true)
    (a41 : PySem.W.nsIn K mainGlobals "rounds_of_ends" = some (some (.ref f41))) (l41 : K.lookup f41 = some ⟨oc41, od41, .func (PySem.W.fnOf "rounds_of_ends" "rounds_of_ends" (defArgs s_rounds_of_ends) (defBody s_rounds_of_ends) (defScope s_rounds_of_ends) .none kV41 dc41 pm41 an41 cd41 ct41), sl41⟩) (c41 : PySem.W.codeIn K cd41 "rounds_of_ends" = true) (k41 : PySem.W.keepIn K (.ref f41) = true)
    (a42 : PySem.W.nsIn K mainGlobals "word_of" = some (some (.ref f42))) (l42 : K.lookup f42 = some ⟨oc42, od42, .func (PySem.W.fnOf "word_of" "word_of" (defArgs s_word_of) (defBody s_word_of) (defScope s_word_of) .none kV42 dc42 pm42 an42 cd42 ct42), sl42⟩) (c42 : PySem.W.codeIn K cd42 "word_of" = true) (k42 : PySem.W.keepIn K (.ref f42) = true)
    (a43 : PySem.W.nsIn K mainGlobals "widest" = some (some (.ref f43))) (l43 : K.lookup f43 = some ⟨oc43, od43, .func (PySem.W.fnOf "widest" "widest" (defArgs s_widest) (defBody s_widest) (defScope s_widest) .none kV43 dc43 pm43 an43 cd43 ct43), sl43⟩) (c43 : PySem.W.codeIn K cd43 "widest" = true) (k43 : PySem.W.keepIn K (.ref f43) = true)
    (a44 : PySem.W.nsIn K mainGlobals "_law_is_refused_right" = some (some (.ref f44))) (l44 : K.lookup f44 = some ⟨oc44, od44, .func (PySem.W.fnOf "_law_is_refused_right" "_law_is_refused_right" (defArgs s__law_is_refused_right) (defBody s__law_is_refused_right) (defScope s__law_is_refused_right) .none kV44 dc44 pm44 an44 (.ref cc__law_is_refused_right) ct44), sl44⟩) (c44 : PySem.W.codeIn K (.ref cc__law_is_refused_right) "_law_is_refused_right" = true) (k44 : PySem.W.keepIn K (.ref f44) = true)
    (lm__law_is_refused_right : K.lookup cc__law_is_refused_right = some ⟨mc__law_is_refused_right, md__law_is_refused_right, .fields mv__law_is_refused_right, ms__law_is_refused_right⟩) (mp__law_is_refused_right : mv__law_is_refused_right[11]? = some (.ref P__law_is_refused_right)) (nP__law_is_refused_right : K.lookup P__law_is_refused_right = none) (rs__law_is_refused_right : ((recsOf pq).find? (fun e => e.name == ("_law_is_refused_right" : Str))).isSome = true)
    (a45 : PySem.W.nsIn K mainGlobals "_law_law_word_drawn" = some (some (.ref f45))) (l45 : K.lookup f45 = some ⟨oc45, od45, .func (PySem.W.fnOf "_law_law_word_drawn" "_law_law_word_drawn" (defArgs s__law_law_word_drawn) (defBody s__law_law_word_drawn) (defScope s__law_law_word_drawn) .none kV45 dc45 pm45 an45 cd45 ct45), sl45⟩) (c45 : PySem.W.codeIn K cd45 "_law_law_word_drawn" = true) (k45 : PySem.W.keepIn K (.ref f45) = true)
    (a46 : PySem.W.nsIn K mainGlobals "_law_right" = some (some (.ref f46))) (l46 : K.lookup f46 = some ⟨oc46, od46, .func (PySem.W.fnOf "_law_right" "_law_right" (defArgs s__law_right) (defBody s__law_right) (defScope s__law_right) .none kV46 dc46 pm46 an46 cd46 ct46), sl46⟩) (c46 : PySem.W.codeIn K cd46 "_law_right" = true) (k46 : PySem.W.keepIn K (.ref f46) = true)
    (a47 : PySem.W.nsIn K mainGlobals "law" = some (some (.ref f47))) (l47 : K.lookup f47 = some ⟨oc47, od47, .func (PySem.W.fnOf "law" "law" (defArgs s_law) (defBody s_law) (defScope s_law) .none kV47 dc47 pm47 an47 cd47 ct47), sl47⟩) (c47 : PySem.W.codeIn K cd47 "law" = true) (k47 : PySem.W.keepIn K (.ref f47) = true)
    (z_abs : PySem.W.nsIn K mainGlobals "abs" = some none)
    (z_all : PySem.W.nsIn K mainGlobals "all" = some none)
    (z_bool : PySem.W.nsIn K mainGlobals "bool" = some none)
    (z_int : PySem.W.nsIn K mainGlobals "int" = some none)
    (z_isinstance : PySem.W.nsIn K mainGlobals "isinstance" = some none)
    (z_len : PySem.W.nsIn K mainGlobals "len" = some none)
    (z_list : PySem.W.nsIn K mainGlobals "list" = some none)
    (z_range : PySem.W.nsIn K mainGlobals "range" = some none)
    (z_repr : PySem.W.nsIn K mainGlobals "repr" = some none)
    (z_str : PySem.W.nsIn K mainGlobals "str" = some none)
    (z_sum : PySem.W.nsIn K mainGlobals "sum" = some none)
    (z_tuple : PySem.W.nsIn K mainGlobals "tuple" = some none)
    {A_BACK : Addr} {o_BACK : Option Addr} {q_BACK : Nat} {m_BACK : Array (Option Value)} {u_BACK_0 u_BACK_1 : Tok} (n_BACK : PySem.W.nsIn K mainGlobals "BACK" = some (some (.ref A_BACK))) (l_BACK : K.lookup A_BACK = some ⟨.type "tuple", o_BACK, .seq [.str "snf" u_BACK_0, .str "fns" u_BACK_1].toArray q_BACK, m_BACK⟩)
    {t_LETTERS : Tok} (n_LETTERS : PySem.W.nsIn K mainGlobals "LETTERS" = some (some (.str "nfs" t_LETTERS)))
    {t_MOST_ENDS_ROUNDS : Tok} (n_MOST_ENDS_ROUNDS : PySem.W.nsIn K mainGlobals "MOST_ENDS_ROUNDS" = some (some (.int 5 t_MOST_ENDS_ROUNDS)))
    {t_MOST_ROUNDS : Tok} (n_MOST_ROUNDS : PySem.W.nsIn K mainGlobals "MOST_ROUNDS" = some (some (.int 200 t_MOST_ROUNDS)))
    {t_MOST_WORD : Tok} (n_MOST_WORD : PySem.W.nsIn K mainGlobals "MOST_WORD" = some (some (.int 200 t_MOST_WORD)))
    {t_PAIR_nearness : Tok} (n_PAIR_nearness : PySem.W.nsIn K mainGlobals "PAIR_nearness" = some (some (.int 2 t_PAIR_nearness)))
    {t_PAIR_ratios : Tok} (n_PAIR_ratios : PySem.W.nsIn K mainGlobals "PAIR_ratios" = some (some (.int 2 t_PAIR_ratios)))
    {A_THIRD : Addr} {o_THIRD : Option Addr} {q_THIRD : Nat} {m_THIRD : Array (Option Value)} {u_THIRD_0 u_THIRD_1 : Tok} (n_THIRD : PySem.W.nsIn K mainGlobals "THIRD" = some (some (.ref A_THIRD))) (l_THIRD : K.lookup A_THIRD = some ⟨.type "tuple", o_THIRD, .seq [.int 1 u_THIRD_0, .int 3 u_THIRD_1].toArray q_THIRD, m_THIRD⟩)
    {t_THREE : Tok} (n_THREE : PySem.W.nsIn K mainGlobals "THREE" = some (some (.int 3 t_THREE)))
    : ∃ (fd : FuncData) (cs : List (Str × Addr × Addr)) (sp : Sp), (∀ t ∈ cs, PySem.W.tabIn K t.1 = some t.2 ∧ K.lookup t.2.2 = none ∧ ((recsOf pq).find? (fun e => e.name == t.1)).isSome = true) ∧ (∀ (s : Shared) (u : Value), BindsTo s fd ⟨[u], []⟩ [("script", u)]) ∧ (∀ (H : Hp) (a : Addr) (ns : List Int), ns.length ≤ 63 → (∀ t ∈ cs, H t.2.2 = some (.tbl #[])) → SqL K H a (ns.map V.int) → sp [.ref a] H (fun v _ => v = .bl true) fun _ _ _ => False) ∧
      ∀ base : Heap, K.In base → base.Ns mainGlobals mg → (∀ t ∈ cs, LamX.TabB base mg t.2.1 t.2.2) → FnG l.prog w K mg base 11 fa fd ["script"] sp := by
  have e := hfa.symm.trans (PySem.W.mg_of X G a47)
  cases e
  have F0 := fun_mk (st := s__law_pot) l0 c0 k0
  have F1 := fun_mk (st := s__law_bent_text) l1 c1 k1
  have F2 := fun_mk (st := s__law_take) l2 c2 k2
  have F3 := fun_mk (st := s__law_of) l3 c3 k3
  have F4 := fun_mk (st := s__law_odd) l4 c4 k4
  have F5 := fun_mk (st := s__law_some) l5 c5 k5
  have F6 := fun_mk (st := s__law_bent) l6 c6 k6
  have F7 := fun_mk (st := s__law_frac_common) l7 c7 k7
  have F8 := fun_mk (st := s__law_frac) l8 c8 k8
  have F9 := fun_mk (st := s__law_frac_drawn) l9 c9 k9
  have F10 := fun_mk (st := s__law_frac_is) l10 c10 k10
  have F11 := fun_mk (st := s__law_are_ends) l11 c11 k11
  have F12 := fun_mk (st := s__law_are_worths) l12 c12 k12
  have F13 := fun_mk (st := s__law_frac_is_size) l13 c13 k13
  have F14 := fun_mk (st := s__law_is_int) l14 c14 k14
  have F15 := fun_mk (st := s__law_heard) l15 c15 k15
  have F16 := fun_mk (st := s__law_is_raised) l16 c16 k16
  have F17 := fun_mk (st := s__law_law_is_word) l17 c17 k17
  have F18 := fun_mk (st := s_is_below) l18 c18 k18
  have F19 := fun_mk (st := s_common) l19 c19 k19
  have F20 := fun_mk (st := s_ratio) l20 c20 k20
  have F21 := fun_mk (st := s_less) l21 c21 k21
  have F22 := fun_mk (st := s_apart) l22 c22 k22
  have F23 := fun_mk (st := s_is_whole) l23 c23 k23
  have F24 := fun_mk (st := s_is_integer) l24 c24 k24
  have F25 := fun_mk (st := s_check_rounds) l25 c25 k25
  have F26 := fun_mk (st := s_is_ratio) l26 c26 k26
  have F27 := fun_mk (st := s_is_tuple) l27 c27 k27
  have F28 := fun_mk (st := s_check_worths) l28 c28 k28
  have F29 := fun_mk (st := s_power_of_three) l29 c29 k29
  have F30 := fun_mk (st := s_times) l30 c30 k30
  have F31 := fun_mk (st := s_gap) l31 c31 k31
  have F32 := fun_mk (st := s_are_letters) l32 c32 k32
  have F33 := fun_mk (st := s_is_word) l33 c33 k33
  have F34 := fun_mk (st := s_check_word) l34 c34 k34
  have F35 := fun_mk (st := s_numbers_at) l35 c35 k35
  have F36 := fun_mk (st := s_place_of) l36 c36 k36
  have F37 := fun_mk (st := s_plus) l37 c37 k37
  have F38 := fun_mk (st := s_near) l38 c38 k38
  have F39 := fun_mk (st := s_is_size) l39 c39 k39
  have F40 := fun_mk (st := s_needed) l40 c40 k40
  have F41 := fun_mk (st := s_rounds_of_ends) l41 c41 k41
  have F42 := fun_mk (st := s_word_of) l42 c42 k42
  have F43 := fun_mk (st := s_widest) l43 c43 k43
  have F44 := fun_mk (st := s__law_is_refused_right) l44 c44 k44
  have F45 := fun_mk (st := s__law_law_word_drawn) l45 c45 k45
  have F46 := fun_mk (st := s__law_right) l46 c46 k46
  have F47 := fun_mk (st := s_law) l47 c47 k47
  letI LT : LawTabs := ⟨[(P__law_is_refused_right, (("_law_is_refused_right" : Str) ++ ".<locals>." ++ "<lambda>"))]⟩
  have hh_BadDistance := heir_mk xL_BadDistance sa_BadDistance ga_BadDistance gg_BadDistance nb_BadDistance iC_BadDistance tI kC_BadDistance eC_BadDistance tC_BadDistance hC_BadDistance cl_BadDistance mo_BadDistance vB_BadDistance ip_BadDistance sR_BadDistance ne_BadDistance hnX htX
  have hh_BadEnds := heir_mk xL_BadEnds sa_BadEnds ga_BadEnds gg_BadEnds nb_BadEnds iC_BadEnds tI kC_BadEnds eC_BadEnds tC_BadEnds hC_BadEnds cl_BadEnds mo_BadEnds vB_BadEnds ip_BadEnds sR_BadEnds ne_BadEnds hnX htX
  have hh_BadNumber := heir_mk xL_BadNumber sa_BadNumber ga_BadNumber gg_BadNumber nb_BadNumber iC_BadNumber tI kC_BadNumber eC_BadNumber tC_BadNumber hC_BadNumber cl_BadNumber mo_BadNumber vB_BadNumber ip_BadNumber sR_BadNumber ne_BadNumber hnX htX
  have hh_BadWord := heir_mk xL_BadWord sa_BadWord ga_BadWord gg_BadWord nb_BadWord iC_BadWord tI kC_BadWord eC_BadWord tC_BadWord hC_BadWord cl_BadWord mo_BadWord vB_BadWord ip_BadWord sR_BadWord ne_BadWord hnX htX
  have hh_BadWorths := heir_mk xL_BadWorths sa_BadWorths ga_BadWorths gg_BadWorths nb_BadWorths iC_BadWorths tI kC_BadWorths eC_BadWorths tC_BadWorths hC_BadWorths cl_BadWorths mo_BadWorths vB_BadWorths ip_BadWorths sR_BadWorths ne_BadWorths hnX htX
  let cs : List (Str × Addr × Addr) := [(("_law_is_refused_right" : Str), cc__law_is_refused_right, P__law_is_refused_right)]
  let T : ∀ base : Heap, (∀ t ∈ cs, LamX.TabB base mg t.2.1 t.2.2) → Txt l.prog w K mg base := fun base hTB => {
    a_BadDistance := C_BadDistance, g_BadDistance := PySem.W.mg_of X G aC_BadDistance, cn_BadDistance := ⟨aC_BadDistance⟩
    a_BadEnds := C_BadEnds, g_BadEnds := PySem.W.mg_of X G aC_BadEnds, cn_BadEnds := ⟨aC_BadEnds⟩
    a_BadNumber := C_BadNumber, g_BadNumber := PySem.W.mg_of X G aC_BadNumber, cn_BadNumber := ⟨aC_BadNumber⟩
    a_BadWord := C_BadWord, g_BadWord := PySem.W.mg_of X G aC_BadWord, cn_BadWord := ⟨aC_BadWord⟩
    a_BadWorths := C_BadWorths, g_BadWorths := PySem.W.mg_of X G aC_BadWorths, cn_BadWorths := ⟨aC_BadWorths⟩
    a_PlayError := C_PlayError, g_PlayError := PySem.W.mg_of X G aC_PlayError, cn_PlayError := ⟨aC_PlayError⟩
    fI := f_I, plb := base_mk X G (by rfl) lI cI lcI hvI hfI lccI ipR zsI tpI stI
    plk := plk_of [(("BadDistance" : Str), C_BadDistance), (("BadEnds" : Str), C_BadEnds), (("BadNumber" : Str), C_BadNumber), (("BadWord" : Str), C_BadWord), (("BadWorths" : Str), C_BadWorths)] ⟨⟨aC_BadDistance, hh_BadDistance.2, tC_BadDistance⟩, ⟨aC_BadEnds, hh_BadEnds.2, tC_BadEnds⟩, ⟨aC_BadNumber, hh_BadNumber.2, tC_BadNumber⟩, ⟨aC_BadWord, hh_BadWord.2, tC_BadWord⟩, ⟨aC_BadWorths, hh_BadWorths.2, tC_BadWorths⟩, trivial⟩ ⟨⟨kit_same, kit_ne ne_BadDistance_BadEnds ip_BadEnds tC_BadEnds sb_BadDistance_BadEnds (by decide), kit_ne ne_BadDistance_BadNumber ip_BadNumber tC_BadNumber sb_BadDistance_BadNumber (by decide), kit_ne ne_BadDistance_BadWord ip_BadWord tC_BadWord sb_BadDistance_BadWord (by decide), kit_ne ne_BadDistance_BadWorths ip_BadWorths tC_BadWorths sb_BadDistance_BadWorths (by decide), trivial⟩, ⟨kit_ne ne_BadEnds_BadDistance ip_BadDistance tC_BadDistance sb_BadEnds_BadDistance (by decide), kit_same, kit_ne ne_BadEnds_BadNumber ip_BadNumber tC_BadNumber sb_BadEnds_BadNumber (by decide), kit_ne ne_BadEnds_BadWord ip_BadWord tC_BadWord sb_BadEnds_BadWord (by decide), kit_ne ne_BadEnds_BadWorths ip_BadWorths tC_BadWorths sb_BadEnds_BadWorths (by decide), trivial⟩, ⟨kit_ne ne_BadNumber_BadDistance ip_BadDistance tC_BadDistance sb_BadNumber_BadDistance (by decide), kit_ne ne_BadNumber_BadEnds ip_BadEnds tC_BadEnds sb_BadNumber_BadEnds (by decide), kit_same, kit_ne ne_BadNumber_BadWord ip_BadWord tC_BadWord sb_BadNumber_BadWord (by decide), kit_ne ne_BadNumber_BadWorths ip_BadWorths tC_BadWorths sb_BadNumber_BadWorths (by decide), trivial⟩, ⟨kit_ne ne_BadWord_BadDistance ip_BadDistance tC_BadDistance sb_BadWord_BadDistance (by decide), kit_ne ne_BadWord_BadEnds ip_BadEnds tC_BadEnds sb_BadWord_BadEnds (by decide), kit_ne ne_BadWord_BadNumber ip_BadNumber tC_BadNumber sb_BadWord_BadNumber (by decide), kit_same, kit_ne ne_BadWord_BadWorths ip_BadWorths tC_BadWorths sb_BadWord_BadWorths (by decide), trivial⟩, ⟨kit_ne ne_BadWorths_BadDistance ip_BadDistance tC_BadDistance sb_BadWorths_BadDistance (by decide), kit_ne ne_BadWorths_BadEnds ip_BadEnds tC_BadEnds sb_BadWorths_BadEnds (by decide), kit_ne ne_BadWorths_BadNumber ip_BadNumber tC_BadNumber sb_BadWorths_BadNumber (by decide), kit_ne ne_BadWorths_BadWord ip_BadWord tC_BadWord sb_BadWorths_BadWord (by decide), kit_same, trivial⟩, trivial⟩
    plh := heirs_of [(("BadDistance" : Str), C_BadDistance), (("BadEnds" : Str), C_BadEnds), (("BadNumber" : Str), C_BadNumber), (("BadWord" : Str), C_BadWord), (("BadWorths" : Str), C_BadWorths)] ⟨⟨aC_BadDistance, sR_BadDistance⟩, ⟨aC_BadEnds, sR_BadEnds⟩, ⟨aC_BadNumber, sR_BadNumber⟩, ⟨aC_BadWord, sR_BadWord⟩, ⟨aC_BadWorths, sR_BadWorths⟩, trivial⟩ eR ipR tR
    ph_BadDistance := hh_BadDistance.1
    ph_BadEnds := hh_BadEnds.1
    ph_BadNumber := hh_BadNumber.1
    ph_BadWord := hh_BadWord.1
    ph_BadWorths := hh_BadWorths.1
    c__law_is_refused_right := cc__law_is_refused_right, p__law_is_refused_right := P__law_is_refused_right, co__law_is_refused_right := rfl, tb__law_is_refused_right := hTB (("_law_is_refused_right" : Str), cc__law_is_refused_right, P__law_is_refused_right) (List.mem_of_getElem? (i := 0) rfl), ti__law_is_refused_right := ⟨List.mem_of_getElem? (i := 0) rfl, fun t ht e => by have h2 : t ∈ ([(P__law_is_refused_right, (("_law_is_refused_right" : Str) ++ ".<locals>." ++ "<lambda>"))] : List (Addr × Str)) := ht; simp only [List.mem_cons, List.not_mem_nil, or_false] at h2; rcases h2 with rfl <;> first | rfl⟩
    a__law_pot := _, fd__law_pot := _, F__law_pot := F0, g__law_pot := PySem.W.mg_of X G a0, b__law_pot := F0.binds fun _ _ _ _ _ _ us hl => match us, hl with | [_, _], _ => rfl
    a__law_bent_text := _, fd__law_bent_text := _, F__law_bent_text := F1, g__law_bent_text := PySem.W.mg_of X G a1, b__law_bent_text := F1.binds fun _ _ _ _ _ _ us hl => match us, hl with | [_, _], _ => rfl
    a__law_take := _, fd__law_take := _, F__law_take := F2, g__law_take := PySem.W.mg_of X G a2, b__law_take := F2.binds fun _ _ _ _ _ _ us hl => match us, hl with | [_, _], _ => rfl
    a__law_of := _, fd__law_of := _, F__law_of := F3, g__law_of := PySem.W.mg_of X G a3, b__law_of := F3.binds fun _ _ _ _ _ _ us hl => match us, hl with | [_, _], _ => rfl
    a__law_odd := _, fd__law_odd := _, F__law_odd := F4, g__law_odd := PySem.W.mg_of X G a4, b__law_odd := F4.binds fun _ _ _ _ _ _ us hl => match us, hl with | [_], _ => rfl
    a__law_some := _, fd__law_some := _, F__law_some := F5, g__law_some := PySem.W.mg_of X G a5, b__law_some := F5.binds fun _ _ _ _ _ _ us hl => match us, hl with | [_, _, _], _ => rfl
    a__law_bent := _, fd__law_bent := _, F__law_bent := F6, g__law_bent := PySem.W.mg_of X G a6, b__law_bent := F6.binds fun _ _ _ _ _ _ us hl => match us, hl with | [_, _], _ => rfl
    a__law_frac_common := _, fd__law_frac_common := _, F__law_frac_common := F7, g__law_frac_common := PySem.W.mg_of X G a7, b__law_frac_common := F7.binds fun _ _ _ _ _ _ us hl => match us, hl with | [_, _], _ => rfl
    a__law_frac := _, fd__law_frac := _, F__law_frac := F8, g__law_frac := PySem.W.mg_of X G a8, b__law_frac := F8.binds fun _ _ _ _ _ _ us hl => match us, hl with | [_, _], _ => rfl
    a__law_frac_drawn := _, fd__law_frac_drawn := _, F__law_frac_drawn := F9, g__law_frac_drawn := PySem.W.mg_of X G a9, b__law_frac_drawn := F9.binds fun _ _ _ _ _ _ us hl => match us, hl with | [_, _, _], _ => rfl
    a__law_frac_is := _, fd__law_frac_is := _, F__law_frac_is := F10, g__law_frac_is := PySem.W.mg_of X G a10, b__law_frac_is := F10.binds fun _ _ _ _ _ _ us hl => match us, hl with | [_], _ => rfl
    a__law_are_ends := _, fd__law_are_ends := _, F__law_are_ends := F11, g__law_are_ends := PySem.W.mg_of X G a11, b__law_are_ends := F11.binds fun _ _ _ _ _ _ us hl => match us, hl with | [_], _ => rfl
    a__law_are_worths := _, fd__law_are_worths := _, F__law_are_worths := F12, g__law_are_worths := PySem.W.mg_of X G a12, b__law_are_worths := F12.binds fun _ _ _ _ _ _ us hl => match us, hl with | [_], _ => rfl
    a__law_frac_is_size := _, fd__law_frac_is_size := _, F__law_frac_is_size := F13, g__law_frac_is_size := PySem.W.mg_of X G a13, b__law_frac_is_size := F13.binds fun _ _ _ _ _ _ us hl => match us, hl with | [_], _ => rfl
    a__law_is_int := _, fd__law_is_int := _, F__law_is_int := F14, g__law_is_int := PySem.W.mg_of X G a14, b__law_is_int := F14.binds fun _ _ _ _ _ _ us hl => match us, hl with | [_, _, _], _ => rfl
    a__law_heard := _, fd__law_heard := _, F__law_heard := F15, g__law_heard := PySem.W.mg_of X G a15, b__law_heard := F15.binds fun _ _ _ _ _ _ us hl => match us, hl with | [_], _ => rfl
    a__law_is_raised := _, fd__law_is_raised := _, F__law_is_raised := F16, g__law_is_raised := PySem.W.mg_of X G a16, b__law_is_raised := F16.binds fun _ _ _ _ _ _ us hl => match us, hl with | [_, _], _ => rfl
    a__law_law_is_word := _, fd__law_law_is_word := _, F__law_law_is_word := F17, g__law_law_is_word := PySem.W.mg_of X G a17, b__law_law_is_word := F17.binds fun _ _ _ _ _ _ us hl => match us, hl with | [_, _, _], _ => rfl
    a_is_below := _, fd_is_below := _, F_is_below := F18, g_is_below := PySem.W.mg_of X G a18, b_is_below := F18.binds fun _ _ _ _ _ _ us hl => match us, hl with | [_, _], _ => rfl
    a_common := _, fd_common := _, F_common := F19, g_common := PySem.W.mg_of X G a19, b_common := F19.binds fun _ _ _ _ _ _ us hl => match us, hl with | [_, _], _ => rfl
    a_ratio := _, fd_ratio := _, F_ratio := F20, g_ratio := PySem.W.mg_of X G a20, b_ratio := F20.binds fun _ _ _ _ _ _ us hl => match us, hl with | [_, _], _ => rfl
    a_less := _, fd_less := _, F_less := F21, g_less := PySem.W.mg_of X G a21, b_less := F21.binds fun _ _ _ _ _ _ us hl => match us, hl with | [_, _], _ => rfl
    a_apart := _, fd_apart := _, F_apart := F22, g_apart := PySem.W.mg_of X G a22, b_apart := F22.binds fun _ _ _ _ _ _ us hl => match us, hl with | [_, _], _ => rfl
    a_is_whole := _, fd_is_whole := _, F_is_whole := F23, g_is_whole := PySem.W.mg_of X G a23, b_is_whole := F23.binds fun _ _ _ _ _ _ us hl => match us, hl with | [_], _ => rfl
    a_is_integer := _, fd_is_integer := _, F_is_integer := F24, g_is_integer := PySem.W.mg_of X G a24, b_is_integer := F24.binds fun _ _ _ _ _ _ us hl => match us, hl with | [_, _, _], _ => rfl
    a_check_rounds := _, fd_check_rounds := _, F_check_rounds := F25, g_check_rounds := PySem.W.mg_of X G a25, b_check_rounds := F25.binds fun _ _ _ _ _ _ us hl => match us, hl with | [_, _], _ => rfl
    a_is_ratio := _, fd_is_ratio := _, F_is_ratio := F26, g_is_ratio := PySem.W.mg_of X G a26, b_is_ratio := F26.binds fun _ _ _ _ _ _ us hl => match us, hl with | [_], _ => rfl
    a_is_tuple := _, fd_is_tuple := _, F_is_tuple := F27, g_is_tuple := PySem.W.mg_of X G a27, b_is_tuple := F27.binds fun _ _ _ _ _ _ us hl => match us, hl with | [_, _, _], _ => rfl
    a_check_worths := _, fd_check_worths := _, F_check_worths := F28, g_check_worths := PySem.W.mg_of X G a28, b_check_worths := F28.binds fun _ _ _ _ _ _ us hl => match us, hl with | [_], _ => rfl
    a_power_of_three := _, fd_power_of_three := _, F_power_of_three := F29, g_power_of_three := PySem.W.mg_of X G a29, b_power_of_three := F29.binds fun _ _ _ _ _ _ us hl => match us, hl with | [_], _ => rfl
    a_times := _, fd_times := _, F_times := F30, g_times := PySem.W.mg_of X G a30, b_times := F30.binds fun _ _ _ _ _ _ us hl => match us, hl with | [_, _], _ => rfl
    a_gap := _, fd_gap := _, F_gap := F31, g_gap := PySem.W.mg_of X G a31, b_gap := F31.binds fun _ _ _ _ _ _ us hl => match us, hl with | [_, _], _ => rfl
    a_are_letters := _, fd_are_letters := _, F_are_letters := F32, g_are_letters := PySem.W.mg_of X G a32, b_are_letters := F32.binds fun _ _ _ _ _ _ us hl => match us, hl with | [_, _, _], _ => rfl
    a_is_word := _, fd_is_word := _, F_is_word := F33, g_is_word := PySem.W.mg_of X G a33, b_is_word := F33.binds fun _ _ _ _ _ _ us hl => match us, hl with | [_], _ => rfl
    a_check_word := _, fd_check_word := _, F_check_word := F34, g_check_word := PySem.W.mg_of X G a34, b_check_word := F34.binds fun _ _ _ _ _ _ us hl => match us, hl with | [_], _ => rfl
    a_numbers_at := _, fd_numbers_at := _, F_numbers_at := F35, g_numbers_at := PySem.W.mg_of X G a35, b_numbers_at := F35.binds fun _ _ _ _ _ _ us hl => match us, hl with | [_], _ => rfl
    a_place_of := _, fd_place_of := _, F_place_of := F36, g_place_of := PySem.W.mg_of X G a36, b_place_of := F36.binds fun _ _ _ _ _ _ us hl => match us, hl with | [_], _ => rfl
    a_plus := _, fd_plus := _, F_plus := F37, g_plus := PySem.W.mg_of X G a37, b_plus := F37.binds fun _ _ _ _ _ _ us hl => match us, hl with | [_, _], _ => rfl
    a_near := _, fd_near := _, F_near := F38, g_near := PySem.W.mg_of X G a38, b_near := F38.binds fun _ _ _ _ _ _ us hl => match us, hl with | [_, _], _ => rfl
    a_is_size := _, fd_is_size := _, F_is_size := F39, g_is_size := PySem.W.mg_of X G a39, b_is_size := F39.binds fun _ _ _ _ _ _ us hl => match us, hl with | [_], _ => rfl
    a_needed := _, fd_needed := _, F_needed := F40, g_needed := PySem.W.mg_of X G a40, b_needed := F40.binds fun _ _ _ _ _ _ us hl => match us, hl with | [_, _], _ => rfl
    a_rounds_of_ends := _, fd_rounds_of_ends := _, F_rounds_of_ends := F41, g_rounds_of_ends := PySem.W.mg_of X G a41, b_rounds_of_ends := F41.binds fun _ _ _ _ _ _ us hl => match us, hl with | [_], _ => rfl
    a_word_of := _, fd_word_of := _, F_word_of := F42, g_word_of := PySem.W.mg_of X G a42, b_word_of := F42.binds fun _ _ _ _ _ _ us hl => match us, hl with | [_, _], _ => rfl
    a_widest := _, fd_widest := _, F_widest := F43, g_widest := PySem.W.mg_of X G a43, b_widest := F43.binds fun _ _ _ _ _ _ us hl => match us, hl with | [_], _ => rfl
    a__law_is_refused_right := _, fd__law_is_refused_right := _, F__law_is_refused_right := F44, g__law_is_refused_right := PySem.W.mg_of X G a44, b__law_is_refused_right := F44.binds fun _ _ _ _ _ _ us hl => match us, hl with | [_, _, _, _, _], _ => rfl
    a__law_law_word_drawn := _, fd__law_law_word_drawn := _, F__law_law_word_drawn := F45, g__law_law_word_drawn := PySem.W.mg_of X G a45, b__law_law_word_drawn := F45.binds fun _ _ _ _ _ _ us hl => match us, hl with | [_, _], _ => rfl
    a__law_right := _, fd__law_right := _, F__law_right := F46, g__law_right := PySem.W.mg_of X G a46, b__law_right := F46.binds fun _ _ _ _ _ _ us hl => match us, hl with | [_], _ => rfl
    a_law := _, fd_law := _, F_law := F47, g_law := PySem.W.mg_of X G a47, b_law := F47.binds fun _ _ _ _ _ _ us hl => match us, hl with | [_], _ => rfl
    b_k_near_0_word_worths := kbn F38 0 ["word", "worths"] _ _ (fun _ _ _ _ _ _ us ws h1 h2 => match us, ws, h1, h2 with | [], [_, _], _, _ => rfl) (fun r1 r2 => .cons (vals_getD r2 1) (.cons (vals_getD r2 0) (.nil)))
    b_k_gap_0_rounds_worths := kbn F31 0 ["rounds", "worths"] _ _ (fun _ _ _ _ _ _ us ws h1 h2 => match us, ws, h1, h2 with | [], [_, _], _, _ => rfl) (fun r1 r2 => .cons (vals_getD r2 1) (.cons (vals_getD r2 0) (.nil)))
    z_abs := PySem.W.mg_none_of X G z_abs
    z_all := PySem.W.mg_none_of X G z_all
    z_bool := PySem.W.mg_none_of X G z_bool
    z_int := PySem.W.mg_none_of X G z_int
    z_isinstance := PySem.W.mg_none_of X G z_isinstance
    z_len := PySem.W.mg_none_of X G z_len
    z_list := PySem.W.mg_none_of X G z_list
    z_range := PySem.W.mg_none_of X G z_range
    z_repr := PySem.W.mg_none_of X G z_repr
    z_str := PySem.W.mg_none_of X G z_str
    z_sum := PySem.W.mg_none_of X G z_sum
    z_tuple := PySem.W.mg_none_of X G z_tuple
    a_BACK := A_BACK, c_BACK := PySem.W.mg_of X G n_BACK, r_BACK := cv_tup l_BACK (Nat.le_of_ble_eq_true rfl) vals_BACK rep_BACK
    c_LETTERS := ⟨t_LETTERS, PySem.W.mg_of X G n_LETTERS⟩
    c_MOST_ENDS_ROUNDS := ⟨t_MOST_ENDS_ROUNDS, PySem.W.mg_of X G n_MOST_ENDS_ROUNDS⟩
    c_MOST_ROUNDS := ⟨t_MOST_ROUNDS, PySem.W.mg_of X G n_MOST_ROUNDS⟩
    c_MOST_WORD := ⟨t_MOST_WORD, PySem.W.mg_of X G n_MOST_WORD⟩
    c_PAIR_nearness := ⟨t_PAIR_nearness, PySem.W.mg_of X G n_PAIR_nearness⟩
    c_PAIR_ratios := ⟨t_PAIR_ratios, PySem.W.mg_of X G n_PAIR_ratios⟩
    a_THIRD := A_THIRD, c_THIRD := PySem.W.mg_of X G n_THIRD, r_THIRD := cv_tup l_THIRD (Nat.le_of_ble_eq_true rfl) vals_THIRD rep_THIRD
    c_THREE := ⟨t_THREE, PySem.W.mg_of X G n_THREE⟩
  }
  refine ⟨_, cs, spF K G_law, fun t ht => ?_, fun s v => .of_eq rfl, fun H a ns hl ht hS => sp_law (fun ns hl => law_true ns hl) H a ns hl hS (fun t h => ?_), fun base _ _ hTB => ok_law (T base hTB)⟩
  · replace ht : t ∈ ([(("_law_is_refused_right" : Str), cc__law_is_refused_right, P__law_is_refused_right)] : List (Str × Addr × Addr)) := ht
    simp only [List.mem_cons, List.not_mem_nil, or_false] at ht
    rcases ht with rfl
    · exact ⟨tab_in a44 l44 rfl lm__law_is_refused_right mp__law_is_refused_right, nP__law_is_refused_right, rs__law_is_refused_right⟩
  · replace h : t ∈ ([(P__law_is_refused_right, (("_law_is_refused_right" : Str) ++ ".<locals>." ++ "<lambda>"))] : List (Addr × Str)) := h
    simp only [List.mem_cons, List.not_mem_nil, or_false] at h
    rcases h with rfl
    · exact ht (("_law_is_refused_right" : Str), cc__law_is_refused_right, P__law_is_refused_right) (List.mem_of_getElem? (i := 0) rfl)
end K35
open PySem PySem.W PyProof.Rows
set_option maxHeartbeats 0 in
theorem PySem.Challenge.cw_twofarplayers_k35_worths_words_distances_holds : PySem.Challenge.rw_twofarplayers_k35_worths_words_distances.Holds := by
  w_on; o_law; k_head; (case hw => w_witness2)
  k_fill
  letI : Dl.LawTabs := ⟨[]⟩
  refine Dl.walk_tabsG (l := PySem.Challenge.rw_twofarplayers_k35_worths_words_distances) (n := 63) (k := 11) (x := "script") rfl (by decide) rfl ⟨rfl, by decide, by decide⟩ (fun w h Y => PySem.W.km_in_of Y) ?F
  case F =>
    intro w mg fa h KX G hmg
    refine' K35.all_mk KX G hmg ?aC_BadDistance ?aC_BadEnds ?aC_BadNumber ?aC_BadWord ?aC_BadWorths ?aC_PlayError ?xL_BadDistance ?sa_BadDistance ?ga_BadDistance ?gg_BadDistance ?nb_BadDistance ?iC_BadDistance ?kC_BadDistance ?eC_BadDistance ?tC_BadDistance ?hC_BadDistance ?cl_BadDistance ?mo_BadDistance ?vB_BadDistance ?ip_BadDistance ?sR_BadDistance ?ne_BadDistance ?xL_BadEnds ?sa_BadEnds ?ga_BadEnds ?gg_BadEnds ?nb_BadEnds ?iC_BadEnds ?kC_BadEnds ?eC_BadEnds ?tC_BadEnds ?hC_BadEnds ?cl_BadEnds ?mo_BadEnds ?vB_BadEnds ?ip_BadEnds ?sR_BadEnds ?ne_BadEnds ?xL_BadNumber ?sa_BadNumber ?ga_BadNumber ?gg_BadNumber ?nb_BadNumber ?iC_BadNumber ?kC_BadNumber ?eC_BadNumber ?tC_BadNumber ?hC_BadNumber ?cl_BadNumber ?mo_BadNumber ?vB_BadNumber ?ip_BadNumber ?sR_BadNumber ?ne_BadNumber ?xL_BadWord ?sa_BadWord ?ga_BadWord ?gg_BadWord ?nb_BadWord ?iC_BadWord ?kC_BadWord ?eC_BadWord ?tC_BadWord ?hC_BadWord ?cl_BadWord ?mo_BadWord ?vB_BadWord ?ip_BadWord ?sR_BadWord ?ne_BadWord ?xL_BadWorths ?sa_BadWorths ?ga_BadWorths ?gg_BadWorths ?nb_BadWorths ?iC_BadWorths ?kC_BadWorths ?eC_BadWorths ?tC_BadWorths ?hC_BadWorths ?cl_BadWorths ?mo_BadWorths ?vB_BadWorths ?ip_BadWorths ?sR_BadWorths ?ne_BadWorths ?sb_BadDistance_BadEnds ?ne_BadDistance_BadEnds ?sb_BadDistance_BadNumber ?ne_BadDistance_BadNumber ?sb_BadDistance_BadWord ?ne_BadDistance_BadWord ?sb_BadDistance_BadWorths ?ne_BadDistance_BadWorths ?sb_BadEnds_BadDistance ?ne_BadEnds_BadDistance ?sb_BadEnds_BadNumber ?ne_BadEnds_BadNumber ?sb_BadEnds_BadWord ?ne_BadEnds_BadWord ?sb_BadEnds_BadWorths ?ne_BadEnds_BadWorths ?sb_BadNumber_BadDistance ?ne_BadNumber_BadDistance ?sb_BadNumber_BadEnds ?ne_BadNumber_BadEnds ?sb_BadNumber_BadWord ?ne_BadNumber_BadWord ?sb_BadNumber_BadWorths ?ne_BadNumber_BadWorths ?sb_BadWord_BadDistance ?ne_BadWord_BadDistance ?sb_BadWord_BadEnds ?ne_BadWord_BadEnds ?sb_BadWord_BadNumber ?ne_BadWord_BadNumber ?sb_BadWord_BadWorths ?ne_BadWord_BadWorths ?sb_BadWorths_BadDistance ?ne_BadWorths_BadDistance ?sb_BadWorths_BadEnds ?ne_BadWorths_BadEnds ?sb_BadWorths_BadNumber ?ne_BadWorths_BadNumber ?sb_BadWorths_BadWord ?ne_BadWorths_BadWord ?ipR ?eR ?tR ?tI ?hnX ?htX ?lI ?cI ?lcI ?hvI ?hfI ?lccI ?zsI ?tpI ?stI ?a0 ?l0 ?c0 ?k0 ?a1 ?l1 ?c1 ?k1 ?a2 ?l2 ?c2 ?k2 ?a3 ?l3 ?c3 ?k3 ?a4 ?l4 ?c4 ?k4 ?a5 ?l5 ?c5 ?k5 ?a6 ?l6 ?c6 ?k6 ?a7 ?l7 ?c7 ?k7 ?a8 ?l8 ?c8 ?k8 ?a9 ?l9 ?c9 ?k9 ?a10 ?l10 ?c10 ?k10 ?a11 ?l11 ?c11 ?k11 ?a12 ?l12 ?c12 ?k12 ?a13 ?l13 ?c13 ?k13 ?a14 ?l14 ?c14 ?k14 ?a15 ?l15 ?c15 ?k15 ?a16 ?l16 ?c16 ?k16 ?a17 ?l17 ?c17 ?k17 ?a18 ?l18 ?c18 ?k18 ?a19 ?l19 ?c19 ?k19 ?a20 ?l20 ?c20 ?k20 ?a21 ?l21 ?c21 ?k21 ?a22 ?l22 ?c22 ?k22 ?a23 ?l23 ?c23 ?k23 ?a24 ?l24 ?c24 ?k24 ?a25 ?l25 ?c25 ?k25 ?a26 ?l26 ?c26 ?k26 ?a27 ?l27 ?c27 ?k27 ?a28 ?l28 ?c28 ?k28 ?a29 ?l29 ?c29 ?k29 ?a30 ?l30 ?c30 ?k30 ?a31 ?l31 ?c31 ?k31 ?a32 ?l32 ?c32 ?k32 ?a33 ?l33 ?c33 ?k33 ?a34 ?l34 ?c34 ?k34 ?a35 ?l35 ?c35 ?k35 ?a36 ?l36 ?c36 ?k36 ?a37 ?l37 ?c37 ?k37 ?a38 ?l38 ?c38 ?k38 ?a39 ?l39 ?c39 ?k39 ?a40 ?l40 ?c40 ?k40 ?a41 ?l41 ?c41 ?k41 ?a42 ?l42 ?c42 ?k42 ?a43 ?l43 ?c43 ?k43 ?a44 ?l44 ?c44 ?k44 ?lm__law_is_refused_right ?mp__law_is_refused_right ?nP__law_is_refused_right ?rs__law_is_refused_right ?a45 ?l45 ?c45 ?k45 ?a46 ?l46 ?c46 ?k46 ?a47 ?l47 ?c47 ?k47 ?z_abs ?z_all ?z_bool ?z_int ?z_isinstance ?z_len ?z_list ?z_range ?z_repr ?z_str ?z_sum ?z_tuple ?n_BACK ?l_BACK ?n_LETTERS ?n_MOST_ENDS_ROUNDS ?n_MOST_ROUNDS ?n_MOST_WORD ?n_PAIR_nearness ?n_PAIR_ratios ?n_THIRD ?l_THIRD ?n_THREE
    (case aC_BadDistance => k_is)
    (case aC_BadEnds => k_is)
    (case aC_BadNumber => k_is)
    (case aC_BadWord => k_is)
    (case aC_BadWorths => k_is)
    (case aC_PlayError => k_is)
    (case xL_BadDistance => k_is)
    (case sa_BadDistance => k_is)
    (case ga_BadDistance => k_is)
    (case gg_BadDistance => k_is)
    (case nb_BadDistance => k_is)
    (case iC_BadDistance => k_is)
    (case kC_BadDistance => k_is)
    (case eC_BadDistance => k_is)
    (case tC_BadDistance => k_is)
    (case hC_BadDistance => k_is)
    (case cl_BadDistance => k_is)
    (case mo_BadDistance => k_is)
    (case vB_BadDistance => k_is)
    (case ip_BadDistance => k_is)
    (case sR_BadDistance => k_is)
    (case ne_BadDistance => first | rfl | decide +kernel)
    (case xL_BadEnds => k_is)
    (case sa_BadEnds => k_is)
    (case ga_BadEnds => k_is)
    (case gg_BadEnds => k_is)
    (case nb_BadEnds => k_is)
    (case iC_BadEnds => k_is)
    (case kC_BadEnds => k_is)
    (case eC_BadEnds => k_is)
    (case tC_BadEnds => k_is)
    (case hC_BadEnds => k_is)
    (case cl_BadEnds => k_is)
    (case mo_BadEnds => k_is)
    (case vB_BadEnds => k_is)
    (case ip_BadEnds => k_is)
    (case sR_BadEnds => k_is)
    (case ne_BadEnds => first | rfl | decide +kernel)
    (case xL_BadNumber => k_is)
    (case sa_BadNumber => k_is)
    (case ga_BadNumber => k_is)
    (case gg_BadNumber => k_is)
    (case nb_BadNumber => k_is)
    (case iC_BadNumber => k_is)
    (case kC_BadNumber => k_is)
    (case eC_BadNumber => k_is)
    (case tC_BadNumber => k_is)
    (case hC_BadNumber => k_is)
    (case cl_BadNumber => k_is)
    (case mo_BadNumber => k_is)
    (case vB_BadNumber => k_is)
    (case ip_BadNumber => k_is)
    (case sR_BadNumber => k_is)
    (case ne_BadNumber => first | rfl | decide +kernel)
    (case xL_BadWord => k_is)
    (case sa_BadWord => k_is)
    (case ga_BadWord => k_is)
    (case gg_BadWord => k_is)
    (case nb_BadWord => k_is)
    (case iC_BadWord => k_is)
    (case kC_BadWord => k_is)
    (case eC_BadWord => k_is)
    (case tC_BadWord => k_is)
    (case hC_BadWord => k_is)
    (case cl_BadWord => k_is)
    (case mo_BadWord => k_is)
    (case vB_BadWord => k_is)
    (case ip_BadWord => k_is)
    (case sR_BadWord => k_is)
    (case ne_BadWord => first | rfl | decide +kernel)
    (case xL_BadWorths => k_is)
    (case sa_BadWorths => k_is)
    (case ga_BadWorths => k_is)
    (case gg_BadWorths => k_is)
    (case nb_BadWorths => k_is)
    (case iC_BadWorths => k_is)
    (case kC_BadWorths => k_is)
    (case eC_BadWorths => k_is)
    (case tC_BadWorths => k_is)
    (case hC_BadWorths => k_is)
    (case cl_BadWorths => k_is)
    (case mo_BadWorths => k_is)
    (case vB_BadWorths => k_is)
    (case ip_BadWorths => k_is)
    (case sR_BadWorths => k_is)
    (case ne_BadWorths => first | rfl | decide +kernel)
    (case sb_BadDistance_BadEnds => k_is)
    (case ne_BadDistance_BadEnds => first | rfl | decide +kernel)
    (case sb_BadDistance_BadNumber => k_is)
    (case ne_BadDistance_BadNumber => first | rfl | decide +kernel)
    (case sb_BadDistance_BadWord => k_is)
    (case ne_BadDistance_BadWord => first | rfl | decide +kernel)
    (case sb_BadDistance_BadWorths => k_is)
    (case ne_BadDistance_BadWorths => first | rfl | decide +kernel)
    (case sb_BadEnds_BadDistance => k_is)
    (case ne_BadEnds_BadDistance => first | rfl | decide +kernel)
    (case sb_BadEnds_BadNumber => k_is)
    (case ne_BadEnds_BadNumber => first | rfl | decide +kernel)
    (case sb_BadEnds_BadWord => k_is)
    (case ne_BadEnds_BadWord => first | rfl | decide +kernel)
    (case sb_BadEnds_BadWorths => k_is)
    (case ne_BadEnds_BadWorths => first | rfl | decide +kernel)
    (case sb_BadNumber_BadDistance => k_is)
    (case ne_BadNumber_BadDistance => first | rfl | decide +kernel)
    (case sb_BadNumber_BadEnds => k_is)
    (case ne_BadNumber_BadEnds => first | rfl | decide +kernel)
    (case sb_BadNumber_BadWord => k_is)
    (case ne_BadNumber_BadWord => first | rfl | decide +kernel)
    (case sb_BadNumber_BadWorths => k_is)
    (case ne_BadNumber_BadWorths => first | rfl | decide +kernel)
    (case sb_BadWord_BadDistance => k_is)
    (case ne_BadWord_BadDistance => first | rfl | decide +kernel)
    (case sb_BadWord_BadEnds => k_is)
    (case ne_BadWord_BadEnds => first | rfl | decide +kernel)
    (case sb_BadWord_BadNumber => k_is)
    (case ne_BadWord_BadNumber => first | rfl | decide +kernel)
    (case sb_BadWord_BadWorths => k_is)
    (case ne_BadWord_BadWorths => first | rfl | decide +kernel)
    (case sb_BadWorths_BadDistance => k_is)
    (case ne_BadWorths_BadDistance => first | rfl | decide +kernel)
    (case sb_BadWorths_BadEnds => k_is)
    (case ne_BadWorths_BadEnds => first | rfl | decide +kernel)
    (case sb_BadWorths_BadNumber => k_is)
    (case ne_BadWorths_BadNumber => first | rfl | decide +kernel)
    (case sb_BadWorths_BadWord => k_is)
    (case ne_BadWorths_BadWord => first | rfl | decide +kernel)
    (case ipR => k_is)
    (case eR => k_is)
    (case tR => k_is)
    (case tI => k_is)
    (case hnX => k_is)
    (case htX => k_is)
    (case lI => k_is)
    (case cI => k_is)
    (case lcI => k_is)
    (case hvI => first | rfl | decide +kernel)
    (case hfI => first | rfl | decide +kernel)
    (case lccI => k_is)
    (case zsI => k_is)
    (case tpI => first | rfl | decide +kernel)
    (case stI => k_is)
    (case a0 => k_is)
    (case l0 => k_is)
    (case c0 => k_is)
    (case k0 => k_is)
    (case a1 => k_is)
    (case l1 => k_is)
    (case c1 => k_is)
    (case k1 => k_is)
    (case a2 => k_is)
    (case l2 => k_is)
    (case c2 => k_is)
    (case k2 => k_is)
    (case a3 => k_is)
    (case l3 => k_is)
    (case c3 => k_is)
    (case k3 => k_is)
    (case a4 => k_is)
    (case l4 => k_is)
    (case c4 => k_is)
    (case k4 => k_is)
    (case a5 => k_is)
    (case l5 => k_is)
    (case c5 => k_is)
    (case k5 => k_is)
    (case a6 => k_is)
    (case l6 => k_is)
    (case c6 => k_is)
    (case k6 => k_is)
    (case a7 => k_is)
    (case l7 => k_is)
    (case c7 => k_is)
    (case k7 => k_is)
    (case a8 => k_is)
    (case l8 => k_is)
    (case c8 => k_is)
    (case k8 => k_is)
    (case a9 => k_is)
    (case l9 => k_is)
    (case c9 => k_is)
    (case k9 => k_is)
    (case a10 => k_is)
    (case l10 => k_is)
    (case c10 => k_is)
    (case k10 => k_is)
    (case a11 => k_is)
    (case l11 => k_is)
    (case c11 => k_is)
    (case k11 => k_is)
    (case a12 => k_is)
    (case l12 => k_is)
    (case c12 => k_is)
    (case k12 => k_is)
    (case a13 => k_is)
    (case l13 => k_is)
    (case c13 => k_is)
    (case k13 => k_is)
    (case a14 => k_is)
    (case l14 => k_is)
    (case c14 => k_is)
    (case k14 => k_is)
    (case a15 => k_is)
    (case l15 => k_is)
    (case c15 => k_is)
    (case k15 => k_is)
    (case a16 => k_is)
    (case l16 => k_is)
    (case c16 => k_is)
    (case k16 => k_is)
    (case a17 => k_is)
    (case l17 => k_is)
    (case c17 => k_is)
    (case k17 => k_is)
    (case a18 => k_is)
    (case l18 => k_is)
    (case c18 => k_is)
    (case k18 => k_is)
    (case a19 => k_is)
    (case l19 => k_is)
    (case c19 => k_is)
    (case k19 => k_is)
    (case a20 => k_is)
    (case l20 => k_is)
    (case c20 => k_is)
    (case k20 => k_is)
    (case a21 => k_is)
    (case l21 => k_is)
    (case c21 => k_is)
    (case k21 => k_is)
    (case a22 => k_is)
    (case l22 => k_is)
    (case c22 => k_is)
    (case k22 => k_is)
    (case a23 => k_is)
    (case l23 => k_is)
    (case c23 => k_is)
    (case k23 => k_is)
    (case a24 => k_is)
    (case l24 => k_is)
    (case c24 => k_is)
    (case k24 => k_is)
    (case a25 => k_is)
    (case l25 => k_is)
    (case c25 => k_is)
    (case k25 => k_is)
    (case a26 => k_is)
    (case l26 => k_is)
    (case c26 => k_is)
    (case k26 => k_is)
    (case a27 => k_is)
    (case l27 => k_is)
    (case c27 => k_is)
    (case k27 => k_is)
    (case a28 => k_is)
    (case l28 => k_is)
    (case c28 => k_is)
    (case k28 => k_is)
    (case a29 => k_is)
    (case l29 => k_is)
    (case c29 => k_is)
    (case k29 => k_is)
    (case a30 => k_is)
    (case l30 => k_is)
    (case c30 => k_is)
    (case k30 => k_is)
    (case a31 => k_is)
    (case l31 => k_is)
    (case c31 => k_is)
    (case k31 => k_is)
    (case a32 => k_is)
    (case l32 => k_is)
    (case c32 => k_is)
    (case k32 => k_is)
    (case a33 => k_is)
    (case l33 => k_is)
    (case c33 => k_is)
    (case k33 => k_is)
    (case a34 => k_is)
    (case l34 => k_is)
    (case c34 => k_is)
    (case k34 => k_is)
    (case a35 => k_is)
    (case l35 => k_is)
    (case c35 => k_is)
    (case k35 => k_is)
    (case a36 => k_is)
    (case l36 => k_is)
    (case c36 => k_is)
    (case k36 => k_is)
    (case a37 => k_is)
    (case l37 => k_is)
    (case c37 => k_is)
    (case k37 => k_is)
    (case a38 => k_is)
    (case l38 => k_is)
    (case c38 => k_is)
    (case k38 => k_is)
    (case a39 => k_is)
    (case l39 => k_is)
    (case c39 => k_is)
    (case k39 => k_is)
    (case a40 => k_is)
    (case l40 => k_is)
    (case c40 => k_is)
    (case k40 => k_is)
    (case a41 => k_is)
    (case l41 => k_is)
    (case c41 => k_is)
    (case k41 => k_is)
    (case a42 => k_is)
    (case l42 => k_is)
    (case c42 => k_is)
    (case k42 => k_is)
    (case a43 => k_is)
    (case l43 => k_is)
    (case c43 => k_is)
    (case k43 => k_is)
    (case a44 => k_is)
    (case l44 => k_is)
    (case c44 => k_is)
    (case k44 => k_is)
    (case lm__law_is_refused_right => k_is)
    (case mp__law_is_refused_right => first | rfl | decide +kernel)
    (case nP__law_is_refused_right => first | rfl | decide +kernel)
    (case rs__law_is_refused_right => first | rfl | decide +kernel)
    (case a45 => k_is)
    (case l45 => k_is)
    (case c45 => k_is)
    (case k45 => k_is)
    (case a46 => k_is)
    (case l46 => k_is)
    (case c46 => k_is)
    (case k46 => k_is)
    (case a47 => k_is)
    (case l47 => k_is)
    (case c47 => k_is)
    (case k47 => k_is)
    (case z_abs => k_is)
    (case z_all => k_is)
    (case z_bool => k_is)
    (case z_int => k_is)
    (case z_isinstance => k_is)
    (case z_len => k_is)
    (case z_list => k_is)
    (case z_range => k_is)
    (case z_repr => k_is)
    (case z_str => k_is)
    (case z_sum => k_is)
    (case z_tuple => k_is)
    (case n_BACK => k_is)
    (case l_BACK => k_is)
    (case n_LETTERS => k_is)
    (case n_MOST_ENDS_ROUNDS => k_is)
    (case n_MOST_ROUNDS => k_is)
    (case n_MOST_WORD => k_is)
    (case n_PAIR_nearness => k_is)
    (case n_PAIR_ratios => k_is)
    (case n_THIRD => k_is)
    (case l_THIRD => k_is)
    (case n_THREE => k_is)
