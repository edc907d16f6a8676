import PyProof.Rows.All
import Wide.All
import OpenK.AllK
import Wide.FinOn
import HandS.ForMost
import HandS.Evl
import HandS.Wide
import HandS.Deep
import HandS.Style
import HandS.IsInst
import KE.DataMinMax
import PyProof.Rows.InDataRows
import HandS.ForExc
import HandS.ExcOwn
import HandS.WordsExc
import HandS.ExcIs
import HandS.WordsList
import HandS.TupMul
import HandS.EndBits
import PySem.Challenge.RW_leapways_k05_refused
set_option Elab.async false
set_option linter.all false
set_option maxRecDepth 100000
set_option maxHeartbeats 4000000
/-! The pure layer: what an expression is worth as data (EvD), what a statement does to the data of the names (SeD), over HandS's readings. -/
namespace LW
open PySem PySem.Spec L2 Evl

/-- the written part and the two classes of answers -/
structure Tx where
  K : PySem.W.Frag
  CW : Addr
  CN : Addr

def wayD (ds : List PyData) : PyData := .dict [(.int 0, .list ds)]
def nevD (n : Int) : PyData := .dict [(.int 1, .int n)]
/-- the script -/
def scrD (ns : List Int) : PyData := .dict [(.int 2, .list (ns.map .int))]

/-! ### values and data -/
mutual
inductive Ok (T : Tx) (F : Hp) : V → PyData → Prop
  | non : Ok T F .non .none
  | bl (b : Bool) : Ok T F (.bl b) (.bool b)
  | int (i : Int) : Ok T F (.int i) (.int i)
  | str (x : Str) : Ok T F (.str x) (.str x)
  | lst {a : Addr} {xs : List V} {ds : List PyData} : F a = some (.lst xs) → OkAll T F xs ds → Ok T F (.ref a) (.list ds)
  | tup {a : Addr} {xs : List V} {ds : List PyData} : SqT T.K F a xs → OkAll T F xs ds → Ok T F (.ref a) (.tuple ds)
  | way {x dx l : Addr} {xs : List V} {ds : List PyData} : F x = some (.ins T.CW dx [("counts", .ref l)]) → F l = some (.lst xs) → OkAll T F xs ds → Ok T F (.ref x) (.dict [(.int 0, .list ds)])
  | nev {x dx : Addr} {n : Int} : F x = some (.ins T.CN dx [("by", .int n)]) → Ok T F (.ref x) (.dict [(.int 1, .int n)])
  | scr {a : Addr} {ns : List Int} : SqL T.K F a (ns.map V.int) → Ok T F (.ref a) (.dict [(.int 2, .list (ns.map .int))])
  | dct {a : Addr} : F a = some (.dK []) → Ok T F (.ref a) (.dict [])
inductive OkAll (T : Tx) (F : Hp) : List V → List PyData → Prop
  | nil : OkAll T F [] []
  | cons {v : V} {vs : List V} {d : PyData} {ds : List PyData} : Ok T F v d → OkAll T F vs ds → OkAll T F (v :: vs) (d :: ds)
end
section
variable {T : Tx} {F F' H H' H0 F0 : Hp}
theorem SqT.ex {K : PySem.W.Frag} {a : Addr} {xs : List V} (e : Ex F F') (h : SqT K F a xs) : SqT K F' a xs := ex_t e h
mutual
theorem Ok.ex (e : Ex F F') : ∀ {v : V} {d : PyData}, Ok T F v d → Ok T F' v d
  | _, _, .non => .non
  | _, _, .bl b => .bl b
  | _, _, .int i => .int i
  | _, _, .str x => .str x
  | _, _, .lst h k => .lst (e _ _ h) (k.ex e)
  | _, _, .tup h k => .tup (ex_t e h) (k.ex e)
  | _, _, .way h1 h2 k => .way (e _ _ h1) (e _ _ h2) (k.ex e)
  | _, _, .nev h => .nev (e _ _ h)
  | _, _, .scr h => .scr (ex_l e h)
  | _, _, .dct h => .dct (e _ _ h)
theorem OkAll.ex (e : Ex F F') : ∀ {vs : List V} {ds : List PyData}, OkAll T F vs ds → OkAll T F' vs ds
  | _, _, .nil => .nil
  | _, _, .cons h k => .cons (h.ex e) (k.ex e)
end
theorem OkAll.length : ∀ {vs : List V} {ds : List PyData}, OkAll T F vs ds → vs.length = ds.length
  | _, _, .nil => rfl
  | _, _, .cons _ k => by rw [List.length_cons, List.length_cons, k.length]
theorem OkAll.append : ∀ {vs ws : List V} {ds es : List PyData}, OkAll T F vs ds → OkAll T F ws es → OkAll T F (vs ++ ws) (ds ++ es)
  | _, _, _, _, .nil, q => q
  | _, _, _, _, .cons h k, q => .cons h (k.append q)
theorem OkAll.get : ∀ {vs : List V} {ds : List PyData} {i : Nat} {d : PyData}, OkAll T F vs ds → ds[i]? = some d → ∃ v, vs[i]? = some v ∧ Ok T F v d
  | _, _, _, _, .nil, e => by simp at e
  | _, _, 0, _, .cons h _, e => by simp at e; subst e; exact ⟨_, rfl, h⟩
  | _, _, i + 1, d, .cons _ k, e => by
    obtain ⟨v, h1, h2⟩ := OkAll.get (i := i) (d := d) k (by simpa using e)
    exact ⟨v, by simpa using h1, h2⟩
theorem OkAll.getV : ∀ {vs : List V} {ds : List PyData} {i : Nat} {v : V}, OkAll T F vs ds → vs[i]? = some v → ∃ d, ds[i]? = some d ∧ Ok T F v d
  | _, _, _, _, .nil, e => by simp at e
  | _, _, 0, _, .cons h _, e => by simp at e; subst e; exact ⟨_, rfl, h⟩
  | _, _, i + 1, v, .cons _ k, e => by
    obtain ⟨d, h1, h2⟩ := OkAll.getV (i := i) (v := v) k (by simpa using e)
    exact ⟨d, by simpa using h1, h2⟩
theorem OkAll.set : ∀ {vs : List V} {ds : List PyData} {i : Nat} {v : V} {d : PyData}, OkAll T F vs ds → Ok T F v d → OkAll T F (vs.set i v) (ds.set i d)
  | _, _, _, _, _, .nil, _ => .nil
  | _, _, 0, _, _, .cons _ k, q => .cons q k
  | _, _, i + 1, _, _, .cons h k, q => .cons h (k.set q)
theorem OkAll.take : ∀ {vs : List V} {ds : List PyData} (n : Nat), OkAll T F vs ds → OkAll T F (vs.take n) (ds.take n)
  | _, _, 0, _ => .nil
  | _, _, _ + 1, .nil => .nil
  | _, _, n + 1, .cons h k => .cons h (k.take n)
theorem OkAll.drop : ∀ {vs : List V} {ds : List PyData} (n : Nat), OkAll T F vs ds → OkAll T F (vs.drop n) (ds.drop n)
  | _, _, 0, h => h
  | _, _, _ + 1, .nil => .nil
  | _, _, n + 1, .cons _ k => k.drop n
theorem OkAll.reverse : ∀ {vs : List V} {ds : List PyData}, OkAll T F vs ds → OkAll T F vs.reverse ds.reverse
  | _, _, .nil => .nil
  | _, _, .cons h k => by
    rw [List.reverse_cons, List.reverse_cons]
    exact k.reverse.append (.cons h .nil)
theorem OkAll.rep {vs : List V} {ds : List PyData} (h : OkAll T F vs ds) : ∀ n : Nat, OkAll T F (List.replicate n vs).flatten (List.replicate n ds).flatten
  | 0 => .nil
  | n + 1 => by
    rw [List.replicate_succ, List.replicate_succ, List.flatten_cons, List.flatten_cons]
    exact h.append (h.rep n)
theorem OkAll.ints : ∀ {vs : List V} {ns : List Int}, OkAll T F vs (ns.map .int) → vs = ns.map V.int
  | _, [], .nil => rfl
  | _, n :: ns, .cons h k => by
    cases h
    rw [List.map_cons, k.ints]
theorem OkAll.of_ints : ∀ (ns : List Int), OkAll T F (ns.map V.int) (ns.map .int)
  | [] => .nil
  | n :: ns => .cons (.int n) (OkAll.of_ints ns)
theorem OkAll.bls : ∀ {vs : List V} {bs : List Bool}, OkAll T F vs (bs.map .bool) → vs = bs.map V.bl
  | _, [], .nil => rfl
  | _, n :: ns, .cons h k => by
    cases h
    rw [List.map_cons, k.bls]
theorem OkAll.cut {vs : List V} {ds : List PyData} (h : OkAll T F vs ds) (lo hi : Option Int) : OkAll T F (cutV vs lo hi) ((ds.drop (HT.sIx ds.length 0 lo)).take (HT.sIx ds.length ds.length hi - HT.sIx ds.length 0 lo)) := by
  unfold cutV
  rw [h.length]
  exact (h.drop _).take _

/- data without instances, dicts, the script -/
mutual
def plain : PyData → Bool
  | .dict _ => false
  | .list ds => plainAll ds
  | .tuple ds => plainAll ds
  | _ => true
def plainAll : List PyData → Bool
  | [] => true
  | d :: ds => plain d && plainAll ds
end
mutual
theorem Ok.dp : ∀ {v : V} {d : PyData}, Ok T F v d → plain d = true → Dp T.K F v d
  | _, _, .non, _ => .non
  | _, _, .bl b, _ => .bl b
  | _, _, .int i, _ => .int i
  | _, _, .str x, _ => .str x
  | _, _, .lst h k, p => .lst (SqL.of h) (k.dp (by simpa [plain] using p))
  | _, _, .tup h k, p => .tup h (k.dp (by simpa [plain] using p))
  | _, _, .way h1 h2 k, p => by simp [plain] at p
  | _, _, .nev h, p => by simp [plain] at p
  | _, _, .scr h, p => by simp [plain] at p
  | _, _, .dct h, p => by simp [plain] at p
theorem OkAll.dp : ∀ {vs : List V} {ds : List PyData}, OkAll T F vs ds → plainAll ds = true → DpAll T.K F vs ds
  | _, _, .nil, _ => .nil
  | _, _, .cons h k, p => by
    rw [plainAll, Bool.and_eq_true] at p
    exact .cons (h.dp p.1) (k.dp p.2)
end

/-! ### growth -/
/-- no tuple -/
def NoTup (o : HO) : Prop := ∀ vs, o ≠ .tup vs
structure Gr (F H F' H' : Hp) : Prop where
  ff : Ex F F'
  hh : Ex H H'
  sub : Ex F' H'
  new : ∀ a, F a = none → (∃ o, H a = some o ∧ NoTup o) → F' a = none
theorem Gr.refl (h : Ex F H) : Gr F H F H := ⟨Ex.refl F, Ex.refl H, h, fun _ h _ => h⟩
theorem Gr.trans {F1 H1 F2 H2 : Hp} (a : Gr F H F1 H1) (b : Gr F1 H1 F2 H2) : Gr F H F2 H2 :=
  ⟨a.ff.trans b.ff, a.hh.trans b.hh, b.sub, fun x h ⟨o, k, n⟩ => b.new x (a.new x h ⟨o, k, n⟩) ⟨o, a.hh x o k, n⟩⟩
theorem upd_ex {p : Addr} {o : HO} (e : Ex F H) : Ex (upd F p o) (upd H p o) := fun a u h => by
  by_cases q : a = p
  · subst q
    rw [upd_same] at h ⊢
    exact h
  · rw [upd_ne q] at h ⊢
    exact e a u h
/-- a new frozen object -/
theorem Gr.alloc {p : Addr} {o : HO} (e : Ex F H) (hp : H p = none) : Gr F H (upd F p o) (upd H p o) :=
  ⟨Ex.new (fresh_back e hp), Ex.new hp, upd_ex e, fun a h ⟨u, k, _⟩ => by rw [upd_ne (ne_of_none k hp)]; exact h⟩
/-- a new object, not frozen -/
theorem Gr.lay {p : Addr} {o : HO} (e : Ex F H) (hp : H p = none) : Gr F H F (upd H p o) :=
  ⟨Ex.refl F, Ex.new hp, Ex.trans e (Ex.new hp), fun _ h _ => h⟩
/-- frozen afterwards -/
theorem Gr.freeze {p : Addr} {o : HO} (g : Gr F H F' H') (hp : H p = none) (hf : F' p = none) (ho : H' p = some o) : Gr F H (upd F' p o) H' :=
  ⟨g.ff.trans (Ex.new hf), g.hh, fun a u h => by
    by_cases q : a = p
    · subst q
      rw [upd_same] at h
      rw [ho]
      exact h
    · rw [upd_ne q] at h
      exact g.sub a u h, fun a h ⟨u, k, n⟩ => by rw [upd_ne (ne_of_none k hp)]; exact g.new a h ⟨u, k, n⟩⟩
/-- an object that did not stand at the entry changes -/
theorem Gr.mut {p : Addr} {o : HO} (g : Gr F H F' H') (hp : H p = none) (hf : F' p = none) : Gr F H F' (upd H' p o) :=
  ⟨g.ff, g.hh.mut hp, fun a u h => by rw [upd_ne (ne_of_none h hf)]; exact g.sub a u h, g.new⟩

/-! ### the names' data -/
inductive Sl where
  | no
  | dat (d : PyData)
  | own (ds : List PyData)
  /-- an answer whose list of counts is its own -/
  | oway (ds : List PyData)
  /-- a dict of its own, with tuples for keys -/
  | odic (p : Option Addr) (ho : HO)
  /-- a tuple made here -/
  | tpl (ds : List PyData)
  /-- an error in hand -/
  | ad (a : Addr)
def SlOk (T : Tx) (H0 F H : Hp) (o : Option (Option V)) : Sl → Prop
  | .no => True
  | .dat d => ∃ v, o = some (some v) ∧ Ok T F v d
  | .own ds => ∃ l vs, o = some (some (.ref l)) ∧ H0 l = none ∧ F l = none ∧ H l = some (.lst vs) ∧ OkAll T F vs ds
  | .oway ds => ∃ x dx l vs, o = some (some (.ref x)) ∧ F x = some (.ins T.CW dx [("counts", .ref l)]) ∧ H0 l = none ∧ F l = none ∧ H l = some (.lst vs) ∧ OkAll T F vs ds
  | .odic p ho => ∃ l, o = some (some (.ref l)) ∧ H0 l = none ∧ F l = none ∧ H l = some ho ∧ NoTup ho ∧ (p = none ∨ p = some l)
  | .tpl ds => ∃ b vs, o = some (some (.ref b)) ∧ F b = some (.tup vs) ∧ OkAll T F vs ds
  | .ad a => o = some (some (.ref a))
/-- the list that a slot owns -/
def Owns (T : Tx) (F : Hp) (o : Option (Option V)) (l : Addr) : Sl → Prop
  | .own _ => o = some (some (.ref l))
  | .oway _ => ∃ x dx, o = some (some (.ref x)) ∧ F x = some (.ins T.CW dx [("counts", .ref l)])
  | .odic _ _ => o = some (some (.ref l))
  | _ => False
structure En (T : Tx) (F0 H0 F H : Hp) (σ : L2.St) (ρ : List Sl) : Prop where
  gr : Gr F0 H0 F H
  len : σ.length = ρ.length
  ok : ∀ (i : Nat) (s : Sl), ρ[i]? = some s → SlOk T H0 F H σ[i]? s
  sep : ∀ (i j : Nat) (l : Addr) (s t : Sl), i ≠ j → ρ[i]? = some s → ρ[j]? = some t → Owns T F σ[i]? l s → Owns T F σ[j]? l t → False
theorem SlOk.mono {o : Option (Option V)} {s : Sl} (g : Gr F H F' H') (h : SlOk T H0 F H o s) : SlOk T H0 F' H' o s := by
  cases s with
  | no => trivial
  | dat d =>
    obtain ⟨v, e, k⟩ := h
    exact ⟨v, e, k.ex g.ff⟩
  | own ds =>
    obtain ⟨l, vs, e, h1, h2, h3, k⟩ := h
    exact ⟨l, vs, e, h1, g.new l h2 ⟨_, h3, fun _ z => nomatch z⟩, g.hh _ _ h3, k.ex g.ff⟩
  | oway ds =>
    obtain ⟨x, dx, l, vs, e, h0, h1, h2, h3, k⟩ := h
    exact ⟨x, dx, l, vs, e, g.ff _ _ h0, h1, g.new l h2 ⟨_, h3, fun _ z => nomatch z⟩, g.hh _ _ h3, k.ex g.ff⟩
  | odic p ho =>
    obtain ⟨l, e, h1, h2, h3, h4, h5⟩ := h
    exact ⟨l, e, h1, g.new l h2 ⟨_, h3, h4⟩, g.hh _ _ h3, h4, h5⟩
  | tpl ds =>
    obtain ⟨b, vs, e, h1, k⟩ := h
    exact ⟨b, vs, e, g.ff _ _ h1, k.ex g.ff⟩
  | ad a => exact h
/-- who owns what does not hang on the frozen part's growth -/
theorem Owns.back {o : Option (Option V)} {s : Sl} {l : Addr} (e : Ex F F') (k : SlOk T H0 F H o s) (h : Owns T F' o l s) : Owns T F o l s := by
  cases s with
  | no => exact h
  | dat d => exact h
  | own ds => exact h
  | oway ds =>
    obtain ⟨x, dx, l', vs, e1, h0, _⟩ := k
    obtain ⟨x', dx', e2, h2⟩ := h
    rw [e1] at e2
    cases e2
    rw [e _ _ h0] at h2
    cases h2
    exact ⟨x, dx, e1, h0⟩
  | odic p ho => exact h
  | tpl ds => exact h
  | ad a => exact h
theorem En.mono {F0 H0 : Hp} {σ : L2.St} {ρ : List Sl} (E : En T F0 H0 F H σ ρ) (g : Gr F H F' H') : En T F0 H0 F' H' σ ρ :=
  ⟨E.gr.trans g, E.len, fun i s h => (E.ok i s h).mono g, fun i j l s t n h1 h2 k1 k2 => E.sep i j l s t n h1 h2 (k1.back g.ff (E.ok i s h1)) (k2.back g.ff (E.ok j t h2))⟩
theorem En.sub {F0 H0 : Hp} {σ : L2.St} {ρ : List Sl} (E : En T F0 H0 F H σ ρ) : Ex F H := E.gr.sub
/-- an owned list stands there -/
theorem Owns.here {o : Option (Option V)} {s : Sl} {l : Addr} (k : SlOk T H0 F H o s) (h : Owns T F o l s) : H0 l = none ∧ F l = none ∧ ∃ ho, H l = some ho := by
  cases s with
  | no => exact h.elim
  | dat d => exact h.elim
  | own ds =>
    obtain ⟨l', vs, e, h1, h2, h3, _⟩ := k
    have e2 : o = some (some (.ref l)) := h
    rw [e] at e2
    cases e2
    exact ⟨h1, h2, _, h3⟩
  | oway ds =>
    obtain ⟨x, dx, l', vs, e, h0, h1, h2, h3, _⟩ := k
    obtain ⟨x', dx', e2, h4⟩ := h
    rw [e] at e2
    cases e2
    rw [h0] at h4
    cases h4
    exact ⟨h1, h2, _, h3⟩
  | odic p ho =>
    obtain ⟨l', e, h1, h2, h3, _⟩ := k
    have e2 : o = some (some (.ref l)) := h
    rw [e] at e2
    cases e2
    exact ⟨h1, h2, _, h3⟩
  | tpl ds => exact h.elim
  | ad a => exact h.elim

/-- a slot gets data -/
theorem En.setD {F0 H0 : Hp} {σ : L2.St} {ρ : List Sl} (E : En T F0 H0 F H σ ρ) {i : Nat} {v : V} {d : PyData} (h : Ok T F v d) : En T F0 H0 F H (σ.set i (some v)) (ρ.set i (.dat d)) := by
  refine ⟨E.gr, by rw [List.length_set, List.length_set, E.len], fun j s hj => ?_, fun j k l s t n h1 h2 k1 k2 => ?_⟩
  · by_cases e : i = j
    · subst e
      have hl : i < ρ.length := by
        have q := (List.getElem?_eq_some_iff.mp hj).1
        rw [List.length_set] at q
        exact q
      rw [List.getElem?_set_self hl] at hj
      cases hj
      exact ⟨v, List.getElem?_set_self (by rw [E.len]; exact hl), h⟩
    · rw [List.getElem?_set_ne e] at hj
      rw [List.getElem?_set_ne e]
      exact E.ok j s hj
  · have a : ∀ {j : Nat} {s : Sl}, (ρ.set i (.dat d))[j]? = some s → Owns T F (σ.set i (some v))[j]? l s → ρ[j]? = some s ∧ Owns T F σ[j]? l s := fun {j s} hj ho => by
      by_cases e : i = j
      · subst e
        have hl : i < ρ.length := by
          have q := (List.getElem?_eq_some_iff.mp hj).1
          rw [List.length_set] at q
          exact q
        rw [List.getElem?_set_self hl] at hj
        cases hj
        exact ho.elim
      · rw [List.getElem?_set_ne e] at hj
        rw [List.getElem?_set_ne e] at ho
        exact ⟨hj, ho⟩
    obtain ⟨a1, a2⟩ := a h1 k1
    obtain ⟨b1, b2⟩ := a h2 k2
    exact E.sep j k l s t n a1 b1 a2 b2
/-- a slot gets a thing whose list nobody else owns -/
theorem En.setS {F0 H0 : Hp} {σ : L2.St} {ρ : List Sl} (E : En T F0 H0 F H σ ρ) {i : Nat} {v : V} {s : Sl} (h : SlOk T H0 F H (some (some v)) s)
    (hn : ∀ (j : Nat) (t : Sl) (l : Addr), j ≠ i → ρ[j]? = some t → Owns T F σ[j]? l t → Owns T F (some (some v)) l s → False) : En T F0 H0 F H (σ.set i (some v)) (ρ.set i s) := by
  refine ⟨E.gr, by rw [List.length_set, List.length_set, E.len], fun j t hj => ?_, fun j k l t u n h1 h2 k1 k2 => ?_⟩
  · by_cases e : i = j
    · subst e
      have hl : i < ρ.length := by
        have q := (List.getElem?_eq_some_iff.mp hj).1
        rw [List.length_set] at q
        exact q
      rw [List.getElem?_set_self hl] at hj
      cases hj
      rw [List.getElem?_set_self (by rw [E.len]; exact hl)]
      exact h
    · rw [List.getElem?_set_ne e] at hj
      rw [List.getElem?_set_ne e]
      exact E.ok j t hj
  · have a : ∀ {j : Nat} {t : Sl}, (ρ.set i s)[j]? = some t → Owns T F (σ.set i (some v))[j]? l t → (j ≠ i ∧ ρ[j]? = some t ∧ Owns T F σ[j]? l t) ∨ (j = i ∧ Owns T F (some (some v)) l s) := fun {j t} hj ho => by
      by_cases e : i = j
      · subst e
        have hl : i < ρ.length := by
          have q := (List.getElem?_eq_some_iff.mp hj).1
          rw [List.length_set] at q
          exact q
        rw [List.getElem?_set_self hl] at hj
        cases hj
        rw [List.getElem?_set_self (by rw [E.len]; exact hl)] at ho
        exact .inr ⟨rfl, ho⟩
      · rw [List.getElem?_set_ne e] at hj
        rw [List.getElem?_set_ne e] at ho
        exact .inl ⟨Ne.symm e, hj, ho⟩
    rcases a h1 k1 with ⟨a0, a1, a2⟩ | ⟨a1, a2⟩
    · rcases a h2 k2 with ⟨b0, b1, b2⟩ | ⟨b1, b2⟩
      · exact E.sep j k l t u n a1 b1 a2 b2
      · exact hn j t l a0 a1 a2 b2
    · rcases a h2 k2 with ⟨b0, b1, b2⟩ | ⟨b1, b2⟩
      · exact hn k u l b0 b1 b2 a2
      · exact n (a1.trans b1.symm)
/-- a slot gets a new list of its own -/
theorem En.setO {F0 H0 : Hp} {σ : L2.St} {ρ : List Sl} (E : En T F0 H0 F H σ ρ) {F1 H1 : Hp} (g : Gr F H F1 H1) {i : Nat} {l : Addr} {vs : List V} {ds : List PyData} (h0 : H l = none) (h1 : F1 l = none) (h2 : H1 l = some (.lst vs)) (h3 : OkAll T F1 vs ds) :
    En T F0 H0 F1 H1 (σ.set i (some (.ref l))) (ρ.set i (.own ds)) := by
  refine (E.mono g).setS ⟨l, vs, rfl, fresh_back E.gr.hh h0, h1, h2, h3⟩ fun j t l' hj ht ho hq => ?_
  cases hq
  obtain ⟨_, _, vs', h4⟩ := (ho.back g.ff (E.ok j t ht)).here (E.ok j t ht)
  rw [h0] at h4
  cases h4
/-- the list that slot i owns changes -/
theorem En.change {F0 H0 : Hp} {σ : L2.St} {ρ : List Sl} (E : En T F0 H0 F H σ ρ) {i : Nat} {l : Addr} {vs' : List V} {ds ds' : List PyData} (hi : ρ[i]? = some (.own ds)) (hl : σ[i]? = some (some (.ref l))) (k : OkAll T F vs' ds') :
    En T F0 H0 F (upd H l (.lst vs')) σ (ρ.set i (.own ds')) := by
  obtain ⟨l', vs, e, a1, a2, a3, a4⟩ := E.ok i _ hi
  rw [hl] at e
  cases e
  refine ⟨E.gr.mut a1 a2, by rw [List.length_set, E.len], fun j s hj => ?_, fun j k l2 s t n h1 h2 k1 k2 => ?_⟩
  · by_cases e : i = j
    · subst e
      rw [List.getElem?_set_self ((List.getElem?_eq_some_iff.mp hi).1)] at hj
      cases hj
      exact ⟨l, vs', hl, a1, a2, upd_same, k⟩
    · rw [List.getElem?_set_ne e] at hj
      have z := E.ok j s hj
      cases s with
      | no => trivial
      | dat d => exact z
      | own es =>
        obtain ⟨l2, ws, e2, b1, b2, b3, b4⟩ := z
        refine ⟨l2, ws, e2, b1, b2, ?_, b4⟩
        rw [upd_ne (fun q => E.sep i j l _ _ e hi hj hl (by rw [← q]; exact e2))]
        exact b3
      | oway es =>
        obtain ⟨x, dx, l2, ws, e2, b0, b1, b2, b3, b4⟩ := z
        refine ⟨x, dx, l2, ws, e2, b0, b1, b2, ?_, b4⟩
        rw [upd_ne (fun q => E.sep i j l _ _ e hi hj hl ⟨x, dx, e2, by rw [← q]; exact b0⟩)]
        exact b3
      | odic p ho =>
        obtain ⟨l2, e2, b1, b2, b3, b4⟩ := z
        refine ⟨l2, e2, b1, b2, ?_, b4⟩
        rw [upd_ne (fun q => E.sep i j l _ _ e hi hj hl (by rw [← q]; exact e2))]
        exact b3
      | tpl es => exact z
      | ad a => exact z
  · have a : ∀ {j : Nat} {s : Sl}, (ρ.set i (.own ds'))[j]? = some s → Owns T F σ[j]? l2 s → ∃ t, ρ[j]? = some t ∧ Owns T F σ[j]? l2 t := fun {j s} hj ho => by
      by_cases e : i = j
      · subst e
        rw [List.getElem?_set_self ((List.getElem?_eq_some_iff.mp hi).1)] at hj
        cases hj
        exact ⟨_, hi, ho⟩
      · rw [List.getElem?_set_ne e] at hj
        exact ⟨s, hj, ho⟩
    obtain ⟨s', a1, a2⟩ := a h1 k1
    obtain ⟨t', b1, b2⟩ := a h2 k2
    exact E.sep j k l2 s' t' n a1 b1 a2 b2
/-- an owned list is frozen for good -/
theorem En.froze {F0 H0 : Hp} {σ : L2.St} {ρ : List Sl} (E : En T F0 H0 F H σ ρ) {i : Nat} {ds : List PyData} (hi : ρ[i]? = some (.own ds)) : ∃ F', En T F0 H0 F' H σ (ρ.set i (.dat (.list ds))) ∧ Ex F F' := by
  obtain ⟨l, vs, e, a1, a2, a3, a4⟩ := E.ok i _ hi
  have ex : Ex F (upd F l (.lst vs)) := Ex.new a2
  refine ⟨upd F l (.lst vs), ⟨E.gr.freeze a1 a2 a3, by rw [List.length_set, E.len], fun j s hj => ?_, fun j k l2 s t n h1 h2 k1 k2 => ?_⟩, ex⟩
  · by_cases q : i = j
    · subst q
      rw [List.getElem?_set_self ((List.getElem?_eq_some_iff.mp hi).1)] at hj
      cases hj
      exact ⟨.ref l, e, .lst upd_same (a4.ex ex)⟩
    · rw [List.getElem?_set_ne q] at hj
      have z := E.ok j s hj
      cases s with
      | no => trivial
      | dat d =>
        obtain ⟨v, e2, b⟩ := z
        exact ⟨v, e2, b.ex ex⟩
      | own es =>
        obtain ⟨l2, ws, e2, b1, b2, b3, b4⟩ := z
        refine ⟨l2, ws, e2, b1, ?_, b3, b4.ex ex⟩
        rw [upd_ne (fun q' => E.sep i j l _ _ q hi hj e (by rw [← q']; exact e2))]
        exact b2
      | oway es =>
        obtain ⟨x, dx, l2, ws, e2, b0, b1, b2, b3, b4⟩ := z
        refine ⟨x, dx, l2, ws, e2, ex _ _ b0, b1, ?_, b3, b4.ex ex⟩
        rw [upd_ne (fun q' => E.sep i j l _ _ q hi hj e ⟨x, dx, e2, by rw [← q']; exact b0⟩)]
        exact b2
      | odic p ho =>
        obtain ⟨l2, e2, b1, b2, b3⟩ := z
        refine ⟨l2, e2, b1, ?_, b3⟩
        rw [upd_ne (fun q' => E.sep i j l _ _ q hi hj e (by rw [← q']; exact e2))]
        exact b2
      | tpl es =>
        obtain ⟨b, ws, e2, b1, b2⟩ := z
        exact ⟨b, ws, e2, ex _ _ b1, b2.ex ex⟩
      | ad a => exact z
  · have a : ∀ {j : Nat} {s : Sl}, (ρ.set i (.dat (.list ds)))[j]? = some s → Owns T (upd F l (.lst vs)) σ[j]? l2 s → ρ[j]? = some s ∧ Owns T F σ[j]? l2 s := fun {j s} hj ho => by
      by_cases q : i = j
      · subst q
        rw [List.getElem?_set_self ((List.getElem?_eq_some_iff.mp hi).1)] at hj
        cases hj
        exact ho.elim
      · rw [List.getElem?_set_ne q] at hj
        exact ⟨hj, ho.back ex (E.ok j s hj)⟩
    obtain ⟨a1, a2⟩ := a h1 k1
    obtain ⟨b1, b2⟩ := a h2 k2
    exact E.sep j k l2 s t n a1 b1 a2 b2
/-- .. and an owned answer's list -/
theorem En.frozeW {F0 H0 : Hp} {σ : L2.St} {ρ : List Sl} (E : En T F0 H0 F H σ ρ) {i : Nat} {ds : List PyData} (hi : ρ[i]? = some (.oway ds)) : ∃ F', En T F0 H0 F' H σ (ρ.set i (.dat (wayD ds))) ∧ Ex F F' := by
  obtain ⟨x, dx, l, vs, e, a0, a1, a2, a3, a4⟩ := E.ok i _ hi
  have ex : Ex F (upd F l (.lst vs)) := Ex.new a2
  refine ⟨upd F l (.lst vs), ⟨E.gr.freeze a1 a2 a3, by rw [List.length_set, E.len], fun j s hj => ?_, fun j k l2 s t n h1 h2 k1 k2 => ?_⟩, ex⟩
  · by_cases q : i = j
    · subst q
      rw [List.getElem?_set_self ((List.getElem?_eq_some_iff.mp hi).1)] at hj
      cases hj
      exact ⟨.ref x, e, .way (ex _ _ a0) upd_same (a4.ex ex)⟩
    · rw [List.getElem?_set_ne q] at hj
      have z := E.ok j s hj
      cases s with
      | no => trivial
      | dat d =>
        obtain ⟨v, e2, b⟩ := z
        exact ⟨v, e2, b.ex ex⟩
      | own es =>
        obtain ⟨l2, ws, e2, b1, b2, b3, b4⟩ := z
        refine ⟨l2, ws, e2, b1, ?_, b3, b4.ex ex⟩
        rw [upd_ne (fun q' => E.sep i j l _ _ q hi hj ⟨x, dx, e, a0⟩ (by rw [← q']; exact e2))]
        exact b2
      | oway es =>
        obtain ⟨x2, dx2, l2, ws, e2, b0, b1, b2, b3, b4⟩ := z
        refine ⟨x2, dx2, l2, ws, e2, ex _ _ b0, b1, ?_, b3, b4.ex ex⟩
        rw [upd_ne (fun q' => E.sep i j l _ _ q hi hj ⟨x, dx, e, a0⟩ ⟨x2, dx2, e2, by rw [← q']; exact b0⟩)]
        exact b2
      | odic p ho =>
        obtain ⟨l2, e2, b1, b2, b3⟩ := z
        refine ⟨l2, e2, b1, ?_, b3⟩
        rw [upd_ne (fun q' => E.sep i j l _ _ q hi hj ⟨x, dx, e, a0⟩ (by rw [← q']; exact e2))]
        exact b2
      | tpl es =>
        obtain ⟨b, ws, e2, b1, b2⟩ := z
        exact ⟨b, ws, e2, ex _ _ b1, b2.ex ex⟩
      | ad a => exact z
  · have a : ∀ {j : Nat} {s : Sl}, (ρ.set i (.dat (wayD ds)))[j]? = some s → Owns T (upd F l (.lst vs)) σ[j]? l2 s → ρ[j]? = some s ∧ Owns T F σ[j]? l2 s := fun {j s} hj ho => by
      by_cases q : i = j
      · subst q
        rw [List.getElem?_set_self ((List.getElem?_eq_some_iff.mp hi).1)] at hj
        cases hj
        exact ho.elim
      · rw [List.getElem?_set_ne q] at hj
        exact ⟨hj, ho.back ex (E.ok j s hj)⟩
    obtain ⟨a1, a2⟩ := a h1 k1
    obtain ⟨b1, b2⟩ := a h2 k2
    exact E.sep j k l2 s t n a1 b1 a2 b2
end
end LW
set_option Elab.async false
set_option linter.all false
set_option maxRecDepth 100000
set_option maxHeartbeats 4000000
namespace LW
open PySem PySem.Spec L2 Evl

/-! ### judgements -/
/-- te is worth d -/
def EvD (T : Tx) (te : TE) (ρ : List Sl) (d : PyData) : Prop := ∀ (σ : L2.St) (F0 H0 F H : Hp), En T F0 H0 F H σ ρ → ∀ Q : VK, (∀ v F1 H1, Gr F H F1 H1 → Ok T F1 v d → Q v H1) → te σ H Q
/-- .. as things stand now -/
def EvB (T : Tx) (te : TE) (ρ : List Sl) (d : PyData) : Prop := ∀ (σ : L2.St) (F0 H0 F H : Hp), En T F0 H0 F H σ ρ → ∀ Q : VK, (∀ v F1 H1, Gr F H F1 H1 → Ok T H1 v d → Q v H1) → te σ H Q
/-- a new list of such -/
def EvO (T : Tx) (te : TE) (ρ : List Sl) (ds : List PyData) : Prop := ∀ (σ : L2.St) (F0 H0 F H : Hp), En T F0 H0 F H σ ρ → ∀ Q : VK, (∀ l vs F1 H1, Gr F H F1 H1 → H l = none → F1 l = none → H1 l = some (.lst vs) → OkAll T F1 vs ds → Q (.ref l) H1) → te σ H Q
def EvT (T : Tx) (tt : TT) (ρ : List Sl) (b : Bool) : Prop := ∀ (σ : L2.St) (F0 H0 F H : Hp), En T F0 H0 F H σ ρ → ∀ Q : Bool → Hp → Prop, (∀ F1 H1, Gr F H F1 H1 → Q b H1) → tt σ H Q
def EvA (T : Tx) (ta : TA) (ρ : List Sl) (ds : List PyData) : Prop := ∀ (σ : L2.St) (F0 H0 F H : Hp), En T F0 H0 F H σ ρ → ∀ Q : List V → Hp → Prop, (∀ vs F1 H1, Gr F H F1 H1 → OkAll T F1 vs ds → Q vs H1) → ta σ H Q
def EvBA (T : Tx) (ta : TA) (ρ : List Sl) (ds : List PyData) : Prop := ∀ (σ : L2.St) (F0 H0 F H : Hp), En T F0 H0 F H σ ρ → ∀ Q : List V → Hp → Prop, (∀ vs F1 H1, Gr F H F1 H1 → OkAll T H1 vs ds → Q vs H1) → ta σ H Q
def EvP (T : Tx) (to : TO) (ρ : List Sl) (o : Option Int) : Prop := ∀ (σ : L2.St) (F0 H0 F H : Hp), En T F0 H0 F H σ ρ → ∀ Q : Option Int → Hp → Prop, (∀ F1 H1, Gr F H F1 H1 → Q o H1) → to σ H Q
/-- a two-place operation on data: r on anything that is x and y -/
def RvD (T : Tx) (r : R2) (x y z : PyData) : Prop := ∀ (F H : Hp) (v u : V), Ex F H → Ok T F v x → Ok T F u y → ∀ Q : VK, (∀ w F1 H1, Gr F H F1 H1 → Ok T F1 w z → Q w H1) → r v u H Q
/-- .. whose answer is flat and does not hang on what is frozen -/
def RvB (T : Tx) (r : R2) (x y z : PyData) : Prop := ∀ (H : Hp) (v u : V), Ok T H v x → Ok T H u y → ∀ Q : VK, (∀ w, (∀ F, Ok T F w z) → Q w H) → r v u H Q
def RcD (T : Tx) (r : List V → Hp → VK → Prop) (ds : List PyData) (z : PyData) : Prop := ∀ (F H : Hp) (vs : List V), Ex F H → OkAll T F vs ds → ∀ Q : VK, (∀ w F1 H1, Gr F H F1 H1 → Ok T F1 w z → Q w H1) → r vs H Q
def RcB (T : Tx) (r : List V → Hp → VK → Prop) (ds : List PyData) (z : PyData) : Prop := ∀ (H : Hp) (vs : List V), OkAll T H vs ds → ∀ Q : VK, (∀ w, (∀ F, Ok T F w z) → Q w H) → r vs H Q

section
variable {T : Tx} {ρ : List Sl} {ta tb tc te : TE} {t u : TT} {d x y z : PyData} {ds es : List PyData}
theorem EvD.toB (h : EvD T te ρ d) : EvB T te ρ d := fun σ F0 H0 F H E Q q => h σ F0 H0 F H E Q fun v F1 H1 g k => q v F1 H1 g (k.ex g.sub)
theorem EvO.toD (h : EvO T te ρ ds) : EvD T te ρ (.list ds) := fun σ F0 H0 F H E Q q => h σ F0 H0 F H E Q fun l vs F1 H1 g h0 h1 h2 k =>
  q (.ref l) (upd F1 l (.lst vs)) H1 (g.freeze h0 h1 h2) (.lst upd_same (k.ex (Ex.new h1)))
theorem EvD.is (h : EvD T te ρ d) (e : d = z) : EvD T te ρ z := e ▸ h
theorem EvB.is (h : EvB T te ρ d) (e : d = z) : EvB T te ρ z := e ▸ h
theorem EvO.is (h : EvO T te ρ ds) (e : ds = es) : EvO T te ρ es := e ▸ h
theorem EvT.is {b c : Bool} (h : EvT T t ρ b) (e : b = c) : EvT T t ρ c := e ▸ h

/-! ### names, constants -/
theorem ed_var {i : Nat} (h : ρ[i]? = some (.dat d)) : EvD T (tVar i) ρ d := fun σ F0 H0 F H E Q q => by
  obtain ⟨v, e, k⟩ := E.ok i _ h
  exact ⟨v, e, q v F H (Gr.refl E.sub) k⟩
theorem eb_own {i : Nat} (h : ρ[i]? = some (.own ds)) : EvB T (tVar i) ρ (.list ds) := fun σ F0 H0 F H E Q q => by
  obtain ⟨l, vs, e, h1, h2, h3, k⟩ := E.ok i _ h
  exact ⟨.ref l, e, q (.ref l) F H (Gr.refl E.sub) (.lst h3 (k.ex E.sub))⟩
theorem eb_oway {i : Nat} (h : ρ[i]? = some (.oway ds)) : EvB T (tVar i) ρ (wayD ds) := fun σ F0 H0 F H E Q q => by
  obtain ⟨x, dx, l, vs, e, h0, h1, h2, h3, k⟩ := E.ok i _ h
  exact ⟨.ref x, e, q (.ref x) F H (Gr.refl E.sub) (.way (E.sub _ _ h0) h3 (k.ex E.sub))⟩
theorem ed_int {i : Int} : EvD T (tC (.int i)) ρ (.int i) := fun σ F0 H0 F H E Q q => q _ F H (Gr.refl E.sub) (.int i)
theorem ed_bl {b : Bool} : EvD T (tC (.bl b)) ρ (.bool b) := fun σ F0 H0 F H E Q q => q _ F H (Gr.refl E.sub) (.bl b)
theorem ed_non : EvD T (tC .non) ρ .none := fun σ F0 H0 F H E Q q => q _ F H (Gr.refl E.sub) .non
theorem ed_str {x : Str} : EvD T (tC (.str x)) ρ (.str x) := fun σ F0 H0 F H E Q q => q _ F H (Gr.refl E.sub) (.str x)
/-- a written constant of the module -/
theorem ed_glob {v : V} (h : ∀ F, Ok T F v d) : EvD T (tC v) ρ d := fun σ F0 H0 F H E Q q => q _ F H (Gr.refl E.sub) (h F)

/-! ### operations -/
theorem ed_op {r : R2} (ha : EvD T ta ρ x) (hb : EvD T tb ρ y) (hr : RvD T r x y z) : EvD T (tOp r ta tb) ρ z := fun σ F0 H0 F H E Q q =>
  ha σ F0 H0 F H E _ fun v F1 H1 g1 k1 => hb σ F0 H0 F1 H1 (E.mono g1) _ fun u F2 H2 g2 k2 => hr F2 H2 v u g2.sub (k1.ex g2.ff) k2 Q fun w F3 H3 g3 k3 => q w F3 H3 ((g1.trans g2).trans g3) k3
theorem ed_opB {r : R2} (ha : EvB T ta ρ x) (hb : EvB T tb ρ y) (hr : RvB T r x y z) : EvD T (tOp r ta tb) ρ z := fun σ F0 H0 F H E Q q =>
  ha σ F0 H0 F H E _ fun v F1 H1 g1 k1 => hb σ F0 H0 F1 H1 (E.mono g1) _ fun u F2 H2 g2 k2 => hr H2 v u (k1.ex g2.hh) k2 Q fun w k3 => q w F2 H2 (g1.trans g2) (k3 F2)
theorem rv_int {g : Int → Int → Int} {i j : Int} : RvD T (rI0 fun i j => .int (g i j)) (.int i) (.int j) (.int (g i j)) := fun F H v u e k1 k2 Q q => by
  cases k1; cases k2
  exact ⟨i, j, rfl, rfl, q _ F H (Gr.refl e) (.int _)⟩
theorem rv_intC {C : Int → Int → Prop} {g : Int → Int → Int} {i j : Int} (hc : C i j) : RvD T (rI C fun i j => .int (g i j)) (.int i) (.int j) (.int (g i j)) := fun F H v u e k1 k2 Q q => by
  cases k1; cases k2
  exact ⟨i, j, rfl, rfl, hc, q _ F H (Gr.refl e) (.int _)⟩
theorem rv_cmp {g : Int → Int → Bool} {i j : Int} : RvD T (rI0 fun i j => .bl (g i j)) (.int i) (.int j) (.bool (g i j)) := fun F H v u e k1 k2 Q q => by
  cases k1; cases k2
  exact ⟨i, j, rfl, rfl, q _ F H (Gr.refl e) (.bl _)⟩
theorem RvD.left {r r' : R2} (h : RvD T r x y z) : RvD T (fun x y H Q => r x y H Q ∨ r' x y H Q) x y z := fun F H v u e k1 k2 Q q => .inl (h F H v u e k1 k2 Q q)
theorem RvD.right {r r' : R2} (h : RvD T r' x y z) : RvD T (fun x y H Q => r x y H Q ∨ r' x y H Q) x y z := fun F H v u e k1 k2 Q q => .inr (h F H v u e k1 k2 Q q)
theorem sz {n : Nat} (h : n ≤ 100000) : n ≤ sizeLine := Nat.le_trans h (by decide)
theorem szl {n : Nat} (h : n < 100000) : n < sizeLine := Nat.lt_of_lt_of_le h (by decide)

/-! the operators of the layer: one name each, whatever the kinds -/
def CMulX (i j : Int) : Prop := i.natAbs.log2 + j.natAbs.log2 < 100000000
theorem CMulX.ok {i j : Int} (h : CMulX i j) : IntMulOk i j := by
  have b : ∀ x : Int, Builtin.Int.intBits x ≤ x.natAbs.log2 + 1 := fun x => by
    unfold Builtin.Int.intBits
    split <;> omega
  have h1 := b i
  have h2 := b j
  have h3 : i.natAbs.log2 + j.natAbs.log2 < 100000000 := h
  have e : bitsLine = 134217728 := by decide
  unfold IntMulOk
  intro z
  rw [Bool.and_eq_true] at z
  have z2 := z.2
  unfold Builtin.Int.intTooBig at z2
  have z3 := of_decide_eq_true z2
  rw [e] at z3
  omega
def rAddI : R2 := rI0 fun i j => .int (i + j)
def rSubI : R2 := rI0 fun i j => .int (i - j)
def rMulI : R2 := rI CMulX fun i j => .int (i * j)
def rDivI : R2 := rI CDivW fun i j => .int (i / j)
def rModI : R2 := rI (fun _ j => 0 < j) fun i j => .int (i % j)
def rPowI : R2 := rI CPow fun i j => .int (i ^ j.toNat)
def rLtI : R2 := rI0 fun i j => .bl (decide (i < j))
def rLeI : R2 := rI0 fun i j => .bl (decide (i ≤ j))
def rGtI : R2 := rI0 fun i j => .bl (decide (j < i))
def rGeI : R2 := rI0 fun i j => .bl (decide (j ≤ i))
def rAddA : R2 := fun x y H Q => rAddI x y H Q ∨ rCat x y H Q
def rMulA : R2 := fun x y H Q => rMulI x y H Q ∨ rRep x y H Q
def rIxA (K : PySem.W.Frag) : R2 := fun x y H Q => rIxL K x y H Q ∨ rIxT K x y H Q
section
variable {X : Cx}
theorem op_mulX : OpR X (binaryOp .Mult) rMulI := opI fun _ _ _ _ _ _ _ hc q => PyProof.Rows.mul_int q hc.ok
theorem op_addA : OpR X (binaryOp .Add) rAddA := op_add.or op_cat
theorem op_mulA : OpR X (binaryOp .Mult) rMulA := op_mulX.or op_rep
theorem op_subA : OpR X (binaryOp .Sub) rSubI := op_sub
theorem op_divA : OpR X (binaryOp .FloorDiv) rDivI := op_fdivW
theorem op_modA : OpR X (binaryOp .Mod) rModI := op_mod
theorem op_powA : OpR X (binaryOp .Pow) rPowI := op_pow
theorem op_ltA : OpR X (compareOp .Lt) rLtI := op_lt
theorem op_leA : OpR X (compareOp .LtE) rLeI := op_le
theorem op_gtA : OpR X (compareOp .Gt) rGtI := op_gt
theorem op_geA : OpR X (compareOp .GtE) rGeI := op_ge
theorem ix_A : IxR X (rIxA X.K) := ix_list.or ix_tup
end
theorem rv_add {i j : Int} : RvD T rAddA (.int i) (.int j) (.int (i + j)) := RvD.left rv_int
theorem rv_cat {xs ys : List PyData} (h : xs.length + ys.length ≤ 100000) : RvD T rAddA (.list xs) (.list ys) (.list (xs ++ ys)) := RvD.right fun F H v u e k1 k2 Q q => by
  cases k1 with
  | lst h1 a1 =>
    cases k2 with
    | lst h2 a2 =>
      refine ⟨_, _, _, _, rfl, rfl, e _ _ h1, e _ _ h2, by rw [a1.length, a2.length]; exact sz h, fun p hp => ?_⟩
      exact q _ _ _ (Gr.alloc e hp) (.lst upd_same ((a1.append a2).ex (Gr.alloc e hp).ff))
theorem rv_sub {i j : Int} : RvD T rSubI (.int i) (.int j) (.int (i - j)) := rv_int
theorem rv_mul {i j : Int} (h : CMulX i j) : RvD T rMulA (.int i) (.int j) (.int (i * j)) := RvD.left (rv_intC h)
theorem rv_rep {xs : List PyData} {n : Int} (h : 0 ≤ n ∧ n ≤ 1000 ∧ xs.length ≤ 100) : RvD T rMulA (.list xs) (.int n) (.list (List.replicate n.toNat xs).flatten) := RvD.right fun F H v u e k1 k2 Q q => by
  cases k2
  cases k1 with
  | lst h1 a1 =>
    refine ⟨_, _, _, rfl, rfl, e _ _ h1, by omega, by omega, ?_, fun p hp => ?_⟩
    · rw [a1.length]
      exact sz (Nat.le_trans (Nat.mul_le_mul h.2.2 (show n.toNat ≤ 1000 by omega)) (by decide))
    · exact q _ _ _ (Gr.alloc e hp) (.lst upd_same ((a1.rep _).ex (Gr.alloc e hp).ff))
theorem rv_div {i j : Int} (h : CDivW i j) : RvD T rDivI (.int i) (.int j) (.int (i / j)) := rv_intC h
theorem rv_mod {i j : Int} (h : 0 < j) : RvD T rModI (.int i) (.int j) (.int (i % j)) := rv_intC (C := fun _ j => 0 < j) (g := fun i j => i % j) h
theorem rv_pow {i j : Int} (h : CPow i j) : RvD T rPowI (.int i) (.int j) (.int (i ^ j.toNat)) := rv_intC (C := CPow) (g := fun i j => i ^ j.toNat) h
theorem rv_lt {i j : Int} : RvD T rLtI (.int i) (.int j) (.bool (decide (i < j))) := rv_cmp
theorem rv_le {i j : Int} : RvD T rLeI (.int i) (.int j) (.bool (decide (i ≤ j))) := rv_cmp
theorem rv_gt {i j : Int} : RvD T rGtI (.int i) (.int j) (.bool (decide (j < i))) := rv_cmp
theorem rv_ge {i j : Int} : RvD T rGeI (.int i) (.int j) (.bool (decide (j ≤ i))) := rv_cmp
theorem RvB.toD {r : R2} (h : RvB T r x y z) : RvD T r x y z := fun F H v u e k1 k2 Q q => h H v u (k1.ex e) (k2.ex e) Q fun w k => q w F H (Gr.refl e) (k F)
/-- == and != -/
theorem rv_eq (h1 : plain x = true) (h2 : plain y = true) (s1 : SeqAt.shaped x = true) (s2 : SeqAt.shaped y = true) : RvB T (rEqD T.K) x y (.bool (PyData.eqv x y)) := fun H v u k1 k2 Q q =>
  ⟨x, y, k1.dp h1, k2.dp h2, s1, s2, q _ fun _ => .bl _⟩
theorem rv_ne (h1 : plain x = true) (h2 : plain y = true) (s1 : SeqAt.shaped x = true) (s2 : SeqAt.shaped y = true) : RvB T (rNeD T.K) x y (.bool (!PyData.eqv x y)) := fun H v u k1 k2 Q q =>
  ⟨x, y, k1.dp h1, k2.dp h2, s1, s2, q _ fun _ => .bl _⟩
theorem rv_isB {a b : Bool} : RvB T rIsB (.bool a) (.bool b) (.bool (decide (a = b))) := fun H v u k1 k2 Q q => by
  cases k1; cases k2
  exact ⟨a, b, rfl, rfl, q _ fun _ => .bl _⟩
theorem rv_notB {a b : Bool} : RvB T rNotB (.bool a) (.bool b) (.bool (!decide (a = b))) := fun H v u k1 k2 Q q => by
  cases k1; cases k2
  exact ⟨a, b, rfl, rfl, q _ fun _ => .bl _⟩
/-- x in (a, b, ..), x in [a, b, ..], of data -/
def rInA (K : PySem.W.Frag) : R2 := fun x y H Q => ∃ d ds, Dp K H x d ∧ (Dp K H y (.list ds) ∨ Dp K H y (.tuple ds)) ∧ SeqAt.shaped d = true ∧ SeqAt.shaped (.list ds) = true ∧ Q (.bl (ds.any fun z => PyData.eqv z d)) H
theorem op_inA {X : Cx} (hu : X.A.units + 65 < cLine) : OpR X (compareOp .In) (rInA X.K) := by
  intro pins s σ H x y v u Q I rx ry h
  obtain ⟨d, ds, hd, he, sd, se, q⟩ := h
  obtain ⟨as, r1⟩ := Dp.reads I d x v hd rx
  rcases he with he | he
  · obtain ⟨bs, r2⟩ := Dp.reads I (.list ds) y u he ry
    exact SeqAt.in_list_reads r2 r1 (SeqAt.canLay_of_shaped se) (SeqAt.canLay_of_shaped sd) (PyProof.Rows.room_in_shaped sd hu) ⟨.bl _, H, I, rfl, q⟩
  · obtain ⟨bs, r2⟩ := Dp.reads I (.tuple ds) y u he ry
    exact SeqAt.in_tuple_reads r2 r1 (SeqAt.canLay_of_shaped se) (SeqAt.canLay_of_shaped sd) (PyProof.Rows.room_in_shaped sd hu) ⟨.bl _, H, I, rfl, q⟩
theorem rv_in (h1 : plain x = true) (h2 : plainAll ds = true) (s1 : SeqAt.shaped x = true) (s2 : SeqAt.shaped (.list ds) = true) : RvB T (rInA T.K) x (.tuple ds) (.bool (ds.any fun z => PyData.eqv z x)) := fun H v u k1 k2 Q q =>
  ⟨x, ds, k1.dp h1, .inr (k2.dp (by rw [plain]; exact h2)), s1, s2, q _ fun _ => .bl _⟩
theorem rv_inL (h1 : plain x = true) (h2 : plainAll ds = true) (s1 : SeqAt.shaped x = true) (s2 : SeqAt.shaped (.list ds) = true) : RvB T (rInA T.K) x (.list ds) (.bool (ds.any fun z => PyData.eqv z x)) := fun H v u k1 k2 Q q =>
  ⟨x, ds, k1.dp h1, .inl (k2.dp (by rw [plain]; exact h2)), s1, s2, q _ fun _ => .bl _⟩
/-- x[i] -/
theorem atI_ok {F : Hp} {vs : List V} {i : Int} (k : OkAll T F vs ds) (h : atI ds i = some z) : ∃ v, atI vs i = some v ∧ Ok T F v z := by
  unfold atI at h ⊢
  rw [k.length]
  cases e : ixN ds.length i with
  | none =>
    rw [e] at h
    cases h
  | some j =>
    rw [e] at h
    exact k.get (i := j) h
theorem rv_ixT {i : Int} (h : atI ds i = some z) : RvD T (rIxA T.K) (.tuple ds) (.int i) z := RvD.right fun F H v u e k1 k2 Q q => by
  cases k2
  cases k1 with
  | tup h1 a1 =>
    obtain ⟨w, e1, k⟩ := atI_ok a1 h
    exact ⟨_, _, _, w, rfl, rfl, ex_t e h1, e1, q w F H (Gr.refl e) k⟩
theorem rv_ixL {i : Int} (h : atI ds i = some z) : RvD T (rIxA T.K) (.list ds) (.int i) z := RvD.left fun F H v u e k1 k2 Q q => by
  cases k2
  cases k1 with
  | lst h1 a1 =>
    obtain ⟨w, e1, k⟩ := atI_ok a1 h
    exact ⟨_, _, _, w, rfl, rfl, SqL.of (e _ _ h1), e1, q w F H (Gr.refl e) k⟩
theorem rv_ixS {ns : List Int} {i n : Int} (h : atI ns i = some n) : RvD T (rIxA T.K) (scrD ns) (.int i) (.int n) := RvD.left fun F H v u e k1 k2 Q q => by
  cases k2
  unfold scrD at k1
  generalize hz : (ns.map PyData.int) = zs at k1
  cases k1 with
  | scr h1 =>
    rename_i ms
    have e0 : ms = ns := by
      have := congrArg (List.map fun d => match d with | PyData.int i => i | _ => 0) hz
      simpa [List.map_map, Function.comp_def] using this.symm
    subst e0
    refine ⟨_, _, _, .int n, rfl, rfl, ex_l e h1, ?_, q _ F H (Gr.refl e) (.int n)⟩
    unfold atI at h ⊢
    rw [List.length_map]
    cases e2 : ixN ms.length i with
    | none =>
      rw [e2] at h
      cases h
    | some j =>
      rw [e2] at h
      show (ms.map V.int)[j]? = some (.int n)
      rw [List.getElem?_map, show ms[j]? = some n from h]
      rfl
/-- an item of an owned list -/
theorem ed_ixO {i : Nat} {k : Int} (hi : ρ[i]? = some (.own ds)) (hb : EvD T tb ρ (.int k)) (h : atI ds k = some z) : EvD T (tOp (rIxA T.K) (tVar i) tb) ρ z := fun σ F0 H0 F H E Q q => by
  obtain ⟨l, vs, e, h1, h2, h3, a⟩ := E.ok i _ hi
  refine ⟨.ref l, e, hb σ F0 H0 F H E _ fun u F1 H1 g1 k1 => ?_⟩
  cases k1
  obtain ⟨w, e1, kw⟩ := atI_ok (a.ex g1.ff) h
  exact .inl ⟨_, _, _, w, rfl, rfl, SqL.of (g1.hh _ _ h3), e1, q w F1 H1 g1 kw⟩

/-! ### -x -/
def rNegI : V → Hp → VK → Prop := rU fun i => .int (-i)
theorem un_negA {X : Cx} : UnR X (unaryOp .USub) rNegI := un_neg
theorem ed_neg {i : Int} (h : EvD T ta ρ (.int i)) : EvD T (tUn rNegI ta) ρ (.int (-i)) := fun σ F0 H0 F H E Q q => h σ F0 H0 F H E _ fun v F1 H1 g k => by
  cases k
  exact ⟨i, rfl, q _ F1 H1 g (.int _)⟩

/-! ### and, or, not, if -/
theorem ed_and {a b : Bool} (h1 : EvD T ta ρ (.bool a)) (h2 : a = true → EvD T tb ρ (.bool b)) : EvD T (tAndV ta tb) ρ (.bool (a && b)) := fun σ F0 H0 F H E Q q => h1 σ F0 H0 F H E _ fun v F1 H1 g k => by
  cases k
  refine ⟨a, rfl, ?_⟩
  cases a with
  | true =>
    show tb σ H1 Q
    exact h2 rfl σ F0 H0 F1 H1 (E.mono g) Q fun v F2 H2 g2 k2 => q v F2 H2 (g.trans g2) k2
  | false =>
    show Q (.bl false) H1
    exact q _ F1 H1 g (.bl _)
theorem ed_or {a b : Bool} (h1 : EvD T ta ρ (.bool a)) (h2 : a = false → EvD T tb ρ (.bool b)) : EvD T (tOrV ta tb) ρ (.bool (a || b)) := fun σ F0 H0 F H E Q q => h1 σ F0 H0 F H E _ fun v F1 H1 g k => by
  cases k
  refine ⟨a, rfl, ?_⟩
  cases a with
  | true =>
    show Q (.bl true) H1
    exact q _ F1 H1 g (.bl _)
  | false =>
    show tb σ H1 Q
    exact h2 rfl σ F0 H0 F1 H1 (E.mono g) Q fun v F2 H2 g2 k2 => q v F2 H2 (g.trans g2) k2
theorem ed_not {a : Bool} (h1 : EvD T ta ρ (.bool a)) : EvD T (tNotV ta) ρ (.bool (!a)) := fun σ F0 H0 F H E Q q => h1 σ F0 H0 F H E _ fun v F1 H1 g k => by
  cases k
  exact ⟨a, rfl, q _ F1 H1 g (.bl _)⟩
theorem ed_if {b : Bool} (h : EvT T t ρ b) (h1 : b = true → EvD T ta ρ d) (h2 : b = false → EvD T tb ρ d) : EvD T (tIf t ta tb) ρ d := fun σ F0 H0 F H E Q q => h σ F0 H0 F H E _ fun F1 H1 g => by
  cases b with
  | true =>
    show ta σ H1 Q
    exact h1 rfl σ F0 H0 F1 H1 (E.mono g) Q fun v F2 H2 g2 k2 => q v F2 H2 (g.trans g2) k2
  | false =>
    show tb σ H1 Q
    exact h2 rfl σ F0 H0 F1 H1 (E.mono g) Q fun v F2 H2 g2 k2 => q v F2 H2 (g.trans g2) k2
theorem eo_if {b : Bool} (h : EvT T t ρ b) (h1 : b = true → EvO T ta ρ ds) (h2 : b = false → EvO T tb ρ ds) : EvO T (tIf t ta tb) ρ ds := fun σ F0 H0 F H E Q q => h σ F0 H0 F H E _ fun F1 H1 g => by
  cases b with
  | true =>
    show ta σ H1 Q
    exact h1 rfl σ F0 H0 F1 H1 (E.mono g) Q fun l vs F2 H2 g2 a1 a2 a3 a4 => q l vs F2 H2 (g.trans g2) (fresh_back g.hh a1) a2 a3 a4
  | false =>
    show tb σ H1 Q
    exact h2 rfl σ F0 H0 F1 H1 (E.mono g) Q fun l vs F2 H2 g2 a1 a2 a3 a4 => q l vs F2 H2 (g.trans g2) (fresh_back g.hh a1) a2 a3 a4
theorem et_test {b : Bool} (h : EvD T te ρ (.bool b)) : EvT T (tTest te) ρ b := fun σ F0 H0 F H E Q q => h σ F0 H0 F H E _ fun v F1 H1 g k => by
  cases k
  exact ⟨b, rfl, q F1 H1 g⟩
theorem et_B {b : Bool} (h : EvD T te ρ (.bool b)) : EvT T (tB te) ρ b := fun σ F0 H0 F H E Q q => h σ F0 H0 F H E _ fun v F1 H1 g k => by
  cases k
  exact ⟨b, rfl, q F1 H1 g⟩
theorem et_and {a b : Bool} (h1 : EvT T t ρ a) (h2 : a = true → EvT T u ρ b) : EvT T (tAnd t u) ρ (a && b) := fun σ F0 H0 F H E Q q => h1 σ F0 H0 F H E _ fun F1 H1 g => by
  cases a with
  | true =>
    show u σ H1 Q
    exact h2 rfl σ F0 H0 F1 H1 (E.mono g) Q fun F2 H2 g2 => q F2 H2 (g.trans g2)
  | false =>
    show Q false H1
    exact q F1 H1 g
theorem et_or {a b : Bool} (h1 : EvT T t ρ a) (h2 : a = false → EvT T u ρ b) : EvT T (tOr t u) ρ (a || b) := fun σ F0 H0 F H E Q q => h1 σ F0 H0 F H E _ fun F1 H1 g => by
  cases a with
  | true =>
    show Q true H1
    exact q F1 H1 g
  | false =>
    show u σ H1 Q
    exact h2 rfl σ F0 H0 F1 H1 (E.mono g) Q fun F2 H2 g2 => q F2 H2 (g.trans g2)
theorem et_not {a : Bool} (h1 : EvT T t ρ a) : EvT T (tNot t) ρ (!a) := fun σ F0 H0 F H E Q q => h1 σ F0 H0 F H E _ fun F1 H1 g => q F1 H1 g
theorem et_yes : EvT T tYes ρ true := fun σ F0 H0 F H E Q q => q F H (Gr.refl E.sub)
/-- a op b op' c -/
theorem ed_chain {r r' : R2} {a b : Bool} (ha : EvD T ta ρ x) (hb : EvD T tb ρ y) (hr : RvD T r x y (.bool a)) (hc : a = true → EvD T tc ρ z) (hr' : a = true → RvD T r' y z (.bool b)) : EvD T (tChain r r' ta tb tc) ρ (.bool (a && b)) := fun σ F0 H0 F H E Q q =>
  ha σ F0 H0 F H E _ fun v F1 H1 g1 k1 => hb σ F0 H0 F1 H1 (E.mono g1) _ fun u F2 H2 g2 k2 => hr F2 H2 v u g2.sub (k1.ex g2.ff) k2 _ fun w F3 H3 g3 k3 => by
    cases k3
    refine ⟨a, rfl, ?_⟩
    cases a with
    | true =>
      show tc σ H3 fun w' H4 => r' u w' H4 Q
      refine hc rfl σ F0 H0 F3 H3 (((E.mono g1).mono g2).mono g3) _ fun w' F4 H4 g4 k4 => ?_
      exact hr' rfl F4 H4 u w' g4.sub ((k2.ex g3.ff).ex g4.ff) k4 Q fun w2 F5 H5 g5 k5 => q w2 F5 H5 ((((g1.trans g2).trans g3).trans g4).trans g5) k5
    | false =>
      show Q (.bl false) H3
      exact q _ F3 H3 ((g1.trans g2).trans g3) (.bl _)

/-! ### arguments, displays -/
theorem ea_nil : EvA T tNil ρ [] := fun σ F0 H0 F H E Q q => q [] F H (Gr.refl E.sub) .nil
theorem ea_cons {tr : TA} (h : EvD T ta ρ x) (hr : EvA T tr ρ ds) : EvA T (tCons ta tr) ρ (x :: ds) := fun σ F0 H0 F H E Q q =>
  h σ F0 H0 F H E _ fun v F1 H1 g1 k1 => hr σ F0 H0 F1 H1 (E.mono g1) _ fun vs F2 H2 g2 k2 => q (v :: vs) F2 H2 (g1.trans g2) (.cons (k1.ex g2.ff) k2)
theorem eba_nil : EvBA T tNil ρ [] := fun σ F0 H0 F H E Q q => q [] F H (Gr.refl E.sub) .nil
theorem eba_cons {tr : TA} (h : EvB T ta ρ x) (hr : EvBA T tr ρ ds) : EvBA T (tCons ta tr) ρ (x :: ds) := fun σ F0 H0 F H E Q q =>
  h σ F0 H0 F H E _ fun v F1 H1 g1 k1 => hr σ F0 H0 F1 H1 (E.mono g1) _ fun vs F2 H2 g2 k2 => q (v :: vs) F2 H2 (g1.trans g2) (.cons (k1.ex g2.hh) k2)
theorem EvA.toB {tr : TA} (h : EvA T tr ρ ds) : EvBA T tr ρ ds := fun σ F0 H0 F H E Q q => h σ F0 H0 F H E Q fun vs F1 H1 g k => q vs F1 H1 g (k.ex g.sub)
theorem ed_tup {tr : TA} (h : EvA T tr ρ ds) (hl : ds.length ≤ 100000) : EvD T (tTup tr) ρ (.tuple ds) := fun σ F0 H0 F H E Q q =>
  h σ F0 H0 F H E _ fun vs F1 H1 g k => ⟨by rw [k.length]; exact sz hl, fun p hp => by
    have g2 := Gr.alloc (o := .tup vs) g.sub hp
    exact q _ _ _ (g.trans g2) (.tup (SqT.of upd_same) (k.ex g2.ff))⟩
theorem eo_lst {tr : TA} (h : EvA T tr ρ ds) (hl : ds.length ≤ 100000) : EvO T (tLst tr) ρ ds := fun σ F0 H0 F H E Q q =>
  h σ F0 H0 F H E _ fun vs F1 H1 g k => ⟨by rw [k.length]; exact sz hl, fun p hp => by
    have g2 := Gr.lay (o := .lst vs) g.sub hp
    exact q p vs _ _ (g.trans g2) (fresh_back g.hh hp) (fresh_back g.sub hp) upd_same k⟩

/-! ### slices -/
theorem ep_none : EvP T tNoPart ρ none := fun σ F0 H0 F H E Q q => q F H (Gr.refl E.sub)
theorem ep_some {i : Int} (h : EvD T te ρ (.int i)) : EvP T (tPart te) ρ (some i) := fun σ F0 H0 F H E Q q => h σ F0 H0 F H E _ fun v F1 H1 g k => by
  cases k
  exact ⟨i, rfl, q F1 H1 g⟩
def cutD (ds : List PyData) (lo hi : Option Int) : List PyData := (ds.drop (HT.sIx ds.length 0 lo)).take (HT.sIx ds.length ds.length hi - HT.sIx ds.length 0 lo)
theorem eo_sl {tl th : TO} {lo hi : Option Int} (h : EvD T te ρ (.list ds)) (h1 : EvP T tl ρ lo) (h2 : EvP T th ρ hi) : EvO T (tSl (rSlL T.K) te tl th) ρ (cutD ds lo hi) := fun σ F0 H0 F H E Q q =>
  h σ F0 H0 F H E _ fun v F1 H1 g1 k => h1 σ F0 H0 F1 H1 (E.mono g1) _ fun F2 H2 g2 => h2 σ F0 H0 F2 H2 ((E.mono g1).mono g2) _ fun F3 H3 g3 => by
    cases k with
    | lst hx a =>
      refine ⟨_, _, rfl, SqL.of (g3.hh _ _ (g2.hh _ _ (g1.sub _ _ hx))), fun p hp => ?_⟩
      exact q p _ _ _ (((g1.trans g2).trans g3).trans (Gr.lay g3.sub hp)) (fresh_back ((g1.trans g2).trans g3).hh hp) (fresh_back g3.sub hp) upd_same (((a.cut lo hi).ex g2.ff).ex g3.ff)
theorem eo_slS {tl th : TO} {lo hi : Option Int} {ns : List Int} (h : EvD T te ρ (scrD ns)) (h1 : EvP T tl ρ lo) (h2 : EvP T th ρ hi) : EvO T (tSl (rSlL T.K) te tl th) ρ (cutD (ns.map .int) lo hi) := fun σ F0 H0 F H E Q q =>
  h σ F0 H0 F H E _ fun v F1 H1 g1 k => h1 σ F0 H0 F1 H1 (E.mono g1) _ fun F2 H2 g2 => h2 σ F0 H0 F2 H2 ((E.mono g1).mono g2) _ fun F3 H3 g3 => by
    unfold scrD at k
    generalize hz : (ns.map PyData.int) = zs at k
    cases k with
    | scr hx =>
      rename_i ms
      rw [hz] at q
      refine ⟨_, _, rfl, ex_l g3.hh (ex_l g2.hh (ex_l g1.sub hx)), fun p hp => ?_⟩
      exact q p _ _ _ (((g1.trans g2).trans g3).trans (Gr.lay g3.sub hp)) (fresh_back ((g1.trans g2).trans g3).hh hp) (fresh_back g3.sub hp) upd_same (((OkAll.of_ints ms).cut lo hi))

/-! ### calls of what is built in -/
theorem ed_cb {r : List V → Hp → VK → Prop} {tr : TA} (h : EvA T tr ρ ds) (hr : RcD T r ds z) : EvD T (tCB r tr) ρ z := fun σ F0 H0 F H E Q q =>
  h σ F0 H0 F H E _ fun vs F1 H1 g k => hr F1 H1 vs g.sub k Q fun w F2 H2 g2 k2 => q w F2 H2 (g.trans g2) k2
theorem ed_cbB {r : List V → Hp → VK → Prop} {tr : TA} (h : EvBA T tr ρ ds) (hr : RcB T r ds z) : EvD T (tCB r tr) ρ z := fun σ F0 H0 F H E Q q =>
  h σ F0 H0 F H E _ fun vs F1 H1 g k => hr H1 vs k Q fun w k2 => q w F1 H1 g (k2 F1)
def rAbsI : List V → Hp → VK → Prop := fun xs H Q => ∃ i, xs = [.int i] ∧ Q (.int (if i < 0 then -i else i)) H
def rMax2I : List V → Hp → VK → Prop := fun xs H Q => ∃ i j, xs = [.int i, .int j] ∧ Q (.int (if j > i then j else i)) H
def rMin2I : List V → Hp → VK → Prop := fun xs H Q => ∃ i j, xs = [.int i, .int j] ∧ Q (.int (if j < i then j else i)) H
theorem call_absA {X : Cx} : CallR X (.builtin "abs") rAbsI := call_abs
theorem call_max2A {X : Cx} (hc : X.calm = true) : CallR X (.builtin "max") rMax2I := call_max2 hc
theorem call_min2A {X : Cx} (hc : X.calm = true) : CallR X (.builtin "min") rMin2I := call_min2 hc
theorem rc_abs {i : Int} : RcB T rAbsI [.int i] (.int i.natAbs) := fun H vs k Q q => by
  cases k with
  | cons k1 k2 =>
    cases k1; cases k2
    refine ⟨i, rfl, ?_⟩
    have e : (if i < 0 then -i else i) = (i.natAbs : Int) := by split <;> omega
    rw [e]
    exact q _ fun _ => .int _
theorem rc_max2 {i j : Int} : RcB T rMax2I [.int i, .int j] (.int (max i j)) := fun H vs k Q q => by
  cases k with
  | cons k1 k2 =>
    cases k2 with
    | cons k2 k3 =>
      cases k1; cases k2; cases k3
      refine ⟨i, j, rfl, ?_⟩
      have e : (if j > i then j else i) = max i j := by split <;> omega
      rw [e]
      exact q _ fun _ => .int _
theorem rc_min2 {i j : Int} : RcB T rMin2I [.int i, .int j] (.int (min i j)) := fun H vs k Q q => by
  cases k with
  | cons k1 k2 =>
    cases k2 with
    | cons k2 k3 =>
      cases k1; cases k2; cases k3
      refine ⟨i, j, rfl, ?_⟩
      have e : (if j < i then j else i) = min i j := by split <;> omega
      rw [e]
      exact q _ fun _ => .int _
def rLenA (K : PySem.W.Frag) : List V → Hp → VK → Prop := fun xs H Q => ∃ p ys, xs = [.ref p] ∧ (SqL K H p ys ∨ SqT K H p ys) ∧ Q (.int ys.length) H
theorem call_lenA {X : Cx} : CallR X (.builtin "len") (rLenA X.K) := call_len_seq
theorem rc_lenL : RcB T (rLenA T.K) [.list ds] (.int ds.length) := fun H vs k Q q => by
  cases k with
  | cons k1 k2 =>
    cases k2
    cases k1 with
    | lst h a => exact ⟨_, _, rfl, .inl (SqL.of h), by rw [a.length]; exact q _ fun _ => .int _⟩
theorem rc_lenT : RcB T (rLenA T.K) [.tuple ds] (.int ds.length) := fun H vs k Q q => by
  cases k with
  | cons k1 k2 =>
    cases k2
    cases k1 with
    | tup h a => exact ⟨_, _, rfl, .inr h, by rw [a.length]; exact q _ fun _ => .int _⟩
theorem rc_lenS {ns : List Int} : RcB T (rLenA T.K) [scrD ns] (.int ns.length) := fun H vs k Q q => by
  cases k with
  | cons k1 k2 =>
    cases k2
    unfold scrD at k1
    generalize hz : (ns.map PyData.int) = zs at k1
    cases k1 with
    | scr h =>
      rename_i ms
      have e : ms.length = ns.length := by
        have := congrArg List.length hz
        simpa using this.symm
      exact ⟨_, _, rfl, .inl h, by rw [List.length_map, e]; exact q _ fun _ => .int _⟩
theorem rc_sum {ns : List Int} : RcB T (rSum T.K) [.list (ns.map .int)] (.int ns.sum) := fun H vs k Q q => by
  cases k with
  | cons k1 k2 =>
    cases k2
    generalize hz : (ns.map PyData.int) = zs at k1
    cases k1 with
    | lst h a =>
      subst hz
      have e := a.ints
      subst e
      exact ⟨_, ns, rfl, SqL.of h, q _ fun _ => .int _⟩
theorem rc_all {bs : List Bool} : RcB T (rAll T.K) [.list (bs.map .bool)] (.bool (bs.all id)) := fun H vs k Q q => by
  cases k with
  | cons k1 k2 =>
    cases k2
    generalize hz : (bs.map PyData.bool) = zs at k1
    cases k1 with
    | lst h a =>
      subst hz
      have e := a.bls
      subst e
      exact ⟨_, bs, rfl, SqL.of h, q _ fun _ => .bl _⟩
theorem rc_any {bs : List Bool} : RcB T (rAny T.K) [.list (bs.map .bool)] (.bool (bs.any id)) := fun H vs k Q q => by
  cases k with
  | cons k1 k2 =>
    cases k2
    generalize hz : (bs.map PyData.bool) = zs at k1
    cases k1 with
    | lst h a =>
      subst hz
      have e := a.bls
      subst e
      exact ⟨_, bs, rfl, SqL.of h, q _ fun _ => .bl _⟩
/-- min(xs) of a list of ints -/
theorem rc_minL {ns : List Int} {m : Int} (h0 : 0 < ns.length) (hm : m ∈ ns) (hl : ∀ y ∈ ns, m ≤ y) : RcB T (rMin T.K) [.list (ns.map .int)] (.int m) := fun H vs k Q q => by
  cases k with
  | cons k1 k2 =>
    cases k2
    generalize hz : (ns.map PyData.int) = zs at k1
    cases k1 with
    | lst h a =>
      subst hz
      have e := a.ints
      subst e
      refine ⟨_, ns, rfl, SqL.of h, h0, fun m' h1 h2 => ?_⟩
      have e : m' = m := by
        have := h2 m hm
        have := hl m' h1
        omega
      rw [e]
      exact q _ fun _ => .int _
/-- list(xs) -/
def rListA (K : PySem.W.Frag) : List V → Hp → VK → Prop := fun xs H Q => ∃ p ys, xs = [.ref p] ∧ (SqL K H p ys ∨ SqT K H p ys) ∧ ∀ l, H l = none → Q (.ref l) (upd H l (.lst ys))
theorem call_listA {X : Cx} : CallR X (.type "list") (rListA X.K) := call_list_of
theorem eo_list (h : EvD T te ρ (.list ds)) : EvO T (tCB (rListA T.K) (tCons te tNil)) ρ ds := fun σ F0 H0 F H E Q q => h σ F0 H0 F H E _ fun v F1 H1 g k => by
  cases k with
  | lst hx a =>
    refine ⟨_, _, rfl, .inl (SqL.of (g.sub _ _ hx)), fun l hl => ?_⟩
    exact q l _ _ _ (g.trans (Gr.lay g.sub hl)) (fresh_back g.hh hl) (fresh_back g.sub hl) upd_same a
/-- list(own), the list of an owned thing copied -/
theorem eo_listO {i : Nat} (hi : ρ[i]? = some (.own ds)) : EvO T (tCB (rListA T.K) (tCons (tVar i) tNil)) ρ ds := fun σ F0 H0 F H E Q q => by
  obtain ⟨l, vs, e, h1, h2, h3, a⟩ := E.ok i _ hi
  refine ⟨.ref l, e, ⟨_, _, rfl, .inl (SqL.of h3), fun l2 hl => ?_⟩⟩
  have g2 := Gr.lay (o := .lst vs) E.sub hl
  exact q l2 _ _ _ g2 hl (fresh_back E.sub hl) upd_same a

/-! ### isinstance -/
inductive TyD (T : Tx) : PyData → Value → Prop
  | non : TyD T .none (.type "NoneType")
  | bl (b : Bool) : TyD T (.bool b) (.type "bool")
  | int (i : Int) : TyD T (.int i) (.type "int")
  | str (x : Str) : TyD T (.str x) (.type "str")
  | lst (ds : List PyData) : TyD T (.list ds) (.type "list")
  | tup (ds : List PyData) : TyD T (.tuple ds) (.type "tuple")
  | dct : TyD T (.dict []) (.type "dict")
  | way (ds : List PyData) : TyD T (wayD ds) (.ref T.CW)
  | nev (n : Int) : TyD T (nevD n) (.ref T.CN)
/-- what isinstance asks of a class of answers -/
structure AnsCls (K : PySem.W.Frag) (C : Addr) : Prop where
  cl : Cls K C
  ty : ∀ (H : Hp) (x dx : Addr) (fs : List (Str × V)), H x = some (.ins C dx fs) → TyOf K H (.ref x) (.ref C)
theorem sqT_ty {K : PySem.W.Frag} {H : Hp} {a : Addr} {xs : List V} (h : SqT K H a xs) : TyX K H (.ref a) (.type "tuple") := by
  rcases h with (h | ⟨o, h⟩) | ⟨o, its, n, hk, hc, _⟩
  · exact .base (.tup h)
  · exact .fTuple h
  · exact .kTuple hk hc
theorem Ok.ty {H : Hp} {v : V} {t : Value} (cw : AnsCls T.K T.CW) (cn : AnsCls T.K T.CN) (k : Ok T H v d) (h : TyD T d t) : TyX T.K H v t := by
  cases h with
  | non => cases k; exact .base .non
  | bl b => cases k; exact .base (.bl b)
  | int i => cases k; exact .base (.int i)
  | str x => cases k; exact .base (.str x)
  | lst ds =>
    cases k with
    | lst h a => exact .base (.lst h)
  | tup ds =>
    cases k with
    | tup h a => exact sqT_ty h
  | dct =>
    cases k with
    | dct h => exact .base (.dK h)
  | way ds =>
    cases k with
    | way h1 h2 a => exact .base (cw.ty _ _ _ _ h1)
  | nev n =>
    cases k with
    | nev h => exact .base (cn.ty _ _ _ _ h)
/-- isinstance(x, c) -/
theorem ed_isi {c : V} {w t : Value} {b : Bool} (cw : AnsCls T.K T.CW) (cn : AnsCls T.K T.CN) (h : EvB T te ρ d) (hc : ClsV c w) (ht : TyD T d t) (hk : PySem.W.kitOne T.K t w = some b) : EvD T (tCB (rIsi T.K) (tCons te (tCons (tC c) tNil))) ρ (.bool b) := fun σ F0 H0 F H E Q q =>
  h σ F0 H0 F H E _ fun v F1 H1 g k => ⟨v, c, t, w, b, rfl, hc, k.ty cw cn ht, hk, q _ F1 H1 g (.bl b)⟩

/-! ### calls of defs -/
/-- a promise: on such data it is worth such data; all that was is as it was -/
def spD (T : Tx) (R : List PyData → PyData → Prop) : Sp := fun vs H Q _ => ∃ (F : Hp) (ds : List PyData) (d : PyData), Ex F H ∧ OkAll T F vs ds ∧ R ds d ∧ ∀ v F1 H1, Gr F H F1 H1 → Ok T F1 v d → Q v H1
/-- .. a new list -/
def spO (T : Tx) (R : List PyData → List PyData → Prop) : Sp := fun vs H Q _ => ∃ (F : Hp) (ds es : List PyData), Ex F H ∧ OkAll T F vs ds ∧ R ds es ∧ ∀ l ws F1 H1, Gr F H F1 H1 → H l = none → F1 l = none → H1 l = some (.lst ws) → OkAll T F1 ws es → Q (.ref l) H1
theorem ed_call {R : List PyData → PyData → Prop} {E : XK} {tr : TA} (h : EvA T tr ρ ds) (hr : R ds z) : EvD T (tCall (spD T R) [] E tr) ρ z := fun σ F0 H0 F H E Q q =>
  h σ F0 H0 F H E _ fun vs F1 H1 g k => ⟨F1, ds, z, g.sub, by rw [List.append_nil]; exact k, hr, fun v F2 H2 g2 k2 => q v F2 H2 (g.trans g2) k2⟩
theorem eb_call {R : List PyData → PyData → Prop} {E : XK} {tr : TA} (h : EvBA T tr ρ ds) (hr : R ds z) : EvB T (tCall (spD T R) [] E tr) ρ z := fun σ F0 H0 F H E Q q =>
  h σ F0 H0 F H E _ fun vs F1 H1 g k => ⟨H1, ds, z, Ex.refl H1, by rw [List.append_nil]; exact k, hr, fun v F2 H2 g2 k2 => q v F1 H2 (g.trans ⟨Ex.refl _, g2.hh, g.sub.trans g2.hh, fun a h _ => h⟩) (k2.ex g2.sub)⟩
theorem eo_call {R : List PyData → List PyData → Prop} {E : XK} {tr : TA} (h : EvA T tr ρ ds) (hr : R ds es) : EvO T (tCall (spO T R) [] E tr) ρ es := fun σ F0 H0 F H E Q q =>
  h σ F0 H0 F H E _ fun vs F1 H1 g k => ⟨F1, ds, es, g.sub, by rw [List.append_nil]; exact k, hr, fun l ws F2 H2 g2 a1 a2 a3 a4 => q l ws F2 H2 (g.trans g2) (fresh_back g.hh a1) a2 a3 a4⟩
/-- what is flat hangs on nothing -/
def flatD : PyData → Bool
  | .none => true
  | .bool _ => true
  | .int _ => true
  | .str _ => true
  | _ => false
theorem Ok.flat {F : Hp} {v : V} (k : Ok T F v d) (h : flatD d = true) : ∀ G, Ok T G v d := fun G => by
  cases k with
  | non => exact .non
  | bl b => exact .bl b
  | int i => exact .int i
  | str x => exact .str x
  | _ => cases h
theorem EvB.toD (h : EvB T te ρ d) (f : flatD d = true) : EvD T te ρ d := fun σ F0 H0 F H E Q q => h σ F0 H0 F H E Q fun v F1 H1 g k => q v F1 H1 g (k.flat f F1)
end
end LW
set_option Elab.async false
set_option linter.all false
set_option maxRecDepth 100000
set_option maxHeartbeats 4000000
namespace LW
open PySem PySem.Spec L2 Evl

/-! ### statements -/
/-- an answer as it is told: its list is the asker's -/
inductive OkW (T : Tx) (H0 F H : Hp) : V → PyData → Prop
  | way {x dx l : Addr} {vs : List V} {ds : List PyData} : F x = some (.ins T.CW dx [("counts", .ref l)]) → H0 l = none → F l = none → H l = some (.lst vs) → OkAll T F vs ds → OkW T H0 F H (.ref x) (.dict [(.int 0, .list ds)])
  | nev {v : V} {n : Int} : Ok T F v (.dict [(.int 1, .int n)]) → OkW T H0 F H v (.dict [(.int 1, .int n)])
inductive Out where
  | ra (d : PyData)
  | nx (ρ : List Sl)
  | rt (d : PyData)
  | ro (ds : List PyData)
  | bk (ρ : List Sl)
  | ct (ρ : List Sl)
  /-- an error of the class at C is raised, told to W -/
  | rx (W : WX) (C : Addr) (ρ : List Sl)
def OutK (T : Tx) (F0 H0 Fs : Hp) (D : Ends) : Out → Prop
  | .nx ρ => ∀ σ F H, En T F0 H0 F H σ ρ → Ex Fs F → D.nx σ H
  | .rt d => ∀ v F H, Gr F0 H0 F H → Ok T F v d → D.rt v H
  | .ra d => ∀ v F H, Gr F0 H0 F H → OkW T H0 F H v d → D.rt v H
  | .ro ds => ∀ l vs F H, Gr F0 H0 F H → H0 l = none → F l = none → H l = some (.lst vs) → OkAll T F vs ds → D.rt (.ref l) H
  | .bk ρ => ∀ σ F H, En T F0 H0 F H σ ρ → Ex Fs F → D.bk σ H
  | .ct ρ => ∀ σ F H, En T F0 H0 F H σ ρ → Ex Fs F → D.ct σ H
  | .rx W C ρ => ∀ σ F H, En T F0 H0 F H σ ρ → W (.ref C) none σ H
def SeD (T : Tx) (ts : TS) (ρ : List Sl) (o : Out) : Prop := ∀ (σ : L2.St) (F0 H0 F H : Hp) (D : Ends), En T F0 H0 F H σ ρ → OutK T F0 H0 F D o → ts D σ H
theorem OutK.mono {T : Tx} {F0 H0 F F' : Hp} {D : Ends} {o : Out} (e : Ex F F') (k : OutK T F0 H0 F D o) : OutK T F0 H0 F' D o := by
  cases o with
  | nx ρ => exact fun σ G H E x => k σ G H E (e.trans x)
  | rt d => exact k
  | ra d => exact k
  | ro ds => exact k
  | bk ρ => exact fun σ G H E x => k σ G H E (e.trans x)
  | ct ρ => exact fun σ G H E x => k σ G H E (e.trans x)
  | rx W C ρ => exact k
/-- a target given data -/
def TgD (T : Tx) (g : TG) (js : List Nat) (d : PyData) (ρ ρ' : List Sl) : Prop := ∀ (σ : L2.St) (F0 H0 F H : Hp) (v : V), En T F0 H0 F H σ ρ → Ok T F v d → ∀ Q : L2.St → Hp → Prop,
  (∀ σ' F1 H1, Gr F H F1 H1 → En T F0 H0 F1 H1 σ' ρ' → (∀ vs : List Nat, (∀ j ∈ js, j ∈ vs) → wipe σ' vs = wipe σ vs) → Q σ' H1) → g v σ H Q
def TgsD (T : Tx) (g : TGs) (js : List Nat) (ds : List PyData) (ρ ρ' : List Sl) : Prop := ∀ (σ : L2.St) (F0 H0 F H : Hp) (vs : List V), En T F0 H0 F H σ ρ → OkAll T F vs ds → ∀ Q : L2.St → Hp → Prop,
  (∀ σ' F1 H1, Gr F H F1 H1 → En T F0 H0 F1 H1 σ' ρ' → (∀ ws : List Nat, (∀ j ∈ js, j ∈ ws) → wipe σ' ws = wipe σ ws) → Q σ' H1) → g vs σ H Q
section
variable {T : Tx} {ρ ρ1 ρ2 ρ' : List Sl} {ta tb tc te : TE} {t u : TT} {ts tu tz : TS} {d x y z : PyData} {ds es : List PyData} {o : Out} {g : TG}
theorem SeD.is {o' : Out} (h : SeD T ts ρ o) (e : o = o') : SeD T ts ρ o' := e ▸ h
theorem SeD.en (h : SeD T ts ρ o) (e : ρ = ρ') : SeD T ts ρ' o := e ▸ h
theorem wipe_set {σ : L2.St} {x : Option V} : ∀ {vs : List Nat} {j : Nat}, j ∈ vs → wipe (σ.set j x) vs = wipe σ vs
  | [], _, h => nomatch h
  | v :: vs, j, h => by
    unfold wipe
    by_cases q : j ∈ vs
    · rw [wipe_set q]
    · have e : j = v := by
        rcases List.mem_cons.mp h with r | r
        · exact r
        · exact absurd r q
      subst e
      have c : ∀ ws : List Nat, j ∉ ws → wipe (σ.set j x) ws = (wipe σ ws).set j x := fun ws => by
        induction ws with
        | nil => intro _; rfl
        | cons w ws ih =>
          intro hw
          unfold wipe
          rw [ih (fun r => hw (List.mem_cons_of_mem _ r)), List.set_comm _ _ (fun r => hw (by rw [r]; exact List.mem_cons_self))]
      rw [c vs q, List.set_set]
theorem tg_name {j : Nat} : TgD T (gName j) [j] d ρ (ρ.set j (.dat d)) := fun σ F0 H0 F H v E k Q q =>
  q (σ.set j (some v)) F H (Gr.refl E.sub) (E.setD k) fun vs hv => wipe_set (hv j (by simp))
theorem tgs_nil : TgsD T gNil [] [] ρ ρ := fun σ F0 H0 F H vs E k Q q => by
  cases k
  exact ⟨rfl, q σ F H (Gr.refl E.sub) E fun _ _ => rfl⟩
theorem tgs_cons {js ks : List Nat} {gs : TGs} (h1 : TgD T g js d ρ ρ1) (h2 : TgsD T gs ks ds ρ1 ρ2) : TgsD T (gCons g gs) (js ++ ks) (d :: ds) ρ ρ2 := fun σ F0 H0 F H vs E k Q q => by
  cases k with
  | cons k1 k2 =>
    refine ⟨_, _, rfl, h1 σ F0 H0 F H _ E k1 _ fun σ1 F1 H1 g1 E1 w1 => ?_⟩
    refine h2 σ1 F0 H0 F1 H1 _ E1 (k2.ex g1.ff) Q fun σ2 F2 H2 g2 E2 w2 => q σ2 F2 H2 (g1.trans g2) E2 fun ws hw => ?_
    rw [w2 ws (fun j hj => hw j (List.mem_append_right _ hj)), w1 ws (fun j hj => hw j (List.mem_append_left _ hj))]
theorem tg_tup {js : List Nat} {gs : TGs} {n : Nat} (h : TgsD T gs js ds ρ ρ1) (hn : ds.length = n) : TgD T (gTup T.K n gs) js (.tuple ds) ρ ρ1 := fun σ F0 H0 F H v E k Q q => by
  cases k with
  | tup h1 a =>
    exact ⟨_, _, rfl, ex_t E.sub h1, by rw [a.length, hn], h σ F0 H0 F H _ E a Q q⟩

/-! #### blocks -/
theorem se_seq (h1 : SeD T ts ρ (.nx ρ1)) (h2 : SeD T tu ρ1 o) : SeD T (tSeq ts tu) ρ o := fun σ F0 H0 F H D E k =>
  h1 σ F0 H0 F H { D with nx := tu D } E fun σ1 F1 H1 E1 e1 => h2 σ1 F0 H0 F1 H1 D E1 (k.mono e1)
theorem se_seqR (h1 : SeD T ts ρ (.rt d)) : SeD T (tSeq ts tu) ρ (.rt d) := fun σ F0 H0 F H D E k => h1 σ F0 H0 F H { D with nx := tu D } E k
theorem se_seqO (h1 : SeD T ts ρ (.ro ds)) : SeD T (tSeq ts tu) ρ (.ro ds) := fun σ F0 H0 F H D E k => h1 σ F0 H0 F H { D with nx := tu D } E k
/-- what hands back -/
def Out.leaves : Out → Prop
  | .rt _ => True
  | .ro _ => True
  | .ra _ => True
  | .rx _ _ _ => True
  | _ => False
theorem OutK.lv {F0 H0 F F' : Hp} {D D' : Ends} {o : Out} (l : o.leaves) (e : D.rt = D'.rt) (k : OutK T F0 H0 F D o) : OutK T F0 H0 F' D' o := by
  cases o with
  | nx ρ => exact l.elim
  | rt d => exact fun v F H g a => by rw [← e]; exact k v F H g a
  | ra d => exact fun v F H g a => by rw [← e]; exact k v F H g a
  | ro ds => exact fun l vs F H g a b c f => by rw [← e]; exact k l vs F H g a b c f
  | bk ρ => exact l.elim
  | ct ρ => exact l.elim
  | rx W C ρ => exact k
theorem se_seqL (h1 : SeD T ts ρ o) (l : o.leaves) : SeD T (tSeq ts tu) ρ o := fun σ F0 H0 F H D E k => h1 σ F0 H0 F H { D with nx := tu D } E (OutK.lv (D := D) l rfl k)
theorem se_seqB (h1 : SeD T ts ρ (.bk ρ1)) : SeD T (tSeq ts tu) ρ (.bk ρ1) := fun σ F0 H0 F H D E k => h1 σ F0 H0 F H { D with nx := tu D } E k
theorem se_next : SeD T tNext ρ (.nx ρ) := fun σ F0 H0 F H D E k => k σ F H E (Ex.refl F)
theorem se_ret (h : EvD T te ρ d) : SeD T (tRet te) ρ (.rt d) := fun σ F0 H0 F H D E k => h σ F0 H0 F H E D.rt fun v F1 H1 g a => k v F1 H1 (E.gr.trans g) a
theorem se_retO (h : EvO T te ρ ds) : SeD T (tRet te) ρ (.ro ds) := fun σ F0 H0 F H D E k => h σ F0 H0 F H E D.rt fun l vs F1 H1 g a1 a2 a3 a4 => k l vs F1 H1 (E.gr.trans g) (fresh_back E.gr.hh a1) a2 a3 a4
theorem se_retN : SeD T tRetN ρ (.rt .none) := fun σ F0 H0 F H D E k => k .non F H E.gr .non
theorem se_retV {i : Nat} (h : ρ[i]? = some (.own ds)) : SeD T (tRet (tVar i)) ρ (.ro ds) := fun σ F0 H0 F H D E k => by
  obtain ⟨l, vs, e, h1, h2, h3, a⟩ := E.ok i _ h
  exact ⟨.ref l, e, k l vs F H E.gr h1 h2 h3 a⟩
theorem SeD.ro_rt (h : SeD T ts ρ (.ro ds)) : SeD T ts ρ (.rt (.list ds)) := fun σ F0 H0 F H D E k => h σ F0 H0 F H D E fun l vs F1 H1 g a1 a2 a3 a4 =>
  k (.ref l) (upd F1 l (.lst vs)) H1 (g.freeze a1 a2 a3) (.lst upd_same (a4.ex (Ex.new a2)))
/-- an owned list is only read from here on -/
theorem se_freeze {i : Nat} (h : ρ[i]? = some (.own ds)) (k : SeD T ts (ρ.set i (.dat (.list ds))) o) : SeD T ts ρ o := fun σ F0 H0 F H D E q => by
  obtain ⟨F', E', e⟩ := E.froze h
  exact k σ F0 H0 F' H D E' (q.mono e)
theorem se_freezeW {i : Nat} (h : ρ[i]? = some (.oway ds)) (k : SeD T ts (ρ.set i (.dat (wayD ds))) o) : SeD T ts ρ o := fun σ F0 H0 F H D E q => by
  obtain ⟨F', E', e⟩ := E.frozeW h
  exact k σ F0 H0 F' H D E' (q.mono e)
theorem se_if {b : Bool} (h : EvT T t ρ b) (h1 : b = true → SeD T ts ρ o) (h2 : b = false → SeD T tu ρ o) : SeD T (tIfS t ts tu) ρ o := fun σ F0 H0 F H D E k => h σ F0 H0 F H E _ fun F1 H1 g => by
  cases b with
  | true =>
    show ts D σ H1
    exact h1 rfl σ F0 H0 F1 H1 D (E.mono g) (k.mono g.ff)
  | false =>
    show tu D σ H1
    exact h2 rfl σ F0 H0 F1 H1 D (E.mono g) (k.mono g.ff)
theorem se_ifT (h : EvT T t ρ true) (h1 : SeD T ts ρ o) : SeD T (tIfS t ts tu) ρ o := se_if h (fun _ => h1) (fun e => nomatch e)
theorem se_ifF (h : EvT T t ρ false) (h1 : SeD T tu ρ o) : SeD T (tIfS t ts tu) ρ o := se_if h (fun e => nomatch e) (fun _ => h1)
/-- if c: (leaves) ; rest: as the two together -/
theorem se_seqIf {b : Bool} (h : EvT T t ρ b) (h1 : b = true → SeD T (tSeq ts tz) ρ o) (h2 : b = false → SeD T (tSeq tu tz) ρ o) : SeD T (tSeq (tIfS t ts tu) tz) ρ o := fun σ F0 H0 F H D E k => h σ F0 H0 F H E _ fun F1 H1 g => by
  cases b with
  | true =>
    show ts { D with nx := tz D } σ H1
    exact h1 rfl σ F0 H0 F1 H1 D (E.mono g) (k.mono g.ff)
  | false =>
    show tu { D with nx := tz D } σ H1
    exact h2 rfl σ F0 H0 F1 H1 D (E.mono g) (k.mono g.ff)
theorem se_cutT (h : EvT T t ρ true) (h1 : SeD T ts ρ (.rt d)) : SeD T (tSeq (tIfS t ts tu) tz) ρ (.rt d) := se_seqIf h (fun _ => se_seqR h1) (fun e => nomatch e)
theorem se_cutL (h : EvT T t ρ true) (h1 : SeD T ts ρ o) (l : o.leaves) : SeD T (tSeq (tIfS t ts tu) tz) ρ o := se_seqIf h (fun _ => se_seqL h1 l) (fun e => nomatch e)
theorem se_cutF (h : EvT T t ρ false) (h1 : SeD T tz ρ o) : SeD T (tSeq (tIfS t ts tNext) tz) ρ o := se_seqIf h (fun e => nomatch e) (fun _ => fun σ F0 H0 F H D E k => h1 σ F0 H0 F H D E k)
/-- if c: x = .. ; rest -/
theorem se_thenT (h : EvT T t ρ true) (h1 : SeD T ts ρ (.nx ρ1)) (h2 : SeD T tz ρ1 o) : SeD T (tSeq (tIfS t ts tu) tz) ρ o := se_seqIf h (fun _ => se_seq h1 h2) (fun e => nomatch e)
theorem se_seqNext (h : SeD T tz ρ o) : SeD T (tSeq tNext tz) ρ o := fun σ F0 H0 F H D E k => h σ F0 H0 F H D E k
theorem se_brk : SeD T tBreak ρ (.bk ρ) := fun σ F0 H0 F H D E k => k σ F H E (Ex.refl F)
theorem se_cont : SeD T tCont ρ (.ct ρ) := fun σ F0 H0 F H D E k => k σ F H E (Ex.refl F)

/-! #### stores -/
theorem se_asg {i : Nat} (h : EvD T te ρ d) : SeD T (tAsg te (gName i)) ρ (.nx (ρ.set i (.dat d))) := fun σ F0 H0 F H D E k => h σ F0 H0 F H E _ fun v F1 H1 g a => k _ F1 H1 ((E.mono g).setD a) g.ff
theorem se_asgG {js : List Nat} (h : EvD T te ρ d) (hg : TgD T g js d ρ ρ1) : SeD T (tAsg te g) ρ (.nx ρ1) := fun σ F0 H0 F H D E k => h σ F0 H0 F H E _ fun v F1 H1 g1 a =>
  hg σ F0 H0 F1 H1 v (E.mono g1) a _ fun σ' F2 H2 g2 E2 _ => k σ' F2 H2 E2 (g1.ff.trans g2.ff)
theorem se_asgO {i : Nat} (h : EvO T te ρ ds) : SeD T (tAsg te (gName i)) ρ (.nx (ρ.set i (.own ds))) := fun σ F0 H0 F H D E k => h σ F0 H0 F H E _ fun l vs F1 H1 g a1 a2 a3 a4 => k _ F1 H1 (E.setO g a1 a2 a3 a4) g.ff
theorem se_drop (h : EvD T te ρ d) : SeD T (tDrop te) ρ (.nx ρ) := fun σ F0 H0 F H D E k => h σ F0 H0 F H E _ fun v F1 H1 g a => k σ F1 H1 (E.mono g) g.ff
theorem se_par {i j : Nat} {ta : TA} (h : EvA T ta ρ [x, y]) : SeD T (tPar i j ta) ρ (.nx ((ρ.set i (.dat x)).set j (.dat y))) := fun σ F0 H0 F H D E k => h σ F0 H0 F H E _ fun vs F1 H1 g a => by
  cases a with
  | cons k1 k2 =>
    cases k2 with
    | cons k2 k3 =>
      cases k3
      exact ⟨_, _, rfl, k _ F1 H1 (((E.mono g).setD k1).setD k2) g.ff⟩
/-- own.append(e) -/
theorem se_app {i : Nat} (hi : ρ[i]? = some (.own ds)) (h : EvD T te ρ d) (hz : ds.length < 100000) : SeD T (tDrop (tBM T.K "list" rAppend (tVar i) (tCons te tNil))) ρ (.nx (ρ.set i (.own (ds ++ [d])))) := fun σ F0 H0 F H D E k => by
  obtain ⟨l, vs, e, h1, h2, h3, a⟩ := E.ok i _ hi
  refine ⟨.ref l, e, .inl ⟨rfl, vs, SqL.of h3⟩, h σ F0 H0 F H E _ fun v F1 H1 g b => ?_⟩
  refine ⟨l, vs, v, rfl, rfl, g.hh _ _ h3, by rw [a.length]; exact szl hz, ?_⟩
  exact k σ F1 _ ((E.mono g).change hi e ((a.ex g.ff).append (.cons b .nil))) g.ff
/-- own.extend([..]) -/
theorem se_ext {i : Nat} (hi : ρ[i]? = some (.own ds)) (h : EvO T te ρ es) (hz : ds.length + es.length ≤ 100000) : SeD T (tDrop (tBM T.K "list" rExtend (tVar i) (tCons te tNil))) ρ (.nx (ρ.set i (.own (ds ++ es)))) := fun σ F0 H0 F H D E k => by
  obtain ⟨l, vs, e, h1, h2, h3, a⟩ := E.ok i _ hi
  refine ⟨.ref l, e, .inl ⟨rfl, vs, SqL.of h3⟩, h σ F0 H0 F H E _ fun b ws F1 H1 g b1 b2 b3 b4 => ?_⟩
  refine ⟨l, b, vs, ws, rfl, rfl, g.hh _ _ h3, b3, by rw [a.length, b4.length]; exact sz hz, ?_⟩
  exact k σ F1 _ ((E.mono g).change hi e ((a.ex g.ff).append b4)) g.ff
/-- own[k] = e -/
theorem se_set {i : Nat} {ti : TE} {k : Nat} (hi : ρ[i]? = some (.own ds)) (h : EvD T te ρ d) (hk : EvD T ti ρ (.int k)) (hz : k < ds.length) : SeD T (tAsg te (gSub (tVar i) ti rSetL)) ρ (.nx (ρ.set i (.own (ds.set k d)))) := fun σ F0 H0 F H D E q => by
  obtain ⟨l, vs, e, h1, h2, h3, a⟩ := E.ok i _ hi
  refine h σ F0 H0 F H E _ fun v F1 H1 g b => ⟨.ref l, e, hk σ F0 H0 F1 H1 (E.mono g) _ fun u F2 H2 g2 b2 => ?_⟩
  cases b2
  refine ⟨l, vs, k, k, rfl, rfl, g2.hh _ _ (g.hh _ _ h3), ixN_nat (by rw [a.length]; exact hz), ?_⟩
  exact q σ F2 _ (((E.mono g).mono g2).change hi e ((((a.ex g.ff).ex g2.ff)).set (b.ex g2.ff))) (g.ff.trans g2.ff)

/-! #### what is walked -/
/-- J yields src, one after the other, as long as F stands -/
def Walk (T : Tx) (J : It) (F : Hp) (src : List PyData) : Prop := ∀ (F1 H1 : Hp), Ex F F1 → Ex F1 H1 → (∀ i, i < src.length → J.go i H1) ∧ J.stop src.length H1 ∧
  ∀ i x H2 d, src[i]? = some d → J.yld i H1 x H2 → ∃ F2, Gr F1 H1 F2 H2 ∧ Ok T F2 x d
def TiD (T : Tx) (wi : TI) (ρ : List Sl) (src : List PyData) : Prop := ∀ (σ : L2.St) (F0 H0 F H : Hp), En T F0 H0 F H σ ρ → ∀ R : It → Hp → Prop, (∀ J F1 H1, Gr F H F1 H1 → Walk T J F1 src → R J H1) → wi σ H R
theorem SqL.inj {K : PySem.W.Frag} {F : Hp} {a : Addr} {xs : List V} (h : F a = some (.lst xs)) : True := trivial
theorem TiD.is {wi : TI} (h : TiD T wi ρ ds) (e : ds = es) : TiD T wi ρ es := e ▸ h
theorem ti_list (h : EvD T te ρ (.list ds)) : TiD T (iList T.K te) ρ ds := fun σ F0 H0 F H E R q => h σ F0 H0 F H E _ fun v F1 H1 g k => by
  cases k with
  | lst hx a =>
    rename_i p xs
    refine ⟨p, rfl, ⟨xs, SqL.of (g.sub _ _ hx)⟩, q _ F1 H1 g fun F2 H2 e1 e2 => ?_⟩
    have hs : SqL T.K H2 p xs := SqL.of (e2 _ _ (e1 _ _ hx))
    refine ⟨fun i hi => ?_, ⟨xs, hs, by rw [a.length]; exact Nat.le_refl _⟩, fun i x H3 d hd hy => ?_⟩
    · obtain ⟨v, h1, _⟩ := a.get (List.getElem?_eq_getElem hi)
      exact ⟨xs, v, hs, h1⟩
    · obtain ⟨rfl, hy⟩ := hy
      obtain ⟨v, h1, h2⟩ := a.get hd
      have e := hy xs hs
      rw [h1] at e
      cases e
      exact ⟨F2, Gr.refl e2, h2.ex e1⟩
theorem ti_scr {ns : List Int} (h : EvD T te ρ (scrD ns)) : TiD T (iList T.K te) ρ (ns.map .int) := fun σ F0 H0 F H E R q => h σ F0 H0 F H E _ fun v F1 H1 g k => by
  unfold scrD at k
  generalize hz : (ns.map PyData.int) = zs at k q
  cases k with
  | scr hx =>
    rename_i p ms
    have a : OkAll T F1 (ms.map V.int) (ms.map PyData.int) := OkAll.of_ints ms
    refine ⟨p, rfl, ⟨_, ex_l g.sub hx⟩, q _ F1 H1 g fun F2 H2 e1 e2 => ?_⟩
    have hs : SqL T.K H2 p (ms.map V.int) := ex_l e2 (ex_l e1 hx)
    refine ⟨fun i hi => ?_, ⟨_, hs, by rw [a.length]; exact Nat.le_refl _⟩, fun i x H3 d hd hy => ?_⟩
    · obtain ⟨v, h1, _⟩ := a.get (List.getElem?_eq_getElem hi)
      exact ⟨_, v, hs, h1⟩
    · obtain ⟨rfl, hy⟩ := hy
      obtain ⟨v, h1, h2⟩ := a.get hd
      have e := hy _ hs
      rw [h1] at e
      cases e
      exact ⟨F2, Gr.refl e2, h2.ex e1⟩
theorem ti_tup (h : EvD T te ρ (.tuple ds)) : TiD T (iTup T.K te) ρ ds := fun σ F0 H0 F H E R q => h σ F0 H0 F H E _ fun v F1 H1 g k => by
  cases k with
  | tup hx a =>
    rename_i p xs
    refine ⟨p, rfl, ⟨xs, ex_t g.sub hx⟩, q _ F1 H1 g fun F2 H2 e1 e2 => ?_⟩
    have hs : SqT T.K H2 p xs := ex_t e2 (ex_t e1 hx)
    refine ⟨fun i hi => ?_, ⟨xs, hs, by rw [a.length]; exact Nat.le_refl _⟩, fun i x H3 d hd hy => ?_⟩
    · obtain ⟨v, h1, _⟩ := a.get (List.getElem?_eq_getElem hi)
      exact ⟨xs, v, hs, h1⟩
    · obtain ⟨rfl, hy⟩ := hy
      obtain ⟨v, h1, h2⟩ := a.get hd
      have e := hy xs hs
      rw [h1] at e
      cases e
      exact ⟨F2, Gr.refl e2, h2.ex e1⟩
theorem ti_rng1 {ta : TA} {n : Nat} (h : EvA T ta ρ [.int n]) (hn : n ≤ 1000000) : TiD T (iRng1 ta) ρ ((List.range n).map fun (i : Nat) => .int (i : Int)) := fun σ F0 H0 F H E R q => h σ F0 H0 F H E _ fun vs F1 H1 g k => by
  cases k with
  | cons k1 k2 =>
    cases k2
    cases k1
    refine ⟨n, rfl, by omega, by omega, q _ F1 H1 g fun F2 H2 e1 e2 => ⟨fun i hi => ?_, ?_, fun i x H3 d hd hy => ?_⟩⟩
    · show i < (n : Int).toNat
      rw [List.length_map, List.length_range] at hi
      omega
    · show (n : Int).toNat ≤ _
      rw [List.length_map, List.length_range]
      omega
    · obtain ⟨rfl, rfl⟩ := hy
      rw [List.getElem?_map] at hd
      cases e : (List.range n)[i]? with
      | none =>
        rw [e] at hd
        cases hd
      | some j =>
        rw [e] at hd
        have e2' : PyData.int (j : Int) = d := Option.some.inj hd
        have ej : j = i := by
          have := List.getElem?_eq_some_iff.mp e
          obtain ⟨h1, h2⟩ := this
          rw [List.getElem_range] at h2
          exact h2.symm
        subst ej
        rw [← e2', Int.zero_add]
        exact ⟨F2, Gr.refl e2, .int _⟩
theorem ti_rng2 {ta : TA} {a b : Int} (h : EvA T ta ρ [.int a, .int b]) (hb : -1000000 ≤ a ∧ a ≤ 1000000 ∧ -1000000 ≤ b ∧ b ≤ 1000000) : TiD T (iRng2 ta) ρ ((List.range (b - a).toNat).map fun (i : Nat) => .int (a + (i : Int))) := fun σ F0 H0 F H E R q => h σ F0 H0 F H E _ fun vs F1 H1 g k => by
  cases k with
  | cons k1 k2 =>
    cases k2 with
    | cons k2 k3 =>
      cases k3
      cases k1
      cases k2
      refine ⟨a, b, rfl, ⟨by omega, by omega, by omega, by omega⟩, q _ F1 H1 g fun F2 H2 e1 e2 => ⟨fun i hi => ?_, ?_, fun i x H3 d hd hy => ?_⟩⟩
      · show i < (b - a).toNat
        rw [List.length_map, List.length_range] at hi
        omega
      · show (b - a).toNat ≤ _
        rw [List.length_map, List.length_range]
        omega
      · obtain ⟨rfl, rfl⟩ := hy
        rw [List.getElem?_map] at hd
        cases e : (List.range (b - a).toNat)[i]? with
        | none =>
          rw [e] at hd
          cases hd
        | some j =>
          rw [e] at hd
          have e2' : PyData.int (a + (j : Int)) = d := Option.some.inj hd
          have ej : j = i := by
            have := List.getElem?_eq_some_iff.mp e
            obtain ⟨h1, h2⟩ := this
            rw [List.getElem_range] at h2
            exact h2.symm
          subst ej
          rw [← e2']
          exact ⟨F2, Gr.refl e2, .int _⟩
/-- range(a, b, c), upward -/
theorem ti_rng3 {ta : TA} {a b c : Int} {n : Nat} (h : EvA T ta ρ [.int a, .int b, .int c]) (hc : RgC a b c n) : TiD T (iRng3 ta) ρ ((List.range n).map fun (i : Nat) => .int (a + (i : Int) * c)) := fun σ F0 H0 F H E R q => h σ F0 H0 F H E _ fun vs F1 H1 g k => by
  cases k with
  | cons k1 k2 =>
    cases k2 with
    | cons k2 k3 =>
      cases k3 with
      | cons k3 k4 =>
        cases k4
        cases k1
        cases k2
        cases k3
        refine ⟨a, b, c, n, rfl, hc, q _ F1 H1 g fun F2 H2 e1 e2 => ⟨fun i hi => ?_, ?_, fun i x H3 d hd hy => ?_⟩⟩
        · show i < n
          rw [List.length_map, List.length_range] at hi
          exact hi
        · show n ≤ _
          rw [List.length_map, List.length_range]
          exact Nat.le_refl _
        · obtain ⟨rfl, rfl⟩ := hy
          rw [List.getElem?_map] at hd
          cases e : (List.range n)[i]? with
          | none =>
            rw [e] at hd
            cases hd
          | some j =>
            rw [e] at hd
            have e2' : PyData.int (a + (j : Int) * c) = d := Option.some.inj hd
            have ej : j = i := by
              have := List.getElem?_eq_some_iff.mp e
              obtain ⟨h1, h2⟩ := this
              rw [List.getElem_range] at h2
              exact h2.symm
            subst ej
            rw [← e2']
            exact ⟨F2, Gr.refl e2, .int _⟩
def pairD (x y : PyData) : PyData := .tuple [x, y]
theorem ti_zip {ta : TA} (h : EvA T ta ρ [.list ds, .list es]) : TiD T (iZip T.K ta) ρ (List.zipWith pairD ds es) := fun σ F0 H0 F H E R q => h σ F0 H0 F H E _ fun vs F1 H1 g k => by
  cases k with
  | cons k1 k2 =>
    cases k2 with
    | cons k2 k3 =>
      cases k3
      cases k1 with
      | lst hx ax =>
        cases k2 with
        | lst hy ay =>
          rename_i a xs b ys
          refine ⟨a, b, xs, ys, rfl, SqL.of (g.sub _ _ hx), SqL.of (g.sub _ _ hy), q _ F1 H1 g fun F2 H2 e1 e2 => ?_⟩
          have hs : SqL T.K H2 a xs := SqL.of (e2 _ _ (e1 _ _ hx))
          have ht : SqL T.K H2 b ys := SqL.of (e2 _ _ (e1 _ _ hy))
          refine ⟨fun i hi => ?_, ⟨xs, ys, hs, ht, ?_⟩, fun i x H3 d hd hyy => ?_⟩
          · rw [List.length_zipWith] at hi
            obtain ⟨v, h1, _⟩ := ax.get (List.getElem?_eq_getElem (show i < ds.length by omega))
            obtain ⟨u, h2, _⟩ := ay.get (List.getElem?_eq_getElem (show i < es.length by omega))
            exact ⟨xs, ys, v, u, hs, ht, h1, h2⟩
          · rw [List.length_zipWith, ax.length, ay.length]
            omega
          · obtain ⟨p, x1, x2, rfl, hp, rfl, f1, f2⟩ := hyy
            rw [List.getElem?_zipWith] at hd
            cases c1 : ds[i]? with
            | none =>
              rw [c1] at hd
              cases hd
            | some dx =>
              cases c2 : es[i]? with
              | none =>
                rw [c1, c2] at hd
                cases hd
              | some dy =>
                rw [c1, c2] at hd
                have e3 : pairD dx dy = d := Option.some.inj hd
                subst e3
                obtain ⟨v, h1, o1⟩ := ax.get c1
                obtain ⟨u, h2, o2⟩ := ay.get c2
                have q1 := f1 xs hs
                rw [h1] at q1
                cases q1
                have q2 := f2 ys ht
                rw [h2] at q2
                cases q2
                exact ⟨_, Gr.alloc e2 hp, .tup (SqT.of upd_same) (.cons ((o1.ex e1).ex (Gr.alloc e2 hp).ff) (.cons ((o2.ex e1).ex (Gr.alloc e2 hp).ff) .nil))⟩
def enumD : Nat → List PyData → List PyData
  | _, [] => []
  | i, d :: ds => .tuple [.int (i : Int), d] :: enumD (i + 1) ds
theorem enumD_len : ∀ (i : Nat) (ds : List PyData), (enumD i ds).length = ds.length
  | _, [] => rfl
  | i, d :: ds => by rw [enumD, List.length_cons, List.length_cons, enumD_len]
theorem enumD_get : ∀ (k : Nat) (ds : List PyData) (i : Nat) (d : PyData), (enumD k ds)[i]? = some d → ∃ x, ds[i]? = some x ∧ d = .tuple [.int ((k + i : Nat) : Int), x]
  | _, [], _, _, h => by simp [enumD] at h
  | k, x :: ds, 0, d, h => ⟨x, rfl, (Option.some.inj (show some _ = some d from h)).symm⟩
  | k, x :: ds, i + 1, d, h => by
    obtain ⟨y, h1, h2⟩ := enumD_get (k + 1) ds i d (by simpa [enumD] using h)
    exact ⟨y, by simpa using h1, by rw [h2, show k + 1 + i = k + (i + 1) by omega]⟩
theorem ti_enum {ta : TA} (h : EvA T ta ρ [.list ds]) : TiD T (iEnum T.K ta) ρ (enumD 0 ds) := fun σ F0 H0 F H E R q => h σ F0 H0 F H E _ fun vs F1 H1 g k => by
  cases k with
  | cons k1 k2 =>
    cases k2
    cases k1 with
    | lst hx a =>
      rename_i p xs
      refine ⟨p, xs, rfl, SqL.of (g.sub _ _ hx), q _ F1 H1 g fun F2 H2 e1 e2 => ?_⟩
      have hs : SqL T.K H2 p xs := SqL.of (e2 _ _ (e1 _ _ hx))
      refine ⟨fun i hi => ?_, ⟨xs, hs, by rw [a.length, enumD_len]; exact Nat.le_refl _⟩, fun i x H3 d hd hy => ?_⟩
      · rw [enumD_len] at hi
        obtain ⟨v, h1, _⟩ := a.get (List.getElem?_eq_getElem hi)
        exact ⟨xs, v, hs, h1⟩
      · obtain ⟨t, x1, rfl, hp, rfl, f1⟩ := hy
        obtain ⟨dx, c1, rfl⟩ := enumD_get 0 ds i d hd
        obtain ⟨v, h1, o1⟩ := a.get c1
        have q1 := f1 xs hs
        rw [h1] at q1
        cases q1
        refine ⟨_, Gr.alloc e2 hp, .tup (SqT.of upd_same) (.cons ?_ (.cons ((o1.ex e1).ex (Gr.alloc e2 hp).ff) .nil))⟩
        rw [Nat.zero_add]
        exact .int _

/-! #### for -/
inductive ForTo (T : Tx) (g : TG) (tb : TS) : List PyData → List Sl → Out → Prop
  | nil {ρ : List Sl} : ForTo T g tb [] ρ (.nx ρ)
  | go {d : PyData} {ds : List PyData} {ρ ρ1 ρ2 : List Sl} {js : List Nat} {o : Out} : TgD T g js d ρ ρ1 → SeD T tb ρ1 (.nx ρ2) → ForTo T g tb ds ρ2 o → ForTo T g tb (d :: ds) ρ o
  | ct {d : PyData} {ds : List PyData} {ρ ρ1 ρ2 : List Sl} {js : List Nat} {o : Out} : TgD T g js d ρ ρ1 → SeD T tb ρ1 (.ct ρ2) → ForTo T g tb ds ρ2 o → ForTo T g tb (d :: ds) ρ o
  | rt {d e : PyData} {ds : List PyData} {ρ ρ1 : List Sl} {js : List Nat} : TgD T g js d ρ ρ1 → SeD T tb ρ1 (.rt e) → ForTo T g tb (d :: ds) ρ (.rt e)
  | lv {d : PyData} {ds : List PyData} {ρ ρ1 : List Sl} {js : List Nat} {o : Out} : TgD T g js d ρ ρ1 → SeD T tb ρ1 o → o.leaves → ForTo T g tb (d :: ds) ρ o
  | bk {d : PyData} {ds : List PyData} {ρ ρ1 ρ2 : List Sl} {js : List Nat} : TgD T g js d ρ ρ1 → SeD T tb ρ1 (.bk ρ2) → ForTo T g tb (d :: ds) ρ (.nx ρ2)
theorem se_for {wi : TI} {tb : TS} {src : List PyData} (hw : TiD T wi ρ src) (h : ForTo T g tb src ρ o) : SeD T (tFor wi g tb) ρ o := fun σ F0 H0 F H D E k => hw σ F0 H0 F H E _ fun J F1 H1 g1 w => by
  have k1 : OutK T F0 H0 F1 D o := k.mono g1.ff
  refine ⟨fun i m σ' H' => m = src.length - i ∧ i ≤ src.length ∧ ∃ F' ρ', En T F0 H0 F' H' σ' ρ' ∧ Ex F1 F' ∧ ForTo T g tb (src.drop i) ρ' o, ⟨src.length, rfl, Nat.zero_le _, F1, ρ, E.mono g1, Ex.refl F1, h⟩, ?_⟩
  rintro i m σ' H' ⟨rfl, hi, F', ρ', E', e1, f⟩
  obtain ⟨go, stop, yld⟩ := w F' H' e1 E'.sub
  generalize hs : src.drop i = rest at f
  have next : ∀ {d : PyData} {ds : List PyData}, d :: ds = src.drop i → i < src.length ∧ src[i]? = some d ∧ src.drop (i + 1) = ds := fun {d ds} e => by
    have hlt : i < src.length := by
      rcases Nat.lt_or_ge i src.length with c | c
      · exact c
      · rw [List.drop_eq_nil_of_le c] at e
        cases e
    rw [List.drop_eq_getElem_cons hlt] at e
    injection e with e2 e3
    exact ⟨hlt, by rw [List.getElem?_eq_getElem hlt, ← e2], e3.symm⟩
  have nextW : ∀ σ2 H2, (∃ F2 ρ2, En T F0 H0 F2 H2 σ2 ρ2 ∧ Ex F1 F2 ∧ ForTo T g tb (src.drop (i + 1)) ρ2 o) → i < src.length →
      ∃ m', m' < src.length - i ∧ (m' = src.length - (i + 1) ∧ i + 1 ≤ src.length ∧ ∃ F' ρ', En T F0 H0 F' H2 σ2 ρ' ∧ Ex F1 F' ∧ ForTo T g tb (src.drop (i + 1)) ρ' o) := fun σ2 H2 ⟨F2, ρ2, a, b, c⟩ hlt =>
    ⟨src.length - (i + 1), by omega, rfl, hlt, F2, ρ2, a, b, c⟩
  cases f with
  | nil =>
    have hl : src.length ≤ i := List.drop_eq_nil_iff.mp hs
    have e : i = src.length := by omega
    subst e
    exact .inl ⟨stop, k1 σ' F' H' E' e1⟩
  | go hg hb hf =>
    obtain ⟨hlt, hget, hd⟩ := next hs.symm
    refine .inr ⟨go i hlt, fun σ2 H2 => ∃ F2 ρ2, En T F0 H0 F2 H2 σ2 ρ2 ∧ Ex F1 F2 ∧ ForTo T g tb (src.drop (i + 1)) ρ2 o, fun σ2 H2 q => nextW σ2 H2 q hlt, fun x H2 hy => ?_⟩
    obtain ⟨F2, g2, o2⟩ := yld i x H2 _ hget hy
    refine hg σ' F0 H0 F2 H2 x (E'.mono g2) o2 _ fun σ3 F3 H3 g3 E3 _ => ?_
    exact hb σ3 F0 H0 F3 H3 _ E3 fun σ4 F4 H4 E4 e4 => ⟨F4, _, E4, ((e1.trans g2.ff).trans g3.ff).trans e4, by rw [hd]; exact hf⟩
  | ct hg hb hf =>
    obtain ⟨hlt, hget, hd⟩ := next hs.symm
    refine .inr ⟨go i hlt, fun σ2 H2 => ∃ F2 ρ2, En T F0 H0 F2 H2 σ2 ρ2 ∧ Ex F1 F2 ∧ ForTo T g tb (src.drop (i + 1)) ρ2 o, fun σ2 H2 q => nextW σ2 H2 q hlt, fun x H2 hy => ?_⟩
    obtain ⟨F2, g2, o2⟩ := yld i x H2 _ hget hy
    refine hg σ' F0 H0 F2 H2 x (E'.mono g2) o2 _ fun σ3 F3 H3 g3 E3 _ => ?_
    exact hb σ3 F0 H0 F3 H3 _ E3 fun σ4 F4 H4 E4 e4 => ⟨F4, _, E4, ((e1.trans g2.ff).trans g3.ff).trans e4, by rw [hd]; exact hf⟩
  | rt hg hb =>
    obtain ⟨hlt, hget, hd⟩ := next hs.symm
    refine .inr ⟨go i hlt, fun _ _ => False, fun _ _ z => z.elim, fun x H2 hy => ?_⟩
    obtain ⟨F2, g2, o2⟩ := yld i x H2 _ hget hy
    refine hg σ' F0 H0 F2 H2 x (E'.mono g2) o2 _ fun σ3 F3 H3 g3 E3 _ => ?_
    exact hb σ3 F0 H0 F3 H3 _ E3 k1
  | lv hg hb hl =>
    obtain ⟨hlt, hget, hd⟩ := next hs.symm
    refine .inr ⟨go i hlt, fun _ _ => False, fun _ _ z => z.elim, fun x H2 hy => ?_⟩
    obtain ⟨F2, g2, o2⟩ := yld i x H2 _ hget hy
    refine hg σ' F0 H0 F2 H2 x (E'.mono g2) o2 _ fun σ3 F3 H3 g3 E3 _ => ?_
    exact hb σ3 F0 H0 F3 H3 _ E3 (OutK.lv (D := D) hl rfl k1)
  | bk hg hb =>
    obtain ⟨hlt, hget, hd⟩ := next hs.symm
    refine .inr ⟨go i hlt, fun _ _ => False, fun _ _ z => z.elim, fun x H2 hy => ?_⟩
    obtain ⟨F2, g2, o2⟩ := yld i x H2 _ hget hy
    refine hg σ' F0 H0 F2 H2 x (E'.mono g2) o2 _ fun σ3 F3 H3 g3 E3 _ => ?_
    exact hb σ3 F0 H0 F3 H3 _ E3 fun σ4 F4 H4 E4 e4 => k1 σ4 F4 H4 E4 (((e1.trans g2.ff).trans g3.ff).trans e4)

/-! #### while -/
inductive WhTo (T : Tx) (t : TT) (tb : TS) : Nat → List Sl → Out → Prop
  | done {ρ : List Sl} : EvT T t ρ false → WhTo T t tb 0 ρ (.nx ρ)
  | go {n : Nat} {ρ ρ1 : List Sl} {o : Out} : EvT T t ρ true → SeD T tb ρ (.nx ρ1) → WhTo T t tb n ρ1 o → WhTo T t tb (n + 1) ρ o
  | rt {n : Nat} {ρ : List Sl} {d : PyData} : EvT T t ρ true → SeD T tb ρ (.rt d) → WhTo T t tb n ρ (.rt d)
theorem se_while {tb : TS} {n : Nat} (h : WhTo T t tb n ρ o) : SeD T (tWhile t tb) ρ o := fun σ F0 H0 F H D E k => by
  refine ⟨fun m σ' H' => ∃ F' ρ', En T F0 H0 F' H' σ' ρ' ∧ Ex F F' ∧ WhTo T t tb m ρ' o, ⟨n, F, ρ, E, Ex.refl F, h⟩, ?_⟩
  rintro m σ' H' ⟨F', ρ', E', e1, f⟩
  cases f with
  | done ht =>
    refine ht σ' F0 H0 F' H' E' _ fun F2 H2 g2 => ?_
    rw [if_neg Bool.false_ne_true]
    exact k σ' F2 H2 (E'.mono g2) (e1.trans g2.ff)
  | go ht hb hf =>
    rename_i m' ρ2
    refine ht σ' F0 H0 F' H' E' _ fun F2 H2 g2 => ?_
    rw [if_pos rfl]
    refine ⟨fun σ3 H3 => ∃ F3, En T F0 H0 F3 H3 σ3 ρ2 ∧ Ex F F3, fun σ3 H3 ⟨F3, a, b⟩ => ⟨m', Nat.lt_succ_self _, F3, ρ2, a, b, hf⟩, ?_⟩
    exact hb σ' F0 H0 F2 H2 _ (E'.mono g2) fun σ3 F3 H3 E3 e3 => ⟨F3, E3, (e1.trans g2.ff).trans e3⟩
  | rt ht hb =>
    refine ht σ' F0 H0 F' H' E' _ fun F2 H2 g2 => ?_
    rw [if_pos rfl]
    exact ⟨fun _ _ => False, fun _ _ z => z.elim, hb σ' F0 H0 F2 H2 _ (E'.mono g2) k⟩

/-! #### comprehensions -/
def wipeR (ρ : List Sl) : List Nat → List Sl
  | [] => ρ
  | v :: vs => (wipeR ρ vs).set v .no
theorem En.wipe {F0 H0 F H : Hp} {σ : L2.St} : ∀ (vs : List Nat), En T F0 H0 F H σ ρ → En T F0 H0 F H (L2.wipe σ vs) (wipeR ρ vs)
  | [], E => E
  | v :: vs, E => by
    have E' := En.wipe vs E
    unfold L2.wipe wipeR
    refine ⟨E'.gr, by rw [List.length_set, List.length_set, E'.len], fun j s hj => ?_, fun j k l s t n h1 h2 k1 k2 => ?_⟩
    · by_cases e : v = j
      · subst e
        have hl : v < (wipeR ρ vs).length := by
          have q := (List.getElem?_eq_some_iff.mp hj).1
          rw [List.length_set] at q
          exact q
        rw [List.getElem?_set_self hl] at hj
        cases hj
        trivial
      · rw [List.getElem?_set_ne e] at hj
        rw [List.getElem?_set_ne e]
        exact E'.ok j s hj
    · have a : ∀ {j : Nat} {s : Sl}, ((wipeR ρ vs).set v .no)[j]? = some s → Owns T F ((L2.wipe σ vs).set v none)[j]? l s → (wipeR ρ vs)[j]? = some s ∧ Owns T F (L2.wipe σ vs)[j]? l s := fun {j s} hj ho => by
        by_cases e : v = j
        · subst e
          have hl : v < (wipeR ρ vs).length := by
            have q := (List.getElem?_eq_some_iff.mp hj).1
            rw [List.length_set] at q
            exact q
          rw [List.getElem?_set_self hl] at hj
          cases hj
          exact ho.elim
        · rw [List.getElem?_set_ne e] at hj
          rw [List.getElem?_set_ne e] at ho
          exact ⟨hj, ho⟩
      obtain ⟨a1, a2⟩ := a h1 k1
      obtain ⟨b1, b2⟩ := a h2 k2
      exact E'.sep j k l s t n a1 b1 a2 b2
theorem wipe_wipe (σ : L2.St) : ∀ vs : List Nat, L2.wipe (L2.wipe σ vs) vs = L2.wipe σ vs := fun vs => by
  have h : ∀ (ws : List Nat) (τ : L2.St), (∀ j ∈ ws, j ∈ vs) → L2.wipe (L2.wipe τ ws) vs = L2.wipe τ vs := fun ws => by
    induction ws with
    | nil => intro τ _; rfl
    | cons w ws ih =>
      intro τ hw
      show L2.wipe ((L2.wipe τ ws).set w none) vs = _
      rw [wipe_set (hw w List.mem_cons_self), ih τ fun j hj => hw j (List.mem_cons_of_mem _ hj)]
  exact h vs σ fun _ hj => hj
/-- a comprehension's turns over src give es -/
inductive LcTo (T : Tx) (g : TG) (t : TT) (te : TE) (vs : List Nat) (ρ : List Sl) : List PyData → List PyData → Prop
  | nil : LcTo T g t te vs ρ [] []
  | cons {d e : PyData} {ds es : List PyData} {ρ1 : List Sl} {js : List Nat} : TgD T g js d ρ ρ1 → (∀ j ∈ js, j ∈ vs) → EvT T t ρ1 true → EvD T te ρ1 e → LcTo T g t te vs ρ ds es → LcTo T g t te vs ρ (d :: ds) (e :: es)
  | skip {d : PyData} {ds es : List PyData} {ρ1 : List Sl} {js : List Nat} : TgD T g js d ρ ρ1 → (∀ j ∈ js, j ∈ vs) → EvT T t ρ1 false → LcTo T g t te vs ρ ds es → LcTo T g t te vs ρ (d :: ds) es
theorem LcTo.len {vs : List Nat} (h : LcTo T g t te vs ρ ds es) : es.length ≤ ds.length := by
  induction h with
  | nil => exact Nat.le_refl _
  | cons _ _ _ _ _ ih => exact Nat.succ_le_succ ih
  | skip _ _ _ _ ih => exact Nat.le_succ_of_le ih
theorem LcTo.map {vs js : List Nat} (f : PyData → PyData) (hj : ∀ j ∈ js, j ∈ vs) : ∀ {src : List PyData}, (∀ d ∈ src, ∃ ρ1, TgD T g js d ρ ρ1 ∧ EvT T t ρ1 true ∧ EvD T te ρ1 (f d)) → LcTo T g t te vs ρ src (src.map f)
  | [], _ => .nil
  | d :: src, h => by
    obtain ⟨ρ1, h1, h2, h3⟩ := h d List.mem_cons_self
    exact .cons h1 hj h2 h3 (LcTo.map f hj fun x hx => h x (List.mem_cons_of_mem _ hx))
theorem eo_lcTo {wi : TI} {vs : List Nat} {src : List PyData} (hw : TiD T wi ρ src) (h : LcTo T g t te vs (wipeR ρ vs) src es) (hz : src.length ≤ 100000) : EvO T (tLc wi g t te vs) ρ es := fun σ F0 H0 F H E Q q => hw σ F0 H0 F H E _ fun J F1 H1 g1 w => by
  intro Dl hD
  have E1 : En T F0 H0 F1 H1 σ ρ := E.mono g1
  have Ew : En T F0 H0 F1 H1 (L2.wipe σ vs) (wipeR ρ vs) := E1.wipe vs
  have gl : Gr F1 H1 F1 (upd H1 Dl (.lst [])) := Gr.lay g1.sub hD
  have hl := h.len
  refine ⟨fun i m H' => m = src.length - i ∧ i ≤ src.length ∧ ∃ F' acc e1 e2, Gr F1 H1 F' H' ∧ F' Dl = none ∧ H' Dl = some (.lst acc) ∧ OkAll T F' acc e1 ∧ es = e1 ++ e2 ∧ LcTo T g t te vs (wipeR ρ vs) (src.drop i) e2, ⟨src.length, rfl, Nat.zero_le _, F1, [], [], es, gl, fresh_back g1.sub hD, upd_same, .nil, rfl, h⟩, ?_⟩
  rintro i m H' ⟨rfl, hi, F', acc, e1, e2, g2, hDF, hDH, ha, hes, hL⟩
  obtain ⟨go, stop, yld⟩ := w F' H' g2.ff g2.sub
  generalize hs : src.drop i = rest at hL
  have next : ∀ {d : PyData} {ds : List PyData}, d :: ds = src.drop i → i < src.length ∧ src[i]? = some d ∧ src.drop (i + 1) = ds := fun {d ds} e => by
    have hlt : i < src.length := by
      rcases Nat.lt_or_ge i src.length with c | c
      · exact c
      · rw [List.drop_eq_nil_of_le c] at e
        cases e
    rw [List.drop_eq_getElem_cons hlt] at e
    injection e with e2 e3
    exact ⟨hlt, by rw [List.getElem?_eq_getElem hlt, ← e2], e3.symm⟩
  have accl : acc.length < 100000 ∨ e2 = [] := by
    rw [ha.length]
    rw [hes, List.length_append] at hl
    cases e2 with
    | nil => exact .inr rfl
    | cons x r =>
      rw [List.length_cons] at hl
      exact .inl (by omega)
  cases hL with
  | nil =>
    have hl : src.length ≤ i := List.drop_eq_nil_iff.mp hs
    have e : i = src.length := by omega
    subst e
    rw [List.append_nil] at hes
    rw [hes] at q
    exact .inl ⟨stop, q Dl acc F' H' (g1.trans g2) (fresh_back g1.hh hD) hDF hDH ha⟩
  | cons ht hj h2 h3 h4 =>
    rename_i d e ds' es' ρ1 js
    obtain ⟨hlt, hget, hd⟩ := next hs.symm
    refine .inr ⟨go i hlt, fun H3 => ∃ F' acc e1 e2, Gr F1 H1 F' H3 ∧ F' Dl = none ∧ H3 Dl = some (.lst acc) ∧ OkAll T F' acc e1 ∧ es = e1 ++ e2 ∧ LcTo T g t te vs (wipeR ρ vs) (src.drop (i + 1)) e2, fun H3 k => ⟨src.length - (i + 1), by omega, rfl, hlt, k⟩, fun x H3 hy => ?_⟩
    obtain ⟨F3, g3, o3⟩ := yld i x H3 _ hget hy
    refine ht (L2.wipe σ vs) F0 H0 F3 H3 x ((Ew.mono g2).mono g3) o3 _ fun σ4 F4 H4 g4 E4 w4 => ⟨by rw [w4 vs hj, wipe_wipe], ?_⟩
    refine h2 σ4 F0 H0 F4 H4 E4 _ fun F5 H5 g5 => ?_
    rw [if_pos rfl]
    refine h3 σ4 F0 H0 F5 H5 (E4.mono g5) _ fun v F6 H6 g6 k6 => ?_
    have g46 := ((g3.trans g4).trans g5).trans g6
    have hn6 : F6 Dl = none := g46.new Dl hDF ⟨_, hDH, fun _ z => nomatch z⟩
    refine ⟨acc, g46.hh _ _ hDH, ?_, F6, acc ++ [v], e1 ++ [e], es', (g2.trans g46).mut hD hn6, hn6, upd_same, (ha.ex g46.ff).append (.cons k6 .nil), by rw [hes, List.append_assoc] <;> rfl, by rw [hd]; exact h4⟩
    rcases accl with z | z
    · exact szl z
    · cases z
  | skip ht hj h2 h4 =>
    rename_i d ds' ρ1 js
    obtain ⟨hlt, hget, hd⟩ := next hs.symm
    refine .inr ⟨go i hlt, fun H3 => ∃ F' acc e1 e2, Gr F1 H1 F' H3 ∧ F' Dl = none ∧ H3 Dl = some (.lst acc) ∧ OkAll T F' acc e1 ∧ es = e1 ++ e2 ∧ LcTo T g t te vs (wipeR ρ vs) (src.drop (i + 1)) e2, fun H3 k => ⟨src.length - (i + 1), by omega, rfl, hlt, k⟩, fun x H3 hy => ?_⟩
    obtain ⟨F3, g3, o3⟩ := yld i x H3 _ hget hy
    refine ht (L2.wipe σ vs) F0 H0 F3 H3 x ((Ew.mono g2).mono g3) o3 _ fun σ4 F4 H4 g4 E4 w4 => ⟨by rw [w4 vs hj, wipe_wipe], ?_⟩
    refine h2 σ4 F0 H0 F4 H4 E4 _ fun F5 H5 g5 => ?_
    rw [if_neg Bool.false_ne_true]
    have g45 := (g3.trans g4).trans g5
    exact ⟨F5, acc, e1, e2, g2.trans g45, g45.new Dl hDF ⟨_, hDH, fun _ z => nomatch z⟩, g45.hh _ _ hDH, ha.ex g45.ff, hes, by rw [hd]; exact h4⟩

/-! ### a def by its body -/
def stR (N : List Str) (ds : List PyData) : List Sl := ds.map .dat ++ List.replicate (N.length - ds.length) .no
theorem en_start {F H : Hp} {N : List Str} {vs : List V} {ds : List PyData} (e : Ex F H) (k : OkAll T F vs ds) : En T F H F H (L2.start N vs) (stR N ds) := by
  refine ⟨Gr.refl e, ?_, fun i s h => ?_, fun i j l s t n h1 h2 k1 k2 => ?_⟩
  · unfold L2.start stR
    rw [List.length_append, List.length_append, List.length_map, List.length_map, List.length_replicate, List.length_replicate, k.length]
  · unfold stR at h
    unfold L2.start
    rcases Nat.lt_or_ge i ds.length with c | c
    · rw [List.getElem?_append_left (by rw [List.length_map]; exact c), List.getElem?_map, List.getElem?_eq_getElem c] at h
      have e1 : Sl.dat ds[i] = s := Option.some.inj h
      subst e1
      obtain ⟨v, h1, h2⟩ := k.get (List.getElem?_eq_getElem c)
      refine ⟨v, ?_, h2⟩
      rw [List.getElem?_append_left (by rw [List.length_map, k.length]; exact c), List.getElem?_map, h1]
      rfl
    · rw [List.getElem?_append_right (by rw [List.length_map]; exact c), List.getElem?_replicate] at h
      split at h
      · cases h
        trivial
      · cases h
  · have nz : ∀ {i : Nat} {s : Sl}, (stR N ds)[i]? = some s → Owns T F (L2.start N vs)[i]? l s → False := fun {i s} h ho => by
      unfold stR at h
      rcases Nat.lt_or_ge i ds.length with c | c
      · rw [List.getElem?_append_left (by rw [List.length_map]; exact c), List.getElem?_map, List.getElem?_eq_getElem c] at h
        cases h
        exact ho
      · rw [List.getElem?_append_right (by rw [List.length_map]; exact c), List.getElem?_replicate] at h
        split at h
        · cases h
          exact ho
        · cases h
    exact nz h1 k1
theorem fn_d {R : List PyData → PyData → Prop} {vs : List V} {H : Hp} {Q : VK} {E : XK} {N : List Str} (h : spD T R vs H Q E) (k : ∀ ds d, R ds d → SeD T ts (stR N ds) (.rt d) ∨ (d = .none ∧ ∃ ρ', SeD T ts (stR N ds) (.nx ρ'))) : ts { nx := fun _ H' => Q .non H', rt := Q } (L2.start N vs) H := by
  obtain ⟨F, ds, d, e, ok, r, q⟩ := h
  rcases k ds d r with s | ⟨rfl, ρ', s⟩
  · exact s _ F H F H _ (en_start e ok) fun v F1 H1 g a => q v F1 H1 g a
  · exact s _ F H F H _ (en_start e ok) fun σ F1 H1 E1 _ => q .non F1 H1 E1.gr .non
theorem or_n (h : SeD T ts ρ (.nx ρ')) : SeD T ts ρ (.rt .none) ∨ (PyData.none = .none ∧ ∃ ρ', SeD T ts ρ (.nx ρ')) := .inr ⟨rfl, ρ', h⟩
theorem fn_o {R : List PyData → List PyData → Prop} {vs : List V} {H : Hp} {Q : VK} {E : XK} {N : List Str} (h : spO T R vs H Q E) (k : ∀ ds es, R ds es → SeD T ts (stR N ds) (.ro es)) : ts { nx := fun _ H' => Q .non H', rt := Q } (L2.start N vs) H := by
  obtain ⟨F, ds, es, e, ok, r, q⟩ := h
  exact k ds es r _ F H F H _ (en_start e ok) fun l ws F1 H1 g a1 a2 a3 a4 => q l ws F1 H1 g a1 a2 a3 a4
theorem spD_len {R : List PyData → PyData → Prop} {n : Nat} (h : ∀ ds d, R ds d → ds.length = n) : ∀ vs H Q E, spD T R vs H Q E → vs.length = n := fun vs H Q E ⟨F, ds, d, e, ok, r, q⟩ => by rw [ok.length, h ds d r]
theorem spO_len {R : List PyData → List PyData → Prop} {n : Nat} (h : ∀ ds d, R ds d → ds.length = n) : ∀ vs H Q E, spO T R vs H Q E → vs.length = n := fun vs H Q E ⟨F, ds, d, e, ok, r, q⟩ => by rw [ok.length, h ds d r]
end
end LW
set_option Elab.async false
set_option linter.all false
set_option maxRecDepth 100000
set_option maxHeartbeats 4000000
namespace LW
open PySem PySem.Spec PyProof.Rows L2 Evl

/-! ### min, max of a pair of ints -/
def rMinT (K : PySem.W.Frag) : List V → Hp → VK → Prop := fun vs H Q => ∃ (a : Addr) (i j : Int), vs = [V.ref a] ∧ SqT K H a [.int i, .int j] ∧ Q (.int (min i j)) H
def rMaxT (K : PySem.W.Frag) : List V → Hp → VK → Prop := fun vs H Q => ∃ (a : Addr) (i j : Int), vs = [V.ref a] ∧ SqT K H a [.int i, .int j] ∧ Q (.int (max i j)) H
theorem alike2 (i j : Int) : PySem.W.AlikeAll [.int i, .int j] := by
  refine ⟨fun x hx y hy => ?_, fun x hx => ?_⟩
  · rcases List.mem_cons.mp hx with rfl | hx
    · rcases List.mem_cons.mp hy with rfl | hy
      · rfl
      · rw [List.mem_singleton.mp hy] <;> rfl
    · rw [List.mem_singleton.mp hx]
      rcases List.mem_cons.mp hy with rfl | hy
      · rfl
      · rw [List.mem_singleton.mp hy] <;> rfl
  · rcases List.mem_cons.mp hx with rfl | hx
    · intro q; cases q
    · rw [List.mem_singleton.mp hx]
      intro q; cases q
theorem reads2 (h : Heap) (i j : Int) (t u : Tok) : ReadsAll h [Value.int i t, Value.int j u] [.int i, .int j] ([] ++ ([] ++ [])) := .cons (.int i t) (.cons (.int j u) .nil)
section
variable {X : Cx}
theorem call_minT (hc : X.calm = true) (hu : X.A.units + 64 < cLine) : CallR X (.builtin "min") (rMinT X.K) := by
  intro pins s σ H xs us Q I r h
  obtain ⟨a, i, j, rfl, hx, q⟩ := h
  have e1 := Vals.ref1 r
  subst e1
  obtain ⟨its, rv, ht, _⟩ := I.tuple hx
  obtain ⟨t, u, rfl⟩ := Vals.int2 rv
  refine PySem.W.min_tuple_data (I.ok.hd hc) (show s.heap.IsTuple a _ from ht) (reads2 _ i j t u) (alike2 i j) ?_ fun k v h' tk bs hv hr hk => ?_
  · have z : PyData.depthAll [.int i, .int j] = 0 := by simp [PyData.depthAll, PyData.depth]
    rw [z]
    omega
  · have e := PySem.W.minD_ints i [j]
    rw [List.map_cons, List.map_nil] at e
    rw [e] at hr
    cases hr with
    | int _ t' => exact ⟨.int _, H, I.kept (t' := tk) hk, ⟨t', rfl⟩, q⟩
theorem call_maxT (hc : X.calm = true) (hu : X.A.units + 64 < cLine) : CallR X (.builtin "max") (rMaxT X.K) := by
  intro pins s σ H xs us Q I r h
  obtain ⟨a, i, j, rfl, hx, q⟩ := h
  have e1 := Vals.ref1 r
  subst e1
  obtain ⟨its, rv, ht, _⟩ := I.tuple hx
  obtain ⟨t, u, rfl⟩ := Vals.int2 rv
  refine PySem.W.max_tuple_data (I.ok.hd hc) (show s.heap.IsTuple a _ from ht) (reads2 _ i j t u) (alike2 i j) ?_ fun k v h' tk bs hv hr hk => ?_
  · have z : PyData.depthAll [.int i, .int j] = 0 := by simp [PyData.depthAll, PyData.depth]
    rw [z]
    omega
  · have e := PySem.W.maxD_ints i [j]
    rw [List.map_cons, List.map_nil] at e
    rw [e] at hr
    cases hr with
    | int _ t' => exact ⟨.int _, H, I.kept (t' := tk) hk, ⟨t', rfl⟩, q⟩
end
def rMinA (K : PySem.W.Frag) : List V → Hp → VK → Prop := fun xs H Q => rMin K xs H Q ∨ rMinT K xs H Q
def rMaxA (K : PySem.W.Frag) : List V → Hp → VK → Prop := fun xs H Q => rMax K xs H Q ∨ rMaxT K xs H Q
section
variable {T : Tx} {ρ : List Sl} {te : TE} {ds : List PyData}
theorem rc_minT {i j : Int} : RcB T (rMinA T.K) [.tuple [.int i, .int j]] (.int (min i j)) := fun H vs k Q q => by
  cases k with
  | cons k1 k2 =>
    cases k2
    cases k1 with
    | tup h a =>
      cases a with
      | cons a1 a2 =>
        cases a2 with
        | cons a2 a3 =>
          cases a3; cases a1; cases a2
          exact .inr ⟨_, i, j, rfl, h, q _ fun _ => .int _⟩
theorem rc_maxT {i j : Int} : RcB T (rMaxA T.K) [.tuple [.int i, .int j]] (.int (max i j)) := fun H vs k Q q => by
  cases k with
  | cons k1 k2 =>
    cases k2
    cases k1 with
    | tup h a =>
      cases a with
      | cons a1 a2 =>
        cases a2 with
        | cons a2 a3 =>
          cases a3; cases a1; cases a2
          exact .inr ⟨_, i, j, rfl, h, q _ fun _ => .int _⟩
theorem rc_minLA {ns : List Int} {m : Int} (h0 : 0 < ns.length) (hm : m ∈ ns) (hl : ∀ y ∈ ns, m ≤ y) : RcB T (rMinA T.K) [.list (ns.map .int)] (.int m) := fun H vs k Q q => .inl (rc_minL h0 hm hl H vs k Q q)
end

/-! ### t[::-1] of a pair -/
section
variable {prog : Program} {w : World} {A : Around} {E : Value → Shared → Prop} {s : Shared}
theorem getItem_pair_rev {t sl : Addr} {v1 v2 vs : Value} {Q : Value → Shared → Prop} (ht : IsTup s.heap t #[v1, v2]) (hs : s.heap.IsSliceOf sl .none .none vs) (ps : IsPart vs (some (-1)))
    (h : Q (.ref s.heap.objs.size) { s with heap := s.heap.push { cls := .type "tuple", data := .seq ([v2, v1] : List Value).toArray } }) : wpAny (model prog w) A (getItem (.ref t) (.ref sl)) Q E s := by
  have htake : sizeOk (.seq ([v2, v1] : List Value).toArray) := by
    show 2 ≤ sizeLine
    decide
  obtain ⟨os, hos, hcs, hds⟩ := id hs
  have hTs : s.TypeIs (.ref sl) "slice" := ⟨os, hos, hcs⟩
  unfold getItem
  try with_reducible refine wpAny_holding ?_
  first | refine wpAny_bind (wpAny_pure ?_) | skip
  refine wpAny_bind (wpAny_sequenceKey ht.typeIs (by decide) ?_)
  refine wpAny_bind (wpAny_callSpecial?_slot (name := Str.ofString "__getitem__") ht.typeIs PyProof.Rows.slot_tuple_getitem
    (wpAny_call_entry PyProof.Rows.slot_tuple_getitem ht.typeIs entry_tuple_getitem ?_ (args_tuple_getitem _ _)))
  show wpAny _ _ (Builtin.Tuple.tupleItemsOf (.ref t) >>= _) _ _ s
  refine wpAny_bind (PyProof.Rows.tupleItemsOf_ ht ?_)
  refine wpAny_bind (wpAny_typeOf hTs ?_)
  rw [if_pos (by decide)]
  refine wpAny_bind ?_
  unfold Builtin.Slice.sliceApplied Builtin.Slice.sliceFields
  refine wpAny_bind (wpAny_bind (wpAny_field hos hds (x := .none) rfl (wpAny_bind (wpAny_field hos hds (x := .none) rfl (wpAny_bind (wpAny_field hos hds (x := vs) rfl (wpAny_pure ?_)))))))
  refine wpAny_bind (HT.slicePart_ ps ?_)
  show wpAny _ _ (if ((-1 : Int) == 0) = true then _ else _) _ _ s
  rw [if_neg (by decide)]
  refine wpAny_bind (HT.slicePart_ .none (wpAny_bind (HT.slicePart_ .none (wpAny_bind (wpAny_pure ?_)))))
  have e1 : Builtin.Slice.sliceAdjust none none (-1) (((#[v1, v2] : Array Value).size : Nat) : Int) = ((1 : Int), (-1 : Int)) := by
    show Builtin.Slice.sliceAdjust none none (-1) 2 = ((1 : Int), (-1 : Int))
    decide
  have e2 : Builtin.Slice.slicePlaces 1 (-1) (-1) = 2 := by decide
  show wpAny _ _ (match Builtin.Slice.sliceAdjust none none (-1) (((#[v1, v2] : Array Value).size : Nat) : Int) with | (lo, hi) => pure (lo, (-1 : Int), Builtin.Slice.slicePlaces lo hi (-1))) _ _ s
  rw [e1]
  show wpAny _ _ (pure ((1 : Int), (-1 : Int), Builtin.Slice.slicePlaces 1 (-1) (-1))) _ _ s
  rw [e2]
  refine wpAny_pure ?_
  show wpAny _ _ (if ((1 : Int) == 0 && (-1 : Int) == 1 && (2 : Nat) == 2) = true then _ else _) _ _ s
  rw [if_neg (by decide)]
  first
    | exact wpAny_bind (m := Builtin.Tuple.tupleExact _) (wpAny_newObj_type (wpAny_pure ⟨_, rfl, wpAny_pure h⟩) htake)
    | exact wpAny_bind (m := Builtin.Tuple.tupleExact _) (wpAny_newObj_type (wpAny_bind (wpAny_pure (wpAny_pure ⟨_, rfl, wpAny_pure h⟩))) htake)
    | exact wpAny_bind (wpAny_bind (m := Builtin.Tuple.tupleExact _) (wpAny_newObj_type (wpAny_pure (wpAny_pure ⟨_, rfl, wpAny_pure h⟩)) htake))
    | exact wpAny_bind (wpAny_bind (m := Builtin.Tuple.tupleExact _) (wpAny_newObj_type (wpAny_pure ⟨_, rfl, wpAny_pure h⟩) htake))
end
section
variable {X : Cx}
def tRevT (K : PySem.W.Frag) (te : TE) : TE := fun σ H Q => te σ H fun x H1 => ∃ a u v, x = .ref a ∧ SqT K H1 a [u, v] ∧ ∀ p, H1 p = none → Q (.ref p) (upd H1 p (.tup [v, u]))
theorem pe_revT {e : Expr} {te : TE} {k : Nat} {p1 p2 p3 pos : Pos} (he : PE X e te) : PE X (.Subscript e (.Slice none none (some (.UnaryOp .USub (.Constant (.int 1) k p1) p2)) p3) pos) (tRevT X.K te) := by
  refine ⟨fun pins s σ H Q I h => ?_⟩
  refine PyProof.Rows.Subscript_ (thn (he.run pins s σ H _ I h) fun v s1 ⟨x, H1, I1, r1, q1⟩ => ?_)
  obtain ⟨a, xu, xv, ex, hx, q⟩ := q1
  subst ex
  cases r1
  have hst : PO X (some (.UnaryOp .USub (.Constant (.int 1) k p1) p2)) (tPart (tUn (rU fun i => .int (-i)) (tC (.int 1)))) := po_some (pe_un un_neg pe_int)
  refine wpAny_Slice (thn (po_none.run pins s1 σ H1 (fun o H2 => o = none ∧ H2 = H1) I1 ⟨rfl, rfl⟩) fun vl s2 ⟨l, H2, I2, pl, el, e2⟩ => ?_)
  subst el e2
  refine thn (po_none.run pins s2 σ H2 (fun o H3 => o = none ∧ H3 = H2) I2 ⟨rfl, rfl⟩) fun vu s3 ⟨u, H3, I3, pu, eu, e3⟩ => ?_
  subst eu e3
  refine thn (hst.run pins s3 σ H3 (fun o H4 => o = some (-1) ∧ H4 = H3) I3 ⟨1, rfl, -1, rfl, rfl, rfl⟩) fun vs s4 ⟨o, H4, I4, ps, eo, e4⟩ => ?_
  subst eo e4
  have I5 : Inv X pins σ H4 { s4 with heap := s4.heap.push { cls := .type "slice", data := .fields #[vl, vu, vs] } } := I4.kept (t' := s4.toks) fun b ob q => Heap.get?_push_of_some _ q
  obtain ⟨its, r, ht, hz⟩ := I5.tuple hx
  obtain ⟨u1, u2, rfl, ru1, ru2⟩ := Vals.two r
  have evl : vl = .none := by cases pl; rfl
  have evu : vu = .none := by cases pu; rfl
  subst evl evu
  show wpAny (model X.prog X.w) X.A (subscriptTail e (.Slice none none (some (.UnaryOp .USub (.Constant (.int 1) k p1) p2)) p3) (.ref a) (.ref s4.heap.objs.size)) (EP X pins σ Q) X.xe { s4 with heap := s4.heap.push { cls := .type "slice", data := .fields #[.none, .none, vs] } }
  refine PyProof.Rows.tail_any (ops := [.ref a, .ref s4.heap.objs.size]) ht.typeIs (PyProof.Rows.slot_tuple_getitem.lookup) ?_ (by with_unfolding_all rfl)
  refine getItem_pair_rev ht (Heap.IsSliceOf.new _ .none .none vs) ps ?_
  refine ⟨.ref _, _, I5.laid (t' := s4.toks) (o := .tup [xv, xu]) (fun b ob q => Heap.get?_push_of_some _ q) (Nat.le_refl _) ?_, rfl, q _ (I5.hok.fresh (Nat.le_refl _))⟩
  exact ⟨by show 2 ≤ sizeLine; decide, _, .cons ru2 (.cons ru1 .nil), IsTup.new _ _⟩
/-- two readings of one thing -/
theorem PE.or {e : Expr} {t u : TE} (h1 : PE X e t) (h2 : PE X e u) : PE X e (fun σ H Q => t σ H Q ∨ u σ H Q) :=
  ⟨fun pins s σ H Q I h => h.elim (h1.run pins s σ H Q I) (h2.run pins s σ H Q I)⟩
end
def tOrE (t u : TE) : TE := fun σ H Q => t σ H Q ∨ u σ H Q
section
variable {T : Tx} {ρ : List Sl} {te tu : TE} {ds : List PyData} {d x y : PyData}
theorem ed_orL (h : EvD T te ρ d) : EvD T (tOrE te tu) ρ d := fun σ F0 H0 F H E Q q => .inl (h σ F0 H0 F H E Q q)
theorem ed_orR (h : EvD T tu ρ d) : EvD T (tOrE te tu) ρ d := fun σ F0 H0 F H E Q q => .inr (h σ F0 H0 F H E Q q)
theorem ed_revT (h : EvD T te ρ (.tuple [x, y])) : EvD T (tRevT T.K te) ρ (.tuple [y, x]) := fun σ F0 H0 F H E Q q => h σ F0 H0 F H E _ fun v F1 H1 g k => by
  cases k with
  | tup hx a =>
    cases a with
    | cons a1 a2 =>
      cases a2 with
      | cons a2 a3 =>
        cases a3
        refine ⟨_, _, _, rfl, ex_t g.sub hx, fun p hp => ?_⟩
        exact q _ _ _ (g.trans (Gr.alloc g.sub hp)) (.tup (SqT.of upd_same) (.cons (a2.ex (Gr.alloc g.sub hp).ff) (.cons (a1.ex (Gr.alloc g.sub hp).ff) .nil)))
theorem eo_revL (h : EvD T te ρ (.list ds)) : EvO T (tRevL T.K te) ρ ds.reverse := fun σ F0 H0 F H E Q q => h σ F0 H0 F H E _ fun v F1 H1 g k => by
  cases k with
  | lst hx a =>
    refine ⟨_, _, rfl, SqL.of (g.sub _ _ hx), fun p hp => ?_⟩
    exact q p _ _ _ (g.trans (Gr.lay g.sub hp)) (fresh_back g.hh hp) (fresh_back g.sub hp) upd_same a.reverse
/-! ### .index -/
theorem ed_index {z : PyData} {j : Nat} {ta : TE} (h : EvB T te ρ (.list ds)) (hb : EvB T ta ρ d) (p1 : plainAll ds = true) (p2 : plain d = true) (s1 : SeqAt.shaped (.list ds) = true) (s2 : SeqAt.shaped d = true)
    (hz : ds[j]? = some z) (he : PyData.eqv z d = true) (hn : ∀ (m : Nat) (z' : PyData), m < j → ds[m]? = some z' → PyData.eqv z' d = false) : EvD T (tBM T.K "list" (rIndexD T.K) te (tCons ta tNil)) ρ (.int j) := fun σ F0 H0 F H E Q q => h σ F0 H0 F H E _ fun v F1 H1 g1 k1 => by
  cases k1 with
  | lst h1 a1 =>
    refine ⟨.inl ⟨rfl, _, SqL.of h1⟩, hb σ F0 H0 F1 H1 (E.mono g1) _ fun u F2 H2 g2 k2 => ?_⟩
    exact ⟨_, u, d, ds, j, z, rfl, rfl, .lst (SqL.of (g2.hh _ _ h1)) ((a1.ex g2.hh).dp p1), k2.dp p2, s1, s2, hz, he, hn, q _ F2 H2 (g1.trans g2) (.int _)⟩
end

theorem lk_sc {v : V} : List.lookup ("shows" : Str) [(("counts" : Str), v)] = none := by
  have e : (("shows" : Str) == ("counts" : Str)) = false := by decide +kernel
  simp [List.lookup, e]
theorem lk_sb {v : V} : List.lookup ("shows" : Str) [(("by" : Str), v)] = none := by
  have e : (("shows" : Str) == ("by" : Str)) = false := by decide +kernel
  simp [List.lookup, e]
/-! ### answers: made, asked -/
/-- Way.__init__(self, counts): the list copied -/
def spWayI (T : Tx) : Sp := fun vs H Q _ => ∃ (x dx l : Addr) (xs : List V), vs = [.ref x, .ref l] ∧ H x = some (.ins T.CW dx []) ∧ H l = some (.lst xs) ∧
  ∀ l2, H l2 = none → Q .non (upd (upd H l2 (.lst xs)) x (.ins T.CW dx [("counts", .ref l2)]))
/-- Never.__init__(self, by) -/
def spNevI (T : Tx) : Sp := fun vs H Q _ => ∃ (x dx : Addr) (n : Int), vs = [.ref x, .int n] ∧ H x = some (.ins T.CN dx []) ∧ Q .non (upd H x (.ins T.CN dx [("by", .int n)]))
def EvW (T : Tx) (te : TE) (ρ : List Sl) (d : PyData) : Prop := ∀ (σ : L2.St) (F0 H0 F H : Hp), En T F0 H0 F H σ ρ → ∀ Q : VK, (∀ v F1 H1, Gr F H F1 H1 → OkW T H F1 H1 v d → Q v H1) → te σ H Q
/-- a promise of an answer -/
def spA (T : Tx) (R : List PyData → PyData → Prop) : Sp := fun vs H Q _ => ∃ (F : Hp) (ds : List PyData) (d : PyData), Ex F H ∧ OkAll T F vs ds ∧ R ds d ∧ ∀ v F1 H1, Gr F H F1 H1 → OkW T H F1 H1 v d → Q v H1
section
variable {T : Tx} {ρ : List Sl} {te tu : TE} {ta : TA} {ds es : List PyData} {d z : PyData}
theorem OkW.freeze {F H F1 H1 : Hp} {v : V} (g : Gr F H F1 H1) (k : OkW T H F1 H1 v d) : ∃ F2, Gr F H F2 H1 ∧ Ok T F2 v d := by
  cases k with
  | way h1 h2 h3 h4 a =>
    exact ⟨_, g.freeze h2 h3 h4, .way (Ex.new h3 _ _ h1) upd_same (a.ex (Ex.new h3))⟩
  | nev h => exact ⟨F1, g, h⟩
theorem EvW.toD (h : EvW T te ρ d) : EvD T te ρ d := fun σ F0 H0 F H E Q q => h σ F0 H0 F H E Q fun v F1 H1 g k => by
  obtain ⟨F2, g2, k2⟩ := k.freeze g
  exact q v F2 H1 g2 k2
theorem EvW.is (h : EvW T te ρ d) (e : d = z) : EvW T te ρ z := e ▸ h
theorem OkW.mono {H0 H0' F H F1 H1 : Hp} {v : V} (e : Ex H0 H0') (g : Gr F H F1 H1) (k : OkW T H0' F H v d) : OkW T H0 F1 H1 v d := by
  cases k with
  | way h1 h2 h3 h4 a => exact .way (g.ff _ _ h1) (fresh_back e h2) (g.new _ h3 ⟨_, h4, fun _ z => nomatch z⟩) (g.hh _ _ h4) (a.ex g.ff)
  | nev h => exact .nev (h.ex g.ff)
theorem ew_call {R : List PyData → PyData → Prop} {E : XK} (h : EvA T ta ρ ds) (hr : R ds z) : EvW T (tCall (spA T R) [] E ta) ρ z := fun σ F0 H0 F H En' Q q =>
  h σ F0 H0 F H En' _ fun vs F1 H1 g k => ⟨F1, ds, z, g.sub, by rw [List.append_nil]; exact k, hr, fun v F2 H2 g2 k2 => q v F2 H2 (g.trans g2) (k2.mono g.hh (Gr.refl g2.sub))⟩
/-- a new instance with its fields set -/
theorem made_gr {F H : Hp} {x dx l C : Addr} {o : HO} {xs : List V} {fs : List (Str × V)} (e : Ex F H) (nx : H x = none) (nd : H dx = none) (hne : dx ≠ x) (nl : (upd (upd H dx (.own x)) x (.ins C dx [])) l = none) :
    Gr F H (upd (upd F dx (.own x)) x (.ins C dx fs)) (upd (upd (upd (upd H dx (.own x)) x (.ins C dx [])) l (.lst xs)) x (.ins C dx fs)) ∧ H l = none ∧ (upd (upd F dx (.own x)) x (.ins C dx fs)) l = none ∧ (upd (upd (upd (upd H dx (.own x)) x (.ins C dx [])) l (.lst xs)) x (.ins C dx fs)) l = some (.lst xs) := by
  have lx : l ≠ x := fun q => by rw [q, upd_same] at nl; cases nl
  have ld : l ≠ dx := fun q => by rw [q, upd_ne hne, upd_same] at nl; cases nl
  rw [upd_ne lx, upd_ne ld] at nl
  have hl : F l = none := fresh_back e nl
  refine ⟨⟨fun a u h => ?_, fun a u h => ?_, fun a u h => ?_, fun a h ⟨u, k, _⟩ => ?_⟩, nl, ?_, ?_⟩
  · rw [upd_ne (ne_of_none h (fresh_back e nx)), upd_ne (ne_of_none h (fresh_back e nd))]
    exact h
  · rw [upd_ne (ne_of_none h nx), upd_ne (ne_of_none h nl), upd_ne (ne_of_none h nx), upd_ne (ne_of_none h nd)]
    exact h
  · by_cases q : a = x
    · rw [q, upd_same] at h ⊢
      exact h
    · rw [upd_ne q] at h ⊢
      by_cases q2 : a = dx
      · subst q2
        rw [upd_same] at h
        rw [upd_ne (Ne.symm ld), upd_ne hne, upd_same]
        exact h
      · rw [upd_ne q2] at h
        rw [upd_ne (ne_of_none h hl), upd_ne q, upd_ne q2]
        exact e a u h
  · rw [upd_ne (ne_of_none k nx), upd_ne (ne_of_none k nd)]
    exact h
  · rw [upd_ne lx, upd_ne ld]
    exact hl
  · rw [upd_ne lx, upd_same]
/-- Way(xs) -/
theorem ew_way {E : XK} (h : EvD T te ρ (.list ds)) : EvW T (tMake T.CW (spWayI T) [] E (tCons te tNil)) ρ (wayD ds) := fun σ F0 H0 F H En' Q q => h σ F0 H0 F H En' _ fun v F1 H1 g k => by
  intro x dx nx nd hne
  cases k with
  | lst hx a =>
    rename_i p xs
    have hp := g.sub _ _ hx
    refine ⟨x, dx, p, xs, rfl, upd_same, by rw [upd_ne (ne_of_none hp nx), upd_ne (ne_of_none hp nd)]; exact hp, fun l2 hl2 => ⟨rfl, ?_⟩⟩
    obtain ⟨g2, n1, n2, n3⟩ := made_gr (C := T.CW) (o := .own x) (xs := xs) (fs := [("counts", .ref l2)]) g.sub nx nd hne hl2
    exact q _ _ _ (g.trans g2) (.way upd_same (fresh_back g.hh n1) n2 n3 (a.ex g2.ff))
theorem ew_wayO {E : XK} {i : Nat} (hi : ρ[i]? = some (.own ds)) : EvW T (tMake T.CW (spWayI T) [] E (tCons (tVar i) tNil)) ρ (wayD ds) := fun σ F0 H0 F H En' Q q => by
  obtain ⟨l, vs, e, h1, h2, h3, a⟩ := En'.ok i _ hi
  refine ⟨.ref l, e, fun x dx nx nd hne => ?_⟩
  refine ⟨x, dx, l, vs, rfl, upd_same, by rw [upd_ne (ne_of_none h3 nx), upd_ne (ne_of_none h3 nd)]; exact h3, fun l2 hl2 => ⟨rfl, ?_⟩⟩
  obtain ⟨g2, n1, n2, n3⟩ := made_gr (C := T.CW) (o := .own x) (xs := vs) (fs := [("counts", .ref l2)]) En'.sub nx nd hne hl2
  exact q _ _ _ g2 (.way upd_same n1 n2 n3 (a.ex g2.ff))
/-- Never(n) -/
theorem ed_nev {E : XK} {n : Int} (h : EvD T te ρ (.int n)) : EvD T (tMake T.CN (spNevI T) [] E (tCons te tNil)) ρ (nevD n) := fun σ F0 H0 F H En' Q q => h σ F0 H0 F H En' _ fun v F1 H1 g k => by
  intro x dx nx nd hne
  cases k
  refine ⟨x, dx, n, rfl, upd_same, rfl, ?_⟩
  have g2 : Gr F1 H1 (upd (upd F1 dx (.own x)) x (.ins T.CN dx [("by", .int n)])) (upd (upd (upd H1 dx (.own x)) x (.ins T.CN dx [])) x (.ins T.CN dx [("by", .int n)])) := by
    rw [upd_upd]
    refine ⟨fun a u h => ?_, fun a u h => ?_, fun a u h => ?_, fun a h ⟨u, k, _⟩ => ?_⟩
    · rw [upd_ne (ne_of_none h (fresh_back g.sub nx)), upd_ne (ne_of_none h (fresh_back g.sub nd))]
      exact h
    · rw [upd_ne (ne_of_none h nx), upd_ne (ne_of_none h nd)]
      exact h
    · exact upd_ex (upd_ex g.sub) a u h
    · rw [upd_ne (ne_of_none k nx), upd_ne (ne_of_none k nd)]
      exact h
  exact q _ _ _ (g.trans g2) (.nev upd_same)
theorem EvD.toW {n : Int} (h : EvD T te ρ (nevD n)) : EvW T te ρ (nevD n) := fun σ F0 H0 F H En' Q q => h σ F0 H0 F H En' Q fun v F1 H1 g k => q v F1 H1 g (.nev k)
/-- the fields -/
structure ClsF (T : Tx) : Prop where
  cw : Cls T.K T.CW
  cn : Cls T.K T.CN
  nc : NoAttr T.K T.CW "counts"
  nb : NoAttr T.K T.CN "by"
  aw : AnsCls T.K T.CW
  an : AnsCls T.K T.CN
theorem ed_counts (C : ClsF T) (h : EvD T te ρ (wayD ds)) : EvD T (tFld T.K te "counts") ρ (.list ds) := fun σ F0 H0 F H En' Q q => h σ F0 H0 F H En' _ fun v F1 H1 g k => by
  cases k with
  | way h1 h2 a => exact ⟨_, _, _, _, _, rfl, g.sub _ _ h1, C.cw, C.nc, by simp [List.lookup], q _ F1 H1 g (.lst h2 a)⟩
theorem eb_counts (C : ClsF T) (h : EvB T te ρ (wayD ds)) : EvB T (tFld T.K te "counts") ρ (.list ds) := fun σ F0 H0 F H En' Q q => h σ F0 H0 F H En' _ fun v F1 H1 g k => by
  cases k with
  | way h1 h2 a => exact ⟨_, _, _, _, _, rfl, h1, C.cw, C.nc, by simp [List.lookup], q _ F1 H1 g (.lst h2 a)⟩
theorem ed_by (C : ClsF T) {n : Int} (h : EvD T te ρ (nevD n)) : EvD T (tFld T.K te "by") ρ (.int n) := fun σ F0 H0 F H En' Q q => h σ F0 H0 F H En' _ fun v F1 H1 g k => by
  cases k with
  | nev h1 => exact ⟨_, _, _, _, _, rfl, g.sub _ _ h1, C.cn, C.nb, by simp [List.lookup], q _ F1 H1 g (.int _)⟩
/-- found.shows(..) -/
theorem ed_methW {R : List PyData → PyData → Prop} {E : XK} (h : EvB T te ρ (wayD ds)) (ha : EvBA T ta ρ es) (hr : R (wayD ds :: es) z) (hf : flatD z = true) : EvD T (tMeth T.CW "shows" (spD T R) [] E te ta) ρ z := fun σ F0 H0 F H En' Q q => h σ F0 H0 F H En' _ fun v F1 H1 g k => by
  cases k with
  | way h1 h2 a =>
    refine ⟨_, _, _, rfl, h1, lk_sc, ha σ F0 H0 F1 H1 (En'.mono g) _ fun vs F2 H2 g2 k2 => ?_⟩
    refine ⟨H2, _, z, Ex.refl H2, .cons (.way (g2.hh _ _ h1) (g2.hh _ _ h2) (a.ex g2.hh)) (by rw [List.append_nil]; exact k2), hr, fun w F3 H3 g3 k3 => ?_⟩
    exact q w F2 H3 ((g.trans g2).trans ⟨Ex.refl _, g3.hh, g2.sub.trans g3.hh, fun a h _ => h⟩) (k3.flat hf F2)
theorem ed_methN {R : List PyData → PyData → Prop} {E : XK} {n : Int} (h : EvB T te ρ (nevD n)) (ha : EvBA T ta ρ es) (hr : R (nevD n :: es) z) (hf : flatD z = true) : EvD T (tMeth T.CN "shows" (spD T R) [] E te ta) ρ z := fun σ F0 H0 F H En' Q q => h σ F0 H0 F H En' _ fun v F1 H1 g k => by
  cases k with
  | nev h1 =>
    refine ⟨_, _, _, rfl, h1, lk_sb, ha σ F0 H0 F1 H1 (En'.mono g) _ fun vs F2 H2 g2 k2 => ?_⟩
    refine ⟨H2, _, z, Ex.refl H2, .cons (.nev (g2.hh _ _ h1)) (by rw [List.append_nil]; exact k2), hr, fun w F3 H3 g3 k3 => ?_⟩
    exact q w F2 H3 ((g.trans g2).trans ⟨Ex.refl _, g3.hh, g2.sub.trans g3.hh, fun a h _ => h⟩) (k3.flat hf F2)
/-! statements with answers -/
theorem spA_len {R : List PyData → PyData → Prop} {n : Nat} (h : ∀ ds d, R ds d → ds.length = n) : ∀ vs H Q E, spA T R vs H Q E → vs.length = n := fun vs H Q E ⟨F, ds, d, e, ok, r, q⟩ => by rw [ok.length, h ds d r]
theorem se_retW (h : EvW T te ρ d) : SeD T (tRet te) ρ (.ra d) := fun σ F0 H0 F H D E k => h σ F0 H0 F H E D.rt fun v F1 H1 g a => k v F1 H1 (E.gr.trans g) (a.mono E.gr.hh (Gr.refl g.sub))
theorem se_asgW {i : Nat} (h : EvW T te ρ (wayD ds)) : SeD T (tAsg te (gName i)) ρ (.nx (ρ.set i (.oway ds))) := fun σ F0 H0 F H D E k => h σ F0 H0 F H E _ fun v F1 H1 g a => by
  cases a with
  | way h1 h2 h3 h4 a =>
    refine k _ F1 H1 ((E.mono g).setS ⟨_, _, _, _, rfl, h1, fresh_back E.gr.hh h2, h3, h4, a⟩ fun j t l' hj ht ho hq => ?_) g.ff
    obtain ⟨x', dx', e1, e2⟩ := hq
    cases e1
    rw [h1] at e2
    cases e2
    obtain ⟨_, _, vs', h5⟩ := (ho.back g.ff (E.ok j t ht)).here (E.ok j t ht)
    rw [h2] at h5
    cases h5
theorem se_asgN {i : Nat} {n : Int} (h : EvW T te ρ (nevD n)) : SeD T (tAsg te (gName i)) ρ (.nx (ρ.set i (.dat (nevD n)))) := fun σ F0 H0 F H D E k => h σ F0 H0 F H E _ fun v F1 H1 g a => by
  cases a with
  | nev h1 => exact k _ F1 H1 ((E.mono g).setD h1) g.ff
theorem fn_a {R : List PyData → PyData → Prop} {ts : TS} {vs : List V} {H : Hp} {Q : VK} {E : XK} {N : List Str} (h : spA T R vs H Q E) (k : ∀ ds d, R ds d → SeD T ts (stR N ds) (.ra d)) : ts { nx := fun _ H' => Q .non H', rt := Q } (L2.start N vs) H := by
  obtain ⟨F, ds, d, e, ok, r, q⟩ := h
  exact k ds d r _ F H F H _ (en_start e ok) fun v F1 H1 g a => q v F1 H1 g a
end
end LW
set_option Elab.async false
set_option linter.all false
set_option maxRecDepth 100000
set_option maxHeartbeats 4000000
namespace LW
open PySem PySem.Spec PyProof.Rows L2 Evl

/-- the built-in names that the text leaves as they are -/
structure Bl (mg : Str → Option Value) : Prop where
  isinstance : mg "isinstance" = none
  int : mg "int" = none
  bool : mg "bool" = none
  tuple : mg "tuple" = none
  list : mg "list" = none
  str : mg "str" = none
  len : mg "len" = none
  all : mg "all" = none
  any : mg "any" = none
  sum : mg "sum" = none
  min : mg "min" = none
  max : mg "max" = none
  abs : mg "abs" = none
  zip : mg "zip" = none
  range : mg "range" = none
  enumerate : mg "enumerate" = none
theorem bb_len : bootBuiltins "len" = some (.builtin "len") := by decide +kernel
theorem bb_all : bootBuiltins "all" = some (.builtin "all") := by decide +kernel
theorem bb_any : bootBuiltins "any" = some (.builtin "any") := by decide +kernel
theorem bb_sum : bootBuiltins "sum" = some (.builtin "sum") := by decide +kernel
theorem bb_min : bootBuiltins "min" = some (.builtin "min") := by decide +kernel
theorem bb_max : bootBuiltins "max" = some (.builtin "max") := by decide +kernel
theorem bb_abs : bootBuiltins "abs" = some (.builtin "abs") := by decide +kernel
theorem bb_isi : bootBuiltins "isinstance" = some (.builtin "isinstance") := by decide +kernel
theorem bb_int : bootBuiltins "int" = some (.type "int") := by decide +kernel
theorem bb_bool : bootBuiltins "bool" = some (.type "bool") := by decide +kernel
theorem bb_tuple : bootBuiltins "tuple" = some (.type "tuple") := by decide +kernel
theorem bb_list : bootBuiltins "list" = some (.type "list") := by decide +kernel
theorem bb_str : bootBuiltins "str" = some (.type "str") := by decide +kernel
theorem u65 {k : Nat} {A : Around} (r : Room k A) : A.units + 65 < cLine := by have := r.un; omega

/-- a def as its callers see it -/
structure Cal (P : Program) (w : World) (K : PySem.W.Frag) (mg : Str → Option Value) (base : Heap) (k : Nat) (x : Str) (ps : List Str) (sp : Sp) : Prop where
  ex : ∃ f fd, FnOk P w K mg base CX0 k f fd ps sp ∧ mg x = some (.ref f) ∧ PySem.W.keepIn K (.ref f) = true ∧ Binds K fd ps []
/-- a method of the class at C -/
structure Mcal (P : Program) (w : World) (K : PySem.W.Frag) (mg : Str → Option Value) (base : Heap) (k : Nat) (C : Addr) (m : Str) (ps : List Str) (sp : Sp) : Prop where
  ex : ∃ f fd, FnOk P w K mg base CX0 k f fd ps sp ∧ Meth K C m f ∧ Binds K fd ps []
/-- a class that is made -/
structure Kcal (P : Program) (w : World) (K : PySem.W.Frag) (mg : Str → Option Value) (base : Heap) (k : Nat) (C : Addr) (x : Str) (ps : List Str) (sp : Sp) : Prop where
  ex : ∃ f fd, FnOk P w K mg base CX0 k f fd ps sp ∧ Mk K C f ∧ mg x = some (.ref C) ∧ Binds K fd ps []
/-- a def of the text where it stands -/
structure DefAt (K : PySem.W.Frag) (mg : Str → Option Value) (x : Str) (st : Stmt) (ps : List Str) : Prop where
  ex : ∃ f fd, Fun K x x st f fd ∧ mg x = some (.ref f) ∧ Binds K fd ps []
structure MethAt (K : PySem.W.Frag) (C : Addr) (m qual : Str) (st : Stmt) (ps : List Str) : Prop where
  ex : ∃ f fd, Fun K m qual st f fd ∧ Meth K C m f ∧ Binds K fd ps []
structure MkAt (K : PySem.W.Frag) (mg : Str → Option Value) (C : Addr) (x qual : Str) (st : Stmt) (ps : List Str) : Prop where
  ex : ∃ f fd, Fun K "__init__" qual st f fd ∧ Mk K C f ∧ mg x = some (.ref C) ∧ Binds K fd ps []
section
variable {P : Program} {w : World} {K : PySem.W.Frag} {mg : Str → Option Value} {base : Heap}
theorem DefAt.cal {x : Str} {st : Stmt} {ps : List Str} {k : Nat} {sp : Sp} (D : DefAt K mg x st ps) (h : ∀ f fd, Fun K x x st f fd → FnOk P w K mg base CX0 k f fd ps sp) : Cal P w K mg base k x ps sp := by
  obtain ⟨f, fd, F, g, b⟩ := D.ex
  exact ⟨f, fd, h f fd F, g, F.kp, b⟩
theorem MethAt.cal {C : Addr} {m qual : Str} {st : Stmt} {ps : List Str} {k : Nat} {sp : Sp} (D : MethAt K C m qual st ps) (h : ∀ f fd, Fun K m qual st f fd → FnOk P w K mg base CX0 k f fd ps sp) : Mcal P w K mg base k C m ps sp := by
  obtain ⟨f, fd, F, g, b⟩ := D.ex
  exact ⟨f, fd, h f fd F, g, b⟩
theorem MkAt.cal {C : Addr} {x qual : Str} {st : Stmt} {ps : List Str} {k : Nat} {sp : Sp} (D : MkAt K mg C x qual st ps) (h : ∀ f fd, Fun K "__init__" qual st f fd → FnOk P w K mg base CX0 k f fd ps sp) : Kcal P w K mg base k C x ps sp := by
  obtain ⟨f, fd, F, m, g, b⟩ := D.ex
  exact ⟨f, fd, h f fd F, m, g, b⟩
end

/-! ### derivations, the written part by T -/
section
variable {X : Cx} {a b c e : Expr} {es : List Expr} {ta tb tc te : TE} {t : TA} {pos p p1 p2 p3 apos : Pos}
theorem x_call {k : Nat} {x : Str} {ps : List Str} {sp : Sp} (c : Cal X.prog X.w X.K X.mg X.base k x ps sp) (hr : Room k X.A) (ha : PA X (e :: es) t) (hg : Gl X x := by rfl) (hdb : (x == ("__debug__" : Str)) = false := by decide)
    (he : starEach (e :: es) X.env = (false, eval e X.env) :: starEach es X.env := by rfl) (hpl : (backTo pos (starEach es X.env)).any (·.1) = false := by rfl) : PE X (.Call (.Name x p) (e :: es) [] pos) (tCall sp [] E0 t) := by
  obtain ⟨f, fd, G, g, kp, b⟩ := c.ex
  exact pe_call G hr hg g kp b .nil pass0 ha hdb he hpl
theorem x_call0 {k : Nat} {x : Str} {ps : List Str} {sp : Sp} (c : Cal X.prog X.w X.K X.mg X.base k x ps sp) (hr : Room k X.A) (hg : Gl X x := by rfl) (hdb : (x == ("__debug__" : Str)) = false := by decide) : PE X (.Call (.Name x p) [] [] pos) (tCall sp [] E0 tNil) := by
  obtain ⟨f, fd, G, g, kp, b⟩ := c.ex
  exact pe_call0 G hr hg g kp b .nil pass0 hdb
theorem x_make {k : Nat} {C : Addr} {x : Str} {ps : List Str} {sp : Sp} (c : Kcal X.prog X.w X.K X.mg X.base k C x ps sp) (hr : Room (k + 1) X.A) (ha : PA X (e :: es) t) (hg : Gl X x := by rfl) (hdb : (x == ("__debug__" : Str)) = false := by decide)
    (he : starEach (e :: es) X.env = (false, eval e X.env) :: starEach es X.env := by rfl) (hpl : (backTo pos (starEach es X.env)).any (·.1) = false := by rfl) : PE X (.Call (.Name x p) (e :: es) [] pos) (tMake C sp [] E0 t) := by
  obtain ⟨f, fd, G, m, g, b⟩ := c.ex
  exact pe_make m G hr hg g b .nil pass0 ha hdb he hpl
theorem x_meth {k : Nat} {C : Addr} {m : Str} {o : Expr} {ps : List Str} {sp : Sp} {pl : Sem Bool} (cl : Cls X.K C) (c : Mcal X.prog X.w X.K X.mg X.base k C m ps sp) (hr : Room k X.A) (ho : PE X o ta) (ha : PA X (e :: es) t)
    (hst : starEach (e :: es) X.env = (false, eval e X.env) :: starEach es X.env := by rfl) (hpl : (backTo pos (starEach es X.env)).any (·.1) = false := by rfl)
    (ht : eval (.Call (.Attribute o m apos) (e :: es) [] pos) X.env = (do
      let ov ← eval o X.env
      standAt apos.atName
      let (f, first) ← holding [ov] (getMethod ov m pl)
      callWith pos f first (backTo pos (starEach (e :: es) X.env)) (backToKw pos (keywordEach [] X.env))) := by rfl) : PE X (.Call (.Attribute o m apos) (e :: es) [] pos) (tMeth C m sp [] E0 ta t) := by
  obtain ⟨f, fd, G, g, b⟩ := c.ex
  exact pe_meth ho cl g G hr b .nil pass0 ha hst hpl ht
theorem x_fld (T : Tx) {f : Str} (he : PE X e te) (hb : attributeBase e f X.env (eval e X.env) = eval e X.env := by rfl) (hK : X.K = T.K := by rfl) : PE X (.Attribute e f pos) (tFld T.K te f) := by
  rw [← hK]
  exact pe_fld he hb
theorem x_ix (T : Tx) (ha : PE X a ta) (hb : PE X b tb) (hs : PlainIx b := by intro _ _; rfl) (hK : X.K = T.K := by rfl) : PE X (.Subscript a b pos) (tOp (rIxA T.K) ta tb) := by
  rw [← hK]
  exact pe_ix ix_A ha hb hs
theorem x_sl (T : Tx) {lo hi : Option Expr} {tl th : TO} (he : PE X e te) (hl : PO X lo tl) (hh : PO X hi th) (hK : X.K = T.K := by rfl) : PE X (.Subscript e (.Slice lo hi none p2) pos) (tSl (rSlL T.K) te tl th) := by
  rw [← hK]
  exact pe_slice sl_list he hl hh
theorem x_rev (T : Tx) {k : Nat} (he : PE X e te) (hK : X.K = T.K := by rfl) : PE X (.Subscript e (.Slice none none (some (.UnaryOp .USub (.Constant (.int 1) k p1) p2)) p3) pos) (tOrE (tRevT T.K te) (tRevL T.K te)) := by
  rw [← hK]
  exact PE.or (pe_revT he) (pe_revL he)
theorem x_eq (T : Tx) (hu : X.A.units + 64 < cLine) (ha : PE X a ta) (hb : PE X b tb) (hK : X.K = T.K := by rfl) : PE X (.Compare a [.Eq] [b] pos) (tOp (rEqD T.K) ta tb) := by
  rw [← hK]
  exact pe_cmpR (op_eqD hu) ha hb (nomark _)
theorem x_ne (T : Tx) (hu : X.A.units + 64 < cLine) (ha : PE X a ta) (hb : PE X b tb) (hK : X.K = T.K := by rfl) : PE X (.Compare a [.NotEq] [b] pos) (tOp (rNeD T.K) ta tb) := by
  rw [← hK]
  exact pe_cmpR (op_neD hu) ha hb (nomark _)
theorem x_in (T : Tx) (hu : X.A.units + 65 < cLine) (ha : PE X a ta) (hb : PE X b tb) (hm : behindInMarks .In b = false := by rfl) (hK : X.K = T.K := by rfl) : PE X (.Compare a [.In] [b] pos) (tOp (rInA T.K) ta tb) := by
  rw [← hK]
  exact pe_cmpR (op_inA hu) ha hb hm
theorem y_eq (T : Tx) (hu : X.A.units + 64 < cLine) (ha : PE X a ta) (hb : PE X b tb) (hK : X.K = T.K := by rfl) : PT X (.Compare a [.Eq] [b] pos) (tTest (tOp (rEqD T.K) ta tb)) := by
  rw [← hK]
  exact pt_cmpR (op_eqD hu) ha hb (nomark _)
theorem y_ne (T : Tx) (hu : X.A.units + 64 < cLine) (ha : PE X a ta) (hb : PE X b tb) (hK : X.K = T.K := by rfl) : PT X (.Compare a [.NotEq] [b] pos) (tTest (tOp (rNeD T.K) ta tb)) := by
  rw [← hK]
  exact pt_cmpR (op_neD hu) ha hb (nomark _)
theorem y_in (T : Tx) (hu : X.A.units + 65 < cLine) (ha : PE X a ta) (hb : PE X b tb) (hm : behindInMarks .In b = false := by rfl) (hK : X.K = T.K := by rfl) : PT X (.Compare a [.In] [b] pos) (tTest (tOp (rInA T.K) ta tb)) := by
  rw [← hK]
  exact pt_cmpR (op_inA hu) ha hb hm
/-- what is built in -/
theorem x_int (B : Bl X.mg) (hg : Gl X "int" := by rfl) : PE X (.Name "int" pos) (tC (.ty "int")) := pe_bltn hg B.int bb_int rfl
theorem x_bool (B : Bl X.mg) (hg : Gl X "bool" := by rfl) : PE X (.Name "bool" pos) (tC (.ty "bool")) := pe_bltn hg B.bool bb_bool rfl
theorem x_tuple (B : Bl X.mg) (hg : Gl X "tuple" := by rfl) : PE X (.Name "tuple" pos) (tC (.ty "tuple")) := pe_bltn hg B.tuple bb_tuple rfl
theorem x_list (B : Bl X.mg) (hg : Gl X "list" := by rfl) : PE X (.Name "list" pos) (tC (.ty "list")) := pe_bltn hg B.list bb_list rfl
theorem x_str (B : Bl X.mg) (hg : Gl X "str" := by rfl) : PE X (.Name "str" pos) (tC (.ty "str")) := pe_bltn hg B.str bb_str rfl
theorem x_cls {x : Str} {C : Addr} (hm : X.mg x = some (.ref C)) (hg : Gl X x := by rfl) (hd : (x == ("__debug__" : Str)) = false := by decide) : PE X (.Name x pos) (tC (.ref C)) := pe_glob hg hm rfl hd
theorem x_isi (T : Tx) (B : Bl X.mg) {cv : V} (ha : PE X a ta) (hc : PE X c (tC cv)) (hg : Gl X "isinstance" := by rfl) (he : starEach (a :: [c]) X.env = (false, eval a X.env) :: starEach [c] X.env := by rfl) (he2 : starEach [c] X.env = (false, eval c X.env) :: starEach [] X.env := by rfl)
    (hpl : (backTo pos (starEach [c] X.env)).any (·.1) = false := by rfl) (hK : X.K = T.K := by rfl) : PE X (.Call (.Name "isinstance" p) [a, c] [] pos) (tCB (rIsi T.K) (tCons ta (tCons (tC cv) tNil))) := by
  rw [← hK]
  exact pe_callB call_isi hg B.isinstance bb_isi (pa_cons ha (pa_cons hc pa_nil he2) he) (by decide) (by decide) he hpl
theorem x_len (T : Tx) (B : Bl X.mg) (ha : PE X a ta) (hg : Gl X "len" := by rfl) (he : starEach [a] X.env = (false, eval a X.env) :: starEach [] X.env := by rfl) (hpl : (backTo pos (starEach [] X.env)).any (·.1) = false := by rfl) (hK : X.K = T.K := by rfl) : PE X (.Call (.Name "len" p) [a] [] pos) (tCB (rLenA T.K) (tCons ta tNil)) := by
  rw [← hK]
  exact pe_callB call_lenA hg B.len bb_len (pa_cons ha pa_nil he) (by decide) (by decide) he hpl
theorem x_all (T : Tx) (B : Bl X.mg) (ha : PE X a ta) (hc : X.calm = true := by rfl) (hg : Gl X "all" := by rfl) (he : starEach [a] X.env = (false, eval a X.env) :: starEach [] X.env := by rfl) (hpl : (backTo pos (starEach [] X.env)).any (·.1) = false := by rfl) (hK : X.K = T.K := by rfl) : PE X (.Call (.Name "all" p) [a] [] pos) (tCB (rAll T.K) (tCons ta tNil)) := by
  rw [← hK]
  exact pe_callB (cr_all hc) hg B.all bb_all (pa_cons ha pa_nil he) (by decide) (by decide) he hpl
theorem x_any (T : Tx) (B : Bl X.mg) (ha : PE X a ta) (hc : X.calm = true := by rfl) (hg : Gl X "any" := by rfl) (he : starEach [a] X.env = (false, eval a X.env) :: starEach [] X.env := by rfl) (hpl : (backTo pos (starEach [] X.env)).any (·.1) = false := by rfl) (hK : X.K = T.K := by rfl) : PE X (.Call (.Name "any" p) [a] [] pos) (tCB (rAny T.K) (tCons ta tNil)) := by
  rw [← hK]
  exact pe_callB (cr_any hc) hg B.any bb_any (pa_cons ha pa_nil he) (by decide) (by decide) he hpl
theorem x_sum (T : Tx) (B : Bl X.mg) (ha : PE X a ta) (hc : X.calm = true := by rfl) (hg : Gl X "sum" := by rfl) (he : starEach [a] X.env = (false, eval a X.env) :: starEach [] X.env := by rfl) (hpl : (backTo pos (starEach [] X.env)).any (·.1) = false := by rfl) (hK : X.K = T.K := by rfl) : PE X (.Call (.Name "sum" p) [a] [] pos) (tCB (rSum T.K) (tCons ta tNil)) := by
  rw [← hK]
  exact pe_callB (cr_sum hc) hg B.sum bb_sum (pa_cons ha pa_nil he) (by decide) (by decide) he hpl
theorem x_min1 (T : Tx) (B : Bl X.mg) (hu : X.A.units + 64 < cLine) (ha : PE X a ta) (hc : X.calm = true := by rfl) (hg : Gl X "min" := by rfl) (he : starEach [a] X.env = (false, eval a X.env) :: starEach [] X.env := by rfl) (hpl : (backTo pos (starEach [] X.env)).any (·.1) = false := by rfl) (hK : X.K = T.K := by rfl) : PE X (.Call (.Name "min" p) [a] [] pos) (tCB (rMinA T.K) (tCons ta tNil)) := by
  rw [← hK]
  exact pe_callB ((cr_min hc).or (call_minT hc hu)) hg B.min bb_min (pa_cons ha pa_nil he) (by decide) (by decide) he hpl
theorem x_max1 (T : Tx) (B : Bl X.mg) (hu : X.A.units + 64 < cLine) (ha : PE X a ta) (hc : X.calm = true := by rfl) (hg : Gl X "max" := by rfl) (he : starEach [a] X.env = (false, eval a X.env) :: starEach [] X.env := by rfl) (hpl : (backTo pos (starEach [] X.env)).any (·.1) = false := by rfl) (hK : X.K = T.K := by rfl) : PE X (.Call (.Name "max" p) [a] [] pos) (tCB (rMaxA T.K) (tCons ta tNil)) := by
  rw [← hK]
  exact pe_callB ((cr_max hc).or (call_maxT hc hu)) hg B.max bb_max (pa_cons ha pa_nil he) (by decide) (by decide) he hpl
theorem x_min2 (B : Bl X.mg) (ha : PE X a ta) (hb : PE X b tb) (hc : X.calm = true := by rfl) (hg : Gl X "min" := by rfl) (he : starEach (a :: [b]) X.env = (false, eval a X.env) :: starEach [b] X.env := by rfl) (he2 : starEach [b] X.env = (false, eval b X.env) :: starEach [] X.env := by rfl)
    (hpl : (backTo pos (starEach [b] X.env)).any (·.1) = false := by rfl) : PE X (.Call (.Name "min" p) [a, b] [] pos) (tCB rMin2I (tCons ta (tCons tb tNil))) :=
  pe_callB (call_min2A hc) hg B.min bb_min (pa_cons ha (pa_cons hb pa_nil he2) he) (by decide) (by decide) he hpl
theorem x_max2 (B : Bl X.mg) (ha : PE X a ta) (hb : PE X b tb) (hc : X.calm = true := by rfl) (hg : Gl X "max" := by rfl) (he : starEach (a :: [b]) X.env = (false, eval a X.env) :: starEach [b] X.env := by rfl) (he2 : starEach [b] X.env = (false, eval b X.env) :: starEach [] X.env := by rfl)
    (hpl : (backTo pos (starEach [b] X.env)).any (·.1) = false := by rfl) : PE X (.Call (.Name "max" p) [a, b] [] pos) (tCB rMax2I (tCons ta (tCons tb tNil))) :=
  pe_callB (call_max2A hc) hg B.max bb_max (pa_cons ha (pa_cons hb pa_nil he2) he) (by decide) (by decide) he hpl
theorem x_abs (B : Bl X.mg) (ha : PE X a ta) (hg : Gl X "abs" := by rfl) (he : starEach [a] X.env = (false, eval a X.env) :: starEach [] X.env := by rfl) (hpl : (backTo pos (starEach [] X.env)).any (·.1) = false := by rfl) : PE X (.Call (.Name "abs" p) [a] [] pos) (tCB rAbsI (tCons ta tNil)) :=
  pe_callB call_absA hg B.abs bb_abs (pa_cons ha pa_nil he) (by decide) (by decide) he hpl
theorem x_listof (T : Tx) (B : Bl X.mg) (ha : PE X a ta) (hg : Gl X "list" := by rfl) (he : starEach [a] X.env = (false, eval a X.env) :: starEach [] X.env := by rfl) (hpl : (backTo pos (starEach [] X.env)).any (·.1) = false := by rfl) (hK : X.K = T.K := by rfl) : PE X (.Call (.Name "list" p) [a] [] pos) (tCB (rListA T.K) (tCons ta tNil)) := by
  rw [← hK]
  exact pe_callTy call_listA hg B.list bb_list (pa_cons ha pa_nil he) (by decide) (by decide) he hpl
/-- methods of lists -/
theorem x_app (T : Tx) {o : Expr} {apos cpos : Pos} (ho : PE X o ta) (ha : PE X a tb) (hbase : attributeBase o "append" X.env (eval o X.env) = eval o X.env := by rfl)
    (hfew : ((backTo cpos (starEach [a] X.env)).all (fun x => !x.1) && (backToKw cpos (keywordEach [] X.env)).all (fun x => x.1.isSome) && decide (([a] : List Expr).length + ([] : List Keyword).length + (if ([] : List Keyword).isEmpty then 0 else 1) < 30)) = true := by rfl)
    (hline : (apos.endLine == cpos.line) = true := by rfl) (hs : starEach [a] X.env = (false, eval a X.env) :: starEach [] X.env := by rfl) (hplain : (backTo cpos (starEach [] X.env)).any (·.1) = false := by rfl) (hK : X.K = T.K := by rfl) :
    PE X (.Call (.Attribute o "append" apos) [a] [] cpos) (tBM T.K "list" rAppend ta (tCons tb tNil)) := by
  rw [← hK]
  exact pe_bm PySem.F.plainAttrs_list PySem.F.slot_list_append PySem.F.type_list_append mt_append ho (pa_cons ha pa_nil hs) hbase hfew hline hs hplain
theorem x_ext (T : Tx) {o : Expr} {apos cpos : Pos} (ho : PE X o ta) (ha : PE X a tb) (hbase : attributeBase o "extend" X.env (eval o X.env) = eval o X.env := by rfl)
    (hfew : ((backTo cpos (starEach [a] X.env)).all (fun x => !x.1) && (backToKw cpos (keywordEach [] X.env)).all (fun x => x.1.isSome) && decide (([a] : List Expr).length + ([] : List Keyword).length + (if ([] : List Keyword).isEmpty then 0 else 1) < 30)) = true := by rfl)
    (hline : (apos.endLine == cpos.line) = true := by rfl) (hs : starEach [a] X.env = (false, eval a X.env) :: starEach [] X.env := by rfl) (hplain : (backTo cpos (starEach [] X.env)).any (·.1) = false := by rfl) (hK : X.K = T.K := by rfl) :
    PE X (.Call (.Attribute o "extend" apos) [a] [] cpos) (tBM T.K "list" rExtend ta (tCons tb tNil)) := by
  rw [← hK]
  exact pe_bm PySem.F.plainAttrs_list PySem.F.slot_list_extend PySem.F.type_list_extend mt_extend ho (pa_cons ha pa_nil hs) hbase hfew hline hs hplain
theorem x_index (T : Tx) {o : Expr} {apos cpos : Pos} (hu : X.A.units + 65 < cLine) (ho : PE X o ta) (ha : PE X a tb) (hbase : attributeBase o "index" X.env (eval o X.env) = eval o X.env := by rfl)
    (hfew : ((backTo cpos (starEach [a] X.env)).all (fun x => !x.1) && (backToKw cpos (keywordEach [] X.env)).all (fun x => x.1.isSome) && decide (([a] : List Expr).length + ([] : List Keyword).length + (if ([] : List Keyword).isEmpty then 0 else 1) < 30)) = true := by rfl)
    (hline : (apos.endLine == cpos.line) = true := by rfl) (hs : starEach [a] X.env = (false, eval a X.env) :: starEach [] X.env := by rfl) (hplain : (backTo cpos (starEach [] X.env)).any (·.1) = false := by rfl) (hK : X.K = T.K := by rfl) :
    PE X (.Call (.Attribute o "index" apos) [a] [] cpos) (tBM T.K "list" (rIndexD T.K) ta (tCons tb tNil)) := by
  rw [← hK]
  exact pe_bm PySem.F.plainAttrs_list PySem.F.slot_list_index PySem.F.type_list_index (mt_indexD hu) ho (pa_cons ha pa_nil hs) hbase hfew hline hs hplain
theorem x_pop (T : Tx) {o : Expr} {apos cpos : Pos} (ho : PE X o ta) (hbase : attributeBase o "pop" X.env (eval o X.env) = eval o X.env := by rfl) (hline : (apos.endLine == cpos.line) = true := by rfl) (hK : X.K = T.K := by rfl) :
    PE X (.Call (.Attribute o "pop" apos) [] [] cpos) (tBM0 T.K "list" rPop ta) := by
  rw [← hK]
  exact pe_bm0 PySem.F.plainAttrs_list PySem.F.slot_list_pop PySem.F.type_list_pop mt_pop ho hbase hline
/-- found.shows(..), of either class -/
theorem x_shows (T : Tx) {k k2 : Nat} {o : Expr} {ps ps2 : List Str} {sp sp2 : Sp} {pl : Sem Bool} (C : ClsF T) (c : Mcal X.prog X.w X.K X.mg X.base k T.CW "shows" ps sp) (c2 : Mcal X.prog X.w X.K X.mg X.base k2 T.CN "shows" ps2 sp2) (hr : Room k X.A) (hr2 : Room k2 X.A) (ho : PE X o ta) (ha : PA X (e :: es) t)
    (hst : starEach (e :: es) X.env = (false, eval e X.env) :: starEach es X.env := by rfl) (hpl : (backTo pos (starEach es X.env)).any (·.1) = false := by rfl)
    (ht : eval (.Call (.Attribute o "shows" apos) (e :: es) [] pos) X.env = (do
      let ov ← eval o X.env
      standAt apos.atName
      let (f, first) ← holding [ov] (getMethod ov "shows" pl)
      callWith pos f first (backTo pos (starEach (e :: es) X.env)) (backToKw pos (keywordEach [] X.env))) := by rfl) (hK : X.K = T.K := by rfl) : PE X (.Call (.Attribute o "shows" apos) (e :: es) [] pos) (tOrE (tMeth T.CW "shows" sp [] E0 ta t) (tMeth T.CN "shows" sp2 [] E0 ta t)) :=
  PE.or (x_meth (hK ▸ C.cw) c hr ho ha hst hpl ht) (x_meth (hK ▸ C.cn) c2 hr2 ho ha hst hpl ht)
/-- targets, what is walked -/
theorem x_ptup (T : Tx) {ts : List Expr} {k : Nat} {g : TGs} {n : Nat} (h : PGs X ts g) (hn : (assignEach ts X.env).length = n := by rfl) (hst : (assignEach ts X.env).findIdx? (·.1) = none := by rfl) (hc : X.calm = true := by rfl) (hK : X.K = T.K := by rfl) : PG X (.Tuple ts k pos) (gTup T.K n g) := by
  rw [← hK]
  exact pg_tup hc h hn hst
theorem z_list (T : Tx) {tg l : Expr} {tl : TE} (hl : PE X l tl) (hK : X.K = T.K := by rfl) : PI X tg l (iList T.K tl) := by
  rw [← hK]
  exact pi_list hl
theorem z_tup (T : Tx) {tg l : Expr} {tl : TE} (hl : PE X l tl) (hK : X.K = T.K := by rfl) : PI X tg l (iTup T.K tl) := by
  rw [← hK]
  exact pi_tup hl
theorem z_rng1 (B : Bl X.mg) {tg a : Expr} {ta : TA} {p pos : Pos} (ha : PA X [a] ta) (hg : Gl X "range" := by rfl) (hs : starEach [a] X.env = [(false, eval a X.env)] := by rfl) : PI X tg (.Call (.Name "range" p) [a] [] pos) (iRng1 ta) := pi_range1 hg B.range ha hs
theorem z_rng2 (B : Bl X.mg) {tg a b : Expr} {ta : TA} {p pos : Pos} (ha : PA X [a, b] ta) (hg : Gl X "range" := by rfl) (hs : starEach [a, b] X.env = [(false, eval a X.env), (false, eval b X.env)] := by rfl) (hs2 : starEach [b] X.env = [(false, eval b X.env)] := by rfl) : PI X tg (.Call (.Name "range" p) [a, b] [] pos) (iRng2 ta) := pi_range2 hg B.range ha hs hs2
theorem z_rng3 (B : Bl X.mg) {tg a b c : Expr} {ta : TA} {p pos : Pos} (ha : PA X [a, b, c] ta) (hg : Gl X "range" := by rfl) (hs : starEach [a, b, c] X.env = (false, eval a X.env) :: starEach [b, c] X.env := by rfl) (hpl : (backTo pos (starEach [b, c] X.env)).any (·.1) = false := by rfl) : PI X tg (.Call (.Name "range" p) [a, b, c] [] pos) (iRng3 ta) := pi_range3 hg B.range ha hs hpl
theorem z_zip (T : Tx) (B : Bl X.mg) {e e2 : Expr} {ta : TA} {p pos tpos : Pos} {elts : List Expr} {kk : Nat} (ha : PA X [e, e2] ta) (hg : Gl X "zip" := by rfl) (hs : starEach [e, e2] X.env = (false, eval e X.env) :: starEach [e2] X.env := by rfl) (hpl : (backTo pos (starEach [e2] X.env)).any (·.1) = false := by rfl) (hK : X.K = T.K := by rfl) :
    PI X (.Tuple elts kk tpos) (.Call (.Name "zip" p) [e, e2] [] pos) (iZip T.K ta) := by
  rw [← hK]
  exact pi_zip hg B.zip ha hs hpl
theorem z_enum (T : Tx) (B : Bl X.mg) {e : Expr} {ta : TA} {p pos tpos : Pos} {elts : List Expr} {kk : Nat} (ha : PA X [e] ta) (hg : Gl X "enumerate" := by rfl) (hs : starEach [e] X.env = [(false, eval e X.env)] := by rfl) (hK : X.K = T.K := by rfl) :
    PI X (.Tuple elts kk tpos) (.Call (.Name "enumerate" p) [e] [] pos) (iEnum T.K ta) := by
  rw [← hK]
  exact pi_enum hg B.enumerate ha hs
end
end LW
set_option Elab.async false
set_option linter.all false
set_option maxRecDepth 100000
set_option maxHeartbeats 4000000
namespace LW
open PySem PySem.Spec PyProof.Rows L2 Evl

/-! ### sizes -/
/-- below 2 ^ n in size -/
def Sm (n : Nat) (x : Int) : Prop := x.natAbs < 2 ^ n
theorem Sm.mono {n m : Nat} {x : Int} (h : Sm n x) (l : n ≤ m) : Sm m x := Nat.lt_of_lt_of_le h (Nat.pow_le_pow_right (by decide) l)
theorem Sm.of_le {n : Nat} {x y : Int} (h : Sm n y) (l : x.natAbs ≤ y.natAbs) : Sm n x := Nat.lt_of_le_of_lt l h
theorem Sm.neg {n : Nat} {x : Int} (h : Sm n x) : Sm n (-x) := by unfold Sm; rw [Int.natAbs_neg]; exact h
theorem Sm.abs {n : Nat} {x : Int} (h : Sm n x) : Sm n (x.natAbs : Int) := by unfold Sm; rw [Int.natAbs_natCast]; exact h
theorem Sm.add {n : Nat} {x y : Int} (h : Sm n x) (k : Sm n y) : Sm (n + 1) (x + y) := by
  have h' : x.natAbs < 2 ^ n := h
  have k' : y.natAbs < 2 ^ n := k
  show (x + y).natAbs < 2 ^ (n + 1)
  rw [Nat.pow_succ]
  omega
theorem Sm.sub {n : Nat} {x y : Int} (h : Sm n x) (k : Sm n y) : Sm (n + 1) (x - y) := by
  have := h.add k.neg
  rw [← Int.sub_eq_add_neg] at this
  exact this
theorem Sm.mul {n m : Nat} {x y : Int} (h : Sm n x) (k : Sm m y) : Sm (n + m) (x * y) := by
  show (x * y).natAbs < 2 ^ (n + m)
  rw [Int.natAbs_mul, Nat.pow_add]
  exact Nat.mul_lt_mul'' h k
theorem Sm.div {n : Nat} {x y : Int} (h : Sm n x) : Sm n (x / y) := Sm.of_le h (Int.natAbs_ediv_le_natAbs x y)
theorem Sm.emod {n : Nat} {x y : Int} (h : Sm n y) (hy : 0 < y) : Sm n (x % y) := by
  refine Sm.of_le h ?_
  have h1 := Int.emod_nonneg x (show y ≠ 0 by omega)
  have h2 := Int.emod_lt_of_pos x hy
  omega
theorem Sm.log2 {n : Nat} {x : Int} (h : Sm n x) (h0 : 0 < n) : x.natAbs.log2 < n := PySem.Flt.log2_lt_of h0 h
theorem cm_of {n m : Nat} {x y : Int} (h : Sm n x) (k : Sm m y) (h0 : 0 < n) (h1 : 0 < m) (l : n + m ≤ 100000000) : CMulX x y := by
  have a := h.log2 h0
  have b := k.log2 h1
  show x.natAbs.log2 + y.natAbs.log2 < 100000000
  omega
theorem cd_of {n : Nat} {x y : Int} (hy : 0 < y) (h : Sm n y) (h0 : 0 < n) (l : n ≤ 9000) : CDivW x y := ⟨hy, Nat.lt_of_lt_of_le (h.log2 h0) l⟩
theorem cd_lit {x y : Int} (h : (decide (0 < y) && decide (y.natAbs.log2 < 9000)) = true) : CDivW x y := by
  rw [Bool.and_eq_true] at h
  exact ⟨of_decide_eq_true h.1, of_decide_eq_true h.2⟩
theorem cp_lit {x y : Int} (h : (decide (0 ≤ y) && decide (y ≤ 1000000) && decide (x.natAbs < 2 ^ 64)) = true) : CPow x y := by
  rw [Bool.and_eq_true, Bool.and_eq_true] at h
  exact ⟨of_decide_eq_true h.1.1, of_decide_eq_true h.1.2, of_decide_eq_true h.2⟩
theorem Sm.lit {n : Nat} {x : Int} (h : decide (x.natAbs < 2 ^ n) = true) : Sm n x := by
  show x.natAbs < 2 ^ n
  exact of_decide_eq_true h

/-! ### data of pairs -/
def pD (p : Int × Int) : PyData := .tuple [.int p.1, .int p.2]
def iL (ns : List Int) : PyData := .list (ns.map .int)
def pL (ps : List (Int × Int)) : PyData := .list (ps.map pD)
theorem plain_ints : ∀ ns : List Int, plainAll (ns.map .int) = true
  | [] => by simp [plainAll]
  | n :: ns => by rw [List.map_cons, plainAll, plain_ints ns] <;> rfl
theorem plain_pairs : ∀ ps : List (Int × Int), plainAll (ps.map pD) = true
  | [] => by simp [plainAll]
  | p :: ps => by rw [List.map_cons, plainAll, plain_pairs ps] <;> rfl
theorem lay_ints : ∀ ns : List Int, PyData.canLayAll0 (ns.map .int) = true
  | [] => by simp [PyData.canLayAll0]
  | n :: ns => by simp [PyData.canLayAll0, PyData.canLay0, lay_ints ns]
theorem depth_ints : ∀ ns : List Int, PyData.depthAll (ns.map .int) = 0
  | [] => by simp [PyData.depthAll]
  | n :: ns => by simp [PyData.depthAll, PyData.depth, depth_ints ns]
theorem lay_pD (p : Int × Int) : PyData.canLay0 (pD p) = true := by simp [pD, PyData.canLay0, PyData.canLayAll0]
theorem depth_pD (p : Int × Int) : PyData.depth (pD p) = 1 := by simp [pD, PyData.depth, PyData.depthAll]
theorem lay_pairs : ∀ ps : List (Int × Int), PyData.canLayAll0 (ps.map pD) = true
  | [] => by simp [PyData.canLayAll0]
  | p :: ps => by simp [PyData.canLayAll0, lay_pD, lay_pairs ps]
theorem depth_pairs : ∀ ps : List (Int × Int), PyData.depthAll (ps.map pD) ≤ 1
  | [] => by simp [PyData.depthAll]
  | p :: ps => by
    have := depth_pairs ps
    have h := depth_pD p
    simp only [List.map_cons, PyData.depthAll]
    omega
theorem shaped_of {d : PyData} (h : d.canLay0 = true) (k : d.depth ≤ 64) : SeqAt.shaped d = true := by
  show (d.canLay0 && decide (d.depth ≤ 64)) = true
  rw [h, decide_eq_true k] <;> rfl
theorem shaped_iL (ns : List Int) : SeqAt.shaped (iL ns) = true := shaped_of (by simp only [iL, PyData.canLay0]; exact lay_ints ns) (by simp only [iL, PyData.depth]; rw [depth_ints]; decide)
theorem shaped_pD (p : Int × Int) : SeqAt.shaped (pD p) = true := shaped_of (lay_pD p) (by rw [depth_pD]; decide)
theorem shaped_pL (ps : List (Int × Int)) : SeqAt.shaped (pL ps) = true := shaped_of (by simp only [pL, PyData.canLay0]; exact lay_pairs ps) (by
  have := depth_pairs ps
  simp only [pL, PyData.depth]
  omega)
theorem shaped_int (i : Int) : SeqAt.shaped (.int i) = true := by simp [SeqAt.shaped, PyData.canLay0, PyData.depth]
theorem shaped_bool (i : Bool) : SeqAt.shaped (.bool i) = true := by simp [SeqAt.shaped, PyData.canLay0, PyData.depth]
theorem eqv_int (i j : Int) : PyData.eqv (.int i) (.int j) = decide (i = j) := by
  rw [PyData.eqv]
  rfl
theorem eqv_bool (i j : Bool) : PyData.eqv (.bool i) (.bool j) = (i == j) := by rw [PyData.eqv]
theorem eqv_pD (p q : Int × Int) : PyData.eqv (pD p) (pD q) = decide (p = q) := by
  obtain ⟨a, b⟩ := p
  obtain ⟨c, d⟩ := q
  have e : PyData.eqv (pD (a, b)) (pD (c, d)) = ((a == c) && ((b == d) && true)) := by simp only [pD, PyData.eqv, PyData.eqvAll]
  rw [e, Bool.eq_iff_iff]
  simp
theorem eqvAll_ints : ∀ ns ms : List Int, PyData.eqvAll (ns.map .int) (ms.map .int) = decide (ns = ms)
  | [], [] => by simp [PyData.eqvAll]
  | [], _ :: _ => by simp [PyData.eqvAll]
  | _ :: _, [] => by simp [PyData.eqvAll]
  | n :: ns, m :: ms => by
    rw [List.map_cons, List.map_cons, PyData.eqvAll, eqv_int, eqvAll_ints ns ms, Bool.eq_iff_iff]
    simp
theorem eqv_iL (ns ms : List Int) : PyData.eqv (iL ns) (iL ms) = decide (ns = ms) := by
  unfold iL
  rw [PyData.eqv]
  exact eqvAll_ints ns ms
theorem eqvAll_pairs : ∀ ns ms : List (Int × Int), PyData.eqvAll (ns.map pD) (ms.map pD) = decide (ns = ms)
  | [], [] => by simp [PyData.eqvAll]
  | [], _ :: _ => by simp [PyData.eqvAll]
  | _ :: _, [] => by simp [PyData.eqvAll]
  | n :: ns, m :: ms => by
    rw [List.map_cons, List.map_cons, PyData.eqvAll, eqv_pD, eqvAll_pairs ns ms, Bool.eq_iff_iff]
    simp
theorem eqv_pL (ns ms : List (Int × Int)) : PyData.eqv (pL ns) (pL ms) = decide (ns = ms) := by
  unfold pL
  rw [PyData.eqv]
  exact eqvAll_pairs ns ms
/-! ### lists of bools, of ints, as data -/
def isBl : PyData → Bool | .bool _ => true | _ => false
def blOf : PyData → Bool | .bool b => b | _ => false
def isIn : PyData → Bool | .int _ => true | _ => false
def inOf : PyData → Int | .int i => i | _ => 0
theorem bls_of : ∀ {ds : List PyData}, ds.all isBl = true → ds = (ds.map blOf).map .bool
  | [], _ => rfl
  | d :: ds, h => by
    rw [List.all_cons, Bool.and_eq_true] at h
    rw [List.map_cons, List.map_cons, ← bls_of h.2]
    cases d <;> first | rfl | cases h.1
theorem ints_of : ∀ {ds : List PyData}, ds.all isIn = true → ds = (ds.map inOf).map .int
  | [], _ => rfl
  | d :: ds, h => by
    rw [List.all_cons, Bool.and_eq_true] at h
    rw [List.map_cons, List.map_cons, ← ints_of h.2]
    cases d <;> first | rfl | cases h.1
theorem all_bls (bs : List Bool) : (bs.map PyData.bool).all isBl = true := by
  rw [List.all_eq_true]
  intro x hx
  obtain ⟨b, _, rfl⟩ := List.mem_map.mp hx
  rfl
theorem all_ins (bs : List Int) : (bs.map PyData.int).all isIn = true := by
  rw [List.all_eq_true]
  intro x hx
  obtain ⟨b, _, rfl⟩ := List.mem_map.mp hx
  rfl
theorem map_blOf (bs : List Bool) : (bs.map PyData.bool).map blOf = bs := by
  rw [List.map_map]
  exact List.map_id _
theorem map_inOf (bs : List Int) : (bs.map PyData.int).map inOf = bs := by
  rw [List.map_map]
  exact List.map_id _
def allD (ds : List PyData) : Bool := (ds.map blOf).all id
def anyD (ds : List PyData) : Bool := (ds.map blOf).any id
def sumD (ds : List PyData) : Int := (ds.map inOf).sum
section
variable {T : Tx} {ρ : List Sl} {te ta tb : TE}
theorem rv_eqI {i j : Int} : RvB T (rEqD T.K) (.int i) (.int j) (.bool (decide (i = j))) := by
  rw [← eqv_int]
  exact rv_eq rfl rfl (shaped_int i) (shaped_int j)
theorem rv_neI {i j : Int} : RvB T (rNeD T.K) (.int i) (.int j) (.bool (!decide (i = j))) := by
  rw [← eqv_int]
  exact rv_ne rfl rfl (shaped_int i) (shaped_int j)
theorem rv_eqBo {i j : Bool} : RvB T (rEqD T.K) (.bool i) (.bool j) (.bool (i == j)) := by
  rw [← eqv_bool]
  exact rv_eq rfl rfl (shaped_bool i) (shaped_bool j)
theorem rv_neBo {i j : Bool} : RvB T (rNeD T.K) (.bool i) (.bool j) (.bool (!(i == j))) := by
  rw [← eqv_bool]
  exact rv_ne rfl rfl (shaped_bool i) (shaped_bool j)
theorem rv_eqP {a b c d : Int} : RvB T (rEqD T.K) (.tuple [.int a, .int b]) (.tuple [.int c, .int d]) (.bool (decide (a = c ∧ b = d))) := by
  have e := eqv_pD (a, b) (c, d)
  rw [show decide (a = c ∧ b = d) = decide ((a, b) = (c, d)) by rw [decide_eq_decide]; simp, ← e]
  exact rv_eq rfl rfl (shaped_pD (a, b)) (shaped_pD (c, d))
theorem rv_neP {a b c d : Int} : RvB T (rNeD T.K) (.tuple [.int a, .int b]) (.tuple [.int c, .int d]) (.bool (!decide (a = c ∧ b = d))) := by
  have e := eqv_pD (a, b) (c, d)
  rw [show decide (a = c ∧ b = d) = decide ((a, b) = (c, d)) by rw [decide_eq_decide]; simp, ← e]
  exact rv_ne rfl rfl (shaped_pD (a, b)) (shaped_pD (c, d))
theorem rv_eqIL {p q : List Int} : RvB T (rEqD T.K) (.list (p.map .int)) (.list (q.map .int)) (.bool (decide (p = q))) := by
  rw [← eqv_iL]
  exact rv_eq (by rw [plain]; exact plain_ints p) (by rw [plain]; exact plain_ints q) (shaped_iL p) (shaped_iL q)
theorem rv_neIL {p q : List Int} : RvB T (rNeD T.K) (.list (p.map .int)) (.list (q.map .int)) (.bool (!decide (p = q))) := by
  rw [← eqv_iL]
  exact rv_ne (by rw [plain]; exact plain_ints p) (by rw [plain]; exact plain_ints q) (shaped_iL p) (shaped_iL q)
theorem rv_eqPL {p q : List (Int × Int)} : RvB T (rEqD T.K) (pL p) (pL q) (.bool (decide (p = q))) := by
  rw [← eqv_pL]
  exact rv_eq (by rw [pL, plain]; exact plain_pairs p) (by rw [pL, plain]; exact plain_pairs q) (shaped_pL p) (shaped_pL q)
theorem rv_nePL {p q : List (Int × Int)} : RvB T (rNeD T.K) (pL p) (pL q) (.bool (!decide (p = q))) := by
  rw [← eqv_pL]
  exact rv_ne (by rw [pL, plain]; exact plain_pairs p) (by rw [pL, plain]; exact plain_pairs q) (shaped_pL p) (shaped_pL q)
theorem rc_lenIL {p : List Int} : RcB T (rLenA T.K) [.list (p.map .int)] (.int p.length) := by
  have := rc_lenL (T := T) (ds := p.map PyData.int)
  rw [List.length_map] at this
  exact this
theorem ed_revP {x y : PyData} (h : EvD T te ρ (.tuple [x, y])) : EvD T (tOrE (tRevT T.K te) (tRevL T.K te)) ρ (.tuple [y, x]) := ed_orL (ed_revT h)
theorem rc_allD {ds : List PyData} (h : ds.all isBl = true) : RcB T (rAll T.K) [.list ds] (.bool (allD ds)) := by
  have q := rc_all (T := T) (bs := ds.map blOf)
  rw [← bls_of h] at q
  exact q
theorem rc_anyD {ds : List PyData} (h : ds.all isBl = true) : RcB T (rAny T.K) [.list ds] (.bool (anyD ds)) := by
  have q := rc_any (T := T) (bs := ds.map blOf)
  rw [← bls_of h] at q
  exact q
theorem rc_sumD {ds : List PyData} (h : ds.all isIn = true) : RcB T (rSum T.K) [.list ds] (.int (sumD ds)) := by
  have q := rc_sum (T := T) (ns := ds.map inOf)
  rw [← ints_of h] at q
  exact q
theorem tg_pair {i j : Nat} {x y : PyData} : TgD T (gTup T.K 2 (gCons (gName i) (gCons (gName j) gNil))) ([i] ++ ([j] ++ [])) (.tuple [x, y]) ρ ((ρ.set i (.dat x)).set j (.dat y)) := tg_tup (tgs_cons tg_name (tgs_cons tg_name tgs_nil)) rfl
theorem tg_trip {i j k : Nat} {x y z : PyData} : TgD T (gTup T.K 3 (gCons (gName i) (gCons (gName j) (gCons (gName k) gNil)))) ([i] ++ ([j] ++ ([k] ++ []))) (.tuple [x, y, z]) ρ (((ρ.set i (.dat x)).set j (.dat y)).set k (.dat z)) := tg_tup (tgs_cons tg_name (tgs_cons tg_name (tgs_cons tg_name tgs_nil))) rfl
end
end LW
set_option Elab.async false
set_option linter.all false
namespace LW
open PySem PySem.Spec PyProof.Rows L2 Evl
section
variable {K : PySem.W.Frag}
theorem kb_NoneType_int : PySem.W.kitOne K (.type "NoneType") (.type "int") = some false := kit_ty (by decide +kernel)
theorem kb_NoneType_bool : PySem.W.kitOne K (.type "NoneType") (.type "bool") = some false := kit_ty (by decide +kernel)
theorem kb_NoneType_tuple : PySem.W.kitOne K (.type "NoneType") (.type "tuple") = some false := kit_ty (by decide +kernel)
theorem kb_NoneType_list : PySem.W.kitOne K (.type "NoneType") (.type "list") = some false := kit_ty (by decide +kernel)
theorem kb_NoneType_str : PySem.W.kitOne K (.type "NoneType") (.type "str") = some false := kit_ty (by decide +kernel)
theorem kb_bool_int : PySem.W.kitOne K (.type "bool") (.type "int") = some true := kit_ty (by decide +kernel)
theorem kb_bool_bool : PySem.W.kitOne K (.type "bool") (.type "bool") = some true := kit_ty (by decide +kernel)
theorem kb_bool_tuple : PySem.W.kitOne K (.type "bool") (.type "tuple") = some false := kit_ty (by decide +kernel)
theorem kb_bool_list : PySem.W.kitOne K (.type "bool") (.type "list") = some false := kit_ty (by decide +kernel)
theorem kb_bool_str : PySem.W.kitOne K (.type "bool") (.type "str") = some false := kit_ty (by decide +kernel)
theorem kb_int_int : PySem.W.kitOne K (.type "int") (.type "int") = some true := kit_ty (by decide +kernel)
theorem kb_int_bool : PySem.W.kitOne K (.type "int") (.type "bool") = some false := kit_ty (by decide +kernel)
theorem kb_int_tuple : PySem.W.kitOne K (.type "int") (.type "tuple") = some false := kit_ty (by decide +kernel)
theorem kb_int_list : PySem.W.kitOne K (.type "int") (.type "list") = some false := kit_ty (by decide +kernel)
theorem kb_int_str : PySem.W.kitOne K (.type "int") (.type "str") = some false := kit_ty (by decide +kernel)
theorem kb_str_int : PySem.W.kitOne K (.type "str") (.type "int") = some false := kit_ty (by decide +kernel)
theorem kb_str_bool : PySem.W.kitOne K (.type "str") (.type "bool") = some false := kit_ty (by decide +kernel)
theorem kb_str_tuple : PySem.W.kitOne K (.type "str") (.type "tuple") = some false := kit_ty (by decide +kernel)
theorem kb_str_list : PySem.W.kitOne K (.type "str") (.type "list") = some false := kit_ty (by decide +kernel)
theorem kb_str_str : PySem.W.kitOne K (.type "str") (.type "str") = some true := kit_ty (by decide +kernel)
theorem kb_list_int : PySem.W.kitOne K (.type "list") (.type "int") = some false := kit_ty (by decide +kernel)
theorem kb_list_bool : PySem.W.kitOne K (.type "list") (.type "bool") = some false := kit_ty (by decide +kernel)
theorem kb_list_tuple : PySem.W.kitOne K (.type "list") (.type "tuple") = some false := kit_ty (by decide +kernel)
theorem kb_list_list : PySem.W.kitOne K (.type "list") (.type "list") = some true := kit_ty (by decide +kernel)
theorem kb_list_str : PySem.W.kitOne K (.type "list") (.type "str") = some false := kit_ty (by decide +kernel)
theorem kb_tuple_int : PySem.W.kitOne K (.type "tuple") (.type "int") = some false := kit_ty (by decide +kernel)
theorem kb_tuple_bool : PySem.W.kitOne K (.type "tuple") (.type "bool") = some false := kit_ty (by decide +kernel)
theorem kb_tuple_tuple : PySem.W.kitOne K (.type "tuple") (.type "tuple") = some true := kit_ty (by decide +kernel)
theorem kb_tuple_list : PySem.W.kitOne K (.type "tuple") (.type "list") = some false := kit_ty (by decide +kernel)
theorem kb_tuple_str : PySem.W.kitOne K (.type "tuple") (.type "str") = some false := kit_ty (by decide +kernel)
theorem kb_dict_int : PySem.W.kitOne K (.type "dict") (.type "int") = some false := kit_ty (by decide +kernel)
theorem kb_dict_bool : PySem.W.kitOne K (.type "dict") (.type "bool") = some false := kit_ty (by decide +kernel)
theorem kb_dict_tuple : PySem.W.kitOne K (.type "dict") (.type "tuple") = some false := kit_ty (by decide +kernel)
theorem kb_dict_list : PySem.W.kitOne K (.type "dict") (.type "list") = some false := kit_ty (by decide +kernel)
theorem kb_dict_str : PySem.W.kitOne K (.type "dict") (.type "str") = some false := kit_ty (by decide +kernel)
end
/-- isinstance against the classes of answers -/
structure KitF (T : Tx) (CA : Addr) : Prop where
  wa : PySem.W.kitOne T.K (.ref T.CW) (.ref CA) = some true
  na : PySem.W.kitOne T.K (.ref T.CN) (.ref CA) = some true
  ww : PySem.W.kitOne T.K (.ref T.CW) (.ref T.CW) = some true
  wn : PySem.W.kitOne T.K (.ref T.CW) (.ref T.CN) = some false
  nw : PySem.W.kitOne T.K (.ref T.CN) (.ref T.CW) = some false
  nn : PySem.W.kitOne T.K (.ref T.CN) (.ref T.CN) = some true
end LW
set_option Elab.async false
set_option linter.all false
set_option maxRecDepth 100000
set_option maxHeartbeats 4000000
namespace LW
open PySem PySem.Spec PyProof.Rows L2 Evl
/-! ### mirrors of the program's defs: leaps, counts, answers -/
/-- the eight leaps of (a, b) -/
def e8 (a b : Int) : List (Int × Int) := [(a, b), (a, -b), (-a, b), (-a, -b), (b, a), (b, -a), (-b, a), (-b, -a)]
def led1 (a b : Int) (cs : List Int) : Int := (List.zipWith (fun c p => c * p.1) cs (e8 a b)).sum
def led2 (a b : Int) (cs : List Int) : Int := (List.zipWith (fun c p => c * p.2) cs (e8 a b)).sum
def okCounts (cs : List Int) : Bool := decide (cs.length = 8) && cs.all fun c => decide (0 ≤ c)
/-- whether n bars (p, q) for the leap (a, b) -/
def bars (n a b p q : Int) : Bool :=
  if n < 1 then false else if a % n = 0 ∧ b % n = 0 then decide (p % n ≠ 0 ∨ q % n ≠ 0) else decide ((a + b) % n = 0 ∧ (a - b) % n = 0 ∧ (p + q) % n ≠ 0)
/-- a leap of some size, not nothing -/
def Leap (n : Nat) (a b : Int) : Prop := 0 ≤ a ∧ 0 ≤ b ∧ 0 < a + b ∧ Sm n a ∧ Sm n b

def R_is_number (ds : List PyData) (d : PyData) : Prop := ∃ i, ds = [.int i] ∧ d = .bool true
theorem len_R_is_number : ∀ ds d, R_is_number ds d → ds.length = 1 := fun ds d ⟨i, h, _⟩ => by rw [h] <;> rfl
theorem r_is_number {i : Int} : R_is_number [.int i] (.bool true) := ⟨i, rfl, rfl⟩
def R_is_pair (ds : List PyData) (d : PyData) : Prop := ∃ i j, ds = [.tuple [.int i, .int j]] ∧ d = .bool true
theorem len_R_is_pair : ∀ ds d, R_is_pair ds d → ds.length = 1 := fun ds d ⟨i, j, h, _⟩ => by rw [h] <;> rfl
theorem r_is_pair {i j : Int} : R_is_pair [.tuple [.int i, .int j]] (.bool true) := ⟨i, j, rfl, rfl⟩
def R_asked_leap (ds : List PyData) (d : PyData) : Prop := ∃ a b, ds = [.tuple [.int a, .int b]] ∧ d = .none ∧ 0 ≤ a ∧ 0 ≤ b ∧ 0 < a + b
theorem len_R_asked_leap : ∀ ds d, R_asked_leap ds d → ds.length = 1 := fun ds d ⟨i, j, h, _⟩ => by rw [h] <;> rfl
theorem r_asked_leap {a b : Int} (h : 0 ≤ a ∧ 0 ≤ b ∧ 0 < a + b) : R_asked_leap [.tuple [.int a, .int b]] .none := ⟨a, b, rfl, rfl, h⟩
def R_asked_place (ds : List PyData) (d : PyData) : Prop := ∃ a b, ds = [.tuple [.int a, .int b]] ∧ d = .none
theorem len_R_asked_place : ∀ ds d, R_asked_place ds d → ds.length = 1 := fun ds d ⟨i, j, h, _⟩ => by rw [h] <;> rfl
theorem r_asked_place {a b : Int} : R_asked_place [.tuple [.int a, .int b]] .none := ⟨a, b, rfl, rfl⟩
/-- the eight leaps as data -/
def e8D (a b : Int) : List PyData := [.tuple [.int a, .int b], .tuple [.int a, .int (-b)], .tuple [.int (-a), .int b], .tuple [.int (-a), .int (-b)], .tuple [.int b, .int a], .tuple [.int b, .int (-a)], .tuple [.int (-b), .int a], .tuple [.int (-b), .int (-a)]]
theorem e8D_eq (a b : Int) : e8D a b = (e8 a b).map pD := rfl
def R_eight_of (ds : List PyData) (es : List PyData) : Prop := ∃ a b, ds = [.tuple [.int a, .int b]] ∧ es = e8D a b
theorem len_R_eight_of : ∀ ds d, R_eight_of ds d → ds.length = 1 := fun ds d ⟨i, j, h, _⟩ => by rw [h] <;> rfl
theorem r_eight_of {a b : Int} : R_eight_of [.tuple [.int a, .int b]] (e8D a b) := ⟨a, b, rfl, rfl⟩
def R_led (ds : List PyData) (d : PyData) : Prop := ∃ a b cs, ds = [.tuple [.int a, .int b], .list (cs.map .int)] ∧ d = .tuple [.int (led1 a b cs), .int (led2 a b cs)] ∧ Sm 4000 a ∧ Sm 4000 b ∧ (∀ c ∈ cs, Sm 4000 c) ∧ cs.length ≤ 1000
theorem len_R_led : ∀ ds d, R_led ds d → ds.length = 2 := fun ds d ⟨i, j, k, h, _⟩ => by rw [h] <;> rfl
theorem r_led {a b : Int} {cs : List Int} (h : Sm 4000 a ∧ Sm 4000 b ∧ (∀ c ∈ cs, Sm 4000 c) ∧ cs.length ≤ 1000) : R_led [.tuple [.int a, .int b], .list (cs.map .int)] (.tuple [.int (led1 a b cs), .int (led2 a b cs)]) := ⟨a, b, cs, rfl, rfl, h⟩
def R_are_counts (ds : List PyData) (d : PyData) : Prop := ∃ cs, ds = [.list (cs.map .int)] ∧ d = .bool (okCounts cs) ∧ cs.length ≤ 1000
theorem len_R_are_counts : ∀ ds d, R_are_counts ds d → ds.length = 1 := fun ds d ⟨k, h, _⟩ => by rw [h] <;> rfl
theorem r_are_counts {cs : List Int} (h : cs.length ≤ 1000) : R_are_counts [.list (cs.map .int)] (.bool (okCounts cs)) := ⟨cs, rfl, rfl, h⟩
/-- the counts' comprehensions -/
theorem e8_sm {n : Nat} {a b : Int} (ha : Sm n a) (hb : Sm n b) : ∀ p ∈ e8 a b, Sm n p.1 ∧ Sm n p.2 := by
  intro p hp
  unfold e8 at hp
  simp only [List.mem_cons, List.not_mem_nil, or_false] at hp
  rcases hp with rfl | rfl | rfl | rfl | rfl | rfl | rfl | rfl
  · exact ⟨ha, hb⟩
  · exact ⟨ha, hb.neg⟩
  · exact ⟨ha.neg, hb⟩
  · exact ⟨ha.neg, hb.neg⟩
  · exact ⟨hb, ha⟩
  · exact ⟨hb, ha.neg⟩
  · exact ⟨hb.neg, ha⟩
  · exact ⟨hb.neg, ha.neg⟩
def R_Way_shows (ds : List PyData) (d : PyData) : Prop := ∃ a b p q cs, ds = [wayD (cs.map .int), .tuple [.int a, .int b], .tuple [.int p, .int q]] ∧ d = .bool (okCounts cs && decide (led1 a b cs = p ∧ led2 a b cs = q)) ∧ Sm 4000 a ∧ Sm 4000 b ∧ (∀ c ∈ cs, Sm 4000 c) ∧ cs.length ≤ 1000
theorem len_R_Way_shows : ∀ ds d, R_Way_shows ds d → ds.length = 3 := fun ds d ⟨_, _, _, _, _, h, _⟩ => by rw [h] <;> rfl
theorem r_Way_shows {a b p q : Int} {cs : List Int} (h : Sm 4000 a ∧ Sm 4000 b ∧ (∀ c ∈ cs, Sm 4000 c) ∧ cs.length ≤ 1000) : R_Way_shows [wayD (cs.map .int), .tuple [.int a, .int b], .tuple [.int p, .int q]] (.bool (okCounts cs && decide (led1 a b cs = p ∧ led2 a b cs = q))) := ⟨a, b, p, q, cs, rfl, rfl, h⟩
def R_Never_shows (ds : List PyData) (d : PyData) : Prop := ∃ n a b p q, ds = [nevD n, .tuple [.int a, .int b], .tuple [.int p, .int q]] ∧ d = .bool (bars n a b p q)
theorem len_R_Never_shows : ∀ ds d, R_Never_shows ds d → ds.length = 3 := fun ds d ⟨_, _, _, _, _, h, _⟩ => by rw [h] <;> rfl
theorem r_Never_shows {n a b p q : Int} : R_Never_shows [nevD n, .tuple [.int a, .int b], .tuple [.int p, .int q]] (.bool (bars n a b p q)) := ⟨n, a, b, p, q, rfl, rfl⟩
end LW
set_option Elab.async false
set_option linter.all false
set_option maxRecDepth 100000
set_option maxHeartbeats 4000000
namespace LW
open PySem PySem.Spec PyProof.Rows L2 Evl
/-! ### Euclid -/
/-- shared's loop: one, other, and what they are made of -/
def egc (one other m1 m2 t1 t2 : Int) : Int × Int × Int :=
  if h : other ≤ 0 then (one, m1, m2) else egc other (one % other) t1 t2 (m1 - one / other * t1) (m2 - one / other * t2)
termination_by other.toNat
decreasing_by
  have h1 := Int.emod_nonneg one (show other ≠ 0 by omega)
  have h2 := Int.emod_lt_of_pos one (show 0 < other by omega)
  omega
/-- the law's own: the first alone -/
def euc (one other : Int) : Int := if h : other ≤ 0 then one else euc other (one % other)
termination_by other.toNat
decreasing_by
  have h1 := Int.emod_nonneg one (show other ≠ 0 by omega)
  have h2 := Int.emod_lt_of_pos one (show 0 < other by omega)
  omega
theorem egc_euc (one other m1 m2 t1 t2 : Int) : (egc one other m1 m2 t1 t2).1 = euc one other := by
  rw [egc, euc]
  by_cases h : other ≤ 0
  · rw [dif_pos h, dif_pos h]
  · rw [dif_neg h, dif_neg h]
    exact egc_euc other (one % other) _ _ _ _
termination_by other.toNat
decreasing_by
  have h1 := Int.emod_nonneg one (show other ≠ 0 by omega)
  have h2 := Int.emod_lt_of_pos one (show 0 < other by omega)
  omega
/-- what is made of a and b stays so -/
theorem egc_made (a b one other m1 m2 t1 t2 : Int) (h1 : a * m1 + b * m2 = one) (h2 : a * t1 + b * t2 = other) : a * (egc one other m1 m2 t1 t2).2.1 + b * (egc one other m1 m2 t1 t2).2.2 = (egc one other m1 m2 t1 t2).1 := by
  rw [egc]
  by_cases h : other ≤ 0
  · rw [dif_pos h]
    exact h1
  · rw [dif_neg h]
    refine egc_made a b other (one % other) _ _ _ _ h2 ?_
    rw [Int.emod_def, Int.mul_sub, Int.mul_sub]
    have e1 : a * (one / other * t1) = one / other * (a * t1) := by rw [← Int.mul_assoc, Int.mul_comm a, Int.mul_assoc]
    have e2 : b * (one / other * t2) = one / other * (b * t2) := by rw [← Int.mul_assoc, Int.mul_comm b, Int.mul_assoc]
    have e3 : other * (one / other) = one / other * (a * t1) + one / other * (b * t2) := by rw [← Int.mul_add, h2, Int.mul_comm]
    omega
termination_by other.toNat
decreasing_by
  have h1 := Int.emod_nonneg one (show other ≠ 0 by omega)
  have h2 := Int.emod_lt_of_pos one (show 0 < other by omega)
  omega
/-- Euclid's end goes into both -/
theorem euc_dvd (one other : Int) (h0 : 0 ≤ other) : euc one other ∣ one ∧ euc one other ∣ other := by
  rw [euc]
  by_cases h : other ≤ 0
  · rw [dif_pos h]
    have e : other = 0 := by omega
    rw [e]
    exact ⟨Int.dvd_refl _, Int.dvd_zero _⟩
  · rw [dif_neg h]
    have h1 := Int.emod_nonneg one (show other ≠ 0 by omega)
    obtain ⟨d1, d2⟩ := euc_dvd other (one % other) h1
    refine ⟨?_, d1⟩
    have e := Int.emod_add_mul_ediv one other
    have q := Int.dvd_add d2 (Int.dvd_trans d1 (Int.dvd_mul_right other (one / other)))
    rw [e] at q
    exact q
termination_by other.toNat
decreasing_by
  have h1 := Int.emod_nonneg one (show other ≠ 0 by omega)
  have h2 := Int.emod_lt_of_pos one (show 0 < other by omega)
  omega
theorem euc_nn (one other : Int) (h0 : 0 ≤ other) (h1 : 0 ≤ one) : 0 ≤ euc one other := by
  rw [euc]
  by_cases h : other ≤ 0
  · rw [dif_pos h]
    exact h1
  · rw [dif_neg h]
    exact euc_nn other (one % other) (Int.emod_nonneg one (by omega)) (by omega)
termination_by other.toNat
decreasing_by
  have h1 := Int.emod_nonneg one (show other ≠ 0 by omega)
  have h2 := Int.emod_lt_of_pos one (show 0 < other by omega)
  omega
theorem euc_pos (a b : Int) (ha : 0 ≤ a) (hb : 0 ≤ b) (h : 0 < a + b) : 0 < euc a b := by
  have h0 := euc_nn a b hb ha
  obtain ⟨d1, d2⟩ := euc_dvd a b hb
  rcases Int.lt_or_eq_of_le h0 with c | c
  · exact c
  · exfalso
    rw [← c] at d1 d2
    have e1 := Int.zero_dvd.mp d1
    have e2 := Int.zero_dvd.mp d2
    omega
/-- the sizes: a factor's signs turn, and |t| * one + |m| * other stays -/
theorem egc_step {N one other m t : Int} (ho : 0 ≤ one) (hp : 0 < other) (hs : m * t ≤ 0) (hz : (t.natAbs : Int) * one + m.natAbs * other ≤ N) :
    t * (m - one / other * t) ≤ 0 ∧ ((m - one / other * t).natAbs : Int) * other + t.natAbs * (one % other) ≤ N ∧ ((m - one / other * t).natAbs : Int) ≤ N := by
  have r1 := Int.emod_nonneg one (show other ≠ 0 by omega)
  have q0 : 0 ≤ one / other := Int.ediv_nonneg ho (by omega)
  have tt : 0 ≤ t * t := by
    rcases Int.le_total 0 t with c | c
    · exact Int.mul_nonneg c c
    · exact Int.mul_nonneg_of_nonpos_of_nonpos c c
  have hq : 0 ≤ one / other * (t * t) := Int.mul_nonneg q0 tt
  have e0 : t * (m - one / other * t) = m * t - one / other * (t * t) := by rw [Int.mul_sub, Int.mul_comm t m, Int.mul_left_comm]
  have eabs : ((m - one / other * t).natAbs : Int) = m.natAbs + one / other * t.natAbs := by
    rcases Int.lt_trichotomy t 0 with c | c | c
    · have hm : 0 ≤ m := by
        rcases Int.le_total 0 m with k | k
        · exact k
        · rcases Int.lt_or_eq_of_le k with k | k
          · have := Int.mul_pos_of_neg_of_neg k c
            omega
          · omega
      have e : (t.natAbs : Int) = -t := by omega
      have p : 0 ≤ one / other * -t := Int.mul_nonneg q0 (by omega)
      rw [e]
      rw [Int.mul_neg] at p ⊢
      omega
    · rw [c]
      simp
    · have hm : m ≤ 0 := by
        rcases Int.le_total m 0 with k | k
        · exact k
        · rcases Int.lt_or_eq_of_le k with k | k
          · have := Int.mul_pos k c
            omega
          · omega
      have p : 0 ≤ one / other * t := Int.mul_nonneg q0 (by omega)
      have e : (t.natAbs : Int) = t := by omega
      rw [e]
      omega
  have e1 : one / other * (t.natAbs : Int) * other + t.natAbs * (one % other) = t.natAbs * one := by
    have e := Int.emod_add_mul_ediv one other
    have e2 : (t.natAbs : Int) * one = t.natAbs * (one % other) + t.natAbs * (other * (one / other)) := by rw [← Int.mul_add, e]
    rw [e2, Int.mul_comm (one / other) (t.natAbs : Int), Int.mul_assoc, Int.mul_comm (one / other) other]
    omega
  have z2 : ((m - one / other * t).natAbs : Int) * other + t.natAbs * (one % other) ≤ N := by
    rw [eabs, Int.add_mul]
    omega
  refine ⟨by rw [e0]; omega, z2, ?_⟩
  have n1 : (0 : Int) ≤ ((m - one / other * t).natAbs : Int) := Int.natCast_nonneg _
  have n2 : 0 ≤ (t.natAbs : Int) * (one % other) := Int.mul_nonneg (Int.natCast_nonneg _) r1
  have n3 : ((m - one / other * t).natAbs : Int) * 1 ≤ ((m - one / other * t).natAbs : Int) * other := Int.mul_le_mul_of_nonneg_left (by omega) n1
  rw [Int.mul_one] at n3
  omega
theorem egc_size (N one other m1 m2 t1 t2 : Int) (ho : 0 ≤ one) (h0 : 0 ≤ other) (hs1 : m1 * t1 ≤ 0) (hs2 : m2 * t2 ≤ 0)
    (z1 : (t1.natAbs : Int) * one + m1.natAbs * other ≤ N) (z2 : (t2.natAbs : Int) * one + m2.natAbs * other ≤ N) (b1 : (m1.natAbs : Int) ≤ N) (b2 : (m2.natAbs : Int) ≤ N) (c1 : (t1.natAbs : Int) ≤ N) (c2 : (t2.natAbs : Int) ≤ N) :
    ((egc one other m1 m2 t1 t2).2.1.natAbs : Int) ≤ N ∧ ((egc one other m1 m2 t1 t2).2.2.natAbs : Int) ≤ N := by
  rw [egc]
  by_cases h : other ≤ 0
  · rw [dif_pos h]
    exact ⟨b1, b2⟩
  · rw [dif_neg h]
    have hp : 0 < other := by omega
    obtain ⟨p1, p2, p3⟩ := egc_step ho hp hs1 z1
    obtain ⟨q1, q2, q3⟩ := egc_step ho hp hs2 z2
    exact egc_size N other (one % other) _ _ _ _ (by omega) (Int.emod_nonneg one (by omega)) p1 q1 p2 q2 c1 c2 p3 q3
termination_by other.toNat
decreasing_by
  have h1 := Int.emod_nonneg one (show other ≠ 0 by omega)
  have h2 := Int.emod_lt_of_pos one (show 0 < other by omega)
  omega
/-- shared(a, b) -/
def shr (a b : Int) : Int × Int × Int := egc a b 1 0 0 1
theorem shr_spec {a b : Int} (ha : 0 ≤ a) (hb : 0 ≤ b) : a * (shr a b).2.1 + b * (shr a b).2.2 = (shr a b).1 ∧ (shr a b).1 = euc a b ∧ ((shr a b).2.1.natAbs : Int) ≤ a + b + 1 ∧ ((shr a b).2.2.natAbs : Int) ≤ a + b + 1 := by
  have h := egc_size (a + b + 1) a b 1 0 0 1 ha hb (by omega) (by omega) (by simp; omega) (by simp; omega) (by simp; omega) (by simp; omega) (by simp; omega) (by simp; omega)
  exact ⟨egc_made a b a b 1 0 0 1 (by omega) (by omega), egc_euc _ _ _ _ _ _, h.1, h.2⟩
/-- a loop's turn, in the program's own words -/
theorem egc_turn {one other m1 m2 t1 t2 : Int} (h : 0 < other) : egc one other m1 m2 t1 t2 = egc other (one - one / other * other) t1 t2 (m1 - one / other * t1) (m2 - one / other * t2) := by
  conv => lhs; rw [egc]
  rw [dif_neg (by omega), Int.emod_def, Int.mul_comm other]

/-! ### signed, told -/
def sgn4 (f u : Int) : List Int := [max 0 ((f + u) / 2), max 0 ((f - u) / 2), max 0 (-((f - u) / 2)), max 0 (-((f + u) / 2))]
end LW
set_option Elab.async false
set_option linter.all false
set_option maxRecDepth 100000
set_option maxHeartbeats 4000000
namespace LW
open PySem PySem.Spec PyProof.Rows L2 Evl
def cnd (a b g f s o u i j : Int) : Bool := decide ((f + i * b / g + (u - j * a / g)) % 2 = 0) && decide ((s - i * a / g + (o + j * b / g)) % 2 = 0)
def cts (a b g f s o u i j : Int) : List Int := sgn4 (f + i * b / g) (u - j * a / g) ++ sgn4 (s - i * a / g) (o + j * b / g)
/-- the four tries -/
def tld4 (a b g f s o u : Int) : PyData :=
  if cnd a b g f s o u 0 0 = true then wayD ((cts a b g f s o u 0 0).map .int) else
  if cnd a b g f s o u 0 1 = true then wayD ((cts a b g f s o u 0 1).map .int) else
  if cnd a b g f s o u 1 0 = true then wayD ((cts a b g f s o u 1 0).map .int) else
  if cnd a b g f s o u 1 1 = true then wayD ((cts a b g f s o u 1 1).map .int) else nevD (2 * g)
/-- what told tells -/
def tld (a b p q : Int) : PyData :=
  if p % (shr a b).1 ≠ 0 ∨ q % (shr a b).1 ≠ 0 then nevD (shr a b).1 else
    tld4 a b (shr a b).1 ((shr a b).2.1 * (p / (shr a b).1)) ((shr a b).2.2 * (p / (shr a b).1)) ((shr a b).2.1 * (q / (shr a b).1)) ((shr a b).2.2 * (q / (shr a b).1))
/-- the law's own word: whether the place is barred -/
def brd (a b p q : Int) : Bool :=
  if 0 < p % euc a b ∨ 0 < q % euc a b then true else decide ((a + b) / euc a b % 2 = 0) && decide ((p + q) / euc a b % 2 = 1)

theorem par (m n : Int) : (m * n) % 2 = 1 ↔ m % 2 = 1 ∧ n % 2 = 1 := by
  rw [Int.mul_emod]
  rcases Int.emod_two_eq m with h | h <;> rcases Int.emod_two_eq n with k | k <;> rw [h, k] <;> decide
theorem cts_led {a b f1 f2 u1 u2 : Int} (h1 : (f1 + u1) % 2 = 0) (h2 : (f2 + u2) % 2 = 0) : led1 a b (sgn4 f1 u1 ++ sgn4 f2 u2) = a * f1 + b * f2 ∧ led2 a b (sgn4 f1 u1 ++ sgn4 f2 u2) = b * u1 + a * u2 := by
  have m0 : ∀ z : Int, max 0 z - max 0 (-z) = z := fun z => by omega
  have e1 : led1 a b (sgn4 f1 u1 ++ sgn4 f2 u2) = a * ((f1 + u1) / 2 + (f1 - u1) / 2) + b * ((f2 + u2) / 2 + (f2 - u2) / 2) := by
    unfold led1 sgn4 e8
    simp only [List.cons_append, List.nil_append, List.zipWith_cons_cons, List.zipWith_nil_left, List.zipWith_nil_right, List.sum_cons, List.sum_nil, Int.mul_neg]
    have k1 := m0 ((f1 + u1) / 2)
    have k2 := m0 ((f1 - u1) / 2)
    have k3 := m0 ((f2 + u2) / 2)
    have k4 := m0 ((f2 - u2) / 2)
    have c1 : a * ((f1 + u1) / 2 + (f1 - u1) / 2) = max 0 ((f1 + u1) / 2) * a - max 0 (-((f1 + u1) / 2)) * a + (max 0 ((f1 - u1) / 2) * a - max 0 (-((f1 - u1) / 2)) * a) := by
      rw [← Int.sub_mul, ← Int.sub_mul, k1, k2, Int.mul_add, Int.mul_comm a, Int.mul_comm a]
    have c2 : b * ((f2 + u2) / 2 + (f2 - u2) / 2) = max 0 ((f2 + u2) / 2) * b - max 0 (-((f2 + u2) / 2)) * b + (max 0 ((f2 - u2) / 2) * b - max 0 (-((f2 - u2) / 2)) * b) := by
      rw [← Int.sub_mul, ← Int.sub_mul, k3, k4, Int.mul_add, Int.mul_comm b, Int.mul_comm b]
    rw [c1, c2]
    omega
  have e2 : led2 a b (sgn4 f1 u1 ++ sgn4 f2 u2) = b * ((f1 + u1) / 2 - (f1 - u1) / 2) + a * ((f2 + u2) / 2 - (f2 - u2) / 2) := by
    unfold led2 sgn4 e8
    simp only [List.cons_append, List.nil_append, List.zipWith_cons_cons, List.zipWith_nil_left, List.zipWith_nil_right, List.sum_cons, List.sum_nil, Int.mul_neg]
    have k1 := m0 ((f1 + u1) / 2)
    have k2 := m0 ((f1 - u1) / 2)
    have k3 := m0 ((f2 + u2) / 2)
    have k4 := m0 ((f2 - u2) / 2)
    have c1 : b * ((f1 + u1) / 2 - (f1 - u1) / 2) = max 0 ((f1 + u1) / 2) * b - max 0 (-((f1 + u1) / 2)) * b - (max 0 ((f1 - u1) / 2) * b - max 0 (-((f1 - u1) / 2)) * b) := by
      rw [← Int.sub_mul, ← Int.sub_mul, k1, k2, Int.mul_sub, Int.mul_comm b, Int.mul_comm b]
    have c2 : a * ((f2 + u2) / 2 - (f2 - u2) / 2) = max 0 ((f2 + u2) / 2) * a - max 0 (-((f2 + u2) / 2)) * a - (max 0 ((f2 - u2) / 2) * a - max 0 (-((f2 - u2) / 2)) * a) := by
      rw [← Int.sub_mul, ← Int.sub_mul, k3, k4, Int.mul_sub, Int.mul_comm a, Int.mul_comm a]
    rw [c1, c2]
    omega
  have d1 : (f1 + u1) / 2 + (f1 - u1) / 2 = f1 := by omega
  have d2 : (f2 + u2) / 2 + (f2 - u2) / 2 = f2 := by omega
  have d3 : (f1 + u1) / 2 - (f1 - u1) / 2 = u1 := by omega
  have d4 : (f2 + u2) / 2 - (f2 - u2) / 2 = u2 := by omega
  rw [e1, e2, d1, d2, d3, d4]
  exact ⟨rfl, rfl⟩
theorem sgn4_nn (f u : Int) : ∀ c ∈ sgn4 f u, 0 ≤ c := by
  intro c hc
  unfold sgn4 at hc
  simp only [List.mem_cons, List.not_mem_nil, or_false] at hc
  omega
theorem sgn4_sm {n : Nat} {f u : Int} (hf : Sm n f) (hu : Sm n u) : ∀ c ∈ sgn4 f u, Sm (n + 1) c := by
  intro c hc
  have h1 : Sm (n + 1) ((f + u) / 2) := (hf.add hu).div
  have h2 : Sm (n + 1) ((f - u) / 2) := (hf.sub hu).div
  unfold sgn4 at hc
  simp only [List.mem_cons, List.not_mem_nil, or_false] at hc
  rcases hc with rfl | rfl | rfl | rfl
  · exact h1.of_le (by omega)
  · exact h2.of_le (by omega)
  · exact h2.of_le (by omega)
  · exact h1.of_le (by omega)
theorem cts_ok (a b g f s o u i j : Int) : okCounts (cts a b g f s o u i j) = true := by
  unfold okCounts
  rw [Bool.and_eq_true]
  refine ⟨rfl, ?_⟩
  rw [List.all_eq_true]
  intro c hc
  unfold cts at hc
  rcases List.mem_append.mp hc with h | h
  · exact decide_eq_true (sgn4_nn _ _ c h)
  · exact decide_eq_true (sgn4_nn _ _ c h)
/-- the parities -/
theorem told_par {A B x y P Q : Int} (h : A * x + B * y = 1) :
    ((A + B) % 2 = 0 ∧ (P + Q) % 2 = 1 ∧ ∀ i j : Int, (i = 0 ∨ i = 1) → (j = 0 ∨ j = 1) → ¬ ((x * P + i * B + (y * Q - j * A)) % 2 = 0 ∧ (y * P - i * A + (x * Q + j * B)) % 2 = 0)) ∨
    (¬ ((A + B) % 2 = 0 ∧ (P + Q) % 2 = 1) ∧ ∃ i j : Int, (i = 0 ∨ i = 1) ∧ (j = 0 ∨ j = 1) ∧ (x * P + i * B + (y * Q - j * A)) % 2 = 0 ∧ (y * P - i * A + (x * Q + j * B)) % 2 = 0) := by
  have p1 := par A x
  have p2 := par B y
  have p3 := par x P
  have p4 := par y Q
  have p5 := par y P
  have p6 := par x Q
  generalize A * x = w1 at *
  generalize B * y = w2 at *
  generalize x * P = w3 at *
  generalize y * Q = w4 at *
  generalize y * P = w5 at *
  generalize x * Q = w6 at *
  by_cases hab : (A + B) % 2 = 0
  · by_cases hpq : (P + Q) % 2 = 1
    · left
      refine ⟨hab, hpq, fun i j hi hj => ?_⟩
      rcases hi with rfl | rfl <;> rcases hj with rfl | rfl <;> omega
    · right
      refine ⟨fun z => hpq z.2, ?_⟩
      by_cases c : (w3 + w4) % 2 = 0
      · exact ⟨0, 0, .inl rfl, .inl rfl, by omega, by omega⟩
      · exact ⟨1, 0, .inr rfl, .inl rfl, by omega, by omega⟩
  · right
    refine ⟨fun z => hab z.1, ?_⟩
    by_cases c1 : (w3 + w4) % 2 = 0
    · by_cases c2 : (w5 + w6) % 2 = 0
      · exact ⟨0, 0, .inl rfl, .inl rfl, by omega, by omega⟩
      · rcases Int.emod_two_eq A with ha | ha
        · exact ⟨0, 1, .inl rfl, .inr rfl, by omega, by omega⟩
        · exact ⟨1, 0, .inr rfl, .inl rfl, by omega, by omega⟩
    · by_cases c2 : (w5 + w6) % 2 = 0
      · rcases Int.emod_two_eq A with ha | ha
        · exact ⟨1, 0, .inr rfl, .inl rfl, by omega, by omega⟩
        · exact ⟨0, 1, .inl rfl, .inr rfl, by omega, by omega⟩
      · exact ⟨1, 1, .inr rfl, .inr rfl, by omega, by omega⟩
/-- what the four tries come to -/
theorem tld_cases {a b p q : Int} (ha : 0 ≤ a) (hb : 0 ≤ b) (hs : 0 < a + b) :
    (brd a b p q = true ∧ ∃ n, tld a b p q = nevD n ∧ bars n a b p q = true ∧ 0 < n ∧ n ≤ 2 * (a + b)) ∨
    (brd a b p q = false ∧ ∃ i j : Int, (i = 0 ∨ i = 1) ∧ (j = 0 ∨ j = 1) ∧ tld a b p q = wayD ((cts a b (shr a b).1 ((shr a b).2.1 * (p / (shr a b).1)) ((shr a b).2.2 * (p / (shr a b).1)) ((shr a b).2.1 * (q / (shr a b).1)) ((shr a b).2.2 * (q / (shr a b).1)) i j).map .int) ∧
      led1 a b (cts a b (shr a b).1 ((shr a b).2.1 * (p / (shr a b).1)) ((shr a b).2.2 * (p / (shr a b).1)) ((shr a b).2.1 * (q / (shr a b).1)) ((shr a b).2.2 * (q / (shr a b).1)) i j) = p ∧
      led2 a b (cts a b (shr a b).1 ((shr a b).2.1 * (p / (shr a b).1)) ((shr a b).2.2 * (p / (shr a b).1)) ((shr a b).2.1 * (q / (shr a b).1)) ((shr a b).2.2 * (q / (shr a b).1)) i j) = q) := by
  obtain ⟨hm, hg, _, _⟩ := shr_spec ha hb
  have gp := euc_pos a b ha hb hs
  obtain ⟨⟨A, eA⟩, ⟨B, eB⟩⟩ := euc_dvd a b hb
  unfold brd tld
  rw [← hg] at gp eA eB ⊢
  generalize (shr a b).1 = g at *
  generalize (shr a b).2.1 = x at *
  generalize (shr a b).2.2 = y at *
  have gA : 0 ≤ A := by
    rcases Int.le_total 0 A with c | c
    · exact c
    · have := Int.mul_nonpos_of_nonneg_of_nonpos (show 0 ≤ g by omega) c
      rcases Int.lt_or_eq_of_le c with c | c
      · have := Int.mul_neg_of_pos_of_neg gp c
        omega
      · omega
  have gB : 0 ≤ B := by
    rcases Int.le_total 0 B with c | c
    · exact c
    · rcases Int.lt_or_eq_of_le c with c | c
      · have := Int.mul_neg_of_pos_of_neg gp c
        omega
      · omega
  have gle : g ≤ a + b := by
    have e : a + b = g * (A + B) := by rw [Int.mul_add, ← eA, ← eB]
    have hAB : 1 ≤ A + B := by
      by_cases c : 0 < A + B
      · omega
      · have e0 : A + B = 0 := by omega
        rw [e0, Int.mul_zero] at e
        omega
    have := Int.mul_le_mul_of_nonneg_left hAB (show 0 ≤ g by omega)
    rw [Int.mul_one] at this
    omega
  have am : a % g = 0 := by rw [eA]; exact Int.mul_emod_right g A
  have bm : b % g = 0 := by rw [eB]; exact Int.mul_emod_right g B
  have pn := Int.emod_nonneg p (show g ≠ 0 by omega)
  have qn := Int.emod_nonneg q (show g ≠ 0 by omega)
  by_cases hd : p % g ≠ 0 ∨ q % g ≠ 0
  · left
    rw [if_pos hd, if_pos (show 0 < p % g ∨ 0 < q % g by omega)]
    refine ⟨rfl, g, rfl, ?_, gp, by omega⟩
    unfold bars
    rw [if_neg (by omega), if_pos ⟨am, bm⟩]
    exact decide_eq_true hd
  · rw [if_neg hd, if_neg (show ¬ (0 < p % g ∨ 0 < q % g) by omega)]
    have hp : p % g = 0 := by omega
    have hq : q % g = 0 := by omega
    obtain ⟨P, eP⟩ := Int.dvd_of_emod_eq_zero hp
    obtain ⟨Q, eQ⟩ := Int.dvd_of_emod_eq_zero hq
    have g0 : g ≠ 0 := by omega
    have dP : p / g = P := by rw [eP]; exact Int.mul_ediv_cancel_left P g0
    have dQ : q / g = Q := by rw [eQ]; exact Int.mul_ediv_cancel_left Q g0
    have dA : a / g = A := by rw [eA]; exact Int.mul_ediv_cancel_left A g0
    have dB : b / g = B := by rw [eB]; exact Int.mul_ediv_cancel_left B g0
    have dAB : (a + b) / g = A + B := by rw [eA, eB, ← Int.mul_add]; exact Int.mul_ediv_cancel_left _ g0
    have dPQ : (p + q) / g = P + Q := by rw [eP, eQ, ← Int.mul_add]; exact Int.mul_ediv_cancel_left _ g0
    have h1 : A * x + B * y = 1 := by
      have e : g * (A * x + B * y) = g * 1 := by
        rw [Int.mul_add, ← Int.mul_assoc, ← Int.mul_assoc, ← eA, ← eB, hm, Int.mul_one]
      exact Int.eq_of_mul_eq_mul_left g0 e
    have iA : ∀ i : Int, (i = 0 ∨ i = 1) → i * a / g = i * A := fun i hi => by
      rcases hi with rfl | rfl
      · simp
      · rw [Int.one_mul, Int.one_mul, dA]
    have iB : ∀ i : Int, (i = 0 ∨ i = 1) → i * b / g = i * B := fun i hi => by
      rcases hi with rfl | rfl
      · simp
      · rw [Int.one_mul, Int.one_mul, dB]
    rw [dP, dQ, dAB, dPQ]
    have cd : ∀ i j : Int, (i = 0 ∨ i = 1) → (j = 0 ∨ j = 1) → (cnd a b g (x * P) (y * P) (x * Q) (y * Q) i j = true ↔ ((x * P + i * B + (y * Q - j * A)) % 2 = 0 ∧ (y * P - i * A + (x * Q + j * B)) % 2 = 0)) := fun i j hi hj => by
      unfold cnd
      rw [Bool.and_eq_true, decide_eq_true_eq, decide_eq_true_eq, iA i hi, iA j hj, iB i hi, iB j hj]
    have ld : ∀ i j : Int, (i = 0 ∨ i = 1) → (j = 0 ∨ j = 1) → cnd a b g (x * P) (y * P) (x * Q) (y * Q) i j = true → led1 a b (cts a b g (x * P) (y * P) (x * Q) (y * Q) i j) = p ∧ led2 a b (cts a b g (x * P) (y * P) (x * Q) (y * Q) i j) = q := fun i j hi hj hc => by
      obtain ⟨c1, c2⟩ := (cd i j hi hj).mp hc
      unfold cts
      rw [iA i hi, iA j hj, iB i hi, iB j hj]
      obtain ⟨l1, l2⟩ := cts_led (a := a) (b := b) c1 c2
      rw [l1, l2]
      constructor
      · have z1 : a * (x * P + i * B) + b * (y * P - i * A) = g * (P * (A * x + B * y)) := by
          rw [eA, eB, Int.mul_add, Int.mul_sub, Int.mul_add, Int.mul_add]
          have k1 : g * A * (x * P) = g * (P * (A * x)) := by rw [Int.mul_assoc, Int.mul_comm x P, Int.mul_left_comm A P x]
          have k2 : g * B * (y * P) = g * (P * (B * y)) := by rw [Int.mul_assoc, Int.mul_comm y P, Int.mul_left_comm B P y]
          have k3 : g * A * (i * B) = g * B * (i * A) := by rw [Int.mul_assoc, Int.mul_assoc, Int.mul_left_comm A i B, Int.mul_left_comm B i A, Int.mul_comm A B]
          rw [k1, k2, k3]
          omega
        rw [z1, h1, Int.mul_one, ← eP]
      · have z1 : b * (y * Q - j * A) + a * (x * Q + j * B) = g * (Q * (A * x + B * y)) := by
          rw [eA, eB, Int.mul_add, Int.mul_sub, Int.mul_add, Int.mul_add]
          have k1 : g * A * (x * Q) = g * (Q * (A * x)) := by rw [Int.mul_assoc, Int.mul_comm x Q, Int.mul_left_comm A Q x]
          have k2 : g * B * (y * Q) = g * (Q * (B * y)) := by rw [Int.mul_assoc, Int.mul_comm y Q, Int.mul_left_comm B Q y]
          have k3 : g * A * (j * B) = g * B * (j * A) := by rw [Int.mul_assoc, Int.mul_assoc, Int.mul_left_comm A j B, Int.mul_left_comm B j A, Int.mul_comm A B]
          rw [k1, k2, k3]
          omega
        rw [z1, h1, Int.mul_one, ← eQ]
    rcases told_par (P := P) (Q := Q) h1 with ⟨b1, b2, hn⟩ | ⟨hb1, i, j, hi, hj, hc⟩
    · left
      have no : ∀ i j : Int, (i = 0 ∨ i = 1) → (j = 0 ∨ j = 1) → ¬ cnd a b g (x * P) (y * P) (x * Q) (y * Q) i j = true := fun i j hi hj z => hn i j hi hj ((cd i j hi hj).mp z)
      refine ⟨by rw [decide_eq_true b1, decide_eq_true b2] <;> rfl, 2 * g, ?_, ?_, by omega, by omega⟩
      · unfold tld4
        rw [if_neg (no 0 0 (.inl rfl) (.inl rfl)), if_neg (no 0 1 (.inl rfl) (.inr rfl)), if_neg (no 1 0 (.inr rfl) (.inl rfl)), if_neg (no 1 1 (.inr rfl) (.inr rfl))]
      · have m2 : ∀ z w : Int, z = g * w → (z % (2 * g) = 0 ↔ w % 2 = 0) := fun z w e => by
          rw [e, Int.mul_comm 2 g, Int.mul_emod_mul_of_pos _ _ gp]
          constructor
          · intro h
            rcases Int.mul_eq_zero.mp h with h | h
            · exact absurd h g0
            · exact h
          · intro h
            rw [h, Int.mul_zero]
        have oA : A % 2 = 1 ∧ B % 2 = 1 := by
          have p1 := par A x
          have p2 := par B y
          generalize A * x = w1 at *
          generalize B * y = w2 at *
          omega
        unfold bars
        rw [if_neg (by omega), if_neg (fun z => by
          have := (m2 a A eA).mp z.1
          omega)]
        refine decide_eq_true ⟨(m2 (a + b) (A + B) (by rw [Int.mul_add, ← eA, ← eB])).mpr b1, (m2 (a - b) (A - B) (by rw [Int.mul_sub, ← eA, ← eB])).mpr (by omega), fun z => ?_⟩
        have := (m2 (p + q) (P + Q) (by rw [Int.mul_add, ← eP, ← eQ])).mp z
        omega
    · right
      refine ⟨?_, ?_⟩
      · rw [← Bool.decide_and]
        exact decide_eq_false hb1
      · unfold tld4
        have z0 : (0 : Int) = 0 ∨ (0 : Int) = 1 := .inl rfl
        have z1 : (1 : Int) = 0 ∨ (1 : Int) = 1 := .inr rfl
        by_cases c00 : cnd a b g (x * P) (y * P) (x * Q) (y * Q) 0 0 = true
        · exact ⟨0, 0, z0, z0, by rw [if_pos c00], (ld 0 0 z0 z0 c00).1, (ld 0 0 z0 z0 c00).2⟩
        · by_cases c01 : cnd a b g (x * P) (y * P) (x * Q) (y * Q) 0 1 = true
          · exact ⟨0, 1, z0, z1, by rw [if_neg c00, if_pos c01], (ld 0 1 z0 z1 c01).1, (ld 0 1 z0 z1 c01).2⟩
          · by_cases c10 : cnd a b g (x * P) (y * P) (x * Q) (y * Q) 1 0 = true
            · exact ⟨1, 0, z1, z0, by rw [if_neg c00, if_neg c01, if_pos c10], (ld 1 0 z1 z0 c10).1, (ld 1 0 z1 z0 c10).2⟩
            · have c11 : cnd a b g (x * P) (y * P) (x * Q) (y * Q) 1 1 = true := by
                have z := (cd i j hi hj).mpr hc
                rcases hi with rfl | rfl <;> rcases hj with rfl | rfl
                · exact absurd z c00
                · exact absurd z c01
                · exact absurd z c10
                · exact z
              exact ⟨1, 1, z1, z1, by rw [if_neg c00, if_neg c01, if_neg c10, if_pos c11], (ld 1 1 z1 z1 c11).1, (ld 1 1 z1 z1 c11).2⟩
end LW
set_option Elab.async false
set_option linter.all false
set_option maxRecDepth 100000
set_option maxHeartbeats 4000000
namespace LW
open PySem PySem.Spec PyProof.Rows L2 Evl
/-- what stays true in shared's loop -/
structure Sh (N one other m1 m2 t1 t2 : Int) : Prop where
  ho : 0 ≤ one
  h0 : 0 ≤ other
  s1 : m1 * t1 ≤ 0
  s2 : m2 * t2 ≤ 0
  z1 : (t1.natAbs : Int) * one + m1.natAbs * other ≤ N
  z2 : (t2.natAbs : Int) * one + m2.natAbs * other ≤ N
  b1 : (m1.natAbs : Int) ≤ N
  b2 : (m2.natAbs : Int) ≤ N
  c1 : (t1.natAbs : Int) ≤ N
  c2 : (t2.natAbs : Int) ≤ N
  o1 : one ≤ N
  o2 : other ≤ N
theorem Sh.step {N one other m1 m2 t1 t2 : Int} (h : Sh N one other m1 m2 t1 t2) (hp : 0 < other) : Sh N other (one - one / other * other) t1 t2 (m1 - one / other * t1) (m2 - one / other * t2) := by
  have e : one - one / other * other = one % other := by rw [Int.emod_def, Int.mul_comm other]
  obtain ⟨p1, p2, p3⟩ := egc_step h.ho hp h.s1 h.z1
  obtain ⟨q1, q2, q3⟩ := egc_step h.ho hp h.s2 h.z2
  have r1 := Int.emod_nonneg one (show other ≠ 0 by omega)
  have r2 := Int.emod_lt_of_pos one hp
  rw [e]
  have := h.o2
  exact ⟨by omega, r1, p1, q1, p2, q2, h.c1, h.c2, p3, q3, h.o2, by omega⟩
theorem Sh.start {a b : Int} (ha : 0 ≤ a) (hb : 0 ≤ b) : Sh (a + b + 1) a b 1 0 0 1 :=
  ⟨ha, hb, by omega, by omega, by simp; omega, by simp; omega, by simp; omega, by simp; omega, by simp; omega, by simp; omega, by omega, by omega⟩
theorem sm_abs_le {n : Nat} {x N : Int} (h : (x.natAbs : Int) ≤ N) (k : Sm n N) : Sm n x := k.of_le (by omega)
theorem sm_le {n : Nat} {x N : Int} (h0 : 0 ≤ x) (h : x ≤ N) (k : Sm n N) : Sm n x := k.of_le (by omega)

def R_shared (ds : List PyData) (d : PyData) : Prop := ∃ a b, ds = [.int a, .int b] ∧ d = .tuple [.int (shr a b).1, .tuple [.int (shr a b).2.1, .int (shr a b).2.2]] ∧ 0 ≤ a ∧ 0 ≤ b ∧ Sm 1000 a ∧ Sm 1000 b
theorem len_R_shared : ∀ ds d, R_shared ds d → ds.length = 2 := fun ds d ⟨_, _, h, _⟩ => by rw [h] <;> rfl
theorem r_shared {a b : Int} (h : 0 ≤ a ∧ 0 ≤ b ∧ Sm 1000 a ∧ Sm 1000 b) : R_shared [.int a, .int b] (.tuple [.int (shr a b).1, .tuple [.int (shr a b).2.1, .int (shr a b).2.2]]) := ⟨a, b, rfl, rfl, h⟩
def R_signed (ds : List PyData) (es : List PyData) : Prop := ∃ f u, ds = [.int f, .int u] ∧ es = (sgn4 f u).map .int
theorem len_R_signed : ∀ ds d, R_signed ds d → ds.length = 2 := fun ds d ⟨_, _, h, _⟩ => by rw [h] <;> rfl
theorem r_signed {f u : Int} : R_signed [.int f, .int u] ((sgn4 f u).map .int) := ⟨f, u, rfl, rfl⟩
/-- a leap and a place of moderate size -/
structure LP (a b p q : Int) : Prop where
  ha : 0 ≤ a
  hb : 0 ≤ b
  hs : 0 < a + b
  sa : Sm 1000 a
  sb : Sm 1000 b
  sp : Sm 1000 p
  sq : Sm 1000 q
def R_told (ds : List PyData) (d : PyData) : Prop := ∃ a b p q, ds = [.tuple [.int a, .int b], .tuple [.int p, .int q]] ∧ d = tld a b p q ∧ LP a b p q
theorem len_R_told : ∀ ds d, R_told ds d → ds.length = 2 := fun ds d ⟨_, _, _, _, h, _⟩ => by rw [h] <;> rfl
theorem r_told {a b p q : Int} (h : LP a b p q) : R_told [.tuple [.int a, .int b], .tuple [.int p, .int q]] (tld a b p q) := ⟨a, b, p, q, rfl, rfl, h⟩
theorem LP.shr_sm {a b p q : Int} (h : LP a b p q) : Sm 1002 (shr a b).2.1 ∧ Sm 1002 (shr a b).2.2 ∧ 0 < (shr a b).1 ∧ Sm 1002 (shr a b).1 := by
  obtain ⟨_, hg, h1, h2⟩ := shr_spec h.ha h.hb
  have n1 : Sm 1002 (a + b + 1) := (h.sa.add h.sb).add (Sm.lit (n := 1001) (x := 1) (by decide +kernel))
  have gp := euc_pos a b h.ha h.hb h.hs
  rw [← hg] at gp
  refine ⟨sm_abs_le h1 n1, sm_abs_le h2 n1, gp, ?_⟩
  have hd := euc_dvd a b h.hb
  rw [← hg] at hd
  have hle : (shr a b).1 ≤ a + b := Int.le_of_dvd h.hs (Int.dvd_add hd.1 hd.2)
  exact sm_le (by omega) (show (shr a b).1 ≤ a + b + 1 by omega) n1
end LW
set_option Elab.async false
set_option linter.all false
set_option maxRecDepth 100000
set_option maxHeartbeats 4000000
namespace LW
open PySem PySem.Spec PyProof.Rows L2 Evl
section
variable {T : Tx} {F H : Hp} {ρ : List Sl} {te : TE} {d : PyData} {ds : List PyData}
/-- the counts of the answer that slot i owns change -/
theorem En.changeW {F0 H0 : Hp} {σ : L2.St} {ρ : List Sl} (E : En T F0 H0 F H σ ρ) {i : Nat} {x dx l : Addr} {vs' : List V} {ds ds' : List PyData} (hi : ρ[i]? = some (.oway ds)) (hl : σ[i]? = some (some (.ref x))) (hx : F x = some (.ins T.CW dx [("counts", .ref l)])) (k : OkAll T F vs' ds') :
    En T F0 H0 F (upd H l (.lst vs')) σ (ρ.set i (.oway ds')) := by
  obtain ⟨x', dx', l', vs, e, a0, a1, a2, a3, a4⟩ := E.ok i _ hi
  rw [hl] at e
  cases e
  rw [hx] at a0
  cases a0
  refine ⟨E.gr.mut a1 a2, by rw [List.length_set, E.len], fun j s hj => ?_, fun j k l2 s t n h1 h2 k1 k2 => ?_⟩
  · by_cases e : i = j
    · subst e
      rw [List.getElem?_set_self ((List.getElem?_eq_some_iff.mp hi).1)] at hj
      cases hj
      exact ⟨x, dx, l, vs', hl, hx, a1, a2, upd_same, k⟩
    · rw [List.getElem?_set_ne e] at hj
      have z := E.ok j s hj
      cases s with
      | no => trivial
      | dat d => exact z
      | own es =>
        obtain ⟨l2, ws, e2, b1, b2, b3, b4⟩ := z
        refine ⟨l2, ws, e2, b1, b2, ?_, b4⟩
        rw [upd_ne (fun q => E.sep i j l _ _ e hi hj ⟨x, dx, hl, hx⟩ (by rw [← q]; exact e2))]
        exact b3
      | oway es =>
        obtain ⟨x2, dx2, l2, ws, e2, b0, b1, b2, b3, b4⟩ := z
        refine ⟨x2, dx2, l2, ws, e2, b0, b1, b2, ?_, b4⟩
        rw [upd_ne (fun q => E.sep i j l _ _ e hi hj ⟨x, dx, hl, hx⟩ ⟨x2, dx2, e2, by rw [← q]; exact b0⟩)]
        exact b3
      | odic p ho =>
        obtain ⟨l2, e2, b1, b2, b3, b4⟩ := z
        refine ⟨l2, e2, b1, b2, ?_, b4⟩
        rw [upd_ne (fun q => E.sep i j l _ _ e hi hj ⟨x, dx, hl, hx⟩ (by rw [← q]; exact e2))]
        exact b3
      | tpl es => exact z
      | ad a => exact z
  · have a : ∀ {j : Nat} {s : Sl}, (ρ.set i (.oway ds'))[j]? = some s → Owns T F σ[j]? l2 s → ∃ t, ρ[j]? = some t ∧ Owns T F σ[j]? l2 t := fun {j s} hj ho => by
      by_cases e : i = j
      · subst e
        rw [List.getElem?_set_self ((List.getElem?_eq_some_iff.mp hi).1)] at hj
        cases hj
        exact ⟨_, hi, ho⟩
      · rw [List.getElem?_set_ne e] at hj
        exact ⟨s, hj, ho⟩
    obtain ⟨s', a1, a2⟩ := a h1 k1
    obtain ⟨t', b1, b2⟩ := a h2 k2
    exact E.sep j k l2 s' t' n a1 b1 a2 b2
/-- found.counts of an owned answer -/
theorem fld_oway (C : ClsF T) {F0 H0 : Hp} {σ : L2.St} (E : En T F0 H0 F H σ ρ) {i : Nat} (hi : ρ[i]? = some (.oway ds)) : ∃ x dx l vs, σ[i]? = some (some (.ref x)) ∧ F x = some (.ins T.CW dx [("counts", .ref l)]) ∧ F l = none ∧ H l = some (.lst vs) ∧ OkAll T F vs ds ∧
    ∀ {Q : VK}, Q (.ref l) H → tFld T.K (tVar i) "counts" σ H Q := by
  obtain ⟨x, dx, l, vs, e, h0, h1, h2, h3, a⟩ := E.ok i _ hi
  exact ⟨x, dx, l, vs, e, h0, h2, h3, a, fun q => ⟨_, e, _, _, _, _, _, rfl, E.sub _ _ h0, C.cw, C.nc, by simp [List.lookup], q⟩⟩
theorem se_appW (C : ClsF T) {i : Nat} (hi : ρ[i]? = some (.oway ds)) (h : EvD T te ρ d) (hz : ds.length < 100000) : SeD T (tDrop (tBM T.K "list" rAppend (tFld T.K (tVar i) "counts") (tCons te tNil))) ρ (.nx (ρ.set i (.oway (ds ++ [d])))) := fun σ F0 H0 F H D E k => by
  obtain ⟨x, dx, l, vs, e, h0, h2, h3, a, f⟩ := fld_oway C E hi
  unfold tDrop tBM
  refine f ?_
  refine ⟨.inl ⟨rfl, vs, SqL.of h3⟩, h σ F0 H0 F H E _ fun v F1 H1 g b => ?_⟩
  refine ⟨l, vs, v, rfl, rfl, g.hh _ _ h3, by rw [a.length]; exact szl hz, ?_⟩
  exact k σ F1 _ ((E.mono g).changeW hi e (g.ff _ _ h0) ((a.ex g.ff).append (.cons b .nil))) g.ff
theorem se_popW (C : ClsF T) {i : Nat} (hi : ρ[i]? = some (.oway (ds ++ [d]))) : SeD T (tDrop (tBM0 T.K "list" rPop (tFld T.K (tVar i) "counts"))) ρ (.nx (ρ.set i (.oway ds))) := fun σ F0 H0 F H D E k => by
  obtain ⟨x, dx, l, vs, e, h0, h2, h3, a, f⟩ := fld_oway C E hi
  have hn : vs.length - 1 < vs.length := by
    rw [a.length, List.length_append]
    exact Nat.sub_lt (Nat.succ_pos _) (by decide)
  unfold tDrop tBM0
  refine f ?_
  refine ⟨.inl ⟨rfl, vs, SqL.of h3⟩, ?_⟩
  refine ⟨l, vs, _, rfl, rfl, h3, List.getElem?_eq_getElem hn, ?_⟩
  have a2 := a.take ds.length
  rw [List.take_left' rfl] at a2
  have e3 : vs.dropLast = vs.take ds.length := by
    rw [List.dropLast_eq_take, a.length, List.length_append]
    rfl
  rw [← e3] at a2
  exact k σ F _ (E.changeW hi e h0 a2) (Ex.refl F)
theorem se_setW (C : ClsF T) {i : Nat} {ti : TE} {k : Nat} (hi : ρ[i]? = some (.oway ds)) (h : EvD T te ρ d) (hk : EvD T ti ρ (.int k)) (hz : k < ds.length) : SeD T (tAsg te (gSub (tFld T.K (tVar i) "counts") ti rSetL)) ρ (.nx (ρ.set i (.oway (ds.set k d)))) := fun σ F0 H0 F H D E q => by
  refine h σ F0 H0 F H E _ fun v F1 H1 g b => ?_
  obtain ⟨x, dx, l, vs, e, h0, h2, h3, a, f⟩ := fld_oway C (E.mono g) hi
  refine f (hk σ F0 H0 F1 H1 (E.mono g) _ fun u F2 H2 g2 b2 => ?_)
  cases b2
  refine ⟨l, vs, k, k, rfl, rfl, g2.hh _ _ h3, ixN_nat (by rw [a.length]; exact hz), ?_⟩
  exact q σ F2 _ (((E.mono g).mono g2).changeW hi e (g2.ff _ _ h0) ((a.ex g2.ff).set (b.ex g2.ff))) (g.ff.trans g2.ff)
theorem ed_ixW (C : ClsF T) {i : Nat} {k : Int} {tb : TE} {z : PyData} (hi : ρ[i]? = some (.oway ds)) (hb : EvD T tb ρ (.int k)) (h : atI ds k = some z) : EvD T (tOp (rIxA T.K) (tFld T.K (tVar i) "counts") tb) ρ z := fun σ F0 H0 F H E Q q => by
  obtain ⟨x, dx, l, vs, e, h0, h2, h3, a, f⟩ := fld_oway C E hi
  refine f (hb σ F0 H0 F H E _ fun u F1 H1 g1 k1 => ?_)
  cases k1
  obtain ⟨w, e1, kw⟩ := atI_ok (a.ex g1.ff) h
  exact .inl ⟨_, _, _, w, rfl, rfl, SqL.of (g1.hh _ _ h3), e1, q w F1 H1 g1 kw⟩
end
end LW
set_option Elab.async false
set_option linter.all false
set_option maxRecDepth 100000
set_option maxHeartbeats 4000000
namespace LW
open PySem PySem.Spec PyProof.Rows L2 Evl
/-! ### mirrors of the law's own defs -/
def numZ (c a n : Int) : Int :=
  if 10 ^ 18 ≤ c then c / (1 + a % 7) else
    ((c + 977 * a) * 48271 + n) % 2147483647 * (c + 31 * a + 7) * (((c + 977 * a) * 48271 + n) % 2147483647 + c + 5) * (((c + 977 * a) * 48271 + n) % 2147483647 * (((c + 977 * a) * 48271 + n) % 2147483647) + 11) / (1009 + a)
def cel (ns : List Int) : List Int := if ns = [] then [3] else ns.take 63
def celAt (ns : List Int) (a : Int) : Int := (cel ns).getD (a % ((cel ns).length : Int)).toNat 0
def mostZ (w : Int) : Int := ([3, 12, 100, 10 ^ 30] : List Int).getD w.toNat 0
def valZ (ns : List Int) (a w : Int) : Int := numZ (celAt ns a) a (cel ns).length / 3 % (2 * mostZ w + 1) - mostZ w
/-- a script's cells are of some size -/
def Cells (ns : List Int) : Prop := ∀ c ∈ ns, Sm 1048576 c
theorem cel_len (ns : List Int) : 0 < (cel ns).length ∧ (cel ns).length ≤ 63 := by
  unfold cel
  by_cases h : ns = []
  · rw [if_pos h]
    decide
  · rw [if_neg h]
    have := List.length_pos_iff.mpr h
    rw [List.length_take]
    omega
theorem cel_cells {ns : List Int} (h : Cells ns) : ∀ c ∈ cel ns, Sm 1048576 c := by
  intro c hc
  unfold cel at hc
  by_cases e : ns = []
  · rw [if_pos e] at hc
    rw [List.mem_singleton.mp hc]
    exact (Sm.lit (n := 3) (by decide)).mono (by decide)
  · rw [if_neg e] at hc
    exact h c (List.mem_of_mem_take hc)
theorem cel_at (ns : List Int) (a : Int) : atI (cel ns) (a % ((cel ns).length : Int)) = some (celAt ns a) := by
  obtain ⟨h1, h2⟩ := cel_len ns
  have r1 := Int.emod_nonneg a (show ((cel ns).length : Int) ≠ 0 by omega)
  have r2 := Int.emod_lt_of_pos a (show (0 : Int) < (cel ns).length by omega)
  have hj : (a % ((cel ns).length : Int)).toNat < (cel ns).length := by omega
  unfold atI celAt
  rw [show ixN (cel ns).length (a % ((cel ns).length : Int)) = some (a % ((cel ns).length : Int)).toNat by unfold ixN; rw [if_pos r1, if_pos r2]]
  show (cel ns)[_]? = some _
  rw [List.getD_eq_getElem?_getD, List.getElem?_eq_getElem hj]
  rfl
theorem cel_atD (ns : List Int) (a : Int) : atI ((cel ns).map PyData.int) (a % ((cel ns).length : Int)) = some (.int (celAt ns a)) := by
  have h := cel_at ns a
  unfold atI at h ⊢
  rw [List.length_map]
  cases e : ixN (cel ns).length (a % ((cel ns).length : Int)) with
  | none =>
    rw [e] at h
    cases h
  | some j =>
    rw [e] at h
    show ((cel ns).map PyData.int)[j]? = _
    rw [List.getElem?_map, show (cel ns)[j]? = some (celAt ns a) from h]
    rfl
theorem most_at {w : Int} (h0 : 0 ≤ w) (h1 : w < 4) : atI [PyData.int 3, PyData.int 12, PyData.int 100, PyData.int (10 ^ Int.toNat 30)] w = some (.int (mostZ w)) := by
  have : w = 0 ∨ w = 1 ∨ w = 2 ∨ w = 3 := by omega
  rcases this with rfl | rfl | rfl | rfl <;> rfl
theorem most_sm {w : Int} (h0 : 0 ≤ w) (h1 : w < 4) : Sm 100 (mostZ w) := by
  have : w = 0 ∨ w = 1 ∨ w = 2 ∨ w = 3 := by omega
  rcases this with rfl | rfl | rfl | rfl <;> exact Sm.lit (by decide)
theorem celAt_sm {ns : List Int} (h : Cells ns) (a : Int) : Sm 1048576 (celAt ns a) := by
  obtain ⟨h1, h2⟩ := cel_len ns
  have r1 := Int.emod_nonneg a (show ((cel ns).length : Int) ≠ 0 by omega)
  have r2 := Int.emod_lt_of_pos a (show (0 : Int) < (cel ns).length by omega)
  have hj : (a % ((cel ns).length : Int)).toNat < (cel ns).length := by omega
  unfold celAt
  rw [List.getD_eq_getElem?_getD, List.getElem?_eq_getElem hj]
  exact cel_cells h _ (List.getElem_mem hj)
theorem mostZ_pos {w : Int} (h0 : 0 ≤ w) (h1 : w < 4) : 3 ≤ mostZ w ∧ mostZ w ≤ 10 ^ 30 := by
  have : w = 0 ∨ w = 1 ∨ w = 2 ∨ w = 3 := by omega
  rcases this with rfl | rfl | rfl | rfl <;> decide
theorem valZ_le (ns : List Int) (a : Int) {w : Int} (h0 : 0 ≤ w) (h1 : w < 4) : (valZ ns a w).natAbs ≤ 10 ^ 30 := by
  obtain ⟨m1, m2⟩ := mostZ_pos h0 h1
  unfold valZ
  generalize numZ (celAt ns a) a (cel ns).length / 3 = z
  generalize mostZ w = m at *
  have r1 := Int.emod_nonneg z (show 2 * m + 1 ≠ 0 by omega)
  have r2 := Int.emod_lt_of_pos z (show 0 < 2 * m + 1 by omega)
  omega
theorem valZ_sm (ns : List Int) (a : Int) {w : Int} (h0 : 0 ≤ w) (h1 : w < 4) : Sm 100 (valZ ns a w) := Nat.lt_of_le_of_lt (valZ_le ns a h0 h1) (by decide)

def R_number (ds : List PyData) (d : PyData) : Prop := ∃ c a n, ds = [.int c, .int a, .int n] ∧ d = .int (numZ c a n) ∧ Sm 1048576 c ∧ 0 ≤ a ∧ Sm 10 a ∧ Sm 10 n
theorem len_R_number : ∀ ds d, R_number ds d → ds.length = 3 := fun ds d ⟨_, _, _, h, _⟩ => by rw [h] <;> rfl
theorem r_number {c a n : Int} (h : Sm 1048576 c ∧ 0 ≤ a ∧ Sm 10 a ∧ Sm 10 n) : R_number [.int c, .int a, .int n] (.int (numZ c a n)) := ⟨c, a, n, rfl, rfl, h⟩
def R_value (ds : List PyData) (d : PyData) : Prop := ∃ ns a w, ds = [scrD ns, .int a, .int w] ∧ d = .int (valZ ns a w) ∧ Cells ns ∧ 0 ≤ a ∧ Sm 10 a ∧ 0 ≤ w ∧ w < 4
theorem len_R_value : ∀ ds d, R_value ds d → ds.length = 3 := fun ds d ⟨_, _, _, h, _⟩ => by rw [h] <;> rfl
theorem r_value {ns : List Int} {a w : Int} (h : Cells ns ∧ 0 ≤ a ∧ Sm 10 a ∧ 0 ≤ w ∧ w < 4) : R_value [scrD ns, .int a, .int w] (.int (valZ ns a w)) := ⟨ns, a, w, rfl, rfl, h⟩
def R_law_eight (ds : List PyData) (es : List PyData) : Prop := ∃ a b, ds = [.tuple [.int a, .int b]] ∧ es = e8D a b ∧ Sm 4000 a ∧ Sm 4000 b
theorem len_R_law_eight : ∀ ds d, R_law_eight ds d → ds.length = 1 := fun ds d ⟨i, j, h, _⟩ => by rw [h] <;> rfl
theorem r_law_eight {a b : Int} (h : Sm 4000 a ∧ Sm 4000 b) : R_law_eight [.tuple [.int a, .int b]] (e8D a b) := ⟨a, b, rfl, rfl, h⟩
def R_bars (ds : List PyData) (d : PyData) : Prop := ∃ a b p q n, ds = [.tuple [.int a, .int b], .tuple [.int p, .int q], .int n] ∧ d = .bool (bars n a b p q)
theorem len_R_bars : ∀ ds d, R_bars ds d → ds.length = 3 := fun ds d ⟨_, _, _, _, _, h, _⟩ => by rw [h] <;> rfl
theorem r_bars {a b p q n : Int} : R_bars [.tuple [.int a, .int b], .tuple [.int p, .int q], .int n] (.bool (bars n a b p q)) := ⟨a, b, p, q, n, rfl, rfl⟩
def R_common (ds : List PyData) (d : PyData) : Prop := ∃ a b, ds = [.int a, .int b] ∧ d = .int (euc a b) ∧ 0 ≤ a ∧ 0 ≤ b ∧ Sm 1000 a ∧ Sm 1000 b
theorem len_R_common : ∀ ds d, R_common ds d → ds.length = 2 := fun ds d ⟨_, _, h, _⟩ => by rw [h] <;> rfl
theorem r_common {a b : Int} (h : 0 ≤ a ∧ 0 ≤ b ∧ Sm 1000 a ∧ Sm 1000 b) : R_common [.int a, .int b] (.int (euc a b)) := ⟨a, b, rfl, rfl, h⟩
def R_barred (ds : List PyData) (d : PyData) : Prop := ∃ a b p q, ds = [.tuple [.int a, .int b], .tuple [.int p, .int q]] ∧ d = .bool (brd a b p q) ∧ LP a b p q
theorem len_R_barred : ∀ ds d, R_barred ds d → ds.length = 2 := fun ds d ⟨_, _, _, _, h, _⟩ => by rw [h] <;> rfl
theorem r_barred {a b p q : Int} (h : LP a b p q) : R_barred [.tuple [.int a, .int b], .tuple [.int p, .int q]] (.bool (brd a b p q)) := ⟨a, b, p, q, rfl, rfl, h⟩
/-- what an answer shows -/
def shwW (cs : List Int) (a b p q : Int) : Bool := okCounts cs && decide (led1 a b cs = p ∧ led2 a b cs = q)
def R_due (ds : List PyData) (d : PyData) : Prop :=
  (∃ a b p q cs, ds = [.tuple [.int a, .int b], .tuple [.int p, .int q], wayD (cs.map .int)] ∧ d = .bool (shwW cs a b p q) ∧ Sm 4000 a ∧ Sm 4000 b ∧ (∀ c ∈ cs, Sm 4000 c) ∧ cs.length ≤ 1000) ∨
  (∃ a b p q n, ds = [.tuple [.int a, .int b], .tuple [.int p, .int q], nevD n] ∧ d = .bool (bars n a b p q))
theorem len_R_due : ∀ ds d, R_due ds d → ds.length = 3 := fun ds d h => by
  rcases h with ⟨_, _, _, _, _, h, _⟩ | ⟨_, _, _, _, _, h, _⟩ <;> rw [h] <;> rfl
theorem r_dueW {a b p q : Int} {cs : List Int} (h : Sm 4000 a ∧ Sm 4000 b ∧ (∀ c ∈ cs, Sm 4000 c) ∧ cs.length ≤ 1000) : R_due [.tuple [.int a, .int b], .tuple [.int p, .int q], wayD (cs.map .int)] (.bool (shwW cs a b p q)) := .inl ⟨a, b, p, q, cs, rfl, rfl, h⟩
theorem r_dueN {a b p q n : Int} : R_due [.tuple [.int a, .int b], .tuple [.int p, .int q], nevD n] (.bool (bars n a b p q)) := .inr ⟨a, b, p, q, n, rfl, rfl⟩
/-- leaps and places to be looked at besides -/
def oth (x : (Int × Int) × (Int × Int)) : PyData := .tuple [pD x.1, pD x.2]
def Oths (xs : List ((Int × Int) × (Int × Int))) : Prop := ∀ x ∈ xs, Sm 4000 x.1.1 ∧ Sm 4000 x.1.2
def R_right (ds : List PyData) (d : PyData) : Prop := ∃ a b p q xs, ds = [.tuple [.int a, .int b], .tuple [.int p, .int q], .list (xs.map oth)] ∧ d = .bool true ∧ LP a b p q ∧ Oths xs
theorem len_R_right : ∀ ds d, R_right ds d → ds.length = 3 := fun ds d ⟨_, _, _, _, _, h, _⟩ => by rw [h] <;> rfl
theorem r_right {a b p q : Int} {xs : List ((Int × Int) × (Int × Int))} (h : LP a b p q ∧ Oths xs) : R_right [.tuple [.int a, .int b], .tuple [.int p, .int q], .list (xs.map oth)] (.bool true) := ⟨a, b, p, q, xs, rfl, rfl, h⟩
def R_law (ds : List PyData) (d : PyData) : Prop := ∃ ns, ds = [scrD ns] ∧ d = .bool true ∧ Cells ns ∧ ns.length ≤ 63
theorem len_R_law : ∀ ds d, R_law ds d → ds.length = 1 := fun ds d ⟨_, h, _⟩ => by rw [h] <;> rfl
/-! ### slices and tests of the script -/
theorem cutD_take (ds : List PyData) : cutD ds none (some 63) = ds.take 63 := by
  unfold cutD
  show (ds.drop 0).take (HT.sIx ds.length ds.length (some 63) - 0) = _
  rw [List.drop_zero, Nat.sub_zero, show HT.sIx ds.length ds.length (some 63) = min 63 ds.length by simp [HT.sIx] <;> omega]
  rcases Nat.le_total 63 ds.length with h | h
  · rw [Nat.min_eq_left h]
  · rw [Nat.min_eq_right h, List.take_of_length_le (Nat.le_refl _), List.take_of_length_le h]
section
variable {T : Tx}
theorem rv_neS {ns : List Int} : RvB T (rNeD T.K) (scrD ns) (.list []) (.bool (!decide (ns = []))) := fun H v u k1 k2 Q q => by
  unfold scrD at k1
  generalize hz : (ns.map PyData.int) = zs at k1
  cases k1 with
  | scr h1 =>
    rename_i ms
    have e0 : ms = ns := by
      have := congrArg (List.map fun d => match d with | PyData.int i => i | _ => 0) hz
      simpa [List.map_map, Function.comp_def] using this.symm
    subst e0
    have e1 : Dp T.K H _ (iL ms) := .lst h1 ((OkAll.of_ints (T := T) (F := H) ms).dp (plain_ints ms))
    have e2 : Dp T.K H u (iL []) := by
      cases k2 with
      | lst h2 a2 =>
        cases a2
        exact .lst (SqL.of h2) .nil
    refine ⟨_, _, e1, e2, shaped_iL ms, shaped_iL [], ?_⟩
    rw [eqv_iL]
    exact q _ fun F => .bl _
end
end LW
set_option Elab.async false
set_option linter.all false
set_option maxRecDepth 100000
set_option maxHeartbeats 4000000
namespace LW
open PySem PySem.Spec PyProof.Rows L2 Evl
section
variable {T : Tx} {tb te : TE} {ts : TS} {wi : TI} {l p o s3 s4 : Sl}
/-- the law's two turns -/
theorem right_for (h : ∀ (i : Int) (s4 s5 s6 : Sl), ∃ t4 t5 t6, SeD T ts [l, p, o, .dat (.int i), s4, s5, s6] (.nx [l, p, o, .dat (.int i), t4, t5, t6])) :
    ∀ (is : List Int) (s3 s4 s5 s6 : Sl), ∃ t3 t4 t5 t6, ForTo T (gName 3) ts (is.map .int) [l, p, o, s3, s4, s5, s6] (.nx [l, p, o, t3, t4, t5, t6])
  | [], s3, s4, s5, s6 => ⟨s3, s4, s5, s6, .nil⟩
  | i :: is, s3, s4, s5, s6 => by
    obtain ⟨t4, t5, t6, k⟩ := h i s4 s5 s6
    obtain ⟨u3, u4, u5, u6, q⟩ := right_for h is (.dat (.int i)) t4 t5 t6
    exact ⟨u3, u4, u5, u6, .go tg_name k q⟩
theorem right_seq {is : List Int} (h : ∀ (i : Int) (s4 s5 s6 : Sl), ∃ t4 t5 t6, SeD T ts [l, p, o, .dat (.int i), s4, s5, s6] (.nx [l, p, o, .dat (.int i), t4, t5, t6]))
    (hw : TiD T wi [l, p, o, .no, .no, .no, .no] (is.map .int)) : SeD T (tSeq (tFor wi (gName 3) ts) (tRet (tC (.bl true)))) [l, p, o, .no, .no, .no, .no] (.rt (.bool true)) := by
  obtain ⟨u3, u4, u5, u6, q⟩ := right_for h is .no .no .no .no
  exact se_seq (se_for hw q) (se_ret ed_bl)
/-- the looks besides -/
theorem oth_for : ∀ (xs : List ((Int × Int) × (Int × Int))) (s5 s6 : Sl), (∀ x ∈ xs, SeD T ts [l, p, o, s3, s4, .dat (pD x.1), .dat (pD x.2)] (.nx [l, p, o, s3, s4, .dat (pD x.1), .dat (pD x.2)])) →
    ∃ t5 t6, ForTo T (gTup T.K 2 (gCons (gName 5) (gCons (gName 6) gNil))) ts (xs.map oth) [l, p, o, s3, s4, s5, s6] (.nx [l, p, o, s3, s4, t5, t6])
  | [], s5, s6, h => ⟨s5, s6, .nil⟩
  | x :: xs, s5, s6, h => by
    obtain ⟨t5, t6, q⟩ := oth_for xs (.dat (pD x.1)) (.dat (pD x.2)) fun y hy => h y (List.mem_cons_of_mem _ hy)
    exact ⟨t5, t6, .go tg_pair (h x List.mem_cons_self) q⟩
/-- a part of the law's turn: it goes on -/
def Ex3 (T : Tx) (ts : TS) (ρ : List Sl) (l p o s3 : Sl) : Prop := ∃ u4 u5 u6, SeD T ts ρ (.nx [l, p, o, s3, u4, u5, u6])
theorem ex_seq {ρ ρ1 : List Sl} {tu : TS} (h : SeD T ts ρ (.nx ρ1)) (k : Ex3 T tu ρ1 l p o s3) : Ex3 T (tSeq ts tu) ρ l p o s3 := by
  obtain ⟨a, b, c, q⟩ := k
  exact ⟨a, b, c, se_seq h q⟩
theorem ex_cutF {ρ : List Sl} {tu : TS} {t : TT} (h : EvT T t ρ false) (k : Ex3 T tu ρ l p o s3) : Ex3 T (tSeq (tIfS t ts tNext) tu) ρ l p o s3 := by
  obtain ⟨a, b, c, q⟩ := k
  exact ⟨a, b, c, se_cutF h q⟩
theorem ex_ifT {ρ : List Sl} {tu : TS} {t : TT} (h : EvT T t ρ true) (k : Ex3 T ts ρ l p o s3) : Ex3 T (tIfS t ts tu) ρ l p o s3 := by
  obtain ⟨a, b, c, q⟩ := k
  exact ⟨a, b, c, se_ifT h q⟩
theorem ex_ifF {t : TT} {s5 s6 : Sl} (h : EvT T t [l, p, o, s3, s4, s5, s6] false) : Ex3 T (tIfS t ts tNext) [l, p, o, s3, s4, s5, s6] l p o s3 := ⟨_, _, _, se_ifF h se_next⟩
theorem ex_end {te4 te5 te6 s5 s6 : Sl} (h : SeD T ts [l, p, o, s3, s4, s5, s6] (.nx [l, p, o, s3, te4, te5, te6])) : Ex3 T ts [l, p, o, s3, s4, s5, s6] l p o s3 := ⟨_, _, _, h⟩
theorem oth_seq {xs : List ((Int × Int) × (Int × Int))} {s5 s6 : Sl} {tu : TS} {te : TE} (he : EvD T te [l, p, o, s3, s4, s5, s6] (.list (xs.map oth))) (h : ∀ x ∈ xs, SeD T ts [l, p, o, s3, s4, .dat (pD x.1), .dat (pD x.2)] (.nx [l, p, o, s3, s4, .dat (pD x.1), .dat (pD x.2)]))
    (k : ∀ t5 t6, Ex3 T tu [l, p, o, s3, s4, t5, t6] l p o s3) : Ex3 T (tSeq (tFor (iList T.K te) (gTup T.K 2 (gCons (gName 5) (gCons (gName 6) gNil))) ts) tu) [l, p, o, s3, s4, s5, s6] l p o s3 := by
  obtain ⟨t5, t6, q⟩ := oth_for xs s5 s6 h
  obtain ⟨u4, u5, u6, k⟩ := k t5 t6
  exact ⟨u4, u5, u6, se_seq (se_for (ti_list he) q) k⟩
variable {ρ : List Sl}
theorem et_andF {t u : TT} (h1 : EvT T t ρ false) : EvT T (tAnd t u) ρ false := et_and (b := true) h1 (fun e => nomatch e)
theorem atI0 {cs : List Int} (h : 0 < cs.length) : ∃ c0, atI (cs.map PyData.int) 0 = some (.int c0) := by
  cases cs with
  | nil => cases h
  | cons c cs =>
    refine ⟨c, ?_⟩
    unfold atI
    show (ixN _ ((0 : Nat) : Int)).bind _ = _
    rw [ixN_nat (by rw [List.length_map, List.length_cons]; omega)]
    rfl
theorem se_appWI (C : ClsF T) {i : Nat} {cs : List Int} {c : Int} (hi : ρ[i]? = some (.oway (cs.map .int))) (h : EvD T te ρ (.int c)) (hz : cs.length < 100000) : SeD T (tDrop (tBM T.K "list" rAppend (tFld T.K (tVar i) "counts") (tCons te tNil))) ρ (.nx (ρ.set i (.oway ((cs ++ [c]).map .int)))) := by
  rw [List.map_append]
  exact se_appW C hi h (by rw [List.length_map]; exact hz)
theorem se_popWI (C : ClsF T) {i : Nat} {cs : List Int} {c : Int} (hi : ρ[i]? = some (.oway ((cs ++ [c]).map .int))) : SeD T (tDrop (tBM0 T.K "list" rPop (tFld T.K (tVar i) "counts"))) ρ (.nx (ρ.set i (.oway (cs.map .int)))) := by
  rw [List.map_append] at hi
  exact se_popW C hi
/-- what a way that is told is like -/
theorem tld_way {a b p q i j : Int} (lp : LP a b p q) (hi : i = 0 ∨ i = 1) (hj : j = 0 ∨ j = 1) : ∀ c ∈ cts a b (shr a b).1 ((shr a b).2.1 * (p / (shr a b).1)) ((shr a b).2.2 * (p / (shr a b).1)) ((shr a b).2.1 * (q / (shr a b).1)) ((shr a b).2.2 * (q / (shr a b).1)) i j, Sm 4000 c := by
  obtain ⟨sx, sy, gp, sg⟩ := lp.shr_sm
  have si : ∀ {k z : Int}, (k = 0 ∨ k = 1) → Sm 1000 z → Sm 2002 (k * z / (shr a b).1) := fun {k z} hk hz => by
    refine (Sm.div ?_)
    rcases hk with rfl | rfl
    · rw [Int.zero_mul]
      exact (Sm.lit (n := 1) (by decide)).mono (by decide)
    · rw [Int.one_mul]
      exact hz.mono (by decide)
  have f1 : Sm 2002 ((shr a b).2.1 * (p / (shr a b).1)) := sx.mul lp.sp.div
  have f2 : Sm 2002 ((shr a b).2.2 * (p / (shr a b).1)) := sy.mul lp.sp.div
  have f3 : Sm 2002 ((shr a b).2.1 * (q / (shr a b).1)) := sx.mul lp.sq.div
  have f4 : Sm 2002 ((shr a b).2.2 * (q / (shr a b).1)) := sy.mul lp.sq.div
  intro c hc
  unfold cts at hc
  rcases List.mem_append.mp hc with hc | hc
  · exact (sgn4_sm (f1.add (si hi lp.sb)) (f4.sub (si hj lp.sa)) c hc).mono (by decide)
  · exact (sgn4_sm (f2.sub (si hi lp.sa)) (f3.add (si hj lp.sb)) c hc).mono (by decide)
end
end LW
set_option Elab.async false
set_option linter.all false
set_option maxRecDepth 100000
set_option maxHeartbeats 4000000
namespace LW
open PySem PySem.Spec PyProof.Rows L2 Evl
/-! ### the law's own turns -/
theorem rgc {m c : Int} (m0 : 0 ≤ m) (m1 : m ≤ 1000) (c0 : 1 ≤ c) (c1 : c ≤ 100000) : RgC 0 m c (Builtin.Range.rangeSize 0 m c).toNat := by
  have h1 := rangeSize_toNat 0 m c
  have h2 := rangeSize_toNat_le 0 m c
  refine ⟨by omega, by omega, ?_, h1⟩
  unfold Builtin.Range.small
  rw [if_pos (by omega)]
  have h3 : Builtin.Range.rangeFitsLong (Builtin.Range.rangeSize 0 m c) = true := by
    simp only [Builtin.Range.rangeFitsLong, Bool.and_eq_true, decide_eq_true_eq]
    omega
  have h4 : ∀ z : Int, 0 ≤ z → z ≤ 1000000 → Builtin.Range.rangeFitsLong z = true := fun z h h' => by
    simp only [Builtin.Range.rangeFitsLong, Bool.and_eq_true, decide_eq_true_eq]
    omega
  rw [h3, h4 0 (by decide) (by decide), h4 m (by omega) (by omega), h4 c (by omega) (by omega), h4 (m + (c - 1)) (by omega) (by omega)]
  simp
theorem rgc_at {m c : Int} {i : Nat} (m0 : 0 ≤ m) (c0 : 1 ≤ c) (h : i < (Builtin.Range.rangeSize 0 m c).toNat) : 0 ≤ 0 + (i : Int) * c ∧ 0 + (i : Int) * c < m := by
  rw [Int.zero_add]
  exact start_inside c0 m0 (by omega) (by have := rangeSize_toNat 0 m c; omega)
section
variable {T : Tx} {ts tu tb : TS} {wi : TI} {ρ ρ1 : List Sl} {t : TT} {s0 s1 s2 s3 s4 s5 s6 s7 s8 s9 s10 s11 : Sl}
def GoX (T : Tx) (ts : TS) (ρ : List Sl) (s0 s1 : Sl) : Prop := ∃ t2 t3 t4 t5 t6 t7 t8 t9 t10 t11, SeD T ts ρ (.nx [s0, s1, t2, t3, t4, t5, t6, t7, t8, t9, t10, t11])
theorem gx_seq (h : SeD T ts ρ (.nx ρ1)) (k : GoX T tu ρ1 s0 s1) : GoX T (tSeq ts tu) ρ s0 s1 := by
  obtain ⟨a2, a3, a4, a5, a6, a7, a8, a9, a10, a11, k⟩ := k
  exact ⟨_, _, _, _, _, _, _, _, _, _, se_seq h k⟩
theorem gx_freeze {i : Nat} {ds : List PyData} (h : ρ[i]? = some (.own ds)) (k : GoX T ts (ρ.set i (.dat (.list ds))) s0 s1) : GoX T ts ρ s0 s1 := by
  obtain ⟨a2, a3, a4, a5, a6, a7, a8, a9, a10, a11, k⟩ := k
  exact ⟨_, _, _, _, _, _, _, _, _, _, se_freeze h k⟩
theorem gx_seqE (h : ∃ ρ1, SeD T ts ρ (.nx ρ1) ∧ GoX T tu ρ1 s0 s1) : GoX T (tSeq ts tu) ρ s0 s1 := by
  obtain ⟨ρ1, h, k⟩ := h
  exact gx_seq h k
theorem gx_seqP {ρf : Int → Int → List Sl} {Pr : Int → Int → Prop} (h : ∃ A B, Pr A B ∧ SeD T ts ρ (.nx (ρf A B))) (k : ∀ A B, Pr A B → GoX T tu (ρf A B) s0 s1) : GoX T (tSeq ts tu) ρ s0 s1 := by
  obtain ⟨A, B, p, h⟩ := h
  exact gx_seq h (k A B p)
theorem law_for (h : ∀ (i : Int) (s3 s4 s5 s6 s7 s8 s9 s10 s11 : Sl), 0 ≤ i → i < 63 → GoX T tb [s0, s1, .dat (.int i), s3, s4, s5, s6, s7, s8, s9, s10, s11] s0 s1) :
    ∀ (is : List Int) (s2 s3 s4 s5 s6 s7 s8 s9 s10 s11 : Sl), (∀ i ∈ is, 0 ≤ i ∧ i < 63) → ∃ t2 t3 t4 t5 t6 t7 t8 t9 t10 t11, ForTo T (gName 2) tb (is.map .int) [s0, s1, s2, s3, s4, s5, s6, s7, s8, s9, s10, s11] (.nx [s0, s1, t2, t3, t4, t5, t6, t7, t8, t9, t10, t11])
  | [], s2, s3, s4, s5, s6, s7, s8, s9, s10, s11, _ => ⟨s2, s3, s4, s5, s6, s7, s8, s9, s10, s11, .nil⟩
  | i :: is, s2, s3, s4, s5, s6, s7, s8, s9, s10, s11, hi => by
    obtain ⟨h0, h1⟩ := hi i List.mem_cons_self
    obtain ⟨a2, a3, a4, a5, a6, a7, a8, a9, a10, a11, k⟩ := h i s3 s4 s5 s6 s7 s8 s9 s10 s11 h0 h1
    obtain ⟨b2, b3, b4, b5, b6, b7, b8, b9, b10, b11, q⟩ := law_for h is a2 a3 a4 a5 a6 a7 a8 a9 a10 a11 fun j hj => hi j (List.mem_cons_of_mem _ hj)
    exact ⟨_, _, _, _, _, _, _, _, _, _, .go tg_name k q⟩
theorem gx_lawfor {is : List Int} (hw : TiD T wi [s0, s1, s2, s3, s4, s5, s6, s7, s8, s9, s10, s11] (is.map .int)) (hi : ∀ i ∈ is, 0 ≤ i ∧ i < 63) (h : ∀ (i : Int) (s3 s4 s5 s6 s7 s8 s9 s10 s11 : Sl), 0 ≤ i → i < 63 → GoX T tb [s0, s1, .dat (.int i), s3, s4, s5, s6, s7, s8, s9, s10, s11] s0 s1) : GoX T (tFor wi (gName 2) tb) [s0, s1, s2, s3, s4, s5, s6, s7, s8, s9, s10, s11] s0 s1 := by
  obtain ⟨a2, a3, a4, a5, a6, a7, a8, a9, a10, a11, q⟩ := law_for h is s2 s3 s4 s5 s6 s7 s8 s9 s10 s11 hi
  exact ⟨_, _, _, _, _, _, _, _, _, _, se_for hw q⟩
theorem lw_seq {o : Out} (h : GoX T ts ρ s0 s1) (k : ∀ t2 t3 t4 t5 t6 t7 t8 t9 t10 t11, SeD T tu [s0, s1, t2, t3, t4, t5, t6, t7, t8, t9, t10, t11] o) : SeD T (tSeq ts tu) ρ o := by
  obtain ⟨a2, a3, a4, a5, a6, a7, a8, a9, a10, a11, h⟩ := h
  exact se_seq h (k _ _ _ _ _ _ _ _ _ _)
theorem plc_for : ∀ (ps : List (Int × Int)) (s10 : Sl), (∀ x ∈ ps, SeD T tb [s0, s1, s2, s3, s4, s5, s6, s7, s8, s9, .dat (pD x), s11] (.nx [s0, s1, s2, s3, s4, s5, s6, s7, s8, s9, .dat (pD x), s11])) → ∃ t10, ForTo T (gName 10) tb (ps.map pD) [s0, s1, s2, s3, s4, s5, s6, s7, s8, s9, s10, s11] (.nx [s0, s1, s2, s3, s4, s5, s6, s7, s8, s9, t10, s11])
  | [], s10, _ => ⟨s10, .nil⟩
  | x :: ps, s10, h => by
    obtain ⟨t10, q⟩ := plc_for ps (.dat (pD x)) fun y hy => h y (List.mem_cons_of_mem _ hy)
    exact ⟨t10, .go tg_name (h x List.mem_cons_self) q⟩
theorem gx_plc {ps : List (Int × Int)} (hw : TiD T wi [s0, s1, s2, s3, s4, s5, s6, s7, s8, s9, s10, s11] (ps.map pD)) (h : ∀ x ∈ ps, SeD T tb [s0, s1, s2, s3, s4, s5, s6, s7, s8, s9, .dat (pD x), s11] (.nx [s0, s1, s2, s3, s4, s5, s6, s7, s8, s9, .dat (pD x), s11])) : GoX T (tFor wi (gName 10) tb) [s0, s1, s2, s3, s4, s5, s6, s7, s8, s9, s10, s11] s0 s1 := by
  obtain ⟨t10, q⟩ := plc_for ps s10 h
  exact ⟨_, _, _, _, _, _, _, _, _, _, se_for hw q⟩
end
/-- the law's promise, of the written part alone -/
def spLawK (K : PySem.W.Frag) : Sp := fun vs H Q _ => ∃ (a : Addr) (ns : List Int), vs = [.ref a] ∧ SqL K H a (ns.map V.int) ∧ Cells ns ∧ ns.length ≤ 63 ∧ ∀ H', Q (.bl true) H'
theorem spLawK_len {K : PySem.W.Frag} : ∀ vs H Q E, spLawK K vs H Q E → vs.length = 1 := fun vs H Q E ⟨a, ns, h, _⟩ => by rw [h] <;> rfl
theorem spl {T : Tx} {vs : List V} {H : Hp} {Q : VK} {E : XK} (h : spLawK T.K vs H Q E) : spD T R_law vs H Q E := by
  obtain ⟨a, ns, rfl, hS, hc, hl, k⟩ := h
  exact ⟨H, [scrD ns], .bool true, Ex.refl H, .cons (.scr hS) .nil, ⟨ns, rfl, rfl, hc, hl⟩, fun v F1 H1 _ q => by cases q; exact k H1⟩
theorem sm_bits {z : Int} (h : Builtin.Int.intBits z ≤ 1048576) : Sm 1048576 z := by
  unfold Builtin.Int.intBits at h
  show z.natAbs < 2 ^ 1048576
  by_cases e : z = 0
  · rw [e]
    exact Nat.two_pow_pos _
  · rw [if_neg (by simpa using e)] at h
    have h1 : z.natAbs < 2 ^ (z.natAbs.log2 + 1) := Nat.lt_log2_self
    exact Nat.lt_of_lt_of_le h1 (Nat.pow_le_pow_right (by decide) h)
/-! ### the law's last looks -/
theorem shr24 : shr 2 4 = (2, 1, 0) := by simp [shr, egc]
theorem shr13 : shr 1 3 = (1, 1, 0) := by simp [shr, egc]
theorem tld1 : tld 2 4 1 0 = nevD 2 := by simp [tld, shr24]
theorem tld2 : tld 1 3 1 0 = nevD 2 := by simp [tld, shr13, tld4, cnd]
theorem brd3 : brd 0 1 5 (-7) = false := by simp [brd, euc]
theorem brd4 : brd 1 2 0 1 = false := by simp [brd, euc]
theorem brd5 : brd 3 3 3 0 = true := by simp [brd, euc]
theorem tld3 : ∃ cs : List Int, tld 0 1 5 (-7) = wayD (cs.map .int) := by
  rcases tld_cases (a := 0) (b := 1) (p := 5) (q := -7) (by decide) (by decide) (by decide) with ⟨h, _⟩ | ⟨_, i, j, _, _, h, _⟩
  · rw [brd3] at h
    cases h
  · exact ⟨_, h⟩
theorem tld5 : ∃ cs : List Int, tld 1 2 0 1 = wayD (cs.map .int) := by
  rcases tld_cases (a := 1) (b := 2) (p := 0) (q := 1) (by decide) (by decide) (by decide) with ⟨h, _⟩ | ⟨_, i, j, _, _, h, _⟩
  · rw [brd4] at h
    cases h
  · exact ⟨_, h⟩
theorem tld6 : ∃ n, tld 3 3 3 0 = nevD n := by
  rcases tld_cases (a := 3) (b := 3) (p := 3) (q := 0) (by decide) (by decide) (by decide) with ⟨_, n, h, _⟩ | ⟨h, _⟩
  · exact ⟨n, h⟩
  · rw [brd5] at h
    cases h
theorem LP.lit {a b p q : Int} (h : (decide (0 ≤ a) && decide (0 ≤ b) && decide (0 < a + b) && decide (a.natAbs < 2 ^ 10) && decide (b.natAbs < 2 ^ 10) && decide (p.natAbs < 2 ^ 10) && decide (q.natAbs < 2 ^ 10)) = true) : LP a b p q := by
  simp only [Bool.and_eq_true, decide_eq_true_eq] at h
  obtain ⟨⟨⟨⟨⟨⟨h1, h2⟩, h3⟩, h4⟩, h5⟩, h6⟩, h7⟩ := h
  exact ⟨h1, h2, h3, Sm.mono (n := 10) h4 (by decide), Sm.mono (n := 10) h5 (by decide), Sm.mono (n := 10) h6 (by decide), Sm.mono (n := 10) h7 (by decide)⟩
/-- sums of counts of some size -/
theorem led_sm {a b : Int} {cs : List Int} {n : Nat} (hn : 0 < n) (ha : Sm n a) (hb : Sm n b) (hc : ∀ c ∈ cs, Sm n c) (h8 : cs.length = 8) : Sm (2 * n + 4) (led1 a b cs) ∧ Sm (2 * n + 4) (led2 a b cs) := by
  match cs, h8 with
  | [c0, c1, c2, c3, c4, c5, c6, c7], _ =>
    have m : ∀ {x y z : Int}, Sm n x → Sm n y → Sm (2 * n) (x * y) := fun h k => (h.mul k).mono (by omega)
    have add8 : ∀ {x0 x1 x2 x3 x4 x5 x6 x7 : Int}, Sm (2 * n) x0 → Sm (2 * n) x1 → Sm (2 * n) x2 → Sm (2 * n) x3 → Sm (2 * n) x4 → Sm (2 * n) x5 → Sm (2 * n) x6 → Sm (2 * n) x7 → Sm (2 * n + 4) (x0 + (x1 + (x2 + (x3 + (x4 + (x5 + (x6 + (x7 + 0)))))))) := fun {x0 x1 x2 x3 x4 x5 x6 x7} h0 h1 h2 h3 h4 h5 h6 h7 => by
      have p : 2 ^ (2 * n + 4) = 2 ^ (2 * n) * 16 := by rw [Nat.pow_add]
      unfold Sm at *
      rw [p]
      generalize 2 ^ (2 * n) = N at *
      omega
    have k : ∀ c ∈ [c0, c1, c2, c3, c4, c5, c6, c7], Sm n c := hc
    simp only [List.mem_cons, List.not_mem_nil, or_false, forall_eq_or_imp, forall_eq] at k
    obtain ⟨k0, k1, k2, k3, k4, k5, k6, k7⟩ := k
    constructor
    · simp only [led1, e8, List.zipWith_cons_cons, List.zipWith_nil_left, List.sum_cons, List.sum_nil]
      exact add8 (m (z := 0) k0 ha) (m (z := 0) k1 ha) (m (z := 0) k2 ha.neg) (m (z := 0) k3 ha.neg) (m (z := 0) k4 hb) (m (z := 0) k5 hb) (m (z := 0) k6 hb.neg) (m (z := 0) k7 hb.neg)
    · simp only [led2, e8, List.zipWith_cons_cons, List.zipWith_nil_left, List.sum_cons, List.sum_nil]
      exact add8 (m (z := 0) k0 hb) (m (z := 0) k1 hb.neg) (m (z := 0) k2 hb) (m (z := 0) k3 hb.neg) (m (z := 0) k4 ha) (m (z := 0) k5 ha.neg) (m (z := 0) k6 ha) (m (z := 0) k7 ha.neg)
end LW
set_option Elab.async false
set_option linter.all false
set_option maxRecDepth 100000
set_option maxHeartbeats 4000000
namespace LW
open PySem PySem.Spec PyProof.Rows L2 Evl
/-! ### lists cut and put together -/
theorem cutD_to (ds : List PyData) (a : Nat) (h : a ≤ ds.length) : cutD ds none (some (a : Int)) = ds.take a := by
  unfold cutD
  rw [HT.sIx_nat, HT.sIx_none, List.drop_zero, Nat.sub_zero, Nat.min_eq_left h]
theorem cutD_from (ds : List PyData) (a : Nat) (h : a ≤ ds.length) : cutD ds (some (a : Int)) none = ds.drop a := by
  unfold cutD
  rw [HT.sIx_nat, HT.sIx_none, Nat.min_eq_left h, List.take_of_length_le (by rw [List.length_drop]; exact Nat.le_refl _)]
section
variable {T : Tx} {ts tu tb : TS} {ta te : TE} {tc : TE} {wi : TI} {ρ ρ1 : List Sl} {o : Out} {xs ys : List PyData}
theorem eo_cat (ha : EvD T ta ρ (.list xs)) (hb : EvD T te ρ (.list ys)) (hz : xs.length + ys.length ≤ 100000) : EvO T (tOp rAddA ta te) ρ (xs ++ ys) := fun σ F0 H0 F H E Q q =>
  ha σ F0 H0 F H E _ fun v F1 H1 g1 k1 => hb σ F0 H0 F1 H1 (E.mono g1) _ fun u F2 H2 g2 k2 => by
    cases k1 with
    | lst h1 a1 =>
      cases k2 with
      | lst h2 a2 =>
        refine .inr ⟨_, _, _, _, rfl, rfl, g2.sub _ _ (g2.ff _ _ h1), g2.sub _ _ h2, by rw [a1.length, a2.length]; exact sz hz, fun p hp => ?_⟩
        exact q p _ _ _ ((g1.trans g2).trans (Gr.lay g2.sub hp)) (fresh_back (g1.trans g2).hh hp) (fresh_back g2.sub hp) upd_same ((a1.ex g2.ff).append a2)
theorem sd_seqP {α β : Type} {ρf : α → β → List Sl} {Pr : α → β → Prop} (h : ∃ A B, Pr A B ∧ SeD T ts ρ (.nx (ρf A B))) (k : ∀ A B, Pr A B → SeD T tu (ρf A B) o) : SeD T (tSeq ts tu) ρ o := by
  obtain ⟨A, B, p, h⟩ := h
  exact se_seq h (k A B p)
/-- one count more at place a -/
def more (cs : List Int) (a : Nat) : List Int := cs.take a ++ [cs.getD a 0 + 1] ++ cs.drop (a + 1)
theorem more_len {cs : List Int} {a : Nat} (h : a < cs.length) : (more cs a).length = cs.length := by
  unfold more
  simp only [List.length_append, List.length_take, List.length_drop, List.length_cons, List.length_nil]
  omega
theorem getD_sm {cs : List Int} {n a : Nat} (h : ∀ c ∈ cs, Sm n c) (h0 : 0 < n) : Sm n (cs.getD a 0) := by
  rw [List.getD_eq_getElem?_getD]
  cases e : cs[a]? with
  | none => exact (Sm.lit (n := 1) (x := 0) (by decide)).mono h0
  | some c => exact h c (List.mem_of_getElem? e)
theorem more_sm {cs : List Int} {n a : Nat} (h : ∀ c ∈ cs, Sm n c) (h0 : 0 < n) : ∀ c ∈ more cs a, Sm (n + 1) c := by
  intro c hc
  unfold more at hc
  rcases List.mem_append.mp hc with hc | hc
  · rcases List.mem_append.mp hc with hc | hc
    · exact (h c (List.mem_of_mem_take hc)).mono (by omega)
    · rw [List.mem_singleton.mp hc]
      exact (getD_sm h h0).add ((Sm.lit (n := 1) (x := 1) (by decide)).mono h0)
  · exact (h c (List.mem_of_mem_drop hc)).mono (by omega)
theorem atI_map {cs : List Int} {a : Nat} (h : a < cs.length) : atI (cs.map PyData.int) (a : Int) = some (.int (cs.getD a 0)) := by
  unfold atI
  rw [ixN_nat (by rw [List.length_map]; exact h)]
  show (cs.map PyData.int)[a]? = _
  rw [List.getElem?_map, List.getD_eq_getElem?_getD, List.getElem?_eq_getElem h]
  rfl
theorem eo_more {i j : Nat} {cs : List Int} {a : Nat} (hi : ρ[i]? = some (.dat (.list (cs.map .int)))) (hj : ρ[j]? = some (.dat (.int (a : Int)))) (h : a < cs.length) (hl : cs.length ≤ 1000) :
    EvO T (tOp rAddA (tOp rAddA (tSl (rSlL T.K) (tVar i) tNoPart (tPart (tVar j))) (tLst (tCons (tOp rAddA (tOp (rIxA T.K) (tVar i) (tVar j)) (tC (.int 1))) tNil))) (tSl (rSlL T.K) (tVar i) (tPart (tOp rAddA (tVar j) (tC (.int 1)))) tNoPart)) ρ ((more cs a).map .int) := by
  have e1 := cutD_to (cs.map .int) a (by rw [List.length_map]; omega)
  have e2 := cutD_from (cs.map .int) (a + 1) (by rw [List.length_map]; omega)
  have l1 : (cs.map PyData.int).length = cs.length := List.length_map _
  refine EvO.is (eo_cat (EvO.toD (eo_cat (EvO.toD (EvO.is (eo_sl (ed_var hi) ep_none (ep_some (ed_var hj))) e1)) (EvO.toD (eo_lst (ea_cons (ed_op (ed_op (ed_var hi) (ed_var hj) (rv_ixL (atI_map h))) ed_int rv_add) ea_nil) (by show 1 ≤ 100000; decide))) ?_)) (EvO.toD (EvO.is (eo_sl (ed_var hi) (ep_some (EvD.is (ed_op (ed_var hj) ed_int rv_add) (by rw [show (a : Int) + 1 = ((a + 1 : Nat) : Int) by omega]))) ep_none) e2)) ?_) ?_
  · rw [List.length_take, l1]
    show min a cs.length + 1 ≤ 100000
    omega
  · rw [List.length_append, List.length_take, List.length_drop, l1]
    show min a cs.length + 1 + (cs.length - (a + 1)) ≤ 100000
    omega
  · unfold more
    simp only [List.map_append, List.map_take, List.map_drop, List.map_cons, List.map_nil]
/-- a loop whose body leaves the names as they are -/
theorem for_slot {k : Nat} : ∀ (ds : List PyData) (ρ : List Sl), (∀ d ∈ ds, SeD T tb (ρ.set k (.dat d)) (.nx (ρ.set k (.dat d)))) → ∃ ρ', (ρ' = ρ ∨ ∃ d, ρ' = ρ.set k (.dat d)) ∧ ForTo T (gName k) tb ds ρ (.nx ρ')
  | [], ρ, _ => ⟨ρ, .inl rfl, .nil⟩
  | d :: ds, ρ, h => by
    obtain ⟨ρ', e, q⟩ := for_slot ds (ρ.set k (.dat d)) fun y hy => by
      rw [List.set_set]
      exact h y (List.mem_cons_of_mem _ hy)
    refine ⟨ρ', .inr ?_, .go tg_name (h d List.mem_cons_self) q⟩
    rcases e with e | ⟨y, e⟩
    · exact ⟨d, e⟩
    · rw [List.set_set] at e
      exact ⟨y, e⟩
variable {s0 s1 s2 s3 s4 s5 s6 s7 s8 s9 s10 s11 s12 s13 s14 s15 : Sl}
/-- the loop over the numbers: three names change -/
theorem num_for {ns : List Int} (h : ∀ (n : Int), n ∈ ns → ∀ (s13 s14 : Sl), ∃ t13 t14, SeD T tb [s0, s1, s2, s3, s4, s5, s6, s7, s8, s9, s10, s11, .dat (.int n), s13, s14, s15] (.nx [s0, s1, s2, s3, s4, s5, s6, s7, s8, s9, s10, s11, .dat (.int n), t13, t14, s15])) : ∀ (ms : List Int) (s12 s13 s14 : Sl), (∀ m ∈ ms, m ∈ ns) → ∃ t12 t13 t14, ForTo T (gName 12) tb (ms.map .int) [s0, s1, s2, s3, s4, s5, s6, s7, s8, s9, s10, s11, s12, s13, s14, s15] (.nx [s0, s1, s2, s3, s4, s5, s6, s7, s8, s9, s10, s11, t12, t13, t14, s15])
  | [], s12, s13, s14, _ => ⟨s12, s13, s14, .nil⟩
  | n :: ms, s12, s13, s14, hm => by
    obtain ⟨a, b, k⟩ := h n (hm n List.mem_cons_self) s13 s14
    obtain ⟨t12, t13, t14, q⟩ := num_for h ms (.dat (.int n)) a b fun z hz => hm z (List.mem_cons_of_mem _ hz)
    exact ⟨t12, t13, t14, .go tg_name k q⟩
theorem num_seq {ns : List Int} (hw : TiD T wi [s0, s1, s2, s3, s4, s5, s6, s7, s8, s9, s10, s11, s12, s13, s14, s15] (ns.map .int)) (h : ∀ (n : Int), n ∈ ns → ∀ (s13 s14 : Sl), ∃ t13 t14, SeD T tb [s0, s1, s2, s3, s4, s5, s6, s7, s8, s9, s10, s11, .dat (.int n), s13, s14, s15] (.nx [s0, s1, s2, s3, s4, s5, s6, s7, s8, s9, s10, s11, .dat (.int n), t13, t14, s15])) : SeD T (tSeq (tFor wi (gName 12) tb) (tRet (tC (.bl true)))) [s0, s1, s2, s3, s4, s5, s6, s7, s8, s9, s10, s11, s12, s13, s14, s15] (.rt (.bool true)) := by
  obtain ⟨t12, t13, t14, q⟩ := num_for h ns s12 s13 s14 fun _ hm => hm
  exact se_seq (se_for hw q) (se_ret ed_bl)
/-- a loop whose body leaves the names as they are, ahead of a rest -/
theorem slot11_seq {ds : List PyData} (hw : TiD T wi [s0, s1, s2, s3, s4, s5, s6, s7, s8, s9, s10, s11, s12, s13, s14, s15] ds) (h : ∀ d ∈ ds, SeD T tb [s0, s1, s2, s3, s4, s5, s6, s7, s8, s9, s10, .dat d, s12, s13, s14, s15] (.nx [s0, s1, s2, s3, s4, s5, s6, s7, s8, s9, s10, .dat d, s12, s13, s14, s15])) (k : ∀ t11, SeD T tu [s0, s1, s2, s3, s4, s5, s6, s7, s8, s9, s10, t11, s12, s13, s14, s15] o) : SeD T (tSeq (tFor wi (gName 11) tb) tu) [s0, s1, s2, s3, s4, s5, s6, s7, s8, s9, s10, s11, s12, s13, s14, s15] o := by
  obtain ⟨ρ', e, q⟩ := for_slot (k := 11) ds [s0, s1, s2, s3, s4, s5, s6, s7, s8, s9, s10, s11, s12, s13, s14, s15] h
  rcases e with rfl | ⟨d, rfl⟩
  · exact se_seq (se_for hw q) (k s11)
  · exact se_seq (se_for hw q) (k (.dat d))
/-! #### parts that go on, with n names that may be anything -/
def GoN (T : Tx) (n : Nat) (ts : TS) (ρ pre : List Sl) : Prop := ∃ r : List Sl, r.length = n ∧ SeD T ts ρ (.nx (pre ++ r))
variable {n : Nat} {pre : List Sl}
theorem gn_seq (h : SeD T ts ρ (.nx ρ1)) (k : GoN T n tu ρ1 pre) : GoN T n (tSeq ts tu) ρ pre := by
  obtain ⟨r, l, k⟩ := k
  exact ⟨r, l, se_seq h k⟩
theorem gn_seqP {α β : Type} {ρf : α → β → List Sl} {Pr : α → β → Prop} (h : ∃ A B, Pr A B ∧ SeD T ts ρ (.nx (ρf A B))) (k : ∀ A B, Pr A B → GoN T n tu (ρf A B) pre) : GoN T n (tSeq ts tu) ρ pre := by
  obtain ⟨A, B, p, h⟩ := h
  exact gn_seq h (k A B p)
theorem gn_freeze {i : Nat} {ds : List PyData} (h : ρ[i]? = some (.own ds)) (k : GoN T n ts (ρ.set i (.dat (.list ds))) pre) : GoN T n ts ρ pre := by
  obtain ⟨r, l, k⟩ := k
  exact ⟨r, l, se_freeze h k⟩
theorem gn_cutF {t : TT} (h : EvT T t ρ false) (k : GoN T n tu ρ pre) : GoN T n (tSeq (tIfS t ts tNext) tu) ρ pre := by
  obtain ⟨r, l, k⟩ := k
  exact ⟨r, l, se_cutF h k⟩
theorem gn_end {r : List Sl} (h : SeD T ts ρ (.nx (pre ++ r))) (l : r.length = n) : GoN T n ts ρ pre := ⟨r, l, h⟩
theorem gn_slot {k : Nat} {r : List Sl} {ds : List PyData} (hw : TiD T wi (pre ++ r) ds) (h : ∀ d ∈ ds, SeD T tb ((pre ++ r).set k (.dat d)) (.nx ((pre ++ r).set k (.dat d)))) (l : r.length = n) (hk : pre.length ≤ k) : GoN T n (tFor wi (gName k) tb) (pre ++ r) pre := by
  obtain ⟨ρ', e, q⟩ := for_slot (k := k) ds (pre ++ r) h
  rcases e with rfl | ⟨d, rfl⟩
  · exact ⟨r, l, se_for hw q⟩
  · rw [List.set_append_right _ _ hk] at q
    exact ⟨r.set (k - pre.length) (.dat d), by rw [List.length_set]; exact l, se_for hw q⟩
theorem law_forN {a0 a1 : Sl} {is0 : List Int} (h : ∀ (i : Int) (r : List Sl), i ∈ is0 → r.length = n → GoN T (n + 1) tb (a0 :: a1 :: .dat (.int i) :: r) [a0, a1]) :
    ∀ (is : List Int) (r : List Sl), r.length = n + 1 → (∀ i ∈ is, i ∈ is0) → ∃ r', r'.length = n + 1 ∧ ForTo T (gName 2) tb (is.map .int) (a0 :: a1 :: r) (.nx (a0 :: a1 :: r'))
  | [], r, l, _ => ⟨r, l, .nil⟩
  | i :: is, [], l, _ => by cases l
  | i :: is, s2 :: r, l, hi => by
    obtain ⟨r1, l1, k⟩ := h i r (hi i List.mem_cons_self) (Nat.succ.inj l)
    obtain ⟨r2, l2, q⟩ := law_forN h is r1 l1 fun j hj => hi j (List.mem_cons_of_mem _ hj)
    exact ⟨r2, l2, .go tg_name k q⟩
theorem gn_lawfor {a0 a1 : Sl} {is : List Int} {r : List Sl} (hw : TiD T wi (a0 :: a1 :: r) (is.map .int)) (l : r.length = n + 1) (h : ∀ (i : Int) (r : List Sl), i ∈ is → r.length = n → GoN T (n + 1) tb (a0 :: a1 :: .dat (.int i) :: r) [a0, a1]) : GoN T (n + 1) (tFor wi (gName 2) tb) (a0 :: a1 :: r) [a0, a1] := by
  obtain ⟨r', l', q⟩ := law_forN h is r l fun _ hi => hi
  exact ⟨r', l', se_for hw q⟩
theorem atI_cell {ns : List Int} {a : Int} (h0 : 0 ≤ a) (h1 : a < ns.length) : atI ns a = some (ns.getD a.toNat 0) := by
  unfold atI
  have e : (ixN ns.length a) = some a.toNat := by
    unfold ixN
    rw [if_pos h0, if_pos h1]
  rw [e]
  show ns[a.toNat]? = _
  rw [List.getD_eq_getElem?_getD, List.getElem?_eq_getElem (by omega)]
  rfl
theorem sl_len6 {r : List Sl} (h : r.length = 6) : ∃ t0 t1 t2 t3 t4 t5, r = [t0, t1, t2, t3, t4, t5] := match r, h with | [t0, t1, t2, t3, t4, t5], _ => ⟨t0, t1, t2, t3, t4, t5, rfl⟩
theorem sl_len7 {r : List Sl} (h : r.length = 7) : ∃ t0 t1 t2 t3 t4 t5 t6, r = [t0, t1, t2, t3, t4, t5, t6] := match r, h with | [t0, t1, t2, t3, t4, t5, t6], _ => ⟨t0, t1, t2, t3, t4, t5, t6, rfl⟩
theorem sl_len8 {r : List Sl} (h : r.length = 8) : ∃ t0 t1 t2 t3 t4 t5 t6 t7, r = [t0, t1, t2, t3, t4, t5, t6, t7] := match r, h with | [t0, t1, t2, t3, t4, t5, t6, t7], _ => ⟨t0, t1, t2, t3, t4, t5, t6, t7, rfl⟩
theorem sl_len9 {r : List Sl} (h : r.length = 9) : ∃ t0 t1 t2 t3 t4 t5 t6 t7 t8, r = [t0, t1, t2, t3, t4, t5, t6, t7, t8] := match r, h with | [t0, t1, t2, t3, t4, t5, t6, t7, t8], _ => ⟨t0, t1, t2, t3, t4, t5, t6, t7, t8, rfl⟩
theorem sl_len10 {r : List Sl} (h : r.length = 10) : ∃ t0 t1 t2 t3 t4 t5 t6 t7 t8 t9, r = [t0, t1, t2, t3, t4, t5, t6, t7, t8, t9] := match r, h with | [t0, t1, t2, t3, t4, t5, t6, t7, t8, t9], _ => ⟨t0, t1, t2, t3, t4, t5, t6, t7, t8, t9, rfl⟩
theorem sl_len11 {r : List Sl} (h : r.length = 11) : ∃ t0 t1 t2 t3 t4 t5 t6 t7 t8 t9 t10, r = [t0, t1, t2, t3, t4, t5, t6, t7, t8, t9, t10] := match r, h with | [t0, t1, t2, t3, t4, t5, t6, t7, t8, t9, t10], _ => ⟨t0, t1, t2, t3, t4, t5, t6, t7, t8, t9, t10, rfl⟩
theorem sl_len12 {r : List Sl} (h : r.length = 12) : ∃ t0 t1 t2 t3 t4 t5 t6 t7 t8 t9 t10 t11, r = [t0, t1, t2, t3, t4, t5, t6, t7, t8, t9, t10, t11] := match r, h with | [t0, t1, t2, t3, t4, t5, t6, t7, t8, t9, t10, t11], _ => ⟨t0, t1, t2, t3, t4, t5, t6, t7, t8, t9, t10, t11, rfl⟩
theorem sl_len13 {r : List Sl} (h : r.length = 13) : ∃ t0 t1 t2 t3 t4 t5 t6 t7 t8 t9 t10 t11 t12, r = [t0, t1, t2, t3, t4, t5, t6, t7, t8, t9, t10, t11, t12] := match r, h with | [t0, t1, t2, t3, t4, t5, t6, t7, t8, t9, t10, t11, t12], _ => ⟨t0, t1, t2, t3, t4, t5, t6, t7, t8, t9, t10, t11, t12, rfl⟩
theorem sl_len14 {r : List Sl} (h : r.length = 14) : ∃ t0 t1 t2 t3 t4 t5 t6 t7 t8 t9 t10 t11 t12 t13, r = [t0, t1, t2, t3, t4, t5, t6, t7, t8, t9, t10, t11, t12, t13] := match r, h with | [t0, t1, t2, t3, t4, t5, t6, t7, t8, t9, t10, t11, t12, t13], _ => ⟨t0, t1, t2, t3, t4, t5, t6, t7, t8, t9, t10, t11, t12, t13, rfl⟩
theorem sl_len15 {r : List Sl} (h : r.length = 15) : ∃ t0 t1 t2 t3 t4 t5 t6 t7 t8 t9 t10 t11 t12 t13 t14, r = [t0, t1, t2, t3, t4, t5, t6, t7, t8, t9, t10, t11, t12, t13, t14] := match r, h with | [t0, t1, t2, t3, t4, t5, t6, t7, t8, t9, t10, t11, t12, t13, t14], _ => ⟨t0, t1, t2, t3, t4, t5, t6, t7, t8, t9, t10, t11, t12, t13, t14, rfl⟩
theorem sl_len16 {r : List Sl} (h : r.length = 16) : ∃ t0 t1 t2 t3 t4 t5 t6 t7 t8 t9 t10 t11 t12 t13 t14 t15, r = [t0, t1, t2, t3, t4, t5, t6, t7, t8, t9, t10, t11, t12, t13, t14, t15] := match r, h with | [t0, t1, t2, t3, t4, t5, t6, t7, t8, t9, t10, t11, t12, t13, t14, t15], _ => ⟨t0, t1, t2, t3, t4, t5, t6, t7, t8, t9, t10, t11, t12, t13, t14, t15, rfl⟩
theorem sl_len17 {r : List Sl} (h : r.length = 17) : ∃ t0 t1 t2 t3 t4 t5 t6 t7 t8 t9 t10 t11 t12 t13 t14 t15 t16, r = [t0, t1, t2, t3, t4, t5, t6, t7, t8, t9, t10, t11, t12, t13, t14, t15, t16] := match r, h with | [t0, t1, t2, t3, t4, t5, t6, t7, t8, t9, t10, t11, t12, t13, t14, t15, t16], _ => ⟨t0, t1, t2, t3, t4, t5, t6, t7, t8, t9, t10, t11, t12, t13, t14, t15, t16, rfl⟩
theorem lw_seqN (h : GoN T n ts ρ pre) (k : ∀ r, r.length = n → SeD T tu (pre ++ r) o) : SeD T (tSeq ts tu) ρ o := by
  obtain ⟨r, l, h⟩ := h
  exact se_seq h (k r l)
/-- the law's own places in the script -/
theorem ti_law {d : Int} {ns : List Int} {ta : TA} (hl : ns.length ≤ 63) (hd : 0 < d) (h : EvA T ta ρ [.int 0, .int (min 63 (ns.length : Int)), .int (1 + (ns.length : Int) / d)]) : ∃ is : List Int, TiD T (iRng3 ta) ρ (is.map .int) ∧ ∀ i ∈ is, 0 ≤ i ∧ i < ns.length := by
  have m0 : min 63 (ns.length : Int) = ns.length := by omega
  rw [m0] at h
  have c0 : 0 ≤ (ns.length : Int) / d := Int.ediv_nonneg (by omega) (by omega)
  have c1 : (ns.length : Int) / d ≤ ns.length := Int.ediv_le_self _ (by omega)
  refine ⟨(List.range (Builtin.Range.rangeSize 0 ns.length (1 + ns.length / d)).toNat).map fun (i : Nat) => 0 + (i : Int) * (1 + (ns.length : Int) / d), ?_, ?_⟩
  · rw [List.map_map]
    exact ti_rng3 h (rgc (by omega) (by omega) (by omega) (by omega))
  · intro i hi
    obtain ⟨j, hj, rfl⟩ := List.mem_map.mp hi
    exact rgc_at (m := ns.length) (by omega) (by omega) (List.mem_range.mp hj)
/-- the sum of the script's cells that are looked at -/
theorem ed_sum63 {i : Nat} {ns : List Int} (hi : ρ[i]? = some (.dat (scrD ns))) : EvD T (tCB (rSum T.K) (tCons (tSl (rSlL T.K) (tVar i) tNoPart (tPart (tC (.int 63)))) tNil)) ρ (.int (ns.take 63).sum) :=
  ed_cbB (ds := [.list ((ns.take 63).map .int)]) (eba_cons (EvD.toB (EvO.toD (EvO.is (eo_slS (ns := ns) (lo := none) (hi := some 63) (ed_var hi) ep_none (ep_some ed_int)) (by rw [cutD_take, ← List.map_take])))) eba_nil) rc_sum
end
/-- what a way that is told is like -/
theorem tld_way3 {a b p q i j : Int} (lp : LP a b p q) (hi : i = 0 ∨ i = 1) (hj : j = 0 ∨ j = 1) : ∀ c ∈ cts a b (shr a b).1 ((shr a b).2.1 * (p / (shr a b).1)) ((shr a b).2.2 * (p / (shr a b).1)) ((shr a b).2.1 * (q / (shr a b).1)) ((shr a b).2.2 * (q / (shr a b).1)) i j, Sm 3000 c := by
  obtain ⟨sx, sy, gp, sg⟩ := lp.shr_sm
  have si : ∀ {k z : Int}, (k = 0 ∨ k = 1) → Sm 1000 z → Sm 2002 (k * z / (shr a b).1) := fun {k z} hk hz => by
    refine (Sm.div ?_)
    rcases hk with rfl | rfl
    · rw [Int.zero_mul]
      exact (Sm.lit (n := 1) (by decide)).mono (by decide)
    · rw [Int.one_mul]
      exact hz.mono (by decide)
  have f1 : Sm 2002 ((shr a b).2.1 * (p / (shr a b).1)) := sx.mul lp.sp.div
  have f2 : Sm 2002 ((shr a b).2.2 * (p / (shr a b).1)) := sy.mul lp.sp.div
  have f3 : Sm 2002 ((shr a b).2.1 * (q / (shr a b).1)) := sx.mul lp.sq.div
  have f4 : Sm 2002 ((shr a b).2.2 * (q / (shr a b).1)) := sy.mul lp.sq.div
  intro c hc
  unfold cts at hc
  rcases List.mem_append.mp hc with hc | hc
  · exact (sgn4_sm (f1.add (si hi lp.sb)) (f4.sub (si hj lp.sa)) c hc).mono (by decide)
  · exact (sgn4_sm (f2.sub (si hi lp.sa)) (f3.add (si hj lp.sb)) c hc).mono (by decide)
/-! ### the promises -/
def R_says (ds : List PyData) (d : PyData) : Prop := ∃ x y, ds = [.bool x, .bool y] ∧ d = .bool (decide (x = y))
theorem len_R_says : ∀ ds d, R_says ds d → ds.length = 2 := fun ds d ⟨_, _, h, _⟩ => by rw [h] <;> rfl
theorem r_says {x y : Bool} : R_says [.bool x, .bool y] (.bool (decide (x = y))) := ⟨x, y, rfl, rfl⟩
def R_way_right (ds : List PyData) (d : PyData) : Prop := ∃ (a b p q : Int) (cs : List Int), ds = [.tuple [.int a, .int b], .tuple [.int p, .int q], .list (cs.map .int)] ∧ d = .bool true ∧ Sm 4000 a ∧ Sm 4000 b ∧ (∀ c ∈ cs, Sm 4000 c) ∧ cs.length ≤ 900
theorem len_R_way_right : ∀ ds d, R_way_right ds d → ds.length = 3 := fun ds d ⟨_, _, _, _, _, h, _⟩ => by rw [h] <;> rfl
theorem r_way_right {a b p q : Int} {cs : List Int} (h : Sm 4000 a ∧ Sm 4000 b ∧ (∀ c ∈ cs, Sm 4000 c) ∧ cs.length ≤ 900) : R_way_right [.tuple [.int a, .int b], .tuple [.int p, .int q], .list (cs.map .int)] (.bool true) := ⟨a, b, p, q, cs, rfl, rfl, h⟩
def R_right4 (ds : List PyData) (d : PyData) : Prop := ∃ a b p q c, ds = [.tuple [.int a, .int b], .tuple [.int p, .int q], .int c] ∧ d = .bool true ∧ LP a b p q
theorem len_R_right4 : ∀ ds d, R_right4 ds d → ds.length = 3 := fun ds d ⟨_, _, _, _, _, h, _⟩ => by rw [h] <;> rfl
theorem r_right4 {a b p q c : Int} (h : LP a b p q) : R_right4 [.tuple [.int a, .int b], .tuple [.int p, .int q], .int c] (.bool true) := ⟨a, b, p, q, c, rfl, rfl, h⟩
end LW
set_option Elab.async false
set_option linter.all false
set_option maxRecDepth 100000
set_option maxHeartbeats 4000000
namespace LW
open PySem PySem.Spec PyProof.Rows L2 Evl
/-! ### the knight's fewest leaps -/
def fw2 (u v : Int) : Int := if (u = 1 ∧ v = 0) ∨ (u = 2 ∧ v = 2) then u + 2 else u - v - 2 * ((u - v - v) / (if u - v < v then 3 else 4))
def fw (x y : Int) : Int := fw2 (max (x.natAbs : Int) y.natAbs) (min (x.natAbs : Int) y.natAbs)
theorem fw2_cases (u v : Int) : (u = 1 ∧ v = 0 ∧ fw2 u v = 3) ∨ (u = 2 ∧ v = 2 ∧ fw2 u v = 4) ∨ (¬ (u = 1 ∧ v = 0) ∧ ¬ (u = 2 ∧ v = 2) ∧ u - v < v ∧ fw2 u v = u - v - 2 * ((u - v - v) / 3)) ∨ (¬ (u = 1 ∧ v = 0) ∧ ¬ (u = 2 ∧ v = 2) ∧ v ≤ u - v ∧ fw2 u v = u - v - 2 * ((u - v - v) / 4)) := by
  unfold fw2
  by_cases h1 : u = 1 ∧ v = 0
  · left
    rw [if_pos (.inl h1)]
    omega
  · by_cases h2 : u = 2 ∧ v = 2
    · right; left
      rw [if_pos (.inr h2)]
      omega
    · rw [if_neg (by omega)]
      by_cases h3 : u - v < v
      · rw [if_pos h3]
        right; right; left
        exact ⟨h1, h2, h3, rfl⟩
      · rw [if_neg h3]
        right; right; right
        exact ⟨h1, h2, by omega, rfl⟩
/-- what fewest leaps are: enough, and no two less would do -/
def FwC (u v n : Int) : Prop := (u + v = 1 ∧ n = 3) ∨ (u = 2 ∧ v = 2 ∧ n = 4) ∨
  (u + v ≠ 1 ∧ ¬ (u = 2 ∧ v = 2) ∧ u ≤ 2 * n ∧ v ≤ 2 * n ∧ u + v ≤ 3 * n ∧ (n + u + v) % 2 = 0 ∧ (2 * (n - 2) < u ∨ 2 * (n - 2) < v ∨ 3 * (n - 2) < u + v))
theorem fw2_C {u v : Int} (h0 : 0 ≤ v) (h1 : v ≤ u) : FwC u v (fw2 u v) := by
  unfold FwC
  rcases fw2_cases u v with h | h | h | h <;> omega
theorem FwC.swap {u v n : Int} (h : FwC u v n) : FwC v u n := by
  unfold FwC at h ⊢
  omega
theorem fw_C (x y : Int) : FwC x.natAbs y.natAbs (fw x y) := by
  unfold fw
  by_cases h : (y.natAbs : Int) ≤ x.natAbs
  · rw [Int.max_eq_left h, Int.min_eq_right h]
    exact fw2_C (by omega) h
  · rw [Int.max_eq_right (by omega), Int.min_eq_left (by omega)]
    exact (fw2_C (by omega) (by omega)).swap
theorem FwC.uniq {u v n m : Int} (hu : 0 ≤ u) (hv : 0 ≤ v) (h : FwC u v n) (k : FwC u v m) : n = m := by
  unfold FwC at h k
  omega
theorem fw_eq {u v n x y : Int} (k : FwC u v n) (h : (u = x.natAbs ∧ v = y.natAbs) ∨ (u = y.natAbs ∧ v = x.natAbs)) : fw x y = n := by
  have c := fw_C x y
  rcases h with ⟨rfl, rfl⟩ | ⟨rfl, rfl⟩
  · exact c.uniq (by omega) (by omega) k
  · exact c.uniq (by omega) (by omega) k.swap
theorem fw_nn (x y : Int) : 0 ≤ fw x y := by
  have c := fw_C x y
  unfold FwC at c
  omega
theorem fw_0 : fw 0 0 = 0 := rfl
theorem fw_zero {x y : Int} (h : fw x y = 0) : x = 0 ∧ y = 0 := by
  have c := fw_C x y
  unfold FwC at c
  omega
theorem fw_le (x y : Int) : fw x y ≤ x.natAbs + y.natAbs + 3 := by
  have c := fw_C x y
  unfold FwC at c
  omega
theorem fw_negL (x y : Int) : fw (-x) y = fw x y := fw_eq (fw_C x y) (.inl ⟨by omega, rfl⟩)
theorem fw_negR (x y : Int) : fw x (-y) = fw x y := fw_eq (fw_C x y) (.inl ⟨rfl, by omega⟩)
theorem fw_swap (x y : Int) : fw y x = fw x y := fw_eq (fw_C x y) (.inr ⟨rfl, rfl⟩)
theorem fw_ord {u v x y : Int} (h0 : 0 ≤ v) (h1 : v ≤ u) (h : (u = x.natAbs ∧ v = y.natAbs) ∨ (u = y.natAbs ∧ v = x.natAbs)) : fw x y = fw2 u v := fw_eq (fw2_C h0 h1) h
/-- the law's own form -/
theorem fw_law (u v : Int) (h0 : 0 ≤ v) (h1 : v ≤ u) (e1 : ¬ (u = 1 ∧ v = 0)) (e2 : ¬ (u = 2 ∧ v = 2)) : fw2 u v = max ((u + 1) / 2) ((u + v + 2) / 3) + (max ((u + 1) / 2) ((u + v + 2) / 3) + u + v) % 2 := by
  have c := fw2_C h0 h1
  unfold FwC at c
  omega
/-- a leap changes it by one at most -/
def Kn (p : Int × Int) : Prop := (p.1.natAbs = 1 ∧ p.2.natAbs = 2) ∨ (p.1.natAbs = 2 ∧ p.2.natAbs = 1)
theorem kn_e8 : ∀ p ∈ e8 1 2, Kn p := by
  unfold Kn
  decide
theorem near_abs {u v u' v' n m : Int} (c : FwC u v n) (d : FwC u' v' m) (hu : 0 ≤ u) (hv : 0 ≤ v) (hu' : 0 ≤ u') (hv' : 0 ≤ v')
    (h1 : u' = u + 1 ∨ u = u' + 1 ∨ u + u' = 1) (h2 : v' = v + 2 ∨ v = v' + 2 ∨ v + v' = 2) : m ≤ n + 1 := by
  unfold FwC at c d
  rcases d with d | d | d
  · rcases c with c | c | c <;> omega
  · rcases c with c | c | c <;> omega
  · have e1 : u' ≤ u + 1 := by omega
    have e2 : v' ≤ v + 2 := by omega
    have e3 : (u + u') % 2 = 1 := by omega
    have e4 : (v + v') % 2 = 0 := by omega
    rcases c with c | c | c
    · omega
    · clear h1 h2
      omega
    · clear h1 h2
      obtain ⟨_, _, d3, d4, d5, d6, d7⟩ := d
      obtain ⟨_, _, c3, c4, c5, c6, c7⟩ := c
      clear c7
      rcases d7 with d7 | d7 | d7 <;> omega
theorem fw_near {x y a b : Int} (h : Kn (a, b)) : fw (x + a) (y + b) ≤ fw x y + 1 := by
  unfold Kn at h
  simp only at h
  rcases h with ⟨h1, h2⟩ | ⟨h1, h2⟩
  · exact near_abs (fw_C x y) (fw_C (x + a) (y + b)) (by omega) (by omega) (by omega) (by omega) (by omega) (by omega)
  · exact near_abs (fw_C x y).swap (fw_C (x + a) (y + b)).swap (by omega) (by omega) (by omega) (by omega) (by omega) (by omega)
theorem Kn.neg {a b : Int} (h : Kn (a, b)) : Kn (-a, -b) := by
  unfold Kn at h ⊢
  simp only at h ⊢
  omega
theorem fw_near2 {x y a b : Int} (h : Kn (a, b)) : fw (x - a) (y - b) ≤ fw x y + 1 := by
  have := fw_near (x := x) (y := y) h.neg
  rwa [← Int.sub_eq_add_neg, ← Int.sub_eq_add_neg] at this
theorem fw_near3 {x y a b : Int} (h : Kn (a, b)) : fw x y ≤ fw (x - a) (y - b) + 1 := by
  have := fw_near (x := x - a) (y := y - b) h
  rwa [Int.sub_add_cancel, Int.sub_add_cancel] at this
/-- some leap lowers it -/
theorem fw_down2 {u v : Int} (h0 : 0 ≤ v) (h1 : v ≤ u) (h : 0 < u) : fw (u - 2) (v - 1) = fw u v - 1 ∨ fw (u - 2) (v + 1) = fw u v - 1 ∨ fw (u - 1) (v - 2) = fw u v - 1 := by
  by_cases e1 : u = 3 ∧ v = 1
  · rw [e1.1, e1.2]; decide
  by_cases e2 : u = 4 ∧ v = 3
  · rw [e2.1, e2.2]; decide
  by_cases e3 : u = 2 ∧ v = 0
  · rw [e3.1, e3.2]; decide
  by_cases e4 : u = 1 ∧ v = 1
  · rw [e4.1, e4.2]; decide
  left
  have c := fw_C u v
  have d := fw_C (u - 2) (v - 1)
  have l := fw_near3 (x := u) (y := v) (a := 2) (b := 1) (by unfold Kn; decide)
  unfold FwC at c d
  generalize fw u v = n at *
  generalize fw (u - 2) (v - 1) = m at *
  rcases c with c | c | c
  · omega
  · omega
  · rcases d with d | d | d
    · omega
    · omega
    · omega
theorem fw_down {x y : Int} (h : ¬ (x = 0 ∧ y = 0)) : ∃ l ∈ e8 1 2, fw (x - l.1) (y - l.2) = fw x y - 1 := by
  by_cases hxy : y.natAbs ≤ x.natAbs
  · have D := fw_down2 (u := x.natAbs) (v := y.natAbs) (by omega) (by omega) (by omega)
    rw [fw_eq (x := x.natAbs) (y := y.natAbs) (fw_C x y) (.inl ⟨by omega, by omega⟩)] at D
    rcases Int.lt_or_le x 0 with hx | hx <;> rcases Int.lt_or_le y 0 with hy | hy
    · rcases D with D | D | D
      · exact ⟨(-2, -1), by decide, by rw [← D]; exact fw_eq (fw_C _ _) (.inl ⟨by show (_ : Int) = ((x - -2).natAbs : Int); omega, by show (_ : Int) = ((y - -1).natAbs : Int); omega⟩)⟩
      · exact ⟨(-2, 1), by decide, by rw [← D]; exact fw_eq (fw_C _ _) (.inl ⟨by show (_ : Int) = ((x - -2).natAbs : Int); omega, by show (_ : Int) = ((y - 1).natAbs : Int); omega⟩)⟩
      · exact ⟨(-1, -2), by decide, by rw [← D]; exact fw_eq (fw_C _ _) (.inl ⟨by show (_ : Int) = ((x - -1).natAbs : Int); omega, by show (_ : Int) = ((y - -2).natAbs : Int); omega⟩)⟩
    · rcases D with D | D | D
      · exact ⟨(-2, 1), by decide, by rw [← D]; exact fw_eq (fw_C _ _) (.inl ⟨by show (_ : Int) = ((x - -2).natAbs : Int); omega, by show (_ : Int) = ((y - 1).natAbs : Int); omega⟩)⟩
      · exact ⟨(-2, -1), by decide, by rw [← D]; exact fw_eq (fw_C _ _) (.inl ⟨by show (_ : Int) = ((x - -2).natAbs : Int); omega, by show (_ : Int) = ((y - -1).natAbs : Int); omega⟩)⟩
      · exact ⟨(-1, 2), by decide, by rw [← D]; exact fw_eq (fw_C _ _) (.inl ⟨by show (_ : Int) = ((x - -1).natAbs : Int); omega, by show (_ : Int) = ((y - 2).natAbs : Int); omega⟩)⟩
    · rcases D with D | D | D
      · exact ⟨(2, -1), by decide, by rw [← D]; exact fw_eq (fw_C _ _) (.inl ⟨by show (_ : Int) = ((x - 2).natAbs : Int); omega, by show (_ : Int) = ((y - -1).natAbs : Int); omega⟩)⟩
      · exact ⟨(2, 1), by decide, by rw [← D]; exact fw_eq (fw_C _ _) (.inl ⟨by show (_ : Int) = ((x - 2).natAbs : Int); omega, by show (_ : Int) = ((y - 1).natAbs : Int); omega⟩)⟩
      · exact ⟨(1, -2), by decide, by rw [← D]; exact fw_eq (fw_C _ _) (.inl ⟨by show (_ : Int) = ((x - 1).natAbs : Int); omega, by show (_ : Int) = ((y - -2).natAbs : Int); omega⟩)⟩
    · rcases D with D | D | D
      · exact ⟨(2, 1), by decide, by rw [← D]; exact fw_eq (fw_C _ _) (.inl ⟨by show (_ : Int) = ((x - 2).natAbs : Int); omega, by show (_ : Int) = ((y - 1).natAbs : Int); omega⟩)⟩
      · exact ⟨(2, -1), by decide, by rw [← D]; exact fw_eq (fw_C _ _) (.inl ⟨by show (_ : Int) = ((x - 2).natAbs : Int); omega, by show (_ : Int) = ((y - -1).natAbs : Int); omega⟩)⟩
      · exact ⟨(1, 2), by decide, by rw [← D]; exact fw_eq (fw_C _ _) (.inl ⟨by show (_ : Int) = ((x - 1).natAbs : Int); omega, by show (_ : Int) = ((y - 2).natAbs : Int); omega⟩)⟩
  · have D := fw_down2 (u := y.natAbs) (v := x.natAbs) (by omega) (by omega) (by omega)
    rw [fw_eq (x := y.natAbs) (y := x.natAbs) (fw_C x y) (.inr ⟨by omega, by omega⟩)] at D
    rcases Int.lt_or_le x 0 with hx | hx <;> rcases Int.lt_or_le y 0 with hy | hy
    · rcases D with D | D | D
      · exact ⟨(-1, -2), by decide, by rw [← D]; exact fw_eq (fw_C _ _) (.inr ⟨by show (_ : Int) = ((y - -2).natAbs : Int); omega, by show (_ : Int) = ((x - -1).natAbs : Int); omega⟩)⟩
      · exact ⟨(1, -2), by decide, by rw [← D]; exact fw_eq (fw_C _ _) (.inr ⟨by show (_ : Int) = ((y - -2).natAbs : Int); omega, by show (_ : Int) = ((x - 1).natAbs : Int); omega⟩)⟩
      · exact ⟨(-2, -1), by decide, by rw [← D]; exact fw_eq (fw_C _ _) (.inr ⟨by show (_ : Int) = ((y - -1).natAbs : Int); omega, by show (_ : Int) = ((x - -2).natAbs : Int); omega⟩)⟩
    · rcases D with D | D | D
      · exact ⟨(-1, 2), by decide, by rw [← D]; exact fw_eq (fw_C _ _) (.inr ⟨by show (_ : Int) = ((y - 2).natAbs : Int); omega, by show (_ : Int) = ((x - -1).natAbs : Int); omega⟩)⟩
      · exact ⟨(1, 2), by decide, by rw [← D]; exact fw_eq (fw_C _ _) (.inr ⟨by show (_ : Int) = ((y - 2).natAbs : Int); omega, by show (_ : Int) = ((x - 1).natAbs : Int); omega⟩)⟩
      · exact ⟨(-2, 1), by decide, by rw [← D]; exact fw_eq (fw_C _ _) (.inr ⟨by show (_ : Int) = ((y - 1).natAbs : Int); omega, by show (_ : Int) = ((x - -2).natAbs : Int); omega⟩)⟩
    · rcases D with D | D | D
      · exact ⟨(1, -2), by decide, by rw [← D]; exact fw_eq (fw_C _ _) (.inr ⟨by show (_ : Int) = ((y - -2).natAbs : Int); omega, by show (_ : Int) = ((x - 1).natAbs : Int); omega⟩)⟩
      · exact ⟨(-1, -2), by decide, by rw [← D]; exact fw_eq (fw_C _ _) (.inr ⟨by show (_ : Int) = ((y - -2).natAbs : Int); omega, by show (_ : Int) = ((x - -1).natAbs : Int); omega⟩)⟩
      · exact ⟨(2, -1), by decide, by rw [← D]; exact fw_eq (fw_C _ _) (.inr ⟨by show (_ : Int) = ((y - -1).natAbs : Int); omega, by show (_ : Int) = ((x - 2).natAbs : Int); omega⟩)⟩
    · rcases D with D | D | D
      · exact ⟨(1, 2), by decide, by rw [← D]; exact fw_eq (fw_C _ _) (.inr ⟨by show (_ : Int) = ((y - 2).natAbs : Int); omega, by show (_ : Int) = ((x - 1).natAbs : Int); omega⟩)⟩
      · exact ⟨(-1, 2), by decide, by rw [← D]; exact fw_eq (fw_C _ _) (.inr ⟨by show (_ : Int) = ((y - 2).natAbs : Int); omega, by show (_ : Int) = ((x - -1).natAbs : Int); omega⟩)⟩
      · exact ⟨(2, 1), by decide, by rw [← D]; exact fw_eq (fw_C _ _) (.inr ⟨by show (_ : Int) = ((y - 1).natAbs : Int); omega, by show (_ : Int) = ((x - 2).natAbs : Int); omega⟩)⟩
/-! ### sums over leaps -/
def dt1 (cs : List Int) (ps : List (Int × Int)) : Int := (List.zipWith (fun c p => c * p.1) cs ps).sum
def dt2 (cs : List Int) (ps : List (Int × Int)) : Int := (List.zipWith (fun c p => c * p.2) cs ps).sum
theorem dt1_cons (c : Int) (cs : List Int) (p : Int × Int) (ps : List (Int × Int)) : dt1 (c :: cs) (p :: ps) = c * p.1 + dt1 cs ps := rfl
theorem dt2_cons (c : Int) (cs : List Int) (p : Int × Int) (ps : List (Int × Int)) : dt2 (c :: cs) (p :: ps) = c * p.2 + dt2 cs ps := rfl
theorem led1_dt (a b : Int) (cs : List Int) : led1 a b cs = dt1 cs (e8 a b) := rfl
theorem led2_dt (a b : Int) (cs : List Int) : led2 a b cs = dt2 cs (e8 a b) := rfl
/-- so many leaps of one kind -/
theorem fw_many {a b : Int} (h : Kn (a, b)) : ∀ (n : Nat) (x y : Int), fw (x + n * a) (y + n * b) ≤ fw x y + n
  | 0, x, y => by simp
  | n + 1, x, y => by
    have i := fw_many h n x y
    have s := fw_near (x := x + n * a) (y := y + n * b) h
    rw [show x + ((n + 1 : Nat) : Int) * a = x + n * a + a by rw [Int.natCast_add, Int.add_mul, show ((1 : Nat) : Int) = 1 from rfl, Int.one_mul, ← Int.add_assoc], show y + ((n + 1 : Nat) : Int) * b = y + n * b + b by rw [Int.natCast_add, Int.add_mul, show ((1 : Nat) : Int) = 1 from rfl, Int.one_mul, ← Int.add_assoc]]
    omega
theorem fw_led : ∀ (cs : List Int) (ps : List (Int × Int)) (x y : Int), (∀ c ∈ cs, 0 ≤ c) → (∀ p ∈ ps, Kn p) → cs.length = ps.length → fw (x + dt1 cs ps) (y + dt2 cs ps) ≤ fw x y + cs.sum
  | [], ps, x, y, _, _, _ => by simp [dt1, dt2]
  | c :: cs, [], x, y, _, _, h => by cases h
  | c :: cs, p :: ps, x, y, hc, hp, h => by
    have i := fw_led cs ps (x + c * p.1) (y + c * p.2) (fun z hz => hc z (List.mem_cons_of_mem _ hz)) (fun z hz => hp z (List.mem_cons_of_mem _ hz)) (Nat.succ.inj h)
    have c0 := hc c List.mem_cons_self
    have m := fw_many (a := p.1) (b := p.2) (hp p List.mem_cons_self) c.toNat x y
    rw [show ((c.toNat : Nat) : Int) = c by omega] at m
    rw [dt1_cons, dt2_cons, ← Int.add_assoc, ← Int.add_assoc, List.sum_cons]
    omega
/-! ### counts done in their turn -/
def dn : List Int → Int → List Int
  | [], _ => []
  | c :: cs, m => min m c :: dn cs (m - min m c)
/-- what is left of them -/
def rn : List Int → Int → List Int
  | [], _ => []
  | c :: cs, m => (c - min m c) :: rn cs (m - min m c)
theorem dn_len : ∀ (cs : List Int) (m : Int), (dn cs m).length = cs.length
  | [], _ => rfl
  | c :: cs, m => congrArg Nat.succ (dn_len cs _)
theorem rn_len : ∀ (cs : List Int) (m : Int), (rn cs m).length = cs.length
  | [], _ => rfl
  | c :: cs, m => congrArg Nat.succ (rn_len cs _)
theorem sum_nn : ∀ {cs : List Int}, (∀ c ∈ cs, 0 ≤ c) → 0 ≤ cs.sum
  | [], _ => by simp
  | c :: cs, h => by
    have := h c List.mem_cons_self
    have := sum_nn fun z hz => h z (List.mem_cons_of_mem _ hz)
    rw [List.sum_cons]
    omega
theorem dn_nn : ∀ (cs : List Int) (m : Int), (∀ c ∈ cs, 0 ≤ c) → 0 ≤ m → ∀ c ∈ dn cs m, 0 ≤ c
  | [], _, _, _ => fun c h => nomatch h
  | d :: cs, m, hc, hm => fun c h => by
    have c0 := hc d List.mem_cons_self
    rcases List.mem_cons.mp h with rfl | h
    · omega
    · exact dn_nn cs (m - min m d) (fun z hz => hc z (List.mem_cons_of_mem _ hz)) (by omega) c h
theorem dn_le : ∀ (cs : List Int) (m : Int), (∀ c ∈ cs, 0 ≤ c) → 0 ≤ m → ∀ c ∈ dn cs m, c ≤ m
  | [], _, _, _ => fun c h => nomatch h
  | d :: cs, m, hc, hm => fun c h => by
    have c0 := hc d List.mem_cons_self
    rcases List.mem_cons.mp h with rfl | h
    · omega
    · have := dn_le cs (m - min m d) (fun z hz => hc z (List.mem_cons_of_mem _ hz)) (by omega) c h
      omega
theorem rn_nn : ∀ (cs : List Int) (m : Int), ∀ c ∈ rn cs m, 0 ≤ c
  | [], _ => fun c h => nomatch h
  | d :: cs, m => fun c h => by
    rcases List.mem_cons.mp h with rfl | h
    · omega
    · exact rn_nn cs _ c h
theorem dn_sum : ∀ (cs : List Int) (m : Int), (∀ c ∈ cs, 0 ≤ c) → 0 ≤ m → m ≤ cs.sum → (dn cs m).sum = m
  | [], m, _, h0, h1 => by
    rw [List.sum_nil] at h1
    show (0 : Int) = m
    omega
  | d :: cs, m, hc, h0, h1 => by
    have c0 := hc d List.mem_cons_self
    rw [List.sum_cons] at h1
    have := dn_sum cs (m - min m d) (fun z hz => hc z (List.mem_cons_of_mem _ hz)) (by omega) (by have := sum_nn fun z hz => hc z (List.mem_cons_of_mem d hz); omega)
    show min m d + (dn cs _).sum = m
    omega
theorem rn_sum : ∀ (cs : List Int) (m : Int), (rn cs m).sum = cs.sum - (dn cs m).sum
  | [], m => rfl
  | d :: cs, m => by
    have := rn_sum cs (m - min m d)
    show d - min m d + (rn cs _).sum = d + cs.sum - (min m d + (dn cs _).sum)
    omega
theorem rn_dt : ∀ (cs : List Int) (ps : List (Int × Int)) (m : Int), dt1 (rn cs m) ps = dt1 cs ps - dt1 (dn cs m) ps ∧ dt2 (rn cs m) ps = dt2 cs ps - dt2 (dn cs m) ps
  | [], ps, m => by simp [rn, dn, dt1, dt2]
  | c :: cs, [], m => by simp [rn, dn, dt1, dt2]
  | c :: cs, p :: ps, m => by
    obtain ⟨i, j⟩ := rn_dt cs ps (m - min m c)
    show dt1 ((c - min m c) :: rn cs _) _ = dt1 _ _ - dt1 (min m c :: dn cs _) _ ∧ dt2 ((c - min m c) :: rn cs _) _ = dt2 _ _ - dt2 (min m c :: dn cs _) _
    simp only [dt1_cons, dt2_cons, i, j, Int.sub_mul]
    omega
theorem dn_0 : ∀ (cs : List Int) (ps : List (Int × Int)), (∀ c ∈ cs, 0 ≤ c) → dt1 (dn cs 0) ps = 0 ∧ dt2 (dn cs 0) ps = 0
  | [], ps, _ => by simp [dn, dt1, dt2]
  | c :: cs, [], _ => by simp [dn, dt1, dt2]
  | c :: cs, p :: ps, h => by
    have c0 := h c List.mem_cons_self
    have e : min (0 : Int) c = 0 := by omega
    obtain ⟨i, j⟩ := dn_0 cs ps fun z hz => h z (List.mem_cons_of_mem _ hz)
    show dt1 (min 0 c :: dn cs _) _ = _ ∧ dt2 (min 0 c :: dn cs _) _ = _
    rw [e, dt1_cons, dt2_cons, Int.zero_mul, Int.zero_mul, Int.sub_zero, i, j]
    exact ⟨rfl, rfl⟩
/-- one leap further -/
theorem dn_step : ∀ (cs : List Int) (ps : List (Int × Int)) (m : Int), (∀ c ∈ cs, 0 ≤ c) → 0 ≤ m → m < cs.sum → cs.length = ps.length → ∃ p ∈ ps, dt1 (dn cs (m + 1)) ps - dt1 (dn cs m) ps = p.1 ∧ dt2 (dn cs (m + 1)) ps - dt2 (dn cs m) ps = p.2
  | [], ps, m, _, h0, h1, _ => by
    rw [List.sum_nil] at h1
    omega
  | c :: cs, [], m, _, _, _, h => by cases h
  | c :: cs, p :: ps, m, hc, h0, h1, hl => by
    have c0 := hc c List.mem_cons_self
    have hr : ∀ z ∈ cs, 0 ≤ z := fun z hz => hc z (List.mem_cons_of_mem _ hz)
    rw [List.sum_cons] at h1
    by_cases h : m < c
    · refine ⟨p, List.mem_cons_self, ?_⟩
      obtain ⟨i, j⟩ := dn_0 cs ps hr
      show dt1 (min (m + 1) c :: dn cs (m + 1 - min (m + 1) c)) _ - dt1 (min m c :: dn cs (m - min m c)) _ = _ ∧ dt2 (min (m + 1) c :: dn cs (m + 1 - min (m + 1) c)) _ - dt2 (min m c :: dn cs (m - min m c)) _ = _
      rw [show min (m + 1) c = m + 1 by omega, show min m c = m by omega, Int.sub_self, Int.sub_self, dt1_cons, dt1_cons, dt2_cons, dt2_cons, i, j, Int.add_mul, Int.add_mul, Int.one_mul, Int.one_mul]
      omega
    · obtain ⟨q, hq, i, j⟩ := dn_step cs ps (m - c) hr (by omega) (by omega) (Nat.succ.inj hl)
      refine ⟨q, List.mem_cons_of_mem _ hq, ?_⟩
      show dt1 (min (m + 1) c :: dn cs (m + 1 - min (m + 1) c)) _ - dt1 (min m c :: dn cs (m - min m c)) _ = _ ∧ dt2 (min (m + 1) c :: dn cs (m + 1 - min (m + 1) c)) _ - dt2 (min m c :: dn cs (m - min m c)) _ = _
      rw [show min (m + 1) c = c by omega, show min m c = c by omega, show m + 1 - c = m - c + 1 by omega, dt1_cons, dt1_cons, dt2_cons, dt2_cons]
      omega
/-- along the fewest leaps each is nearer by one -/
theorem fw_along {x y m : Int} {cs : List Int} (h8 : cs.length = 8) (hc : ∀ c ∈ cs, 0 ≤ c) (hs : cs.sum = fw x y) (hx : led1 1 2 cs = x) (hy : led2 1 2 cs = y) (m0 : 0 ≤ m) (m1 : m ≤ cs.sum) : fw (led1 1 2 (dn cs m)) (led2 1 2 (dn cs m)) = m ∧ fw (x - led1 1 2 (dn cs m)) (y - led2 1 2 (dn cs m)) = cs.sum - m := by
  obtain ⟨r1, r2⟩ := rn_dt cs (e8 1 2) m
  have d := dn_sum cs m hc m0 m1
  have r := rn_sum cs m
  simp only [led1_dt, led2_dt] at *
  rw [hx] at r1
  rw [hy] at r2
  have a1 := fw_led (dn cs m) (e8 1 2) 0 0 (dn_nn cs m hc m0) kn_e8 (by rw [dn_len]; exact h8)
  have a2 := fw_led (rn cs m) (e8 1 2) 0 0 (rn_nn cs m) kn_e8 (by rw [rn_len]; exact h8)
  have a3 := fw_led (rn cs m) (e8 1 2) (dt1 (dn cs m) (e8 1 2)) (dt2 (dn cs m) (e8 1 2)) (rn_nn cs m) kn_e8 (by rw [rn_len]; exact h8)
  have a4 := fw_led (dn cs m) (e8 1 2) (dt1 (rn cs m) (e8 1 2)) (dt2 (rn cs m) (e8 1 2)) (dn_nn cs m hc m0) kn_e8 (by rw [dn_len]; exact h8)
  rw [r1, r2] at a2 a3 a4
  rw [Int.add_comm (dt1 _ _), Int.add_comm (dt2 _ _), Int.sub_add_cancel, Int.sub_add_cancel] at a3
  rw [Int.sub_add_cancel, Int.sub_add_cancel] at a4
  simp only [Int.zero_add, fw_0] at a1 a2
  omega
end LW
set_option Elab.async false
set_option linter.all false
set_option maxRecDepth 100000
set_option maxHeartbeats 4000000
namespace LW
open PySem PySem.Spec PyProof.Rows L2 Evl
/-! ### the knight's shortest way, as the program makes it -/
structure MF where
  f : Int
  s : Int
  k1 : Int
  k2 : Int
def mf (u v : Int) : MF := if u < 2 * v then ⟨max 0 ((2 * u - v) / 3 - 3), max 0 ((2 * v - u) / 3 - 3), 1, 2⟩ else ⟨max 0 ((u + 2 * v) / 4 - 3), max 0 ((u - 2 * v) / 4 - 3), 2, -1⟩
def trn (x y a b : Int) : Int × Int := (if 0 ≤ x then (if y.natAbs ≤ x.natAbs then a else b) else -(if y.natAbs ≤ x.natAbs then a else b), if 0 ≤ y then (if y.natAbs ≤ x.natAbs then b else a) else -(if y.natAbs ≤ x.natAbs then b else a))
def ix8 (l : Int × Int) : Nat := (e8 1 2).findIdx fun z => decide (z = l)
def addAt (cs : List Int) (j : Nat) (n : Int) : List Int := cs.set j (cs.getD j 0 + n)
/-- the place of the best leap -/
def grj (x y : Int) : Nat := (e8 1 2).findIdx fun l => decide (fw (x - l.1) (y - l.2) = fw x y - 1)
def at8 (j : Nat) : Int × Int := (e8 1 2).getD j (0, 0)
def grd : Nat → Int → Int → List Int → List Int
  | 0, _, _, cs => cs
  | n + 1, x, y, cs => if x = 0 ∧ y = 0 then cs else grd n (x - (at8 (grj x y)).1) (y - (at8 (grj x y)).2) (addAt cs (grj x y) 1)
def mfx (x y : Int) : MF := mf (max (x.natAbs : Int) y.natAbs) (min (x.natAbs : Int) y.natAbs)
def t1x (x y : Int) : Int × Int := trn x y 2 1
def t2x (x y : Int) : Int × Int := trn x y (mfx x y).k1 (mfx x y).k2
def lfx (x y : Int) : Int := x - (mfx x y).f * (t1x x y).1 - (mfx x y).s * (t2x x y).1
def lfy (x y : Int) : Int := y - (mfx x y).f * (t1x x y).2 - (mfx x y).s * (t2x x y).2
def fst2 (x y : Int) : List Int := addAt (addAt (List.replicate 8 0) (ix8 (t1x x y)) (mfx x y).f) (ix8 (t2x x y)) (mfx x y).s
def sho (x y : Int) : List Int := grd (fw (lfx x y) (lfy x y)).toNat (lfx x y) (lfy x y) (fst2 x y)
/-- the first leaps are sure -/
theorem mf_nn (u v : Int) : 0 ≤ (mf u v).f ∧ 0 ≤ (mf u v).s := by
  unfold mf
  by_cases h : u < 2 * v
  · rw [if_pos h]
    exact ⟨Int.le_max_left _ _, Int.le_max_left _ _⟩
  · rw [if_neg h]
    exact ⟨Int.le_max_left _ _, Int.le_max_left _ _⟩
theorem mf_ok {u v : Int} (h0 : 0 ≤ v) (h1 : v ≤ u) : ∃ f s k1 k2, mf u v = ⟨f, s, k1, k2⟩ ∧ 0 ≤ f ∧ 0 ≤ s ∧ ((k1 = 1 ∧ k2 = 2) ∨ (k1 = 2 ∧ k2 = -1)) ∧ 0 ≤ v - f * 1 - s * k2 ∧ v - f * 1 - s * k2 ≤ u - f * 2 - s * k1 ∧ fw2 (u - f * 2 - s * k1) (v - f * 1 - s * k2) = fw2 u v - f - s := by
  unfold mf
  by_cases h : u < 2 * v
  · rw [if_pos h]
    refine ⟨_, _, _, _, rfl, Int.le_max_left _ _, Int.le_max_left _ _, .inl ⟨rfl, rfl⟩, ?_⟩
    generalize hf : max 0 ((2 * u - v) / 3 - 3) = f
    generalize hs : max 0 ((2 * v - u) / 3 - 3) = s
    refine ⟨by omega, by omega, ?_⟩
    have c := fw2_cases u v
    have d := fw2_cases (u - f * 2 - s * 1) (v - f * 1 - s * 2)
    generalize fw2 u v = n at *
    generalize fw2 (u - f * 2 - s * 1) (v - f * 1 - s * 2) = m at *
    rcases c with c | c | c | c <;> rcases d with d | d | d | d <;> omega
  · rw [if_neg h]
    refine ⟨_, _, _, _, rfl, Int.le_max_left _ _, Int.le_max_left _ _, .inr ⟨rfl, rfl⟩, ?_⟩
    generalize hf : max 0 ((u + 2 * v) / 4 - 3) = f
    generalize hs : max 0 ((u - 2 * v) / 4 - 3) = s
    refine ⟨by omega, by omega, ?_⟩
    have c := fw2_cases u v
    have d := fw2_cases (u - f * 2 - s * 2) (v - f * 1 - s * -1)
    generalize fw2 u v = n at *
    generalize fw2 (u - f * 2 - s * 2) (v - f * 1 - s * -1) = m at *
    rcases c with c | c | c | c <;> rcases d with d | d | d | d <;> omega
theorem trn_mem {x y a b : Int} (h : (a = 2 ∧ b = 1) ∨ (a = 1 ∧ b = 2) ∨ (a = 2 ∧ b = -1)) : trn x y a b ∈ e8 1 2 := by
  unfold trn
  rcases h with ⟨rfl, rfl⟩ | ⟨rfl, rfl⟩ | ⟨rfl, rfl⟩ <;> by_cases h1 : 0 ≤ x <;> by_cases h2 : 0 ≤ y <;> by_cases h3 : y.natAbs ≤ x.natAbs <;> simp only [h1, h2, h3, if_true, if_false] <;> decide
theorem mul_neg' (a b : Int) : a * -b = -(a * b) := Int.mul_neg a b
theorem fst_ok (x y : Int) : 0 ≤ (mfx x y).f ∧ 0 ≤ (mfx x y).s ∧ t1x x y ∈ e8 1 2 ∧ t2x x y ∈ e8 1 2 ∧ fw (lfx x y) (lfy x y) = fw x y - (mfx x y).f - (mfx x y).s := by
  unfold lfx lfy t2x t1x mfx
  by_cases hxy : y.natAbs ≤ x.natAbs
  · rw [Int.max_eq_left (by omega), Int.min_eq_right (by omega)]
    obtain ⟨f, s, k1, k2, e, f0, s0, hk, n0, n1, hw⟩ := mf_ok (u := x.natAbs) (v := y.natAbs) (by omega) (by omega)
    rw [e]
    refine ⟨f0, s0, trn_mem (.inl ⟨rfl, rfl⟩), trn_mem (.inr hk), ?_⟩
    rw [fw_ord (x := x) (y := y) (u := x.natAbs) (v := y.natAbs) (by omega) (by omega) (.inl ⟨rfl, rfl⟩), ← hw]
    refine fw_ord n0 n1 (.inl ?_)
    unfold trn
    simp only [hxy, if_true]
    rcases hk with ⟨rfl, rfl⟩ | ⟨rfl, rfl⟩ <;> by_cases h1 : 0 ≤ x <;> by_cases h2 : 0 ≤ y <;> simp only [h1, h2, if_true, if_false] <;> omega
  · rw [Int.max_eq_right (by omega), Int.min_eq_left (by omega)]
    obtain ⟨f, s, k1, k2, e, f0, s0, hk, n0, n1, hw⟩ := mf_ok (u := y.natAbs) (v := x.natAbs) (by omega) (by omega)
    rw [e]
    refine ⟨f0, s0, trn_mem (.inl ⟨rfl, rfl⟩), trn_mem (.inr hk), ?_⟩
    rw [fw_ord (x := x) (y := y) (u := y.natAbs) (v := x.natAbs) (by omega) (by omega) (.inr ⟨rfl, rfl⟩), ← hw]
    refine fw_ord n0 n1 (.inr ?_)
    unfold trn
    simp only [hxy, if_false]
    rcases hk with ⟨rfl, rfl⟩ | ⟨rfl, rfl⟩ <;> by_cases h1 : 0 ≤ x <;> by_cases h2 : 0 ≤ y <;> simp only [h1, h2, if_true, if_false] <;> omega
theorem len8 {cs : List Int} (h : cs.length = 8) : ∃ a b c d e f g i, cs = [a, b, c, d, e, f, g, i] := match cs, h with | [a, b, c, d, e, f, g, i], _ => ⟨a, b, c, d, e, f, g, i, rfl⟩
theorem lt8 {j : Nat} (h : j < 8) : j = 0 ∨ j = 1 ∨ j = 2 ∨ j = 3 ∨ j = 4 ∨ j = 5 ∨ j = 6 ∨ j = 7 := by omega
theorem addAt_len (cs : List Int) (j : Nat) (n : Int) : (addAt cs j n).length = cs.length := List.length_set
theorem addAt_ok {cs : List Int} {j : Nat} {n : Int} (h : cs.length = 8) (hj : j < 8) : dt1 (addAt cs j n) (e8 1 2) = dt1 cs (e8 1 2) + n * (at8 j).1 ∧ dt2 (addAt cs j n) (e8 1 2) = dt2 cs (e8 1 2) + n * (at8 j).2 ∧ (addAt cs j n).sum = cs.sum + n := by
  obtain ⟨a, b, c, d, e, f, g, i, rfl⟩ := len8 h
  rcases lt8 hj with rfl | rfl | rfl | rfl | rfl | rfl | rfl | rfl <;> simp [addAt, at8, e8, dt1, dt2] <;> omega
theorem addAt_nn {cs : List Int} {j : Nat} {n : Int} (hc : ∀ c ∈ cs, 0 ≤ c) (hn : 0 ≤ n) : ∀ c ∈ addAt cs j n, 0 ≤ c := by
  intro c h
  rcases List.mem_or_eq_of_mem_set h with h | rfl
  · exact hc c h
  · rw [List.getD_eq_getElem?_getD]
    cases e : cs[j]? with
    | none => simpa using hn
    | some z =>
      have := hc z (List.mem_of_getElem? e)
      show 0 ≤ z + n
      omega
theorem ix8_ok {l : Int × Int} (h : l ∈ e8 1 2) : ix8 l < 8 ∧ at8 (ix8 l) = l := by
  unfold e8 at h
  simp only [List.mem_cons, List.not_mem_nil, or_false] at h
  rcases h with rfl | rfl | rfl | rfl | rfl | rfl | rfl | rfl <;> decide
theorem at8_mem {j : Nat} (h : j < 8) : at8 j ∈ e8 1 2 := by
  rcases lt8 h with rfl | rfl | rfl | rfl | rfl | rfl | rfl | rfl <;> decide
theorem grj_ok {x y : Int} (h : ¬ (x = 0 ∧ y = 0)) : grj x y < 8 ∧ fw (x - (at8 (grj x y)).1) (y - (at8 (grj x y)).2) = fw x y - 1 := by
  obtain ⟨l, hl, e⟩ := fw_down h
  have h8 : grj x y < (e8 1 2).length := List.findIdx_lt_length_of_exists ⟨l, hl, by simpa using e⟩
  refine ⟨h8, ?_⟩
  have := List.findIdx_getElem (w := h8)
  simp only [decide_eq_true_eq] at this
  unfold at8
  rw [List.getD_eq_getElem?_getD, List.getElem?_eq_getElem h8]
  exact this
/-- what holds while leaps are told -/
structure ShI (x y u v : Int) (cs : List Int) : Prop where
  len : cs.length = 8
  nn : ∀ c ∈ cs, 0 ≤ c
  x1 : dt1 cs (e8 1 2) + u = x
  y1 : dt2 cs (e8 1 2) + v = y
  s1 : cs.sum + fw u v = fw x y
theorem ShI.first (x y : Int) : ShI x y (lfx x y) (lfy x y) (fst2 x y) := by
  obtain ⟨f0, s0, m1, m2, e⟩ := fst_ok x y
  obtain ⟨j1, a1⟩ := ix8_ok m1
  obtain ⟨j2, a2⟩ := ix8_ok m2
  unfold fst2
  obtain ⟨p1, p2, p3⟩ := addAt_ok (n := (mfx x y).f) (show (List.replicate 8 (0 : Int)).length = 8 from rfl) j1
  obtain ⟨q1, q2, q3⟩ := addAt_ok (n := (mfx x y).s) (show (addAt (List.replicate 8 (0 : Int)) (ix8 (t1x x y)) (mfx x y).f).length = 8 by rw [addAt_len]; rfl) j2
  rw [a1] at p1 p2
  rw [a2] at q1 q2
  have z1 : dt1 (List.replicate 8 0) (e8 1 2) = 0 := rfl
  have z2 : dt2 (List.replicate 8 0) (e8 1 2) = 0 := rfl
  have z3 : (List.replicate 8 (0 : Int)).sum = 0 := rfl
  refine ⟨by rw [addAt_len, addAt_len]; rfl, addAt_nn (addAt_nn (fun c hc => by rw [List.eq_of_mem_replicate hc]; exact Int.le_refl _) f0) s0, ?_, ?_, ?_⟩
  · rw [q1, p1, z1]
    unfold lfx
    omega
  · rw [q2, p2, z2]
    unfold lfy
    omega
  · rw [q3, p3, z3, e]
    omega
theorem ShI.go {x y u v : Int} {cs : List Int} (h : ShI x y u v cs) (hz : ¬ (u = 0 ∧ v = 0)) : ShI x y (u - (at8 (grj u v)).1) (v - (at8 (grj u v)).2) (addAt cs (grj u v) 1) := by
  obtain ⟨j8, e⟩ := grj_ok hz
  obtain ⟨p1, p2, p3⟩ := addAt_ok (n := 1) h.len j8
  refine ⟨by rw [addAt_len]; exact h.len, addAt_nn h.nn (by decide), ?_, ?_, ?_⟩
  · have := h.x1
    rw [p1, Int.one_mul]
    omega
  · have := h.y1
    rw [p2, Int.one_mul]
    omega
  · have := h.s1
    rw [p3, e]
    omega
theorem grd_ok {x y : Int} : ∀ (n : Nat) (u v : Int) (cs : List Int), ShI x y u v cs → (fw u v).toNat = n → ShI x y 0 0 (grd n u v cs)
  | 0, u, v, cs, h, e => by
    have := fw_nn u v
    obtain ⟨rfl, rfl⟩ := fw_zero (x := u) (y := v) (by omega)
    exact h
  | n + 1, u, v, cs, h, e => by
    have hz : ¬ (u = 0 ∧ v = 0) := by
      rintro ⟨rfl, rfl⟩
      rw [fw_0] at e
      cases e
    show ShI x y 0 0 (if u = 0 ∧ v = 0 then cs else grd n _ _ _)
    rw [if_neg hz]
    refine grd_ok n _ _ _ (h.go hz) ?_
    rw [(grj_ok hz).2]
    have := fw_nn u v
    omega
theorem sho_ok (x y : Int) : (sho x y).length = 8 ∧ (∀ c ∈ sho x y, 0 ≤ c) ∧ led1 1 2 (sho x y) = x ∧ led2 1 2 (sho x y) = y ∧ (sho x y).sum = fw x y := by
  have h := grd_ok _ _ _ _ (ShI.first x y) rfl
  refine ⟨h.len, h.nn, ?_, ?_, ?_⟩
  · have := h.x1
    rw [Int.add_zero] at this
    exact this
  · have := h.y1
    rw [Int.add_zero] at this
    exact this
  · have := h.s1
    rw [fw_0, Int.add_zero] at this
    exact this
end LW
set_option Elab.async false
set_option linter.all false
set_option maxRecDepth 100000
set_option maxHeartbeats 4000000
namespace LW
open PySem PySem.Spec PyProof.Rows L2 Evl
section
variable {X : Cx} {a b : Expr} {ta tb : TE} {pos : Pos}
theorem x_notin (T : Tx) (hu : X.A.units + 65 < cLine) (ha : PE X a ta) (hb : PE X b tb) (hm : behindInMarks .NotIn b = false := by rfl) (hK : X.K = T.K := by rfl) : PE X (.Compare a [.NotIn] [b] pos) (tOp (rNotInD T.K) ta tb) := by
  rw [← hK]
  exact pe_cmpR (op_notInD hu) ha hb hm
theorem y_notin (T : Tx) (hu : X.A.units + 65 < cLine) (ha : PE X a ta) (hb : PE X b tb) (hm : behindInMarks .NotIn b = false := by rfl) (hK : X.K = T.K := by rfl) : PT X (.Compare a [.NotIn] [b] pos) (tTest (tOp (rNotInD T.K) ta tb)) := by
  rw [← hK]
  exact pt_cmpR (op_notInD hu) ha hb hm
end
theorem any_pairs : ∀ (ps : List (Int × Int)) (p : Int × Int), ((ps.map pD).any fun z => PyData.eqv z (pD p)) = decide (p ∈ ps)
  | [], p => rfl
  | q :: ps, p => by
    rw [List.map_cons, List.any_cons, any_pairs ps p, eqv_pD, Bool.eq_iff_iff]
    rw [Bool.or_eq_true, decide_eq_true_eq, decide_eq_true_eq, decide_eq_true_eq, List.mem_cons]
    exact or_congr_left eq_comm
section
variable {T : Tx} {ρ : List Sl} {te ta tb : TE}
theorem rv_inP {x y : Int} {ps : List (Int × Int)} : RvB T (rInA T.K) (.tuple [.int x, .int y]) (.tuple (ps.map pD)) (.bool (decide ((x, y) ∈ ps))) := by
  rw [← any_pairs]
  exact rv_in rfl (plain_pairs ps) (shaped_pD (x, y)) (shaped_pL ps)
theorem rv_notinP {x y : Int} {ps : List (Int × Int)} : RvB T (rNotInD T.K) (.tuple [.int x, .int y]) (.list (ps.map pD)) (.bool (!decide ((x, y) ∈ ps))) := fun H v u k1 k2 Q q => by
  rw [← any_pairs] at q
  exact ⟨_, _, k1.dp rfl, k2.dp (by rw [plain]; exact plain_pairs ps), shaped_pD (x, y), shaped_pL ps, q _ fun _ => .bl _⟩
end
theorem rv_in12 {T : Tx} {x y : Int} : RvB T (rInA T.K) (.tuple [.int x, .int y]) (.tuple [.tuple [.int 1, .int 0], .tuple [.int 2, .int 2]]) (.bool (decide ((x, y) ∈ [((1 : Int), (0 : Int)), (2, 2)]))) := rv_inP (ps := [((1 : Int), (0 : Int)), (2, 2)])
/-! ### promises: the knight's own -/
def R_fewest (ds : List PyData) (d : PyData) : Prop := ∃ x y, ds = [.tuple [.int x, .int y]] ∧ d = .int (fw x y) ∧ Sm 3000 x ∧ Sm 3000 y
theorem len_R_fewest : ∀ ds d, R_fewest ds d → ds.length = 1 := fun ds d ⟨_, _, h, _⟩ => by rw [h] <;> rfl
theorem r_fewest {x y : Int} (h : Sm 3000 x ∧ Sm 3000 y) : R_fewest [.tuple [.int x, .int y]] (.int (fw x y)) := ⟨x, y, rfl, rfl, h⟩
def R_many_first (ds : List PyData) (d : PyData) : Prop := ∃ u v, ds = [.int u, .int v] ∧ d = .tuple [.int (mf u v).f, .int (mf u v).s, .tuple [.int (mf u v).k1, .int (mf u v).k2]] ∧ Sm 3000 u ∧ Sm 3000 v
theorem len_R_many_first : ∀ ds d, R_many_first ds d → ds.length = 2 := fun ds d ⟨_, _, h, _⟩ => by rw [h] <;> rfl
theorem r_many_first {u v : Int} (h : Sm 3000 u ∧ Sm 3000 v) : R_many_first [.int u, .int v] (.tuple [.int (mf u v).f, .int (mf u v).s, .tuple [.int (mf u v).k1, .int (mf u v).k2]]) := ⟨u, v, rfl, rfl, h⟩
def R_turned (ds : List PyData) (d : PyData) : Prop := ∃ x y a b, ds = [.tuple [.int x, .int y], .tuple [.int a, .int b]] ∧ d = .tuple [.int (trn x y a b).1, .int (trn x y a b).2]
theorem len_R_turned : ∀ ds d, R_turned ds d → ds.length = 2 := fun ds d ⟨_, _, _, _, h, _⟩ => by rw [h] <;> rfl
theorem r_turned {x y a b : Int} : R_turned [.tuple [.int x, .int y], .tuple [.int a, .int b]] (.tuple [.int (trn x y a b).1, .int (trn x y a b).2]) := ⟨x, y, a, b, rfl, rfl⟩
def R_shortest_of (ds : List PyData) (es : List PyData) : Prop := ∃ x y, ds = [.tuple [.int x, .int y]] ∧ es = (sho x y).map .int ∧ Sm 1000 x ∧ Sm 1000 y
theorem len_R_shortest_of : ∀ ds d, R_shortest_of ds d → ds.length = 1 := fun ds d ⟨_, _, h, _⟩ => by rw [h] <;> rfl
theorem r_shortest_of {x y : Int} (h : Sm 1000 x ∧ Sm 1000 y) : R_shortest_of [.tuple [.int x, .int y]] ((sho x y).map .int) := ⟨x, y, rfl, rfl, h⟩
def R_shortest (ds : List PyData) (d : PyData) : Prop := ∃ x y, ds = [.tuple [.int x, .int y]] ∧ d = wayD ((sho x y).map .int) ∧ Sm 1000 x ∧ Sm 1000 y
theorem len_R_shortest : ∀ ds d, R_shortest ds d → ds.length = 1 := fun ds d ⟨_, _, h, _⟩ => by rw [h] <;> rfl
theorem r_shortest {x y : Int} (h : Sm 1000 x ∧ Sm 1000 y) : R_shortest [.tuple [.int x, .int y]] (wayD ((sho x y).map .int)) := ⟨x, y, rfl, rfl, h⟩
/-- leaps and counts that are asked for -/
def LC (a b : Int) (cs : List Int) : Prop := 0 ≤ a ∧ 0 ≤ b ∧ 0 < a + b ∧ Sm 3000 a ∧ Sm 3000 b ∧ (∀ c ∈ cs, 0 ≤ c ∧ Sm 3000 c) ∧ cs.length = 8
theorem LC.ok {a b : Int} {cs : List Int} (h : LC a b cs) : okCounts cs = true := by
  obtain ⟨_, _, _, _, _, hc, h8⟩ := h
  unfold okCounts
  rw [decide_eq_true h8, Bool.true_and, List.all_eq_true]
  exact fun c hm => decide_eq_true (hc c hm).1
theorem LC.sm {a b : Int} {cs : List Int} (h : LC a b cs) : Sm 4000 a ∧ Sm 4000 b ∧ (∀ c ∈ cs, Sm 4000 c) ∧ cs.length ≤ 1000 := by
  obtain ⟨_, _, _, sa, sb, hc, h8⟩ := h
  exact ⟨sa.mono (by decide), sb.mono (by decide), fun c hm => (hc c hm).2.mono (by decide), by omega⟩
theorem dn_sm {n : Nat} : ∀ {cs : List Int} {m : Int}, (∀ c ∈ cs, 0 ≤ c ∧ Sm n c) → 0 ≤ m → ∀ c ∈ dn cs m, 0 ≤ c ∧ Sm n c
  | [], _, _, _ => fun c h => nomatch h
  | d :: cs, m, hc, hm => fun c h => by
    obtain ⟨c0, c1⟩ := hc d List.mem_cons_self
    rcases List.mem_cons.mp h with rfl | h
    · exact ⟨by omega, c1.of_le (by omega)⟩
    · exact dn_sm (fun z hz => hc z (List.mem_cons_of_mem _ hz)) (by omega) c h
def R_place_of (ds : List PyData) (d : PyData) : Prop := ∃ a b cs, ds = [.tuple [.int a, .int b], .list (cs.map .int)] ∧ d = .tuple [.int (led1 a b cs), .int (led2 a b cs)] ∧ LC a b cs
theorem len_R_place_of : ∀ ds d, R_place_of ds d → ds.length = 2 := fun ds d ⟨_, _, _, h, _⟩ => by rw [h] <;> rfl
theorem r_place_of {a b : Int} {cs : List Int} (h : LC a b cs) : R_place_of [.tuple [.int a, .int b], .list (cs.map .int)] (.tuple [.int (led1 a b cs), .int (led2 a b cs)]) := ⟨a, b, cs, rfl, rfl, h⟩
def R_behind_of (ds : List PyData) (d : PyData) : Prop := ∃ a b cs m, ds = [.tuple [.int a, .int b], .list (cs.map .int), .int m] ∧ d = .tuple [.int (led1 a b (dn cs m)), .int (led2 a b (dn cs m))] ∧ LC a b cs ∧ 0 ≤ m
theorem len_R_behind_of : ∀ ds d, R_behind_of ds d → ds.length = 3 := fun ds d ⟨_, _, _, _, h, _⟩ => by rw [h] <;> rfl
theorem r_behind_of {a b m : Int} {cs : List Int} (h : LC a b cs ∧ 0 ≤ m) : R_behind_of [.tuple [.int a, .int b], .list (cs.map .int), .int m] (.tuple [.int (led1 a b (dn cs m)), .int (led2 a b (dn cs m))]) := ⟨a, b, cs, m, rfl, rfl, h⟩
def R_behind (ds : List PyData) (d : PyData) : Prop := ∃ a b cs m, ds = [.tuple [.int a, .int b], .list (cs.map .int), .int m] ∧ d = .tuple [.int (led1 a b (dn cs m)), .int (led2 a b (dn cs m))] ∧ LC a b cs ∧ 0 ≤ m ∧ m ≤ cs.sum
theorem len_R_behind : ∀ ds d, R_behind ds d → ds.length = 3 := fun ds d ⟨_, _, _, _, h, _⟩ => by rw [h] <;> rfl
theorem r_behind {a b m : Int} {cs : List Int} (h : LC a b cs ∧ 0 ≤ m ∧ m ≤ cs.sum) : R_behind [.tuple [.int a, .int b], .list (cs.map .int), .int m] (.tuple [.int (led1 a b (dn cs m)), .int (led2 a b (dn cs m))]) := ⟨a, b, cs, m, rfl, rfl, h⟩
/-! ### values by cases; lists by number; places of items -/
section
variable {T : Tx} {ρ : List Sl} {te ta tb : TE} {t : TT} {xs : List PyData}
theorem ed_ifI {p : Prop} {_ : Decidable p} {a b : Int} (h : EvT T t ρ (decide p)) (h1 : EvD T ta ρ (.int a)) (h2 : EvD T tb ρ (.int b)) : EvD T (tIf t ta tb) ρ (.int (if p then a else b)) := by
  refine ed_if h (fun e => ?_) fun e => ?_
  · rw [if_pos (of_decide_eq_true e)]
    exact h1
  · rw [if_neg (of_decide_eq_false e)]
    exact h2
theorem at_last {y : PyData} : atI (xs ++ [y]) (-1) = some y := by
  have e : ixN (xs ++ [y]).length (-1) = some xs.length := by
    unfold ixN
    rw [if_neg (by decide), if_pos (by rw [List.length_append]; show -((xs.length + 1 : Nat) : Int) ≤ -1; omega), List.length_append]
    show some (-1 + ((xs.length + 1 : Nat) : Int)).toNat = _
    congr 1
    omega
  unfold atI
  rw [e]
  show (xs ++ [y])[xs.length]? = _
  simp
theorem ed_indexG {α : Type} [DecidableEq α] {f : α → PyData} (fe : ∀ a b, PyData.eqv (f a) (f b) = decide (a = b)) {as : List α} {z : α} (h : EvB T te ρ (.list (as.map f))) (hb : EvB T ta ρ (f z)) (p1 : plainAll (as.map f) = true) (p2 : plain (f z) = true) (s1 : SeqAt.shaped (.list (as.map f)) = true) (s2 : SeqAt.shaped (f z) = true) (hz : z ∈ as) :
    EvD T (tBM T.K "list" (rIndexD T.K) te (tCons ta tNil)) ρ (.int ((as.findIdx fun x => decide (x = z) : Nat) : Int)) := by
  have h8 : (as.findIdx fun x => decide (x = z)) < as.length := List.findIdx_lt_length_of_exists ⟨z, hz, by simp⟩
  have e := List.findIdx_getElem (w := h8)
  simp only [decide_eq_true_eq] at e
  refine ed_index (z := f z) h hb p1 p2 s1 s2 ?_ (by rw [fe]; simp) fun m z' hm he => ?_
  · rw [List.getElem?_map, List.getElem?_eq_getElem h8, e]
    rfl
  · have hm2 : m < as.length := by omega
    rw [List.getElem?_map, List.getElem?_eq_getElem hm2] at he
    cases he
    rw [fe]
    have := List.not_of_lt_findIdx hm
    simpa using this
theorem eo_rep {n : Int} (ha : EvD T ta ρ (.list xs)) (hb : EvD T tb ρ (.int n)) (h : 0 ≤ n ∧ n ≤ 1000 ∧ xs.length ≤ 100) : EvO T (tOp rMulA ta tb) ρ (List.replicate n.toNat xs).flatten := fun σ F0 H0 F H E Q q =>
  ha σ F0 H0 F H E _ fun v F1 H1 g1 k1 => hb σ F0 H0 F1 H1 (E.mono g1) _ fun u F2 H2 g2 k2 => by
    cases k2
    cases k1 with
    | lst h1 a1 =>
      refine .inr ⟨_, _, _, rfl, rfl, g2.sub _ _ (g2.ff _ _ h1), by omega, by omega, ?_, fun p hp => ?_⟩
      · rw [a1.length]
        exact sz (Nat.le_trans (Nat.mul_le_mul h.2.2 (show n.toNat ≤ 1000 by omega)) (by decide))
      · exact q p _ _ _ ((g1.trans g2).trans (Gr.lay g2.sub hp)) (fresh_back (g1.trans g2).hh hp) (fresh_back g2.sub hp) upd_same ((a1.ex g2.ff).rep _)
theorem LcTo.mapT {α : Type} {g : TG} {vs js : List Nat} {f k : α → PyData} (hj : ∀ j ∈ js, j ∈ vs) : ∀ {as : List α}, (∀ a ∈ as, ∃ ρ1, TgD T g js (f a) ρ ρ1 ∧ EvT T t ρ1 true ∧ EvD T te ρ1 (k a)) → LcTo T g t te vs ρ (as.map f) (as.map k)
  | [], _ => .nil
  | a :: as, h => by
    obtain ⟨ρ1, h1, h2, h3⟩ := h a List.mem_cons_self
    exact .cons h1 hj h2 h3 (LcTo.mapT hj fun x hx => h x (List.mem_cons_of_mem _ hx))
theorem ed_ix8 {l : Int × Int} (h : EvD T te ρ (.list (e8D 1 2))) (hb : EvD T ta ρ (.tuple [.int l.1, .int l.2])) (hl : l ∈ e8 1 2) : EvD T (tBM T.K "list" (rIndexD T.K) te (tCons ta tNil)) ρ (.int (ix8 l : Nat)) :=
  ed_indexG (f := pD) (as := e8 1 2) eqv_pD h.toB hb.toB (plain_pairs _) rfl (shaped_pL _) (shaped_pD _) hl
end
/-! ### the greedy step -/
theorem fw_big (u v : Int) : (u.natAbs : Int) ≤ 2 * fw u v ∧ (v.natAbs : Int) ≤ 2 * fw u v := by
  have c := fw_C u v
  unfold FwC at c
  omega
def rst (u v : Int) : List (Int × Int) := (e8 1 2).map fun l => (u - l.1, v - l.2)
def wys (u v : Int) : List Int := (rst u v).map fun p => fw p.1 p.2
theorem wys_mem {u v : Int} (h : ¬ (u = 0 ∧ v = 0)) : fw u v - 1 ∈ wys u v := by
  obtain ⟨l, hl, e⟩ := fw_down h
  exact List.mem_map.mpr ⟨(u - l.1, v - l.2), List.mem_map.mpr ⟨l, hl, rfl⟩, e⟩
theorem wys_le {u v : Int} : ∀ z ∈ wys u v, fw u v - 1 ≤ z := by
  intro z hz
  obtain ⟨p, hp, rfl⟩ := List.mem_map.mp hz
  obtain ⟨l, hl, rfl⟩ := List.mem_map.mp hp
  have := fw_near3 (x := u) (y := v) (kn_e8 l hl)
  show fw u v - 1 ≤ fw (u - l.1) (v - l.2)
  omega
theorem findIdx_map' {α β : Type} {f : α → β} {p : β → Bool} : ∀ as : List α, (as.map f).findIdx p = as.findIdx fun a => p (f a)
  | [] => rfl
  | a :: as => by
    rw [List.map_cons, List.findIdx_cons, List.findIdx_cons, findIdx_map' as]
theorem wys_idx (u v : Int) : ((wys u v).findIdx fun x => decide (x = fw u v - 1)) = grj u v := by
  unfold wys rst grj
  rw [findIdx_map', findIdx_map']
theorem rst_at {u v : Int} {j : Nat} (h : j < 8) : atI ((rst u v).map pD) (j : Int) = some (.tuple [.int (u - (at8 j).1), .int (v - (at8 j).2)]) := by
  have h1 : j < ((rst u v).map pD).length := by
    rw [List.length_map]
    unfold rst
    rw [List.length_map]
    exact h
  have h2 : j < (e8 1 2).length := h
  unfold atI
  rw [ixN_nat h1]
  show ((rst u v).map pD)[j]? = _
  unfold rst at8
  rw [List.getElem?_map, List.getElem?_map, List.getElem?_eq_getElem h2, List.getD_eq_getElem?_getD, List.getElem?_eq_getElem h2]
  rfl
theorem rst_sm {u v N : Int} (hN : Sm 1100 N) (h : fw u v ≤ N) : ∀ p ∈ rst u v, Sm 3000 p.1 ∧ Sm 3000 p.2 := by
  intro p hp
  obtain ⟨l, hl, rfl⟩ := List.mem_map.mp hp
  have k := kn_e8 l hl
  unfold Kn at k
  obtain ⟨b1, b2⟩ := fw_big u v
  have s : Sm 3000 (2 * N + 2) := ((((Sm.lit (n := 2) (x := 2) (by decide)).mul hN).add ((Sm.lit (n := 2) (x := 2) (by decide)).mono (by decide)))).mono (by decide)
  exact ⟨s.of_le (by show (u - l.1).natAbs ≤ _; omega), s.of_le (by show (v - l.2).natAbs ≤ _; omega)⟩
end LW
set_option Elab.async false
set_option linter.all false
set_option maxRecDepth 100000
set_option maxHeartbeats 4000000
namespace LW
open PySem PySem.Spec PyProof.Rows L2 Evl
section
variable {T : Tx} {ρ : List Sl} {te tb : TE} {ds : List PyData}
/-- list(found.counts) of an owned answer -/
theorem eo_listW (C : ClsF T) {i : Nat} (hi : ρ[i]? = some (.oway ds)) : EvO T (tCB (rListA T.K) (tCons (tFld T.K (tVar i) "counts") tNil)) ρ ds := fun σ F0 H0 F H E Q q => by
  obtain ⟨x, dx, l, vs, e, h0, h2, h3, a, f⟩ := fld_oway C E hi
  refine f ⟨_, _, rfl, .inl (SqL.of h3), fun l2 hl => ?_⟩
  exact q l2 _ _ _ (Gr.lay (o := .lst vs) E.sub hl) hl (fresh_back E.sub hl) upd_same a
theorem eb_fldW (C : ClsF T) {i : Nat} (hi : ρ[i]? = some (.oway ds)) : EvB T (tFld T.K (tVar i) "counts") ρ (.list ds) := eb_counts C (eb_oway hi)
end
theorem mem_le_sum : ∀ {cs : List Int}, (∀ c ∈ cs, 0 ≤ c) → ∀ c ∈ cs, c ≤ cs.sum
  | [], _ => fun c h => nomatch h
  | d :: cs, h0 => fun c h => by
    have d0 := h0 d List.mem_cons_self
    have hr : ∀ z ∈ cs, 0 ≤ z := fun z hz => h0 z (List.mem_cons_of_mem _ hz)
    have s0 := sum_nn hr
    rw [List.sum_cons]
    rcases List.mem_cons.mp h with rfl | h
    · omega
    · have := mem_le_sum hr c h
      omega
theorem sho_sm {x y : Int} {n : Nat} (hx : Sm n x) (hy : Sm n y) (hn : 2 ≤ n) : Sm (n + 2) (fw x y) ∧ ∀ c ∈ sho x y, 0 ≤ c ∧ Sm (n + 2) c := by
  obtain ⟨h8, hc, _, _, hs⟩ := sho_ok x y
  have l := fw_le x y
  have nn := fw_nn x y
  have s : Sm (n + 2) (x.natAbs + y.natAbs + 3) := (hx.abs.add hy.abs).add ((Sm.lit (n := 2) (x := 3) (by decide)).mono (by omega))
  refine ⟨s.of_le (by omega), fun c h => ⟨hc c h, s.of_le ?_⟩⟩
  have := mem_le_sum hc c h
  have := hc c h
  omega
theorem sho_LC {x y : Int} (hx : Sm 1000 x) (hy : Sm 1000 y) : LC 1 2 (sho x y) := by
  obtain ⟨h8, _⟩ := sho_ok x y
  exact ⟨by decide, by decide, by decide, Sm.lit (by decide), Sm.lit (by decide), fun c h => ⟨((sho_sm hx hy (by decide)).2 c h).1, ((sho_sm hx hy (by decide)).2 c h).2.mono (by decide)⟩, h8⟩
def R_place (ds : List PyData) (d : PyData) : Prop := ∃ x y, ds = [.tuple [.int x, .int y]] ∧ d = .bool true
theorem len_R_place : ∀ ds d, R_place ds d → ds.length = 1 := fun ds d ⟨_, _, h, _⟩ => by rw [h] <;> rfl
theorem r_place {x y : Int} : R_place [.tuple [.int x, .int y]] (.bool true) := ⟨x, y, rfl, rfl⟩
/-- for the knight's law -/
def R_right2 (ds : List PyData) (d : PyData) : Prop := ∃ x y a, ds = [.tuple [.int x, .int y], .int a] ∧ d = .bool true ∧ Sm 200 x ∧ Sm 200 y
theorem len_R_right2 : ∀ ds d, R_right2 ds d → ds.length = 2 := fun ds d ⟨_, _, _, h, _⟩ => by rw [h] <;> rfl
theorem r_right2 {x y a : Int} (h : Sm 200 x ∧ Sm 200 y) : R_right2 [.tuple [.int x, .int y], .int a] (.bool true) := ⟨x, y, a, rfl, rfl, h⟩
section
variable {T : Tx} {tb tu : TS} {wi : TI} {o : Out} {a0 a1 a2 a3 a4 : Sl}
theorem for5 {ns : List Int} (h : ∀ n ∈ ns, ∀ s6 s7 : Sl, ∃ t6 t7, SeD T tb [a0, a1, a2, a3, a4, .dat (.int n), s6, s7] (.nx [a0, a1, a2, a3, a4, .dat (.int n), t6, t7])) : ∀ (ms : List Int) (s5 s6 s7 : Sl), (∀ m ∈ ms, m ∈ ns) → ∃ t5 t6 t7, ForTo T (gName 5) tb (ms.map .int) [a0, a1, a2, a3, a4, s5, s6, s7] (.nx [a0, a1, a2, a3, a4, t5, t6, t7])
  | [], s5, s6, s7, _ => ⟨s5, s6, s7, .nil⟩
  | m :: ms, s5, s6, s7, hm => by
    obtain ⟨b, c, k⟩ := h m (hm m List.mem_cons_self) s6 s7
    obtain ⟨t5, t6, t7, q⟩ := for5 h ms (.dat (.int m)) b c fun z hz => hm z (List.mem_cons_of_mem _ hz)
    exact ⟨t5, t6, t7, .go tg_name k q⟩
theorem for5_seq {ns : List Int} {s5 s6 s7 : Sl} (hw : TiD T wi [a0, a1, a2, a3, a4, s5, s6, s7] (ns.map .int)) (h : ∀ n ∈ ns, ∀ s6 s7 : Sl, ∃ t6 t7, SeD T tb [a0, a1, a2, a3, a4, .dat (.int n), s6, s7] (.nx [a0, a1, a2, a3, a4, .dat (.int n), t6, t7])) (k : ∀ t5 t6 t7, SeD T tu [a0, a1, a2, a3, a4, t5, t6, t7] o) : SeD T (tSeq (tFor wi (gName 5) tb) tu) [a0, a1, a2, a3, a4, s5, s6, s7] o := by
  obtain ⟨t5, t6, t7, q⟩ := for5 h ns s5 s6 s7 fun _ hm => hm
  exact se_seq (se_for hw q) (k t5 t6 t7)
end
end LW
set_option Elab.async false
set_option linter.all false
set_option maxRecDepth 100000
set_option maxHeartbeats 4000000
namespace LW
open PySem PySem.Spec PyProof.Rows L2 Evl
/-! ### dicts with tuples for keys: displays -/
theorem u1 {k : Nat} {A : Around} (r : Room k A) : A.units + 1 < cLine := by have := r.un; omega
theorem upd_id {H : Hp} {p : Addr} {o : HO} (e : H p = some o) : upd H p o = H := funext fun a => by
  by_cases q : a = p
  · subst q
    rw [upd_same, e]
  · rw [upd_ne q]
theorem upd_two {H : Hp} {p : Addr} {o o' : HO} : upd (upd H p o) p o' = upd H p o' := funext fun a => by
  by_cases q : a = p
  · subst q
    rw [upd_same, upd_same]
  · rw [upd_ne q, upd_ne q, upd_ne q]
def putAll (kvs : List (List L2.Key × V)) (ks : List (List L2.Key × Addr × V)) : List (List L2.Key × V) := ks.foldl (fun acc x => putK acc x.1 x.2.2) kvs
section
variable {X : Cx} {pins : List (Addr × Obj)} {σ : L2.St} {A : Around} {E : Value → Shared → Prop}
theorem d_dictSetT {H : Hp} {s : Shared} {a b : Addr} {kvs : List (List L2.Key × V)} {k : List L2.Key} {v : V} {r : Value} {Q : Unit → Shared → Prop} (hu : A.units < cLine) (I : Inv X pins σ H s) (e : H a = some (.dT kvs)) (eb : H b = some (.tup (k.map kV))) (lz : kvs.length < sizeLine) (rv : L2.RelV v r)
    (h : ∀ s', Inv X pins σ (upd H a (.dT (putK kvs k v))) s' → Q () s') : wpAny (model X.prog X.w) A (dictSet a (.ref b) r) Q E s := by
  obtain ⟨z, hd, xs, rel, dd⟩ := dt_of I.hok e
  have hz : xs.length ≤ sizeLine := by rw [← Paired.length rel]; exact z
  have hl : (putK kvs k v).length ≤ sizeLine := by have := length_putK kvs k v; omega
  refine wpAny_dictSet_heap (knd := tupleKind (mixKind X.prog X.w)) (hsz := hz) hu (key_of I.hok eb) dd fun h' dd' hs => h _ ?_
  obtain ⟨q, es, ep, hq, h2, h3, h4, _, h5⟩ := dd'
  refine d_write I (by rw [e]; exact True.intro) hs ⟨q, hq⟩ ⟨hl, hd, _, (rel.put k eb rv).keeps fun c ys ec => ?_, q, es, ep, hq, h2, h3, h4, h5⟩
  rw [upd_ne (ne_of ec e (fun z => nomatch z))]
  exact ec
theorem storeAllT {p : Addr} (hu : A.units < cLine) : ∀ (ks : List (List L2.Key × Addr × V)) (vs : List (Value × Value)) (kvs : List (List L2.Key × V)) (H : Hp) (s : Shared) (Q : PUnit → Shared → Prop), Inv X pins σ H s → H p = some (.dT kvs) → VV (ks.map fun x => (V.ref x.2.1, x.2.2)) vs →
    (∀ x ∈ ks, H x.2.1 = some (.tup (x.1.map kV))) → kvs.length + ks.length ≤ sizeLine → (∀ s', Inv X pins σ (upd H p (.dT (putAll kvs ks))) s' → Q PUnit.unit s') →
    wpAny (model X.prog X.w) A (forIn vs PUnit.unit fun (x : Value × Value) (_ : PUnit) => (do dictSet p x.1 x.2; pure (ForInStep.yield PUnit.unit) : Sem (ForInStep PUnit))) Q E s
  | [], vs, kvs, H, s, Q, I, e, r, hk, hz, q => by
    rw [List.map_nil] at r
    cases r
    rw [List.forIn_nil]
    refine wpAny_pure (q s ?_)
    show Inv X pins σ (upd H p (.dT kvs)) s
    rw [upd_id e]
    exact I
  | x :: ks, vs, kvs, H, s, Q, I, e, r, hk, hz, q => by
    rw [List.map_cons] at r
    cases r with
    | @cons a b as bs h t =>
      obtain ⟨u, r⟩ := b
      obtain rfl : u = Value.ref x.2.1 := h.1
      rw [List.length_cons] at hz
      rw [List.forIn_cons]
      have ex := hk x List.mem_cons_self
      refine wpAny_bind (wpAny_bind (d_dictSetT hu I e ex (by omega) h.2 fun s' I' => wpAny_pure ?_))
      refine storeAllT hu ks bs (putK kvs x.1 x.2.2) _ s' Q I' upd_same t (fun y hy => ?_) (by have := length_putK kvs x.1 x.2.2; omega) fun s2 I2 => q s2 ?_
      · have ey := hk y (List.mem_cons_of_mem _ hy)
        rw [upd_ne (ne_of ey e (fun z => nomatch z))]
        exact ey
      · rw [upd_two] at I2
        exact I2
theorem wpAny_subDictT {s : Shared} {pairs : List (Sem Value × Sem Value)} {Q : Addr → Shared → Prop} (hlen : pairs.length ≤ 15)
    (h : wpAny (model X.prog X.w) A (evalPairs pairs) (fun vs s1 => wpAny (model X.prog X.w) A (forIn vs PUnit.unit fun (x : Value × Value) (_ : PUnit) => (do dictSet s.heap.objs.size x.1 x.2; pure (ForInStep.yield PUnit.unit) : Sem (ForInStep PUnit))) (fun _ s2 => Q s.heap.objs.size s2) E s1) E
      { s with heap := s.heap.push { cls := .type "dict", data := .dict #[] } }) :
    wpAny (model X.prog X.w) A (subDict pairs) Q E s := by
  unfold subDict
  refine wpAny_bind (wpAny_alloc ?_)
  refine wpAny_bind (wpAny_holding ?_)
  rw [if_pos hlen]
  refine wpAny_bind (wpAny_mono h (fun vs s1 h1 => ?_) fun _ _ e => e)
  refine wpAny_holding ?_
  exact wpAny_bind (wpAny_mono h1 (fun _ s2 h2 => wpAny_pure (wpAny_pure h2)) fun _ _ e => e)
end
/-- {(..): v, ..} -/
def tDispT (trs : List (TE × TE)) : TE := fun σ H Q => ∀ p, H p = none → tPairs trs σ (upd H p (.dT [])) fun ps H2 => H2 p = some (.dT []) ∧ ∃ ks : List (List L2.Key × Addr × V), ps = ks.map (fun x => (V.ref x.2.1, x.2.2)) ∧ (∀ x ∈ ks, H2 x.2.1 = some (.tup (x.1.map kV))) ∧ ks.length ≤ 15 ∧ Q (.ref p) (upd H2 p (.dT (putAll [] ks)))
theorem pe_dispT {X : Cx} {pos : Pos} {keys : List (Option Expr)} {values : List Expr} {trs : List (TE × TE)} (hu : X.A.units + 1 < cLine) (h : PPs X pos keys values trs) (hall : keys.all (·.isSome) = true) (hl : keys.length = values.length) (h0 : keys ≠ [])
    (h15 : keys.length ≤ 15) : PE X (.Dict keys values pos) (tDispT trs) := by
  refine ⟨fun pins s σ H Q I q => ?_⟩
  have hn := I.hok.fresh (Nat.le_refl s.heap.objs.size)
  have I1 := I.laid (a := s.heap.objs.size) (o := .dT []) (h' := s.heap.push { cls := .type "dict", data := .dict #[] }) (t' := s.toks) (fun _ _ q => Heap.get?_push_of_some _ q) (Nat.le_refl _) (dt_empty s.heap I.big)
  have hln := pairTrees_length keys values X.env pos hall hl
  have hne : pairTrees keys values X.env pos ≠ [] := fun he => by
    rw [he] at hln
    exact h0 (List.length_eq_zero_iff.mp hln.symm)
  rw [arm_eval_Dict, zip_pairTrees keys values X.env pos hall hl, dictDisplay_pairs _ hne (by omega)]
  refine wpAny_bind (wpAny_standAt (wpAny_bind (wpAny_subDictT (X := X) (Q := fun d s' => wpAny (model X.prog X.w) X.A (pure (Value.ref d)) _ _ s') (by omega) (thn (h.run pins _ σ _ _ I1 (q _ hn)) fun ws s2 ⟨ps, H2, I2, rel, e, ks, ep, ek, lk, q2⟩ => ?_))))
  subst ep
  exact storeAllT (by omega) ks ws [] H2 s2 _ I2 e rel ek (by rw [sizeLine_eq, List.length_nil]; omega) fun s3 I3 => wpAny_pure ⟨.ref s.heap.objs.size, _, I3, rfl, q2⟩
/-! ### keys of two numbers -/
def kP (p : Int × Int) : List L2.Key := [.inl p.1, .inl p.2]
theorem kP_inj {p q : Int × Int} (h : kP p = kP q) : p = q := by
  unfold kP at h
  injection h with h1 h2
  injection h2 with h2 _
  injection h1 with h1
  injection h2 with h2
  exact Prod.ext h1 h2
section
variable {T : Tx} {ρ : List Sl} {te tk tv : TE} {ta : TA} {d : PyData}
/-- a flat thing's value -/
def vF : PyData → V
  | .int n => .int n
  | .bool b => .bl b
  | _ => .non
def isF : PyData → Bool
  | .int _ => true
  | .bool _ => true
  | _ => false
theorem Ok.vF {F : Hp} {v : V} (k : Ok T F v d) (h : isF d = true) : v = LW.vF d := by
  cases k <;> first | rfl | cases h
def EvPs (T : Tx) (trs : List (TE × TE)) (ρ : List Sl) (ps : List ((Int × Int) × V)) : Prop := ∀ (σ : L2.St) (F0 H0 F H : Hp), En T F0 H0 F H σ ρ → ∀ Q : List (V × V) → Hp → Prop,
  (∀ (ks : List (List L2.Key × Addr × V)) F1 H1, Gr F H F1 H1 → ks.map (fun x => (x.1, x.2.2)) = ps.map (fun q => (kP q.1, q.2)) → (∀ x ∈ ks, F1 x.2.1 = some (.tup (x.1.map kV))) → Q (ks.map fun x => (V.ref x.2.1, x.2.2)) H1) → tPairs trs σ H Q
theorem eps_nil : EvPs T [] ρ [] := fun σ F0 H0 F H E Q q => q [] F H (Gr.refl E.sub) rfl fun _ h => nomatch h
theorem eps_cons {trs : List (TE × TE)} {x y : Int} {ps : List ((Int × Int) × V)} (hk : EvA T ta ρ [.int x, .int y]) (hv : EvD T tv ρ d) (hf : isF d = true) (hr : EvPs T trs ρ ps) : EvPs T ((tTup ta, tv) :: trs) ρ (((x, y), vF d) :: ps) := fun σ F0 H0 F H E Q q => by
  refine hk σ F0 H0 F H E _ fun vs F1 H1 g1 k1 => ?_
  cases k1 with
  | cons a1 a2 =>
    cases a2 with
    | cons a2 a3 =>
      cases a3; cases a1; cases a2
      refine ⟨by show 2 ≤ sizeLine; decide, fun b hb => ?_⟩
      have g2 := g1.trans (Gr.alloc (o := .tup [.int x, .int y]) g1.sub hb)
      refine hv σ F0 H0 _ _ (E.mono g2) _ fun v F2 H2 g3 k3 => ?_
      obtain rfl := k3.vF hf
      refine hr σ F0 H0 _ _ ((E.mono g2).mono g3) _ fun ks F3 H3 g4 hm hk => ?_
      refine q ((kP (x, y), b, vF d) :: ks) F3 H3 ((g2.trans g3).trans g4) (by rw [List.map_cons, List.map_cons, hm]) fun z hz => ?_
      rcases List.mem_cons.mp hz with rfl | hz
      · exact g4.ff _ _ (g3.ff _ _ upd_same)
      · exact hk z hz
def putP (kvs : List (List L2.Key × V)) (ps : List ((Int × Int) × V)) : List (List L2.Key × V) := ps.foldl (fun acc x => putK acc (kP x.1) x.2) kvs
theorem putAll_P : ∀ (ks : List (List L2.Key × Addr × V)) (ps : List ((Int × Int) × V)) (kvs : List (List L2.Key × V)), ks.map (fun x => (x.1, x.2.2)) = ps.map (fun q => (kP q.1, q.2)) → putAll kvs ks = putP kvs ps
  | [], [], kvs, _ => rfl
  | [], _ :: _, _, h => by cases h
  | _ :: _, [], _, h => by cases h
  | k :: ks, p :: ps, kvs, h => by
    rw [List.map_cons, List.map_cons] at h
    injection h with h1 h2
    injection h1 with h3 h4
    show putAll (putK kvs k.1 k.2.2) ks = putP (putK kvs (kP p.1) p.2) ps
    rw [h3, h4]
    exact putAll_P ks ps _ h2
/-- d = {..} -/
theorem se_asgDisp {i : Nat} {trs : List (TE × TE)} {ps : List ((Int × Int) × V)} (h : EvPs T trs ρ ps) (hl : ps.length ≤ 15) : SeD T (tAsg (tDispT trs) (gName i)) ρ (.nx (ρ.set i (.odic none (.dT (putP [] ps))))) := fun σ F0 H0 F H D E k => by
  refine fun p hp => ?_
  have g0 := Gr.lay (o := .dT []) E.sub hp
  refine h σ F0 H0 F _ (E.mono g0) _ fun ks F1 H1 g1 hm hk => ?_
  have hF1 : F1 p = none := g1.new p (fresh_back E.sub hp) ⟨_, upd_same, fun _ z => nomatch z⟩
  refine ⟨g1.hh _ _ upd_same, ks, rfl, fun x hx => g1.sub _ _ (hk x hx), ?_, ?_⟩
  · have := congrArg List.length hm
    rw [List.length_map, List.length_map] at this
    omega
  · rw [putAll_P ks ps [] hm]
    have g2 : Gr F H F1 (upd H1 p (.dT (putP [] ps))) := (g0.trans g1).mut hp hF1
    refine k _ F1 _ ((E.mono g2).setS ⟨p, rfl, fresh_back E.gr.hh hp, hF1, upd_same, (fun _ z => nomatch z), .inl rfl⟩ fun j t l' hj ht ho hq => ?_) g2.ff
    cases hq
    obtain ⟨_, _, ho', h4⟩ := (ho.back g2.ff (E.ok j t ht)).here (E.ok j t ht)
    rw [hp] at h4
    cases h4
/-- t = (..) -/
theorem se_asgT {i : Nat} {ds : List PyData} (h : EvA T ta ρ ds) (hl : ds.length ≤ 100000) : SeD T (tAsg (tTup ta) (gName i)) ρ (.nx (ρ.set i (.tpl ds))) := fun σ F0 H0 F H D E k => by
  refine h σ F0 H0 F H E _ fun vs F1 H1 g1 k1 => ⟨by rw [k1.length]; exact sz hl, fun b hb => ?_⟩
  have g2 := g1.trans (Gr.alloc (o := .tup vs) g1.sub hb)
  refine k _ _ _ ((E.mono g2).setS ⟨b, vs, rfl, upd_same, k1.ex (Gr.alloc g1.sub hb).ff⟩ fun j t l' hj ht ho hq => ?_) g2.ff
  exact hq.elim
theorem ed_varT {i : Nat} {ds : List PyData} (h : ρ[i]? = some (.tpl ds)) : EvD T (tVar i) ρ (.tuple ds) := fun σ F0 H0 F H E Q q => by
  obtain ⟨b, vs, e, h1, k⟩ := E.ok i _ h
  exact ⟨.ref b, e, q _ F H (Gr.refl E.sub) (.tup (SqT.of h1) k)⟩
theorem tpl2 {F0 H0 F H : Hp} {σ : L2.St} (E : En T F0 H0 F H σ ρ) {j : Nat} {x y : Int} (hj : ρ[j]? = some (.tpl [.int x, .int y])) : ∃ b, σ[j]? = some (some (.ref b)) ∧ F b = some (.tup ((kP (x, y)).map kV)) := by
  obtain ⟨b, vs, e, h1, k⟩ := E.ok j _ hj
  cases k with
  | cons k1 k2 =>
    cases k2 with
    | cons k2 k3 =>
      cases k3; cases k1; cases k2
      exact ⟨b, e, h1⟩
/-- t not in d -/
theorem et_dnotin {i j : Nat} {x y : Int} {kvs : List (List L2.Key × V)} (hi : ρ[i]? = some (.odic none (.dT kvs))) (hj : ρ[j]? = some (.tpl [.int x, .int y])) : EvT T (tB (tDNotIn (tVar j) (tVar i))) ρ (!(valV kvs (kP (x, y))).isSome) := fun σ F0 H0 F H E Q q => by
  obtain ⟨b, e, hb⟩ := tpl2 E hj
  obtain ⟨l, el, h1, h2, h3, _⟩ := E.ok i _ hi
  exact ⟨.ref b, e, .ref l, el, l, _, rfl, DGet.t h3 (E.sub _ _ hb), _, rfl, q F H (Gr.refl E.sub)⟩
/-- the dict that slot i owns changes -/
theorem En.changeD {F0 H0 F H : Hp} {σ : L2.St} (E : En T F0 H0 F H σ ρ) {i : Nat} {l : Addr} {p p' : Option Addr} {ho ho' : HO} (hi : ρ[i]? = some (.odic p ho)) (hl : σ[i]? = some (some (.ref l))) (hn : NoTup ho') (hp : p' = none ∨ p' = some l) :
    En T F0 H0 F (upd H l ho') σ (ρ.set i (.odic p' ho')) := by
  obtain ⟨l', e, a1, a2, a3, _⟩ := E.ok i _ hi
  rw [hl] at e
  cases e
  refine ⟨E.gr.mut a1 a2, by rw [List.length_set, E.len], fun j s hj => ?_, fun j k l2 s t n h1 h2 k1 k2 => ?_⟩
  · by_cases e : i = j
    · subst e
      rw [List.getElem?_set_self ((List.getElem?_eq_some_iff.mp hi).1)] at hj
      cases hj
      exact ⟨l, hl, a1, a2, upd_same, hn, hp⟩
    · rw [List.getElem?_set_ne e] at hj
      have z := E.ok j s hj
      cases s with
      | no => trivial
      | dat d => exact z
      | own es =>
        obtain ⟨l2, ws, e2, b1, b2, b3, b4⟩ := z
        refine ⟨l2, ws, e2, b1, b2, ?_, b4⟩
        rw [upd_ne (fun q => E.sep i j l _ _ e hi hj hl (by rw [← q]; exact e2))]
        exact b3
      | oway es =>
        obtain ⟨x, dx, l2, ws, e2, b0, b1, b2, b3, b4⟩ := z
        refine ⟨x, dx, l2, ws, e2, b0, b1, b2, ?_, b4⟩
        rw [upd_ne (fun q => E.sep i j l _ _ e hi hj hl ⟨x, dx, e2, by rw [← q]; exact b0⟩)]
        exact b3
      | odic q qo =>
        obtain ⟨l2, e2, b1, b2, b3, b4⟩ := z
        refine ⟨l2, e2, b1, b2, ?_, b4⟩
        rw [upd_ne (fun q => E.sep i j l _ _ e hi hj hl (by rw [← q]; exact e2))]
        exact b3
      | tpl es => exact z
      | ad a => exact z
  · have a : ∀ {j : Nat} {s : Sl}, (ρ.set i (.odic p' ho'))[j]? = some s → Owns T F σ[j]? l2 s → ∃ t, ρ[j]? = some t ∧ Owns T F σ[j]? l2 t := fun {j s} hj ho => by
      by_cases e : i = j
      · subst e
        rw [List.getElem?_set_self ((List.getElem?_eq_some_iff.mp hi).1)] at hj
        cases hj
        exact ⟨_, hi, ho⟩
      · rw [List.getElem?_set_ne e] at hj
        exact ⟨s, hj, ho⟩
    obtain ⟨s', a1, a2⟩ := a h1 k1
    obtain ⟨t', b1, b2⟩ := a h2 k2
    exact E.sep j k l2 s' t' n a1 b1 a2 b2
/-- d[t] = v -/
theorem se_dput {i j : Nat} {x y : Int} {kvs : List (List L2.Key × V)} (hi : ρ[i]? = some (.odic none (.dT kvs))) (hj : ρ[j]? = some (.tpl [.int x, .int y])) (hv : EvD T tv ρ d) (hf : isF d = true) (hz : kvs.length < 100000) :
    SeD T (sDPut (tVar i) (tVar j) tv) ρ (.nx (ρ.set i (.odic none (.dT (putK kvs (kP (x, y)) (vF d)))))) := fun σ F0 H0 F H D E k => by
  refine hv σ F0 H0 F H E _ fun v F1 H1 g kv => ?_
  obtain rfl := kv.vF hf
  have E1 := E.mono g
  obtain ⟨b, e, hb⟩ := tpl2 E1 hj
  obtain ⟨l, el, h1, h2, h3, _⟩ := E1.ok i _ hi
  exact ⟨.ref l, el, .ref b, e, l, _, rfl, DPut.t h3 (E1.sub _ _ hb) (by have := szl hz; omega), k σ F1 _ (E1.changeD hi el (fun _ z => nomatch z) (.inl rfl)) g.ff⟩
end
/-! ### places tried, turn by turn -/
abbrev Pt := Int × Int
def seenK (ps : List Pt) : List (List L2.Key × V) := ps.map fun p => (kP p, V.bl true)
theorem seenK_in : ∀ (ps : List Pt) (p : Pt), (valV (seenK ps) (kP p)).isSome = decide (p ∈ ps)
  | [], p => rfl
  | q :: ps, p => by
    show (valV ((kP q, V.bl true) :: seenK ps) (kP p)).isSome = _
    by_cases e : q = p
    · subst e
      rw [valV_pos rfl]
      simp
    · rw [valV_neg (fun h => e (kP_inj h)), seenK_in ps p]
      have : (p ∈ q :: ps) ↔ p ∈ ps := by
        rw [List.mem_cons]
        exact ⟨fun h => h.resolve_left fun z => e z.symm, .inr⟩
      rw [decide_eq_decide.mpr this]
theorem seenK_put {ps : List Pt} {p : Pt} (h : p ∉ ps) : putK (seenK ps) (kP p) (V.bl true) = seenK (ps ++ [p]) := by
  have e := seenK_in ps p
  rw [decide_eq_false h] at e
  rw [putK_new _ (Option.isNone_iff_eq_none.mp (by rw [Option.isNone_iff_eq_none]; cases hv : valV (seenK ps) (kP p) with | none => rfl | some _ => rw [hv] at e; cases e))]
  unfold seenK
  rw [List.map_append]
  rfl
def tr1 (p : Pt) (acc : List Pt × List Pt) (l : Pt) : List Pt × List Pt := if (p.1 + l.1, p.2 + l.2) ∈ acc.1 then acc else (acc.1 ++ [(p.1 + l.1, p.2 + l.2)], acc.2 ++ [(p.1 + l.1, p.2 + l.2)])
def tr2 (acc : List Pt × List Pt) (p : Pt) : List Pt × List Pt := (e8 1 2).foldl (tr1 p) acc
structure TrS where
  seen : List Pt
  now : List Pt
  found : List Int
def tr3 (s : TrS) : TrS := ⟨(s.now.foldl tr2 (s.seen, [])).1, (s.now.foldl tr2 (s.seen, [])).2, s.found ++ [((s.now.foldl tr2 (s.seen, [])).2.length : Int)]⟩
def trN : Nat → TrS → TrS
  | 0, s => s
  | n + 1, s => trN n (tr3 s)
def tr0 : TrS := ⟨[(0, 0)], [(0, 0)], [1]⟩
/-- no turn makes too many -/
def trOk : Nat → TrS → Bool
  | 0, _ => true
  | n + 1, s => decide (s.seen.length + 8 * s.now.length ≤ 90000) && decide (s.found.length ≤ 1000) && trOk n (tr3 s)
end LW
set_option Elab.async false
set_option linter.all false
set_option maxRecDepth 100000
set_option maxHeartbeats 4000000
namespace LW
open PySem PySem.Spec PyProof.Rows L2 Evl
/-! ### how many places -/
def plcZ (m : Int) : Int := if m < 5 then ([1, 8, 32, 68, 96] : List Int).getD m.toNat 0 else 28 * m - 20
def wthZ (m : Int) : Int := if m < 4 then ([1, 9, 41, 109] : List Int).getD m.toNat 0 else 14 * m * m - 6 * m + 5
/-- a square around -/
def rgS (s : Nat) : List Int := (List.range (4 * s + 1)).map fun (i : Nat) => -2 * (s : Int) + (i : Int)
def grS (s : Nat) : List Pt := (rgS s).flatMap fun x => (rgS s).map fun y => (x, y)
theorem cnt_0 : (grS 0).countP (fun p => decide (fw p.1 p.2 = 0)) = 1 ∧ (grS 0).countP (fun p => decide (fw p.1 p.2 ≤ 0)) = 1 := by decide +kernel
theorem cnt_1 : (grS 1).countP (fun p => decide (fw p.1 p.2 = 1)) = 8 ∧ (grS 1).countP (fun p => decide (fw p.1 p.2 ≤ 1)) = 9 := by decide +kernel
theorem cnt_2 : (grS 2).countP (fun p => decide (fw p.1 p.2 = 2)) = 32 ∧ (grS 2).countP (fun p => decide (fw p.1 p.2 ≤ 2)) = 41 := by decide +kernel
theorem cnt_3 : (grS 3).countP (fun p => decide (fw p.1 p.2 = 3)) = 68 ∧ (grS 3).countP (fun p => decide (fw p.1 p.2 ≤ 3)) = 109 := by decide +kernel
theorem cnt_4 : (grS 4).countP (fun p => decide (fw p.1 p.2 = 4)) = 96 ∧ (grS 4).countP (fun p => decide (fw p.1 p.2 ≤ 4)) = 205 := by decide +kernel
theorem cnt_5 : (grS 5).countP (fun p => decide (fw p.1 p.2 = 5)) = 120 ∧ (grS 5).countP (fun p => decide (fw p.1 p.2 ≤ 5)) = 325 := by decide +kernel
theorem cnt_6 : (grS 6).countP (fun p => decide (fw p.1 p.2 = 6)) = 148 ∧ (grS 6).countP (fun p => decide (fw p.1 p.2 ≤ 6)) = 473 := by decide +kernel
theorem cnt_ok {s : Nat} (h : s ≤ 6) : ((grS s).countP (fun p => decide (fw p.1 p.2 = (s : Int))) : Nat) = plcZ s ∧ ((grS s).countP (fun p => decide (fw p.1 p.2 ≤ (s : Int))) : Nat) = wthZ s := by
  have : s = 0 ∨ s = 1 ∨ s = 2 ∨ s = 3 ∨ s = 4 ∨ s = 5 ∨ s = 6 := by omega
  rcases this with rfl | rfl | rfl | rfl | rfl | rfl | rfl
  · exact ⟨congrArg Int.ofNat cnt_0.1, congrArg Int.ofNat cnt_0.2⟩
  · exact ⟨congrArg Int.ofNat cnt_1.1, congrArg Int.ofNat cnt_1.2⟩
  · exact ⟨congrArg Int.ofNat cnt_2.1, congrArg Int.ofNat cnt_2.2⟩
  · exact ⟨congrArg Int.ofNat cnt_3.1, congrArg Int.ofNat cnt_3.2⟩
  · exact ⟨congrArg Int.ofNat cnt_4.1, congrArg Int.ofNat cnt_4.2⟩
  · exact ⟨congrArg Int.ofNat cnt_5.1, congrArg Int.ofNat cnt_5.2⟩
  · exact ⟨congrArg Int.ofNat cnt_6.1, congrArg Int.ofNat cnt_6.2⟩
theorem rg_mem {s : Nat} {x : Int} : x ∈ rgS s ↔ -2 * (s : Int) ≤ x ∧ x ≤ 2 * s := by
  unfold rgS
  rw [List.mem_map]
  constructor
  · rintro ⟨i, hi, rfl⟩
    have := List.mem_range.mp hi
    omega
  · rintro ⟨h1, h2⟩
    exact ⟨(x + 2 * s).toNat, List.mem_range.mpr (by omega), by omega⟩
theorem gr_mem {s : Nat} {p : Pt} : p ∈ grS s ↔ (-2 * (s : Int) ≤ p.1 ∧ p.1 ≤ 2 * s) ∧ -2 * (s : Int) ≤ p.2 ∧ p.2 ≤ 2 * s := by
  unfold grS
  rw [List.mem_flatMap]
  constructor
  · rintro ⟨x, hx, h⟩
    obtain ⟨y, hy, rfl⟩ := List.mem_map.mp h
    exact ⟨rg_mem.mp hx, rg_mem.mp hy⟩
  · rintro ⟨h1, h2⟩
    exact ⟨p.1, rg_mem.mpr h1, List.mem_map.mpr ⟨p.2, rg_mem.mpr h2, rfl⟩⟩
theorem nodup_le {α : Type} [DecidableEq α] : ∀ {l m : List α}, l.Nodup → (∀ a ∈ l, a ∈ m) → l.length ≤ m.length
  | [], m, _, _ => Nat.zero_le _
  | a :: l, m, hn, h => by
    obtain ⟨h1, h2⟩ := List.nodup_cons.mp hn
    have i := nodup_le (l := l) (m := m.erase a) h2 fun b hb => (List.mem_erase_of_ne (by rintro rfl; exact h1 hb)).mpr (h b (List.mem_cons_of_mem _ hb))
    have e := List.length_erase_of_mem (h a List.mem_cons_self)
    have := List.length_pos_of_mem (h a List.mem_cons_self)
    rw [List.length_cons]
    omega
theorem nodup_map' {α β : Type} {f : α → β} (hf : ∀ a b, f a = f b → a = b) : ∀ {l : List α}, l.Nodup → (l.map f).Nodup
  | [], _ => List.nodup_nil
  | a :: l, h => by
    obtain ⟨h1, h2⟩ := List.nodup_cons.mp h
    rw [List.map_cons]
    refine List.nodup_cons.mpr ⟨fun hm => ?_, nodup_map' hf h2⟩
    obtain ⟨b, hb, e⟩ := List.mem_map.mp hm
    rw [hf _ _ e] at hb
    exact h1 hb
theorem rg_nodup (s : Nat) : (rgS s).Nodup := nodup_map' (fun a b e => by omega) List.nodup_range
theorem flat_nodup {r : List Int} (hr : r.Nodup) : ∀ {q : List Int}, q.Nodup → (q.flatMap fun x => r.map fun y => ((x, y) : Pt)).Nodup
  | [], _ => List.nodup_nil
  | x :: q, h => by
    obtain ⟨h1, h2⟩ := List.nodup_cons.mp h
    rw [List.flatMap_cons]
    refine List.nodup_append.mpr ⟨nodup_map' (fun a b e => by cases e; rfl) hr, flat_nodup hr h2, fun a ha b hb e => ?_⟩
    obtain ⟨y, _, rfl⟩ := List.mem_map.mp ha
    obtain ⟨z, hz, hb⟩ := List.mem_flatMap.mp hb
    obtain ⟨w, _, rfl⟩ := List.mem_map.mp hb
    cases e
    exact h1 hz
theorem gr_nodup (s : Nat) : (grS s).Nodup := flat_nodup (rg_nodup s) (rg_nodup s)
theorem fw_gr {p : Pt} {s : Nat} (h : fw p.1 p.2 ≤ s) : p ∈ grS s := by
  obtain ⟨b1, b2⟩ := fw_big p.1 p.2
  exact gr_mem.mpr (by omega)
/-- all places that are just so far away -/
theorem len_is {s : Nat} {l : List Pt} (hs : s ≤ 6) (hn : l.Nodup) (h : ∀ p, p ∈ l ↔ fw p.1 p.2 = s) : (l.length : Int) = plcZ s := by
  rw [← (cnt_ok hs).1, List.countP_eq_length_filter]
  have a := nodup_le (l := l) (m := (grS s).filter fun p => decide (fw p.1 p.2 = (s : Int))) hn fun p hp => List.mem_filter.mpr ⟨fw_gr (by rw [(h p).mp hp]; exact Int.le_refl _), decide_eq_true ((h p).mp hp)⟩
  have b := nodup_le (l := (grS s).filter fun p => decide (fw p.1 p.2 = (s : Int))) (m := l) (List.Pairwise.filter _ (gr_nodup s)) fun p hp => (h p).mpr (of_decide_eq_true (List.mem_filter.mp hp).2)
  omega
/-! ### what trying comes to -/
def stp (acc : List Pt × List Pt) (c : Pt) : List Pt × List Pt := if c ∈ acc.1 then acc else (acc.1 ++ [c], acc.2 ++ [c])
theorem tr1_stp (p : Pt) (acc : List Pt × List Pt) (l : Pt) : tr1 p acc l = stp acc (p.1 + l.1, p.2 + l.2) := rfl
theorem stp_all : ∀ (cs : List Pt) (S F : List Pt), ∃ N : List Pt, cs.foldl stp (S, F) = (S ++ N, F ++ N) ∧ N.Nodup ∧ ∀ p, p ∈ N ↔ p ∈ cs ∧ p ∉ S
  | [], S, F => ⟨[], by simp, List.nodup_nil, fun p => by simp⟩
  | c :: cs, S, F => by
    by_cases h : c ∈ S
    · obtain ⟨N, e, n, m⟩ := stp_all cs S F
      refine ⟨N, ?_, n, fun p => ?_⟩
      · rw [List.foldl_cons, show stp (S, F) c = (S, F) by unfold stp; rw [if_pos h]]
        exact e
      · rw [m p, List.mem_cons]
        constructor
        · exact fun ⟨a, b⟩ => ⟨.inr a, b⟩
        · rintro ⟨a | a, b⟩
          · subst a
            exact absurd h b
          · exact ⟨a, b⟩
    · obtain ⟨N, e, n, m⟩ := stp_all cs (S ++ [c]) (F ++ [c])
      refine ⟨c :: N, ?_, ?_, fun p => ?_⟩
      · rw [List.foldl_cons, show stp (S, F) c = (S ++ [c], F ++ [c]) by unfold stp; rw [if_neg h], e, List.append_assoc, List.append_assoc]
        rfl
      · refine List.nodup_cons.mpr ⟨fun hc => ?_, n⟩
        have := ((m c).mp hc).2
        exact this (by simp)
      · rw [List.mem_cons, m p, List.mem_cons, List.mem_append, List.mem_singleton]
        by_cases q : p = c
        · subst q
          simp [h]
        · simp [q]
theorem tr2_flat : ∀ (now : List Pt) (acc : List Pt × List Pt), now.foldl tr2 acc = (now.flatMap fun p => (e8 1 2).map fun l => (p.1 + l.1, p.2 + l.2)).foldl stp acc
  | [], acc => rfl
  | p :: now, acc => by
    rw [List.foldl_cons, tr2_flat now, List.flatMap_cons, List.foldl_append, List.foldl_map]
    rfl
structure TrI (t : Nat) (s : TrS) : Prop where
  hs : ∀ p, p ∈ s.seen ↔ fw p.1 p.2 ≤ t
  hn : ∀ p, p ∈ s.now ↔ fw p.1 p.2 = t
  nn : s.now.Nodup
  fd : s.found = (List.range (t + 1)).map fun (i : Nat) => plcZ i
  ln : (s.seen.length : Int) = wthZ t
theorem TrI.zero : TrI 0 tr0 := by
  refine ⟨fun p => ?_, fun p => ?_, ?_, rfl, rfl⟩
  · have nn := fw_nn p.1 p.2
    constructor
    · intro h
      rw [List.mem_singleton.mp h]
      decide
    · intro h
      obtain ⟨a, b⟩ := fw_zero (x := p.1) (y := p.2) (by omega)
      exact List.mem_singleton.mpr (Prod.ext a b)
  · constructor
    · intro h
      rw [List.mem_singleton.mp h]
      rfl
    · intro h
      obtain ⟨a, b⟩ := fw_zero (x := p.1) (y := p.2) (by omega)
      exact List.mem_singleton.mpr (Prod.ext a b)
  · exact List.nodup_cons.mpr ⟨(fun h => nomatch h), List.nodup_nil⟩
theorem wth_step {t : Nat} (h : t + 1 ≤ 6) : wthZ ((t + 1 : Nat) : Int) = wthZ t + plcZ ((t + 1 : Nat) : Int) := by
  have : t = 0 ∨ t = 1 ∨ t = 2 ∨ t = 3 ∨ t = 4 ∨ t = 5 := by omega
  rcases this with rfl | rfl | rfl | rfl | rfl | rfl <;> rfl
theorem TrI.step {t : Nat} {s : TrS} (h : TrI t s) (ht : t + 1 ≤ 6) : TrI (t + 1) (tr3 s) := by
  obtain ⟨N, e, n, m⟩ := stp_all (s.now.flatMap fun p => (e8 1 2).map fun l => (p.1 + l.1, p.2 + l.2)) s.seen []
  rw [← tr2_flat] at e
  have mN : ∀ p, p ∈ N ↔ fw p.1 p.2 = ((t + 1 : Nat) : Int) := fun p => by
    rw [m p, h.hs p, List.mem_flatMap]
    constructor
    · rintro ⟨⟨q, hq, hm⟩, hp⟩
      obtain ⟨l, hl, rfl⟩ := List.mem_map.mp hm
      have := fw_near (x := q.1) (y := q.2) (kn_e8 l hl)
      rw [(h.hn q).mp hq] at this
      show fw (q.1 + l.1) (q.2 + l.2) = _
      have hp : ¬ fw (q.1 + l.1) (q.2 + l.2) ≤ t := hp
      omega
    · intro hp
      refine ⟨?_, by omega⟩
      obtain ⟨l, hl, e⟩ := fw_down (x := p.1) (y := p.2) (by
        rintro ⟨a, b⟩
        rw [a, b, fw_0] at hp
        omega)
      exact ⟨(p.1 - l.1, p.2 - l.2), (h.hn _).mpr (by show fw (p.1 - l.1) (p.2 - l.2) = _; omega), List.mem_map.mpr ⟨l, hl, Prod.ext (Int.sub_add_cancel _ _) (Int.sub_add_cancel _ _)⟩⟩
  have lN := len_is ht n mN
  have e3 : tr3 s = ⟨s.seen ++ N, N, s.found ++ [(N.length : Int)]⟩ := by
    unfold tr3
    rw [e]
    rfl
  rw [e3]
  refine ⟨fun p => ?_, mN, n, ?_, ?_⟩
  · show p ∈ s.seen ++ N ↔ _
    rw [List.mem_append, h.hs p, mN p]
    omega
  · show s.found ++ [(N.length : Int)] = _
    rw [lN, h.fd, List.range_succ (n := t + 1), List.map_append]
    rfl
  · show ((s.seen ++ N).length : Int) = _
    rw [List.length_append, wth_step ht, ← h.ln, ← lN]
    omega
end LW
set_option Elab.async false
set_option linter.all false
set_option maxRecDepth 100000
set_option maxHeartbeats 4000000
namespace LW
open PySem PySem.Spec PyProof.Rows L2 Evl
/-! ### promises: how many places; counts of leaps -/
def R_eight (ds : List PyData) (es : List PyData) : Prop := ∃ a b, ds = [.tuple [.int a, .int b]] ∧ es = e8D a b ∧ 0 ≤ a ∧ 0 ≤ b ∧ 0 < a + b
theorem len_R_eight : ∀ ds d, R_eight ds d → ds.length = 1 := fun ds d ⟨i, j, h, _⟩ => by rw [h] <;> rfl
theorem r_eight {a b : Int} (h : 0 ≤ a ∧ 0 ≤ b ∧ 0 < a + b) : R_eight [.tuple [.int a, .int b]] (e8D a b) := ⟨a, b, rfl, rfl, h⟩
def R_asked_many (ds : List PyData) (d : PyData) : Prop := ∃ m, ds = [.int m] ∧ d = .none ∧ 0 ≤ m
theorem len_R_asked_many : ∀ ds d, R_asked_many ds d → ds.length = 1 := fun ds d ⟨i, h, _⟩ => by rw [h] <;> rfl
theorem r_asked_many {m : Int} (h : 0 ≤ m) : R_asked_many [.int m] .none := ⟨m, rfl, rfl, h⟩
def R_places (ds : List PyData) (d : PyData) : Prop := ∃ m, ds = [.int m] ∧ d = .int (plcZ m) ∧ 0 ≤ m ∧ Sm 3000 m
theorem len_R_places : ∀ ds d, R_places ds d → ds.length = 1 := fun ds d ⟨i, h, _⟩ => by rw [h] <;> rfl
theorem r_places {m : Int} (h : 0 ≤ m ∧ Sm 3000 m) : R_places [.int m] (.int (plcZ m)) := ⟨m, rfl, rfl, h⟩
def R_within (ds : List PyData) (d : PyData) : Prop := ∃ m, ds = [.int m] ∧ d = .int (wthZ m) ∧ 0 ≤ m ∧ Sm 3000 m
theorem len_R_within : ∀ ds d, R_within ds d → ds.length = 1 := fun ds d ⟨i, h, _⟩ => by rw [h] <;> rfl
theorem r_within {m : Int} (h : 0 ≤ m ∧ Sm 3000 m) : R_within [.int m] (.int (wthZ m)) := ⟨m, rfl, rfl, h⟩
theorem plc_at {m : Int} (h0 : 0 ≤ m) (h1 : m < 5) : atI (([1, 8, 32, 68, 96] : List Int).map PyData.int) m = some (.int (([1, 8, 32, 68, 96] : List Int).getD m.toNat 0)) := by
  have : m = 0 ∨ m = 1 ∨ m = 2 ∨ m = 3 ∨ m = 4 := by omega
  rcases this with rfl | rfl | rfl | rfl | rfl <;> rfl
theorem wth_at {m : Int} (h0 : 0 ≤ m) (h1 : m < 4) : atI (([1, 9, 41, 109] : List Int).map PyData.int) m = some (.int (([1, 9, 41, 109] : List Int).getD m.toNat 0)) := by
  have : m = 0 ∨ m = 1 ∨ m = 2 ∨ m = 3 := by omega
  rcases this with rfl | rfl | rfl | rfl <;> rfl
theorem plc_far {m : Int} (h : 4 < m) : plcZ m = 28 * m - 20 := by
  unfold plcZ
  rw [if_neg (by omega)]
theorem wth_far {m : Int} (h : 3 < m) : wthZ m = 14 * m * m - 6 * m + 5 := by
  unfold wthZ
  rw [if_neg (by omega)]
theorem wth_next {m : Int} (h : 0 ≤ m) : wthZ (m + 1) - wthZ m = plcZ (m + 1) := by
  by_cases h4 : 3 < m
  · rw [wth_far h4, wth_far (by omega), plc_far (by omega)]
    have e : 14 * (m + 1) * (m + 1) = 14 * m * m + 28 * m + 14 := by
      rw [Int.mul_add (14 * (m + 1)), Int.mul_one, Int.mul_add 14 m 1, Int.add_mul]
      omega
    rw [e]
    omega
  · have : m = 0 ∨ m = 1 ∨ m = 2 ∨ m = 3 := by omega
    rcases this with rfl | rfl | rfl | rfl <;> rfl
/-! ### isinstance where there are no answers -/
inductive TyD0 : PyData → Value → Prop
  | non : TyD0 .none (.type "NoneType")
  | bl (b : Bool) : TyD0 (.bool b) (.type "bool")
  | int (i : Int) : TyD0 (.int i) (.type "int")
  | str (x : Str) : TyD0 (.str x) (.type "str")
  | lst (ds : List PyData) : TyD0 (.list ds) (.type "list")
  | tup (ds : List PyData) : TyD0 (.tuple ds) (.type "tuple")
  | dct : TyD0 (.dict []) (.type "dict")
section
variable {T : Tx} {ρ : List Sl} {te : TE} {d : PyData}
theorem Ok.ty0 {H : Hp} {v : V} {t : Value} (k : Ok T H v d) (h : TyD0 d t) : TyX T.K H v t := by
  cases h with
  | non => cases k; exact .base .non
  | bl b => cases k; exact .base (.bl b)
  | int i => cases k; exact .base (.int i)
  | str x => cases k; exact .base (.str x)
  | lst ds =>
    cases k with
    | lst h a => exact .base (.lst h)
  | tup ds =>
    cases k with
    | tup h a => exact sqT_ty h
  | dct =>
    cases k with
    | dct h => exact .base (.dK h)
theorem ed_isi0 {c : V} {w t : Value} {b : Bool} (h : EvB T te ρ d) (hc : ClsV c w) (ht : TyD0 d t) (hk : PySem.W.kitOne T.K t w = some b) : EvD T (tCB (rIsi T.K) (tCons te (tCons (tC c) tNil))) ρ (.bool b) := fun σ F0 H0 F H E Q q =>
  h σ F0 H0 F H E _ fun v F1 H1 g k => ⟨v, c, t, w, b, rfl, hc, k.ty0 ht, hk, q _ F1 H1 g (.bl b)⟩
end
def R_law_behind (ds : List PyData) (d : PyData) : Prop := ∃ a b cs m, ds = [.tuple [.int a, .int b], .list (cs.map .int), .int m] ∧ d = .tuple [.int (led1 a b (dn cs m)), .int (led2 a b (dn cs m))] ∧ LC a b cs ∧ 0 ≤ m
theorem len_R_law_behind : ∀ ds d, R_law_behind ds d → ds.length = 3 := fun ds d ⟨_, _, _, _, h, _⟩ => by rw [h] <;> rfl
theorem r_law_behind {a b m : Int} {cs : List Int} (h : LC a b cs ∧ 0 ≤ m) : R_law_behind [.tuple [.int a, .int b], .list (cs.map .int), .int m] (.tuple [.int (led1 a b (dn cs m)), .int (led2 a b (dn cs m))]) := ⟨a, b, cs, m, rfl, rfl, h⟩
def R_tried (ds : List PyData) (d : PyData) : Prop := ∃ m : Nat, ds = [.int m] ∧ d = .list (((List.range (m + 1)).map fun (i : Nat) => plcZ i).map .int) ∧ m ≤ 6
theorem len_R_tried : ∀ ds d, R_tried ds d → ds.length = 1 := fun ds d ⟨_, h, _⟩ => by rw [h] <;> rfl
theorem r_tried {m : Nat} (h : m ≤ 6) : R_tried [.int m] (.list (((List.range (m + 1)).map fun (i : Nat) => plcZ i).map .int)) := ⟨m, rfl, rfl, h⟩
end LW
set_option Elab.async false
set_option linter.all false
set_option maxRecDepth 100000
set_option maxHeartbeats 4000000
namespace LW
open PySem PySem.Spec PyProof.Rows L2 Evl
/-! ### defs that may raise -/
/-- on such data it is worth such data, or an error of such a class is raised -/
def spX (T : Tx) (R : List PyData → PyData → Prop) (Er : List PyData → Addr → Prop) : Sp := fun vs H Q E => ∃ (F : Hp) (ds : List PyData), Ex F H ∧ OkAll T F vs ds ∧
  ((∃ d, R ds d ∧ ∀ v F1 H1, Gr F H F1 H1 → Ok T F1 v d → Q v H1) ∨ (∃ C, Er ds C ∧ ∀ F1 H1, Gr F H F1 H1 → E (.ref C) none H1))
theorem spX_len {T : Tx} {R : List PyData → PyData → Prop} {Er : List PyData → Addr → Prop} {n : Nat} (h : ∀ ds d, R ds d → ds.length = n) (h2 : ∀ ds C, Er ds C → ds.length = n) : ∀ vs H Q E, spX T R Er vs H Q E → vs.length = n := fun vs H Q E ⟨F, ds, e, ok, r⟩ => by
  rcases r with ⟨d, r, _⟩ | ⟨C, r, _⟩
  · rw [ok.length, h ds d r]
  · rw [ok.length, h2 ds C r]
/-- a def that may raise, where it stands -/
structure CalX (P : Program) (w : World) (K : PySem.W.Frag) (mg : Str → Option Value) (base : Heap) (k : Nat) (x : Str) (ps : List Str) (sp : Sp) : Prop where
  ex : ∃ f fd, FnOk P w K mg base (L2.CX P w) k f fd ps sp ∧ mg x = some (.ref f) ∧ PySem.W.keepIn K (.ref f) = true ∧ Binds K fd ps []
theorem DefAt.calX {P : Program} {w : World} {K : PySem.W.Frag} {mg : Str → Option Value} {base : Heap} {x : Str} {st : Stmt} {ps : List Str} {k : Nat} {sp : Sp} (D : DefAt K mg x st ps) (h : ∀ f fd, Fun K x x st f fd → FnOk P w K mg base (L2.CX P w) k f fd ps sp) : CalX P w K mg base k x ps sp := by
  obtain ⟨f, fd, F, g, b⟩ := D.ex
  exact ⟨f, fd, h f fd F, g, F.kp, b⟩
section
variable {X : Cx} {a b e : Expr} {es : List Expr} {ta tb te : TE} {t : TA} {pos p : Pos}
theorem x_callX {W : WX} {k : Nat} {x : Str} {ps : List Str} {sp : Sp} (c : CalX X.prog X.w X.K X.mg X.base k x ps sp) (hr : Room k X.A) (tk : Takes X W) (ha : PA X (e :: es) t) (hg : Gl X x := by rfl) (hdb : (x == ("__debug__" : Str)) = false := by decide)
    (he : starEach (e :: es) X.env = (false, eval e X.env) :: starEach es X.env := by rfl) (hpl : (backTo pos (starEach es X.env)).any (·.1) = false := by rfl) : PE X (.Call (.Name x p) (e :: es) [] pos) (tCallS sp (WE W) t) := by
  obtain ⟨f, fd, G, g, kp, b⟩ := c.ex
  exact pe_callS G hr hg g kp b (fun σ => passAt tk σ) ha hdb he hpl
/-- raise C('..') -/
def tRaise (W : WX) (C : Addr) : TS := fun _ σ H => W (.ref C) none σ H
structure ErrF (K : PySem.W.Frag) (mg : Str → Option Value) (x : Str) (C : Addr) : Prop where
  g : mg x = some (.ref C)
  xP : PySem.W.excIn K C [.type "ValueError", .type "Exception", .type "BaseException", .type "object"] "ValueError.__new__" = true
  kP : PySem.W.keepIn K (.ref C) = true
  bP : PySem.W.subIn K (.ref C) (.type "BaseException") = some true
  tP : PySem.W.typeIn K (.ref C) = some (.type "type")
theorem x_raise {W : WX} {x m : Str} {C : Addr} {j : Nat} {p2 p3 p4 : Pos} (hc : X.calm = true) (tk : Takes X W) (r : ErrF X.K X.mg x C) (hg : Gl X x := by rfl) (hdb : (x == ("__debug__" : Str)) = false := by decide) :
    PS X (.Raise (some (.Call (.Name x p) [.Constant (.str m) j p2] [] p3)) none p4) (tRaise W C) :=
  ps_raise hc tk (pmk_own PySem.F.excBase_ValueError r.xP r.g r.kP (raises_own r.bP r.tP) hg hdb)
end
section
variable {T : Tx} {ρ ρ1 : List Sl} {ta tb te : TE} {t : TT} {ts tu : TS} {d : PyData} {ds : List PyData} {o : Out} {W : WX} {C : Addr}
/-- an expression that raises -/
def EvR (T : Tx) (te : TE) (ρ : List Sl) (W : WX) (C : Addr) : Prop := ∀ (σ : L2.St) (F0 H0 F H : Hp), En T F0 H0 F H σ ρ → (∀ F1 H1, Gr F H F1 H1 → W (.ref C) none σ H1) → ∀ Q : VK, te σ H Q
theorem er_call {R : List PyData → PyData → Prop} {Er : List PyData → Addr → Prop} {tr : TA} (h : EvA T tr ρ ds) (hr : Er ds C) : EvR T (tCallS (spX T R Er) (WE W) tr) ρ W C := fun σ F0 H0 F H E q Q => h σ F0 H0 F H E _ fun vs F1 H1 g k =>
  ⟨F1, ds, g.sub, k, .inr ⟨C, hr, fun F2 H2 g2 => q F2 H2 (g.trans g2)⟩⟩
theorem ed_callX {R : List PyData → PyData → Prop} {Er : List PyData → Addr → Prop} {E : L2.St → XK} {tr : TA} (h : EvA T tr ρ ds) (hr : R ds d) : EvD T (tCallS (spX T R Er) E tr) ρ d := fun σ F0 H0 F H En' Q q => h σ F0 H0 F H En' _ fun vs F1 H1 g k =>
  ⟨F1, ds, g.sub, k, .inl ⟨d, hr, fun v F2 H2 g2 kv => q v F2 H2 (g.trans g2) kv⟩⟩
theorem er_ifT (h : EvT T t ρ true) (h1 : EvR T ta ρ W C) : EvR T (tIf t ta tb) ρ W C := fun σ F0 H0 F H E q Q => h σ F0 H0 F H E _ fun F1 H1 g => by
  show ta σ H1 Q
  exact h1 σ F0 H0 F1 H1 (E.mono g) (fun F2 H2 g2 => q F2 H2 (g.trans g2)) Q
theorem er_ifF (h : EvT T t ρ false) (h1 : EvR T tb ρ W C) : EvR T (tIf t ta tb) ρ W C := fun σ F0 H0 F H E q Q => h σ F0 H0 F H E _ fun F1 H1 g => by
  show tb σ H1 Q
  exact h1 σ F0 H0 F1 H1 (E.mono g) (fun F2 H2 g2 => q F2 H2 (g.trans g2)) Q
theorem se_dropR (h : EvR T te ρ W C) : SeD T (tDrop te) ρ (.rx W C ρ) := fun σ F0 H0 F H D E k => h σ F0 H0 F H E (fun F1 H1 g => k σ F1 H1 (E.mono g)) _
theorem se_retR (h : EvR T te ρ W C) : SeD T (tRet te) ρ (.rx W C ρ) := fun σ F0 H0 F H D E k => h σ F0 H0 F H E (fun F1 H1 g => k σ F1 H1 (E.mono g)) _
theorem se_raise : SeD T (tRaise W C) ρ (.rx W C ρ) := fun σ F0 H0 F H D E k => k σ F H E
theorem fn_x {R : List PyData → PyData → Prop} {Er : List PyData → Addr → Prop} {vs : List V} {H : Hp} {Q : VK} {E : XK} {N : List Str} (h : spX T R Er vs H Q E) (k : ∀ ds d, R ds d → SeD T ts (stR N ds) (.rt d) ∨ (d = .none ∧ ∃ ρ', SeD T ts (stR N ds) (.nx ρ')))
    (kx : ∀ ds C, Er ds C → ∃ ρ', SeD T ts (stR N ds) (.rx (fun cls d _ H => E cls d H) C ρ')) : ts { nx := fun _ H' => Q .non H', rt := Q } (L2.start N vs) H := by
  obtain ⟨F, ds, e, ok, r⟩ := h
  rcases r with ⟨d, r, q⟩ | ⟨C, r, q⟩
  · rcases k ds d r with s | ⟨rfl, ρ', s⟩
    · exact s _ F H F H _ (en_start e ok) fun v F1 H1 g a => q v F1 H1 g a
    · exact s _ F H F H _ (en_start e ok) fun σ F1 H1 E1 _ => q .non F1 H1 E1.gr .non
  · obtain ⟨ρ', s⟩ := kx ds C r
    exact s _ F H F H _ (en_start e ok) fun σ F1 H1 E1 => q F1 H1 E1.gr
/-! #### try .. except .. as -/
theorem se_try {tb : WX → TS} {hs : Addr → Value → Option Addr → TS} {K : PySem.W.Frag} {c : Value} {i : Nat} {Wout : WX} (hb : ∀ W, SeD T (tb W) ρ (.rx W C ρ1)) (hm : PySem.W.exmOne K (.ref C) c = some true) (hh : ∀ a, SeD T (hs a (.ref C) none) (ρ1.set i (.ad a)) (.rt d)) :
    SeD T (fun D σ H => tb (wAs K c i hs Wout D) D σ H) ρ (.rt d) := fun σ F0 H0 F H D E k => by
  refine hb _ σ F0 H0 F H D E fun σ1 F1 H1 E1 => ⟨true, hm, fun _ a ha => ?_, fun e => nomatch e⟩
  refine hh a _ F0 H0 F1 H1 _ (E1.setS (v := .ref a) (s := .ad a) rfl fun j t l _ _ _ hq => hq.elim) ?_
  exact fun v F2 H2 g kv => k v F2 H2 g kv
/-- isinstance of an error in hand -/
def rIsX (K : PySem.W.Frag) (cls : Value) (dd : Option Addr) (a : Addr) : List V → Hp → VK → Prop := fun xs H Q => ∃ D, cls = .ref D ∧ dd = none ∧ ExcC K D ∧ rIsE K D a xs H Q
theorem call_isX {X : Cx} {a : Addr} {oe : Obj} {pn : List (Addr × Obj)} {cls : Value} {dd : Option Addr} (hz : Zc cls dd oe) (hf : ∃ vs, oe.data = .fields vs) : CallR (X.suite a ((a, oe) :: pn)) (.builtin "isinstance") (rIsX X.K cls dd a) := by
  intro pins s σ H xs us Q I r h
  obtain ⟨D, rfl, rfl, EC, h⟩ := h
  exact call_isE EC hz hf pins s σ H xs us Q I r h
theorem ed_isX {K : PySem.W.Frag} {a D : Addr} {i : Nat} {c : V} {cv : Value} {b : Bool} (hi : ρ[i]? = some (.ad a)) (EC : ExcC K D) (hc : ∀ u, L2.RelV c u → u = cv) (hk : PySem.W.kitOne K (.ref D) cv = some b) : EvD T (tCB (rIsX K (.ref D) none a) (tCons (tVar i) (tCons (tC c) tNil))) ρ (.bool b) := fun σ F0 H0 F H E Q q => by
  have hs : σ[i]? = some (some (.ref a)) := E.ok i _ hi
  exact ⟨.ref a, hs, ⟨D, rfl, rfl, EC, c, cv, b, rfl, hc, hk, q _ F H (Gr.refl E.sub) (.bl b)⟩⟩
end
/-! ### data of any kind that the law hands in -/
def simpD : PyData → Bool
  | .none => true
  | .bool _ => true
  | .int _ => true
  | .str _ => true
  | .list ds => decide (ds.length ≤ 1000)
  | .tuple ds => decide (ds.length ≤ 1000)
  | .dict [] => true
  | _ => false
def simp2 : PyData → Bool
  | .list ds => decide (ds.length ≤ 1000) && ds.all simpD
  | .tuple ds => decide (ds.length ≤ 1000) && ds.all simpD
  | d => simpD d
def numB : PyData → Bool
  | .int _ => true
  | _ => false
def nnB : PyData → Bool
  | .int m => decide (0 ≤ m)
  | _ => false
def pairB : PyData → Bool
  | .tuple ds => decide (ds.length = 2) && ds.all numB
  | _ => false
def cntB : PyData → Bool
  | .list ds => decide (ds.length = 8) && ds.all nnB
  | _ => false
theorem simp2_1 {x : PyData} (h : simp2 x = true) : simpD x = true := by
  cases x with
  | list ds =>
    simp only [simp2, Bool.and_eq_true] at h
    exact h.1
  | tuple ds =>
    simp only [simp2, Bool.and_eq_true] at h
    exact h.1
  | _ => exact h
def R_isn (ds : List PyData) (d : PyData) : Prop := ∃ x, ds = [x] ∧ d = .bool (numB x) ∧ simpD x = true
theorem len_R_isn : ∀ ds d, R_isn ds d → ds.length = 1 := fun ds d ⟨_, h, _⟩ => by rw [h] <;> rfl
theorem r_isn {x : PyData} (h : simpD x = true) : R_isn [x] (.bool (numB x)) := ⟨x, rfl, rfl, h⟩
def R_isp (ds : List PyData) (d : PyData) : Prop := ∃ x, ds = [x] ∧ d = .bool (pairB x) ∧ simp2 x = true
theorem len_R_isp : ∀ ds d, R_isp ds d → ds.length = 1 := fun ds d ⟨_, h, _⟩ => by rw [h] <;> rfl
theorem r_isp {x : PyData} (h : simp2 x = true) : R_isp [x] (.bool (pairB x)) := ⟨x, rfl, rfl, h⟩
def R_arc (ds : List PyData) (d : PyData) : Prop := ∃ x, ds = [x] ∧ d = .bool (cntB x) ∧ simp2 x = true
theorem len_R_arc : ∀ ds d, R_arc ds d → ds.length = 1 := fun ds d ⟨_, h, _⟩ => by rw [h] <;> rfl
theorem r_arc {x : PyData} (h : simp2 x = true) : R_arc [x] (.bool (cntB x)) := ⟨x, rfl, rfl, h⟩
theorem bb_vErr : bootBuiltins "ValueError" = some (.type "ValueError") := by decide +kernel
section
variable {X : Cx} {a b e : Expr} {ta tb te : TE} {pos p : Pos}
theorem x_vErr (hm : X.mg "ValueError" = none) (hg : Gl X "ValueError" := by rfl) : PE X (.Name "ValueError" pos) (tC (.ty "ValueError")) := pe_bltn hg hm bb_vErr rfl
theorem x_repT (T : Tx) (ha : PE X a ta) (hb : PE X b tb) (hK : X.K = T.K := by rfl) : PE X (.BinOp a .Mult b pos) (tOp (rRepT T.K) ta tb) := by
  rw [← hK]
  exact pe_op op_repT ha hb
theorem x_isX (T : Tx) {ad : Addr} {oe : Obj} {pn : List (Addr × Obj)} {cls : Value} {dd : Option Addr} {cv : V} (B : Bl X.mg) (hz : Zc cls dd oe) (hf : ∃ vs, oe.data = .fields vs) (ha : PE (X.suite ad ((ad, oe) :: pn)) a ta) (hc : PE (X.suite ad ((ad, oe) :: pn)) b (tC cv)) (hg : Gl (X.suite ad ((ad, oe) :: pn)) "isinstance" := by rfl)
    (he : starEach (a :: [b]) X.env = (false, eval a X.env) :: starEach [b] X.env := by rfl) (he2 : starEach [b] X.env = (false, eval b X.env) :: starEach [] X.env := by rfl)
    (hpl : (backTo pos (starEach [b] X.env)).any (·.1) = false := by rfl) (hK : X.K = T.K := by rfl) : PE (X.suite ad ((ad, oe) :: pn)) (.Call (.Name "isinstance" p) [a, b] [] pos) (tCB (rIsX T.K cls dd ad) (tCons ta (tCons (tC cv) tNil))) := by
  rw [← hK]
  exact pe_callB (call_isX hz hf) hg B.isinstance bb_isi (pa_cons ha (pa_cons hc pa_nil he2) he) (by decide) (by decide) he hpl
end
section
variable {T : Tx} {ρ : List Sl} {te ta : TE}
theorem ed_dnew : EvD T tDNewK ρ (.dict []) := fun σ F0 H0 F H E Q q p hp => q _ _ _ (Gr.alloc E.sub hp) (.dct upd_same)
theorem ed_repT8 {x : PyData} (h : EvD T te ρ (.tuple [x])) (hn : EvD T ta ρ (.int 8)) : EvD T (tOp (rRepT T.K) te ta) ρ (.tuple [x, x, x, x, x, x, x, x]) := fun σ F0 H0 F H E Q q => h σ F0 H0 F H E _ fun v F1 H1 g1 k1 => hn σ F0 H0 F1 H1 (E.mono g1) _ fun u F2 H2 g2 k2 => by
  cases k2
  cases k1 with
  | tup hs a =>
    cases a with
    | @cons v0 _ _ _ a1 a2 =>
      cases a2
      refine ⟨_, 8, _, rfl, rfl, ex_t (g1.sub.trans g2.hh) hs, by simp, by decide, by decide, by show 1 ≤ 1000; decide, fun p hp => ?_⟩
      have k := (a1.ex g2.ff).ex (Gr.alloc (o := .tup (List.replicate (Int.toNat 8) [v0]).flatten) g2.sub hp).ff
      exact q _ _ _ ((g1.trans g2).trans (Gr.alloc g2.sub hp)) (.tup (SqT.of upd_same) (.cons k (.cons k (.cons k (.cons k (.cons k (.cons k (.cons k (.cons k .nil)))))))))
end
/-- the facts of the three errors -/
structure ErrK (K : PySem.W.Frag) (CL CP CC LE : Addr) : Prop where
  eL : ExcC K CL
  eP : ExcC K CP
  eC : ExcC K CC
  mL : PySem.W.exmOne K (.ref CL) (.ref LE) = some true
  mP : PySem.W.exmOne K (.ref CP) (.ref LE) = some true
  mC : PySem.W.exmOne K (.ref CC) (.ref LE) = some true
  kLL : PySem.W.kitOne K (.ref CL) (.ref CL) = some true
  kLP : PySem.W.kitOne K (.ref CL) (.ref CP) = some false
  kLC : PySem.W.kitOne K (.ref CL) (.ref CC) = some false
  kPL : PySem.W.kitOne K (.ref CP) (.ref CL) = some false
  kPP : PySem.W.kitOne K (.ref CP) (.ref CP) = some true
  kPC : PySem.W.kitOne K (.ref CP) (.ref CC) = some false
  kCL : PySem.W.kitOne K (.ref CC) (.ref CL) = some false
  kCP : PySem.W.kitOne K (.ref CC) (.ref CP) = some false
  kCC : PySem.W.kitOne K (.ref CC) (.ref CC) = some true
  vL : PySem.W.kitOne K (.ref CL) (.type "ValueError") = some true
  vP : PySem.W.kitOne K (.ref CP) (.type "ValueError") = some true
  vC : PySem.W.kitOne K (.ref CC) (.type "ValueError") = some true
end LW
set_option Elab.async false
set_option linter.all false
set_option maxRecDepth 100000
set_option maxHeartbeats 4000000
namespace LW
open PySem PySem.Spec PyProof.Rows L2 Evl
/-! ### what is refused, and as what -/
def R_no (_ : List PyData) (_ : PyData) : Prop := False
theorem len_R_no {n : Nat} : ∀ ds d, R_no ds d → ds.length = n := fun _ _ h => h.elim
def badL (x : PyData) : Prop := simp2 x = true ∧ (pairB x = false ∨ ∃ a b : Int, x = .tuple [.int a, .int b] ∧ (a < 0 ∨ b < 0 ∨ (a = 0 ∧ b = 0)))
def badP (x : PyData) : Prop := simp2 x = true ∧ pairB x = false
def badM (x : PyData) : Prop := simpD x = true ∧ (numB x = false ∨ ∃ m : Int, x = .int m ∧ m < 0)
def Er_leap (CL : Addr) (ds : List PyData) (C : Addr) : Prop := ∃ x, ds = [x] ∧ badL x ∧ C = CL
theorem len_Er_leap {CL : Addr} : ∀ ds C, Er_leap CL ds C → ds.length = 1 := fun _ _ ⟨_, h, _⟩ => by rw [h] <;> rfl
def Er_place (CP : Addr) (ds : List PyData) (C : Addr) : Prop := ∃ x, ds = [x] ∧ badP x ∧ C = CP
theorem len_Er_place {CL : Addr} : ∀ ds C, Er_place CL ds C → ds.length = 1 := fun _ _ ⟨_, h, _⟩ => by rw [h] <;> rfl
def Er_many (CC : Addr) (ds : List PyData) (C : Addr) : Prop := ∃ x, ds = [x] ∧ badM x ∧ C = CC
theorem len_Er_many {CL : Addr} : ∀ ds C, Er_many CL ds C → ds.length = 1 := fun _ _ ⟨_, h, _⟩ => by rw [h] <;> rfl
def gdL (x : PyData) : Prop := ∃ a b : Int, x = .tuple [.int a, .int b] ∧ 0 ≤ a ∧ 0 ≤ b ∧ 0 < a + b
def badC (y : PyData) : Prop := simp2 y = true ∧ cntB y = false
def Er_pl (CL CC : Addr) (ds : List PyData) (C : Addr) : Prop := ∃ x y, ds = [x, y] ∧ ((badL x ∧ C = CL) ∨ (gdL x ∧ badC y ∧ C = CC))
theorem len_Er_pl {CL CC : Addr} : ∀ ds C, Er_pl CL CC ds C → ds.length = 2 := fun _ _ ⟨_, _, h, _⟩ => by rw [h] <;> rfl
def Er_bh (CL CC : Addr) (ds : List PyData) (C : Addr) : Prop := ∃ x y z, ds = [x, y, z] ∧ ((badL x ∧ C = CL) ∨ (gdL x ∧ badC y ∧ C = CC) ∨ (∃ (a b : Int) (cs : List Int), x = .tuple [.int a, .int b] ∧ y = .list (cs.map .int) ∧ LC a b cs ∧ simpD z = true ∧ (numB z = false ∨ ∃ m : Int, z = .int m ∧ (m < 0 ∨ cs.sum < m)) ∧ C = CC))
theorem len_Er_bh {CL CC : Addr} : ∀ ds C, Er_bh CL CC ds C → ds.length = 3 := fun _ _ ⟨_, _, _, h, _⟩ => by rw [h] <;> rfl
def Er_told (CL CP : Addr) (ds : List PyData) (C : Addr) : Prop := ∃ x y, ds = [x, y] ∧ ((badL x ∧ C = CL) ∨ (gdL x ∧ badP y ∧ C = CP))
theorem len_Er_told {CL CC : Addr} : ∀ ds C, Er_told CL CC ds C → ds.length = 2 := fun _ _ ⟨_, _, h, _⟩ => by rw [h] <;> rfl
def Er_wl (CL : Addr) (ds : List PyData) (C : Addr) : Prop := ∃ (k : Int) (x : PyData), ds = [.int k, x] ∧ 0 ≤ k ∧ k < 4 ∧ badL x ∧ C = CL
theorem len_Er_wl {CL : Addr} : ∀ ds C, Er_wl CL ds C → ds.length = 2 := fun _ _ ⟨_, _, h, _⟩ => by rw [h] <;> rfl
def Er_wp (CP : Addr) (ds : List PyData) (C : Addr) : Prop := ∃ (k : Int) (x : PyData), ds = [.int k, x] ∧ 0 ≤ k ∧ k < 3 ∧ badP x ∧ C = CP
theorem len_Er_wp {CL : Addr} : ∀ ds C, Er_wp CL ds C → ds.length = 2 := fun _ _ ⟨_, _, h, _⟩ => by rw [h] <;> rfl
theorem all_num : ∀ ns : List Int, (ns.map PyData.int).all simpD = true
  | [] => rfl
  | n :: ns => by rw [List.map_cons, List.all_cons, all_num ns] <;> rfl
theorem simp2_ints {cs : List Int} (h : cs.length ≤ 1000) : simp2 (.list (cs.map .int)) = true := by
  show (decide ((cs.map PyData.int).length ≤ 1000) && (cs.map PyData.int).all simpD) = true
  rw [all_num, decide_eq_true (by rw [List.length_map]; exact h)] <;> rfl
theorem cntB_ints {cs : List Int} (h8 : cs.length = 8) (h : ∀ c ∈ cs, 0 ≤ c) : cntB (.list (cs.map .int)) = true := by
  show (decide ((cs.map PyData.int).length = 8) && (cs.map PyData.int).all nnB) = true
  rw [decide_eq_true (by rw [List.length_map]; exact h8), Bool.true_and, List.all_eq_true]
  intro y hy
  obtain ⟨c, hc, rfl⟩ := List.mem_map.mp hy
  exact decide_eq_true (h c hc)
/-! ### the law's own data -/
def pairsL (m : Int) : List PyData := [.none, .tuple [], .tuple [.int 1], .tuple [.int 1, .int 2, .int 3], .list [.int 1, .int 2], .str "12", .int 5, .dict [], .tuple [.none, .int 1], .tuple [.int 1, .str "2"], .tuple [.bool true, .int 2], .tuple [.int 1, .bool false], .tuple [.list [.int 1], .int 2], .tuple [.int 1, .tuple [.int 2]], .tuple [.int m, .none]]
theorem pairs_bad (m : Int) {i : Nat} (h : i < 15) : ∃ x, (pairsL m)[i]? = some x ∧ badP x := by
  have : i = 0 ∨ i = 1 ∨ i = 2 ∨ i = 3 ∨ i = 4 ∨ i = 5 ∨ i = 6 ∨ i = 7 ∨ i = 8 ∨ i = 9 ∨ i = 10 ∨ i = 11 ∨ i = 12 ∨ i = 13 ∨ i = 14 := by omega
  rcases this with rfl | rfl | rfl | rfl | rfl | rfl | rfl | rfl | rfl | rfl | rfl | rfl | rfl | rfl | rfl <;> exact ⟨_, rfl, rfl, rfl⟩
def R_pairs (ds : List PyData) (d : PyData) : Prop := ∃ w m : Int, ds = [.int w, .int m] ∧ atI (pairsL m) (w % 15) = some d
theorem len_R_pairs : ∀ ds d, R_pairs ds d → ds.length = 2 := fun _ _ ⟨_, _, h, _⟩ => by rw [h] <;> rfl
theorem atI_nat {ds : List PyData} {i : Int} {x : PyData} (h0 : 0 ≤ i) (h : ds[i.toNat]? = some x) : atI ds i = some x := by
  have hl := (List.getElem?_eq_some_iff.mp h).1
  unfold atI
  rw [show ixN ds.length i = some i.toNat by unfold ixN; rw [if_pos h0, if_pos (by omega)]]
  exact h
theorem r_pairs (w m : Int) : ∃ x, badP x ∧ R_pairs [.int w, .int m] x := by
  have h0 := Int.emod_nonneg w (show (15 : Int) ≠ 0 by decide)
  have h1 := Int.emod_lt_of_pos w (show (0 : Int) < 15 by decide)
  obtain ⟨x, hx, hb⟩ := pairs_bad m (i := (w % 15).toNat) (by omega)
  exact ⟨x, hb, w, m, rfl, atI_nat h0 hx⟩
def bads8 (m : Int) : List PyData := [.none, .int (-1), .int (-1 - m), .bool true, .str "1", .list [.int 1], .tuple [.int 1], .dict []]
def bc1 : List PyData := [.none, .tuple [.int 1, .int 1, .int 1, .int 1, .int 1, .int 1, .int 1, .int 1], .str "12345678", .dict [], .int 8, .list [], .list [.int 1, .int 1, .int 1, .int 1, .int 1, .int 1, .int 1], .list [.int 1, .int 1, .int 1, .int 1, .int 1, .int 1, .int 1, .int 1, .int 1]]
def base8 (m : Int) : List PyData := [.int m, .int 0, .int 2, .int 1, .int 0, .int 0, .int 3, .int 1]
theorem bc1_bad {i : Nat} (h : i < 8) : ∃ x, bc1[i]? = some x ∧ badC x := by
  have : i = 0 ∨ i = 1 ∨ i = 2 ∨ i = 3 ∨ i = 4 ∨ i = 5 ∨ i = 6 ∨ i = 7 := by omega
  rcases this with rfl | rfl | rfl | rfl | rfl | rfl | rfl | rfl <;> exact ⟨_, rfl, rfl, rfl⟩
theorem bads8_ok {m : Int} (hm : 0 ≤ m) {i : Nat} (h : i < 8) : ∃ x, (bads8 m)[i]? = some x ∧ simpD x = true ∧ nnB x = false := by
  have : i = 0 ∨ i = 1 ∨ i = 2 ∨ i = 3 ∨ i = 4 ∨ i = 5 ∨ i = 6 ∨ i = 7 := by omega
  rcases this with rfl | rfl | rfl | rfl | rfl | rfl | rfl | rfl
  · exact ⟨_, rfl, rfl, rfl⟩
  · exact ⟨_, rfl, rfl, rfl⟩
  · exact ⟨_, rfl, rfl, decide_eq_false (by omega)⟩
  · exact ⟨_, rfl, rfl, rfl⟩
  · exact ⟨_, rfl, rfl, rfl⟩
  · exact ⟨_, rfl, rfl, rfl⟩
  · exact ⟨_, rfl, rfl, rfl⟩
  · exact ⟨_, rfl, rfl, rfl⟩
theorem set_bad {m : Int} {k : Nat} {x : PyData} (hk : k < 8) (hs : simpD x = true) (hx : nnB x = false) : badC (.list ((base8 m).set k x)) := by
  have hl : ((base8 m).set k x).length = 8 := by rw [List.length_set]; rfl
  have hb : ∀ y ∈ (base8 m).set k x, simpD y = true := fun y hy => by
    rcases List.mem_or_eq_of_mem_set hy with h | rfl
    · unfold base8 at h
      simp only [List.mem_cons, List.not_mem_nil, or_false] at h
      rcases h with rfl | rfl | rfl | rfl | rfl | rfl | rfl | rfl <;> rfl
    · exact hs
  refine ⟨?_, ?_⟩
  · show (decide (((base8 m).set k x).length ≤ 1000) && ((base8 m).set k x).all simpD) = true
    rw [decide_eq_true (by omega), Bool.true_and, List.all_eq_true]
    exact hb
  · show (decide (((base8 m).set k x).length = 8) && ((base8 m).set k x).all nnB) = false
    have hm : x ∈ (base8 m).set k x := List.mem_set (by show k < 8; exact hk) x
    cases e : ((base8 m).set k x).all nnB with
    | false => rw [Bool.and_false]
    | true =>
      have := List.all_eq_true.mp e x hm
      rw [hx] at this
      cases this
def R_bcs (ds : List PyData) (d : PyData) : Prop := ∃ w m : Int, ds = [.int w, .int m] ∧ 0 ≤ w ∧ 0 ≤ m ∧ ((w % 16 < 8 ∧ atI bc1 (w % 16) = some d) ∨ (8 ≤ w % 16 ∧ ∃ x, atI (bads8 m) (w % 16 - 8) = some x ∧ d = .list ((base8 m).set (w / 16 % 8).toNat x)))
theorem len_R_bcs : ∀ ds d, R_bcs ds d → ds.length = 2 := fun _ _ ⟨_, _, h, _⟩ => by rw [h] <;> rfl
theorem r_bcs {w m : Int} (hw : 0 ≤ w) (hm : 0 ≤ m) : ∃ x, badC x ∧ R_bcs [.int w, .int m] x := by
  have h0 := Int.emod_nonneg w (show (16 : Int) ≠ 0 by decide)
  have h1 := Int.emod_lt_of_pos w (show (0 : Int) < 16 by decide)
  by_cases h : w % 16 < 8
  · obtain ⟨x, hx, hb⟩ := bc1_bad (i := (w % 16).toNat) (by omega)
    exact ⟨x, hb, w, m, rfl, hw, hm, .inl ⟨h, atI_nat h0 hx⟩⟩
  · obtain ⟨x, hx, hs, hn⟩ := bads8_ok hm (i := (w % 16 - 8).toNat) (by omega)
    exact ⟨_, set_bad (m := m) (k := (w / 16 % 8).toNat) (by omega) hs hn, w, m, rfl, hw, hm, .inr ⟨by omega, x, atI_nat (by omega) hx, rfl⟩⟩
def R_told5 (ds : List PyData) (d : PyData) : Prop := ∃ k w m : Int, ds = [.int k, .int w, .int m] ∧ d = .list ([decide (k = 0), decide (k = 1), decide (1 < k), true].map .bool) ∧ 0 ≤ k ∧ k < 4 ∧ 0 ≤ w ∧ 0 ≤ m ∧ m < 1000
theorem len_R_told5 : ∀ ds d, R_told5 ds d → ds.length = 3 := fun _ _ ⟨_, _, _, h, _⟩ => by rw [h] <;> rfl
theorem r_told5 {k w m : Int} (h : 0 ≤ k ∧ k < 4 ∧ 0 ≤ w ∧ 0 ≤ m ∧ m < 1000) : R_told5 [.int k, .int w, .int m] (.list ([decide (k = 0), decide (k = 1), decide (1 < k), true].map .bool)) := ⟨k, w, m, rfl, rfl, h⟩
def bads10 (m : Int) : List PyData := [.none, .str "1", .bool true, .bool false, .list [.int 1], .tuple [.int 1], .dict [], .int (-1), .int (-1 - m), .int (9 + m)]
theorem bads10_ok {m : Int} (hm : 0 ≤ m) {i : Nat} (h : i < 9) : ∃ x, (bads10 m)[i]? = some x ∧ badM x := by
  have : i = 0 ∨ i = 1 ∨ i = 2 ∨ i = 3 ∨ i = 4 ∨ i = 5 ∨ i = 6 ∨ i = 7 ∨ i = 8 := by omega
  rcases this with rfl | rfl | rfl | rfl | rfl | rfl | rfl | rfl | rfl
  · exact ⟨_, rfl, rfl, .inl rfl⟩
  · exact ⟨_, rfl, rfl, .inl rfl⟩
  · exact ⟨_, rfl, rfl, .inl rfl⟩
  · exact ⟨_, rfl, rfl, .inl rfl⟩
  · exact ⟨_, rfl, rfl, .inl rfl⟩
  · exact ⟨_, rfl, rfl, .inl rfl⟩
  · exact ⟨_, rfl, rfl, .inl rfl⟩
  · exact ⟨_, rfl, rfl, .inr ⟨_, rfl, by decide⟩⟩
  · exact ⟨_, rfl, rfl, .inr ⟨_, rfl, by omega⟩⟩
end LW
set_option Elab.async false
set_option linter.all false
set_option maxRecDepth 100000
set_option maxHeartbeats 4000000
namespace LW
open PySem PySem.Spec PyProof.Rows L2 Evl
/-! one step of an evaluation, by the reading's head -/
set_option hygiene false in
local macro_rules | `(tactic| walk_at "kb") => `(tactic| with_reducible (first | exact kb_NoneType_int | exact kb_NoneType_bool | exact kb_NoneType_tuple | exact kb_NoneType_list | exact kb_NoneType_str | exact kb_bool_int | exact kb_bool_bool | exact kb_bool_tuple | exact kb_bool_list | exact kb_bool_str | exact kb_int_int | exact kb_int_bool | exact kb_int_tuple | exact kb_int_list | exact kb_int_str | exact kb_str_int | exact kb_str_bool | exact kb_str_tuple | exact kb_str_list | exact kb_str_str | exact kb_list_int | exact kb_list_bool | exact kb_list_tuple | exact kb_list_list | exact kb_list_str | exact kb_tuple_int | exact kb_tuple_bool | exact kb_tuple_tuple | exact kb_tuple_list | exact kb_tuple_str | exact kb_dict_int | exact kb_dict_bool | exact kb_dict_tuple | exact kb_dict_list | exact kb_dict_str | exact KT.wa | exact KT.na | exact KT.ww | exact KT.wn | exact KT.nw | exact KT.nn))
set_option hygiene false in
local macro_rules | `(tactic| walk_at "sd") => `(tactic| first | assumption | rfl | decide | omega)
set_option hygiene false in
local macro_rules | `(tactic| walk_at "rv") => `(tactic| with_reducible (first
  | exact rv_add | exact rv_sub | exact rv_eqI | exact rv_neI | exact rv_lt | exact rv_le | exact rv_gt | exact rv_ge
  | apply rv_mul | apply rv_div | apply rv_mod | apply rv_pow
  | exact rv_eqBo | exact rv_neBo | exact rv_isB | exact rv_notB | exact rv_eqP | exact rv_neP
  | exact rv_eqIL | exact rv_neIL | exact rv_eqPL | exact rv_nePL
  | apply rv_ixT | apply rv_ixL | apply rv_ixS | apply rv_cat | apply rv_rep))
set_option hygiene false in
local macro_rules | `(tactic| walk_at "rc") => `(tactic| with_reducible (first
  | exact rc_abs | exact rc_max2 | exact rc_min2 | exact rc_minT | exact rc_maxT | exact rc_lenIL | exact rc_lenL | exact rc_lenT | exact rc_lenS | exact rc_sum | exact rc_all | exact rc_any | apply rc_sumD | apply rc_allD | apply rc_anyD))
set_option hygiene false in
local macro_rules | `(tactic| walk_at "r1") => `(tactic| fail)
set_option hygiene false in
local macro_rules | `(tactic| walk_at "e1") => `(tactic| first
  | (with_reducible exact ed_int) | (with_reducible exact ed_bl) | (with_reducible exact ed_non) | (with_reducible exact ed_str)
  | ((with_reducible apply ed_var); rfl)
  | ((with_reducible apply eb_own); rfl)
  | ((with_reducible apply eb_oway); rfl)
  | (with_reducible apply ea_cons) | (with_reducible exact ea_nil)
  | (with_reducible apply eba_cons) | (with_reducible exact eba_nil)
  | (with_reducible apply ed_tup)
  | ((with_reducible apply ed_ixO); rfl)
  | (with_reducible apply ed_opB (T := _) (r := rEqD _)) | (with_reducible apply ed_opB (T := _) (r := rNeD _)) | (with_reducible apply ed_opB (r := rIsB)) | (with_reducible apply ed_opB (r := rNotB)) | (with_reducible apply ed_opB (r := rInA _))
  | (with_reducible apply ed_op)
  | (with_reducible apply ed_neg)
  | (with_reducible apply ed_and) | (with_reducible apply ed_or) | (with_reducible apply ed_not)
  | (with_reducible apply ed_isi C.aw C.an)
  | (with_reducible apply ed_cbB)
  | (with_reducible apply ed_counts C) | (with_reducible apply ed_by C)
  | (with_reducible apply ed_call)
  | (with_reducible apply EvO.toD (te := tLst _)) | (with_reducible apply eo_lst)
  | (with_reducible apply EvO.toD (te := tSl _ _ _ _)) | (with_reducible apply eo_sl) | (with_reducible apply ep_some) | (with_reducible apply ep_none)
  | (with_reducible apply EvO.toD (te := tCall (spO _ _) _ _ _)) | (with_reducible apply eo_call)
  | (with_reducible apply EvO.toD (te := tCB (rListA _) _)) | ((with_reducible apply eo_listO); rfl) | (with_reducible apply eo_list)
  | (with_reducible apply ed_revP)
  | (with_reducible apply EvD.toB)
  | (with_reducible apply et_test) | (with_reducible apply et_B) | (with_reducible apply et_and) | (with_reducible apply et_or) | (with_reducible apply et_not) | (with_reducible exact et_yes)
  | (with_reducible apply se_next)
  | (with_reducible apply EvO.toD (te := tLc _ _ _ _ _)) | (with_reducible apply eo_lcTo)
  | (with_reducible exact LcTo.nil) | (with_reducible apply LcTo.cons)
  | (with_reducible exact ForTo.nil) | (with_reducible apply ForTo.go)
  | (with_reducible apply ti_tup) | (with_reducible apply ti_list) | (with_reducible apply ti_zip) | (with_reducible apply ti_rng1) | (with_reducible apply ti_rng2)
  | (with_reducible exact tg_name) | (with_reducible exact tg_pair) | (with_reducible exact tg_trip)
  | (with_reducible apply se_seq (ts := tAsg _ _)) | (with_reducible apply se_seq (ts := tPar _ _ _)) | (with_reducible apply se_seq (ts := tDrop _))
  | (with_reducible apply se_asg) | (with_reducible apply se_par) | (with_reducible apply se_asgG) | ((with_reducible apply se_app); rfl) | ((with_reducible apply se_ext); rfl) | ((with_reducible apply se_set); rfl) | (with_reducible apply se_drop)
  | ((with_reducible apply se_retV); rfl) | (with_reducible apply se_ret; with_reducible apply EvD.is)
  | (show atI _ _ = some _; rfl)
  | (show (0 : Int) < _; first | assumption | omega)
  | (exact fun (j : Nat) (hj : j ∈ _) => by revert j; decide)
  | walk_at "rv" | walk_at "rc" | walk_at "kb"
  | (with_reducible exact ClsV.ty _) | (with_reducible exact ClsV.own _)
  | (with_reducible first | exact TyD.non | exact TyD.bl _ | exact TyD.int _ | exact TyD.str _ | exact TyD.lst _ | exact TyD.tup _ | exact TyD.dct | exact TyD.way _ | exact TyD.nev _)
  | walk_at "r1"
  | (intro (_ : _ = true)) | (intro (_ : _ = false))
  | (show List.length _ ≤ 100000; exact Nat.le_of_ble_eq_true rfl) | (show List.length _ < 100000; exact Nat.le_of_ble_eq_true rfl) | (show List.length _ + List.length _ ≤ 100000; exact Nat.le_of_ble_eq_true rfl))
set_option hygiene false in
local macro_rules | `(tactic| walk_at "ev") => `(tactic| (repeat' walk_at "e1"))

/-! a test that is as said; a value handed back -/
set_option hygiene false in
local macro_rules | `(tactic| walk_at "no") => `(tactic| (apply se_cutF; (apply EvT.is; (walk_at "ev"))))
set_option hygiene false in
local macro_rules | `(tactic| walk_at "yes") => `(tactic| (apply se_cutT; (apply EvT.is; (walk_at "ev"))))
set_option hygiene false in
local macro_rules | `(tactic| walk_at "e1") => `(tactic| first
  | (with_reducible apply ed_isi0)
  | (with_reducible first | exact TyD0.non | exact TyD0.bl _ | exact TyD0.int _ | exact TyD0.str _ | exact TyD0.lst _ | exact TyD0.tup _ | exact TyD0.dct))
def topS (i : Nat) : Stmt := PySem.Challenge.pw_leapways_k05_refused.main.body.getD i (.Pass ⟨0, 0, 0, 0⟩)
abbrev s__wall : Stmt := topS 0
abbrev s_is_number : Stmt := topS 7
abbrev s_is_pair : Stmt := topS 8
abbrev s_asked_leap : Stmt := topS 9
abbrev s_asked_place : Stmt := topS 10
abbrev s_eight_of : Stmt := topS 11
abbrev s_eight : Stmt := topS 12
abbrev s_led : Stmt := topS 13
abbrev s_are_counts : Stmt := topS 14
abbrev s_place_of : Stmt := topS 15
abbrev s_behind_of : Stmt := topS 16
abbrev s_behind : Stmt := topS 17
abbrev s_Way___init__ : Stmt := inClass (topS 20) 0
abbrev s_Way_shows : Stmt := inClass (topS 20) 1
abbrev s_Never___init__ : Stmt := inClass (topS 21) 0
abbrev s_Never_shows : Stmt := inClass (topS 21) 1
abbrev s_fewest_of : Stmt := topS 24
abbrev s_fewest : Stmt := topS 25
abbrev s_many_first : Stmt := topS 26
abbrev s_turned : Stmt := topS 27
abbrev s_shortest_of : Stmt := topS 28
abbrev s_shortest : Stmt := topS 29
abbrev s_asked_many : Stmt := topS 30
abbrev s_places : Stmt := topS 31
abbrev s_within : Stmt := topS 32
abbrev s_shared : Stmt := topS 34
abbrev s_signed : Stmt := topS 35
abbrev s_told_of : Stmt := topS 36
abbrev s_told : Stmt := topS 37
abbrev s__law_pairs : Stmt := topS 39
abbrev s__law_with_leap : Stmt := topS 40
abbrev s__law_with_place : Stmt := topS 41
abbrev s__law_bad_counts : Stmt := topS 42
abbrev s__law_told : Stmt := topS 43
abbrev s_law : Stmt := topS 44
section
variable {P : Program} {w : World} {mg : Str → Option Value} {base : Heap} {T : Tx}
local macro_rules | `(tactic| walk_at "r1") => `(tactic| with_reducible (first | apply r_isn | apply r_isp | apply r_arc))
theorem sc_is_number : FnScope ["thing"] ["thing"] (defScope s_is_number) := ⟨rfl, rfl, rfl, by decide +kernel, rfl, by decide +kernel, by decide +kernel⟩
theorem ok_is_number (D : DefAt T.K mg "is_number" s_is_number ["thing"]) (B : Bl mg)  : Cal P w T.K mg base 1 "is_number" ["thing"] (spD T R_isn) := D.cal fun f fd F => by
  refine F.ok sc_is_number ?hlen (fun cdv A outer s H vs Q E hr h => ⟨_, (pss_one (ps_ret (pe_and (x_isi T B (pv 0) (x_int B)) (pe_one (pe_not (x_isi T B (pv 0) (x_bool B))))))), fn_d h (fun ds d r => ?_)⟩)
  case hlen => exact spD_len (n := 1) len_R_isn
  obtain ⟨x, rfl, rfl, hx⟩ := r
  refine .inl ?_
  cases x with
  | none => walk_at "ev"; all_goals rfl
  | bool b => walk_at "ev"; all_goals rfl
  | int n => walk_at "ev"; all_goals rfl
  | str s => walk_at "ev"; all_goals rfl
  | list ds => walk_at "ev"; all_goals rfl
  | tuple ds => walk_at "ev"; all_goals rfl
  | dict ps =>
    cases ps with
    | nil => walk_at "ev"; all_goals rfl
    | cons p ps => cases hx
theorem sc_is_pair : FnScope ["thing", "one"] ["thing"] (defScope s_is_pair) := ⟨rfl, rfl, rfl, by decide +kernel, rfl, by decide +kernel, by decide +kernel⟩
theorem ok_is_pair (D : DefAt T.K mg "is_pair" s_is_pair ["thing"]) (B : Bl mg) (c_is_number : Cal P w T.K mg base 1 "is_number" ["thing"] (spD T R_isn)) : Cal P w T.K mg base 2 "is_pair" ["thing"] (spD T R_isp) := D.cal fun f fd F => by
  refine F.ok sc_is_pair ?hlen (fun cdv A outer s H vs Q E hr h => ⟨_, (pss_one (ps_ret (pe_and (x_isi T B (pv 0) (x_tuple B)) (pe_and (x_eq T hr.units (x_len T B (pv 0)) pe_int) (pe_one (x_all T B (pe_lc (own := [("one", 1)]) (g := (gName 1)) (tt := tYes) rfl sc_is_pair.nd (z_tup T (pv 0)) (blkOk_by (N := ["thing", "one"]) (sc := defScope s_is_pair) (by decide +kernel)) (fun _ _ _ _ _ => (pg_name (i := 1) sc_is_pair.nd rfl (Or.inl rfl))) (fun _ _ _ _ _ => pts_nil) (fun _ _ _ _ _ => (x_call c_is_number (hr.mono (by decide)) (pa_cons (pv 1) pa_nil)))))))))), fn_d h (fun ds d r => ?_)⟩)
  case hlen => exact spD_len (n := 1) len_R_isp
  obtain ⟨x, rfl, rfl, hx⟩ := r
  refine .inl ?_
  cases x with
  | none => exact se_ret (EvD.is (ed_and (a := false) (b := false) (by walk_at "ev") fun e => nomatch e) rfl)
  | bool b => exact se_ret (EvD.is (ed_and (a := false) (b := false) (by walk_at "ev") fun e => nomatch e) rfl)
  | int n => exact se_ret (EvD.is (ed_and (a := false) (b := false) (by walk_at "ev") fun e => nomatch e) rfl)
  | str s => exact se_ret (EvD.is (ed_and (a := false) (b := false) (by walk_at "ev") fun e => nomatch e) rfl)
  | list ds => exact se_ret (EvD.is (ed_and (a := false) (b := false) (by walk_at "ev") fun e => nomatch e) rfl)
  | tuple ds =>
    simp only [simp2, Bool.and_eq_true, decide_eq_true_eq, List.all_eq_true] at hx
    obtain ⟨hl, hd⟩ := hx
    refine se_ret (EvD.is (ed_and (a := true) (b := decide ((ds.length : Int) = 2) && ds.all numB) ?_ fun _ => ed_and (a := decide ((ds.length : Int) = 2)) (b := ds.all numB) ?_ fun _ => EvD.is (ed_cbB (ds := [.list ((ds.map numB).map .bool)]) (eba_cons (EvD.toB (EvO.toD (EvO.is (ds := ds.map fun y => .bool (numB y)) (eo_lcTo (src := ds.map id) (TiD.is (ti_tup (ed_var (by rfl))) (List.map_id _).symm) (LcTo.mapT (f := id) (js := [1]) (by decide) ?_) (by rw [List.length_map]; omega)) (by rw [List.map_map] <;> rfl)))) eba_nil) rc_all) (by rw [List.all_map]; rfl)) ?_)
    · walk_at "ev"
    · walk_at "ev"
    · intro y hy
      exact ⟨_, tg_name, et_yes, ed_call (ds := [y]) (ea_cons (ed_var (by rfl)) ea_nil) (r_isn (hd y hy))⟩
    · show PyData.bool _ = PyData.bool _
      congr 1
      show (true && (decide ((ds.length : Int) = 2) && ds.all numB)) = (decide (ds.length = 2) && ds.all numB)
      rw [Bool.true_and]
      congr 1
      rw [decide_eq_decide]
      omega
  | dict ps =>
    cases ps with
    | nil => exact se_ret (EvD.is (ed_and (a := false) (b := false) (by walk_at "ev") fun e => nomatch e) rfl)
    | cons p ps => cases hx
theorem sc_eight_of : FnScope ["leap", "found", "along", "across"] ["leap"] (defScope s_eight_of) := ⟨rfl, rfl, rfl, by decide +kernel, rfl, by decide +kernel, by decide +kernel⟩
theorem ok_eight_of (D : DefAt T.K mg "eight_of" s_eight_of ["leap"]) (B : Bl mg)  : Cal P w T.K mg base 1 "eight_of" ["leap"] (spO T R_eight_of) := D.cal fun f fd F => by
  refine F.ok sc_eight_of ?hlen (fun cdv A outer s H vs Q E hr h => ⟨_, (pss_cons (ps_set (i := 1) sc_eight_of.nd rfl (Or.inl rfl) (pe_lst pa_nil))
  (pss_cons (ps_for PassesOwn.never rfl (z_tup T (pe_tup (pa_cons (pv 0) (pa_cons (x_rev T (pv 0)) pa_nil)))) (x_ptup T (n := 2) (pgs_cons (pg_name (i := 2) sc_eight_of.nd rfl (Or.inl rfl)) (pgs_cons (pg_name (i := 3) sc_eight_of.nd rfl (Or.inl rfl)) pgs_nil)))
  (pss_one (ps_expr (x_ext T (pv 1) (pe_lst (pa_cons (pe_tup (pa_cons (pv 2) (pa_cons (pv 3) pa_nil))) (pa_cons (pe_tup (pa_cons (pv 2) (pa_cons (pe_un un_negA (pv 3)) pa_nil))) (pa_cons (pe_tup (pa_cons (pe_un un_negA (pv 2)) (pa_cons (pv 3) pa_nil))) (pa_cons (pe_tup (pa_cons (pe_un un_negA (pv 2)) (pa_cons (pe_un un_negA (pv 3)) pa_nil))) pa_nil)))))))))
  (pss_one (ps_ret (pv 1))))), fn_o h (fun ds es r => ?_)⟩)
  case hlen => exact spO_len (n := 1) len_R_eight_of
  obtain ⟨a, b, rfl, rfl⟩ := r
  refine se_seq (se_asgO (eo_lst ea_nil (by decide))) ?_
  apply se_seq
  · refine se_for (src := [.tuple [.int a, .int b], .tuple [.int b, .int a]]) (ti_tup ?_) ?_
    · walk_at "ev"
    · walk_at "ev"
  · exact se_retV (by rfl)
end
section
variable {P : Program} {w : World} {mg : Str → Option Value} {base : Heap} {T : Tx} {aBadLeap aBadPlace aBadCount aLE : Addr}
local macro_rules | `(tactic| walk_at "r1") => `(tactic| with_reducible (first | apply r_led | exact r_eight_of))
theorem et_isp {ρ : List Sl} {x : PyData} {E : XK} (hi : ρ[0]? = some (.dat x)) (h : simp2 x = true) : EvT T (tNot (tB (tCall (spD T R_isp) [] E (tCons (tVar 0) tNil)))) ρ (!pairB x) := et_not (et_B (ed_call (ds := [x]) (ea_cons (ed_var hi) ea_nil) (r_isp h)))
theorem sc_asked_leap : FnScope ["leap"] ["leap"] (defScope s_asked_leap) := ⟨rfl, rfl, rfl, by decide +kernel, rfl, by decide +kernel, by decide +kernel⟩
theorem ok_asked_leap (D : DefAt T.K mg "asked_leap" s_asked_leap ["leap"]) (B : Bl mg) (c_is_pair : Cal P w T.K mg base 2 "is_pair" ["thing"] (spD T R_isp)) (e_BadLeap : ErrF T.K mg "BadLeap" aBadLeap) : CalX P w T.K mg base 3 "asked_leap" ["leap"] (spX T R_asked_leap (Er_leap aBadLeap)) := D.calX fun f fd F => by
  refine F.okX sc_asked_leap ?hlen (fun cdv A outer s H vs Q E hr h => ⟨_, (pss_one (ps_if (PW.pt (pw_or (pt_not (pt_val (x_call c_is_pair (hr.mono (by decide)) (pa_cons (pv 0) pa_nil)))) (pw_or (pt_cmpR op_ltA (x_min1 T B hr.units (pv 0)) pe_int (nomark _)) (pw_or1 (y_eq T hr.units (x_max1 T B hr.units (pv 0)) pe_int)))))
  (pss_one (x_raise rfl (takes_of rfl rfl rfl rfl) e_BadLeap))
  pss_nil)), fn_x h (fun ds d r => ?_) (fun ds C r => ?_)⟩)
  case hlen => exact spX_len (n := 1) len_R_asked_leap len_Er_leap
  · obtain ⟨a, b, rfl, rfl, h0, h1, h2⟩ := r
    apply or_n
    refine se_ifF (EvT.is (b := (!pairB (.tuple [.int a, .int b])) || (decide (min a b < 0) || decide (max a b = 0))) (et_or (et_isp (by rfl) rfl) fun _ => ?_) (by simp [pairB, numB]; omega)) se_next
    walk_at "ev"
  · obtain ⟨x, rfl, ⟨hs, hb⟩, rfl⟩ := r
    refine ⟨_, se_ifT ?_ se_raise⟩
    rcases hb with hb | ⟨a, b, rfl, hab⟩
    · exact EvT.is (b := (!pairB x) || false) (et_or (et_isp (by rfl) hs) fun e => by rw [hb] at e; cases e) (by rw [hb] <;> rfl)
    · refine EvT.is (b := (!pairB (.tuple [.int a, .int b])) || (decide (min a b < 0) || decide (max a b = 0))) (et_or (et_isp (by rfl) rfl) fun _ => ?_) (by simp [pairB, numB]; omega)
      walk_at "ev"
theorem sc_asked_place : FnScope ["place"] ["place"] (defScope s_asked_place) := ⟨rfl, rfl, rfl, by decide +kernel, rfl, by decide +kernel, by decide +kernel⟩
theorem ok_asked_place (D : DefAt T.K mg "asked_place" s_asked_place ["place"]) (B : Bl mg) (c_is_pair : Cal P w T.K mg base 2 "is_pair" ["thing"] (spD T R_isp)) (e_BadPlace : ErrF T.K mg "BadPlace" aBadPlace) : CalX P w T.K mg base 3 "asked_place" ["place"] (spX T R_no (Er_place aBadPlace)) := D.calX fun f fd F => by
  refine F.okX sc_asked_place ?hlen (fun cdv A outer s H vs Q E hr h => ⟨_, (pss_one (ps_if (pt_not (pt_val (x_call c_is_pair (hr.mono (by decide)) (pa_cons (pv 0) pa_nil))))
  (pss_one (x_raise rfl (takes_of rfl rfl rfl rfl) e_BadPlace))
  pss_nil)), fn_x h (fun ds d r => ?_) (fun ds C r => ?_)⟩)
  case hlen => exact spX_len (n := 1) len_R_no len_Er_place
  · exact r.elim
  · obtain ⟨x, rfl, ⟨hs, hb⟩, rfl⟩ := r
    exact ⟨_, se_ifT (EvT.is (b := !pairB x) (et_isp (by rfl) hs) (by rw [hb] <;> rfl)) se_raise⟩
theorem sc_asked_many : FnScope ["many"] ["many"] (defScope s_asked_many) := ⟨rfl, rfl, rfl, by decide +kernel, rfl, by decide +kernel, by decide +kernel⟩
theorem ok_asked_many (D : DefAt T.K mg "asked_many" s_asked_many ["many"]) (B : Bl mg) (c_is_number : Cal P w T.K mg base 1 "is_number" ["thing"] (spD T R_isn)) (e_BadCount : ErrF T.K mg "BadCount" aBadCount) : CalX P w T.K mg base 2 "asked_many" ["many"] (spX T R_asked_many (Er_many aBadCount)) := D.calX fun f fd F => by
  refine F.okX sc_asked_many ?hlen (fun cdv A outer s H vs Q E hr h => ⟨_, (pss_one (ps_if (PW.pt (pw_or (pt_not (pt_val (x_call c_is_number (hr.mono (by decide)) (pa_cons (pv 0) pa_nil)))) (pw_or1 (pt_cmpR op_ltA (pv 0) pe_int (nomark _)))))
  (pss_one (x_raise rfl (takes_of rfl rfl rfl rfl) e_BadCount))
  pss_nil)), fn_x h (fun ds d r => ?_) (fun ds C r => ?_)⟩)
  case hlen => exact spX_len (n := 1) len_R_asked_many len_Er_many
  · obtain ⟨m, rfl, rfl, m0⟩ := r
    apply or_n
    refine se_ifF (EvT.is (b := (!numB (.int m)) || decide (m < 0)) (et_or (et_not (et_B (ed_call (ds := [.int m]) (ea_cons (ed_var (by rfl)) ea_nil) (r_isn rfl)))) fun _ => ?_) (by simp [numB]; omega)) se_next
    walk_at "ev"
  · obtain ⟨x, rfl, ⟨hs, hb⟩, rfl⟩ := r
    refine ⟨_, se_ifT ?_ se_raise⟩
    rcases hb with hb | ⟨m, rfl, hm⟩
    · exact EvT.is (b := (!numB x) || false) (et_or (et_not (et_B (ed_call (ds := [x]) (ea_cons (ed_var (by rfl)) ea_nil) (r_isn hs)))) fun e => by rw [hb] at e; cases e) (by rw [hb] <;> rfl)
    · refine EvT.is (b := (!numB (.int m)) || decide (m < 0)) (et_or (et_not (et_B (ed_call (ds := [.int m]) (ea_cons (ed_var (by rfl)) ea_nil) (r_isn rfl)))) fun _ => ?_) (by simp [numB]; omega)
      walk_at "ev"
theorem led_lc1 {ρ : List Sl} {vs : List Nat} (h3 : 3 ∈ vs) (h4 : 4 ∈ vs) (hl : 4 < ρ.length) : ∀ (cs : List Int) (ps : List (Int × Int)), (∀ c ∈ cs, Sm 4000 c) → (∀ p ∈ ps, Sm 4000 p.1 ∧ Sm 4000 p.2) →
    LcTo T (gTup T.K 2 (gCons (gName 3) (gCons (gName 4) gNil))) tYes (tOp rMulA (tVar 3) (tOp (rIxA T.K) (tVar 4) (tC (.int 0)))) vs ρ (List.zipWith pairD (cs.map .int) (ps.map pD)) ((List.zipWith (fun c p => c * p.1) cs ps).map .int)
  | [], _, _, _ => .nil
  | _ :: _, [], _, _ => .nil
  | c :: cs, p :: ps, hc, hp => by
    refine .cons tg_pair (fun j hj => ?_) et_yes (ed_op (ed_var ?_) (ed_op (ed_var ?_) ed_int (rv_ixT (ds := [.int p.1, .int p.2]) (by rfl))) (rv_mul ?_)) (led_lc1 h3 h4 hl cs ps (fun x hx => hc x (List.mem_cons_of_mem _ hx)) fun x hx => hp x (List.mem_cons_of_mem _ hx))
    · rcases List.mem_cons.mp hj with e | hj
      · rw [e]; exact h3
      · rcases List.mem_cons.mp hj with e | hj
        · rw [e]; exact h4
        · cases hj
    · rw [List.getElem?_set_ne (by decide), List.getElem?_set_self (by omega)]
    · rw [List.getElem?_set_self (by rw [List.length_set]; exact hl)]
      rfl
    · exact cm_of (hc c List.mem_cons_self) (hp p List.mem_cons_self).1 (by decide) (by decide) (by decide)
theorem led_lc2 {ρ : List Sl} {vs : List Nat} (h3 : 3 ∈ vs) (h4 : 4 ∈ vs) (hl : 4 < ρ.length) : ∀ (cs : List Int) (ps : List (Int × Int)), (∀ c ∈ cs, Sm 4000 c) → (∀ p ∈ ps, Sm 4000 p.1 ∧ Sm 4000 p.2) →
    LcTo T (gTup T.K 2 (gCons (gName 3) (gCons (gName 4) gNil))) tYes (tOp rMulA (tVar 3) (tOp (rIxA T.K) (tVar 4) (tC (.int 1)))) vs ρ (List.zipWith pairD (cs.map .int) (ps.map pD)) ((List.zipWith (fun c p => c * p.2) cs ps).map .int)
  | [], _, _, _ => .nil
  | _ :: _, [], _, _ => .nil
  | c :: cs, p :: ps, hc, hp => by
    refine .cons tg_pair (fun j hj => ?_) et_yes (ed_op (ed_var ?_) (ed_op (ed_var ?_) ed_int (rv_ixT (ds := [.int p.1, .int p.2]) (by rfl))) (rv_mul ?_)) (led_lc2 h3 h4 hl cs ps (fun x hx => hc x (List.mem_cons_of_mem _ hx)) fun x hx => hp x (List.mem_cons_of_mem _ hx))
    · rcases List.mem_cons.mp hj with e | hj
      · rw [e]; exact h3
      · rcases List.mem_cons.mp hj with e | hj
        · rw [e]; exact h4
        · cases hj
    · rw [List.getElem?_set_ne (by decide), List.getElem?_set_self (by omega)]
    · rw [List.getElem?_set_self (by rw [List.length_set]; exact hl)]
      rfl
    · exact cm_of (hc c List.mem_cons_self) (hp p List.mem_cons_self).2 (by decide) (by decide) (by decide)
theorem sc_led : FnScope ["leap", "counts", "along", "many", "one"] ["leap", "counts"] (defScope s_led) := ⟨rfl, rfl, rfl, by decide +kernel, rfl, by decide +kernel, by decide +kernel⟩
theorem ok_led (D : DefAt T.K mg "led" s_led ["leap", "counts"]) (B : Bl mg) (c_eight_of : Cal P w T.K mg base 1 "eight_of" ["leap"] (spO T R_eight_of)) : Cal P w T.K mg base 2 "led" ["leap", "counts"] (spD T R_led) := D.cal fun f fd F => by
  refine F.ok sc_led ?hlen (fun cdv A outer s H vs Q E hr h => ⟨_, (pss_cons (ps_set (i := 2) sc_led.nd rfl (Or.inl rfl) (x_sum T B (pe_lc (own := [("many", 3), ("one", 4)]) (g := (gTup T.K 2 (gCons (gName 3) (gCons (gName 4) gNil)))) (tt := tYes) rfl sc_led.nd (z_zip T B (pa_cons (pv 1) (pa_cons (x_call c_eight_of (hr.mono (by decide)) (pa_cons (pv 0) pa_nil)) pa_nil))) (blkOk_by (N := ["leap", "counts", "along", "many", "one"]) (sc := defScope s_led) (by decide +kernel)) (fun _ _ _ _ _ => (x_ptup T (n := 2) (pgs_cons (pg_name (i := 3) sc_led.nd rfl (Or.inl rfl)) (pgs_cons (pg_name (i := 4) sc_led.nd rfl (Or.inl rfl)) pgs_nil)))) (fun _ _ _ _ _ => pts_nil) (fun _ _ _ _ _ => (pe_op op_mulA (pv 3) (x_ix T (pv 4) pe_int))))))
  (pss_one (ps_ret (pe_tup (pa_cons (pv 2) (pa_cons (x_sum T B (pe_lc (own := [("many", 3), ("one", 4)]) (g := (gTup T.K 2 (gCons (gName 3) (gCons (gName 4) gNil)))) (tt := tYes) rfl sc_led.nd (z_zip T B (pa_cons (pv 1) (pa_cons (x_call c_eight_of (hr.mono (by decide)) (pa_cons (pv 0) pa_nil)) pa_nil))) (blkOk_by (N := ["leap", "counts", "along", "many", "one"]) (sc := defScope s_led) (by decide +kernel)) (fun _ _ _ _ _ => (x_ptup T (n := 2) (pgs_cons (pg_name (i := 3) sc_led.nd rfl (Or.inl rfl)) (pgs_cons (pg_name (i := 4) sc_led.nd rfl (Or.inl rfl)) pgs_nil)))) (fun _ _ _ _ _ => pts_nil) (fun _ _ _ _ _ => (pe_op op_mulA (pv 3) (x_ix T (pv 4) pe_int))))) pa_nil)))))), fn_d h (fun ds d r => ?_)⟩)
  case hlen => exact spD_len (n := 2) len_R_led
  obtain ⟨a, b, cs, rfl, rfl, ha, hb, hc, hlen⟩ := r
  have hz : (List.zipWith pairD (cs.map .int) (e8D a b)).length ≤ 100000 := by
    rw [List.length_zipWith, List.length_map]
    omega
  refine .inl (se_seq (se_asg (d := .int (led1 a b cs)) (ed_cbB (eba_cons (EvO.toD (eo_lcTo (ti_zip (ds := cs.map .int) (es := e8D a b) ?_) (led_lc1 (by decide) (by decide) (Nat.le_of_ble_eq_true rfl) cs (e8 a b) hc (e8_sm ha hb)) hz)).toB eba_nil) rc_sum)) (se_ret (ed_tup (ea_cons (ed_var (by rfl)) (ea_cons (x := .int (led2 a b cs)) (ed_cbB (eba_cons (EvO.toD (eo_lcTo (ti_zip (ds := cs.map .int) (es := e8D a b) ?_) (led_lc2 (by decide) (by decide) (Nat.le_of_ble_eq_true rfl) cs (e8 a b) hc (e8_sm ha hb)) hz)).toB eba_nil) rc_sum) ea_nil)) (Nat.le_of_ble_eq_true rfl))))
  · walk_at "ev"
  · walk_at "ev"
theorem sc_are_counts : FnScope ["thing", "many"] ["thing"] (defScope s_are_counts) := ⟨rfl, rfl, rfl, by decide +kernel, rfl, by decide +kernel, by decide +kernel⟩
theorem ok_are_counts (D : DefAt T.K mg "are_counts" s_are_counts ["thing"]) (B : Bl mg) (c_is_number : Cal P w T.K mg base 1 "is_number" ["thing"] (spD T R_isn)) : Cal P w T.K mg base 2 "are_counts" ["thing"] (spD T R_arc) := D.cal fun f fd F => by
  refine F.ok sc_are_counts ?hlen (fun cdv A outer s H vs Q E hr h => ⟨_, (pss_one (ps_ret (pe_and (x_isi T B (pv 0) (x_list B)) (pe_and (x_eq T hr.units (x_len T B (pv 0)) pe_int) (pe_one (x_all T B (pe_lc (own := [("many", 1)]) (g := (gName 1)) (tt := tYes) rfl sc_are_counts.nd (z_list T (pv 0)) (blkOk_by (N := ["thing", "many"]) (sc := defScope s_are_counts) (by decide +kernel)) (fun _ _ _ _ _ => (pg_name (i := 1) sc_are_counts.nd rfl (Or.inl rfl))) (fun _ _ _ _ _ => pts_nil) (fun _ _ _ _ _ => (pe_and (x_call c_is_number (hr.mono (by decide)) (pa_cons (pv 1) pa_nil)) (pe_one (pe_cmpR op_geA (pv 1) pe_int (nomark _)))))))))))), fn_d h (fun ds d r => ?_)⟩)
  case hlen => exact spD_len (n := 1) len_R_arc
  obtain ⟨x, rfl, rfl, hx⟩ := r
  refine .inl ?_
  cases x with
  | none => exact se_ret (EvD.is (ed_and (a := false) (b := false) (by walk_at "ev") fun e => nomatch e) rfl)
  | bool b => exact se_ret (EvD.is (ed_and (a := false) (b := false) (by walk_at "ev") fun e => nomatch e) rfl)
  | int n => exact se_ret (EvD.is (ed_and (a := false) (b := false) (by walk_at "ev") fun e => nomatch e) rfl)
  | str s => exact se_ret (EvD.is (ed_and (a := false) (b := false) (by walk_at "ev") fun e => nomatch e) rfl)
  | tuple ds => exact se_ret (EvD.is (ed_and (a := false) (b := false) (by walk_at "ev") fun e => nomatch e) rfl)
  | list ds =>
    simp only [simp2, Bool.and_eq_true, decide_eq_true_eq, List.all_eq_true] at hx
    obtain ⟨hl, hd⟩ := hx
    refine se_ret (EvD.is (ed_and (a := true) (b := decide ((ds.length : Int) = 8) && ds.all nnB) ?_ fun _ => ed_and (a := decide ((ds.length : Int) = 8)) (b := ds.all nnB) ?_ fun _ => EvD.is (ed_cbB (ds := [.list ((ds.map nnB).map .bool)]) (eba_cons (EvD.toB (EvO.toD (EvO.is (ds := ds.map fun y => .bool (nnB y)) (eo_lcTo (src := ds.map id) (TiD.is (ti_list (ed_var (by rfl))) (List.map_id _).symm) (LcTo.mapT (f := id) (js := [1]) (by decide) ?_) (by rw [List.length_map]; omega)) (by rw [List.map_map] <;> rfl)))) eba_nil) rc_all) (by rw [List.all_map]; rfl)) ?_)
    · walk_at "ev"
    · walk_at "ev"
    · intro y hy
      refine ⟨_, tg_name, et_yes, ?_⟩
      by_cases hn : numB y = true
      · cases y <;> first | cases hn | skip
        exact EvD.is (ed_and (a := true) (ed_call (ds := [.int _]) (ea_cons (ed_var (by rfl)) ea_nil) (r_isn rfl)) fun _ => ed_op (ed_var (by rfl)) ed_int rv_ge) rfl
      · rw [Bool.not_eq_true] at hn
        refine EvD.is (ed_and (a := numB y) (b := false) (ed_call (ds := [y]) (ea_cons (ed_var (by rfl)) ea_nil) (r_isn (hd y hy))) fun e => by rw [hn] at e; cases e) ?_
        rw [hn]
        cases y <;> first | rfl | cases hn
    · show PyData.bool _ = PyData.bool _
      congr 1
      show (true && (decide ((ds.length : Int) = 8) && ds.all nnB)) = (decide (ds.length = 8) && ds.all nnB)
      rw [Bool.true_and]
      congr 1
      rw [decide_eq_decide]
      omega
  | dict ps =>
    cases ps with
    | nil => exact se_ret (EvD.is (ed_and (a := false) (b := false) (by walk_at "ev") fun e => nomatch e) rfl)
    | cons p ps => cases hx
theorem sc_place_of : FnScope ["leap", "counts"] ["leap", "counts"] (defScope s_place_of) := ⟨rfl, rfl, rfl, by decide +kernel, rfl, by decide +kernel, by decide +kernel⟩
theorem ok_place_of (D : DefAt T.K mg "place_of" s_place_of ["leap", "counts"]) (B : Bl mg) (c_asked_leap : CalX P w T.K mg base 3 "asked_leap" ["leap"] (spX T R_asked_leap (Er_leap aBadLeap))) (c_are_counts : Cal P w T.K mg base 2 "are_counts" ["thing"] (spD T R_arc)) (e_BadCount : ErrF T.K mg "BadCount" aBadCount) (c_led : Cal P w T.K mg base 2 "led" ["leap", "counts"] (spD T R_led)) : CalX P w T.K mg base 4 "place_of" ["leap", "counts"] (spX T R_place_of (Er_pl aBadLeap aBadCount)) := D.calX fun f fd F => by
  refine F.okX sc_place_of ?hlen (fun cdv A outer s H vs Q E hr h => ⟨_, (pss_cons (ps_expr (x_callX c_asked_leap (hr.mono (by decide)) (takes_of rfl rfl rfl rfl) (pa_cons (pv 0) pa_nil)))
  (pss_cons (ps_if (pt_not (pt_val (x_call c_are_counts (hr.mono (by decide)) (pa_cons (pv 1) pa_nil))))
  (pss_one (x_raise rfl (takes_of rfl rfl rfl rfl) e_BadCount))
  pss_nil)
  (pss_one (ps_ret (x_call c_led (hr.mono (by decide)) (pa_cons (pv 0) (pa_cons (pv 1) pa_nil))))))), fn_x h (fun ds d r => ?_) (fun ds C r => ?_)⟩)
  case hlen => exact spX_len (n := 2) len_R_place_of len_Er_pl
  · obtain ⟨a, b, cs, rfl, rfl, lc⟩ := r
    refine .inl ?_
    have sm := lc.sm
    have hc := cntB_ints lc.2.2.2.2.2.2 fun c h => (lc.2.2.2.2.2.1 c h).1
    refine se_seq (se_drop (ed_callX (ds := [.tuple [.int a, .int b]]) (ea_cons (ed_var (by rfl)) ea_nil) (r_asked_leap ⟨lc.1, lc.2.1, lc.2.2.1⟩))) ?_
    refine se_cutF (EvT.is (b := !cntB (.list (cs.map .int))) (et_not (et_B (ed_call (ds := [.list (cs.map .int)]) (ea_cons (ed_var (by rfl)) ea_nil) (r_arc (simp2_ints sm.2.2.2))))) (by rw [hc] <;> rfl)) ?_
    exact se_ret (ed_call (ds := [.tuple [.int a, .int b], .list (cs.map .int)]) (ea_cons (ed_var (by rfl)) (ea_cons (ed_var (by rfl)) ea_nil)) (r_led sm))
  · obtain ⟨x, y, rfl, h⟩ := r
    rcases h with ⟨hb, rfl⟩ | ⟨⟨a, b, rfl, h0, h1, h2⟩, ⟨hs, hc⟩, rfl⟩
    · exact ⟨_, se_seqL (se_dropR (er_call (ds := [x]) (ea_cons (ed_var (by rfl)) ea_nil) ⟨x, rfl, hb, rfl⟩)) trivial⟩
    · exact ⟨_, se_seq (se_drop (ed_callX (ds := [.tuple [.int a, .int b]]) (ea_cons (ed_var (by rfl)) ea_nil) (r_asked_leap ⟨h0, h1, h2⟩))) (se_cutL (EvT.is (b := !cntB y) (et_not (et_B (ed_call (ds := [y]) (ea_cons (ed_var (by rfl)) ea_nil) (r_arc hs)))) (by rw [hc] <;> rfl)) se_raise trivial)⟩
/-- one count done -/
abbrev bhB (T : Tx) : TS := tSeq (tDrop (tBM T.K "list" rAppend (tVar 3) (tCons (tCB rMin2I (tCons (tVar 4) (tCons (tVar 5) tNil))) tNil))) (tAsg (tOp rSubI (tVar 4) (tOp (rIxA T.K) (tVar 3) (tUn rNegI (tC (V.int 1))))) (gName 4))
theorem bh_loop {s0 s1 s2 : Sl} : ∀ (cs ds : List Int) (m : Int) (s5 : Sl), ds.length + cs.length ≤ 1000 → ∃ m' s5', ForTo T (gName 5) (bhB T) (cs.map .int) [s0, s1, s2, .own (ds.map .int), .dat (.int m), s5] (.nx [s0, s1, s2, .own ((ds ++ dn cs m).map .int), .dat (.int m'), s5'])
  | [], ds, m, s5, _ => ⟨m, s5, by rw [show ds ++ dn [] m = ds from List.append_nil _]; exact .nil⟩
  | c :: cs, ds, m, s5, h => by
    rw [List.length_cons] at h
    obtain ⟨m', s5', q⟩ := bh_loop cs (ds ++ [min m c]) (m - min m c) (.dat (.int c)) (by rw [List.length_append]; show ds.length + 1 + cs.length ≤ 1000; omega)
    refine ⟨m', s5', .go tg_name (ρ2 := [s0, s1, s2, .own ((ds ++ [min m c]).map .int), .dat (.int (m - min m c)), .dat (.int c)]) ?_ (by rw [List.append_assoc] at q; exact q)⟩
    rw [List.map_append]
    refine se_seq (se_app (d := .int (min m c)) (by rfl) ?_ (by rw [List.length_map]; omega)) ?_
    · walk_at "ev"
    · refine se_asg (i := 4) (d := .int (m - min m c)) ?_
      exact ed_op (ed_var (by rfl)) (ed_ixO (by rfl) (ed_neg ed_int) at_last) rv_sub
theorem sc_behind_of : FnScope ["leap", "counts", "many", "done", "left", "count"] ["leap", "counts", "many"] (defScope s_behind_of) := ⟨rfl, rfl, rfl, by decide +kernel, rfl, by decide +kernel, by decide +kernel⟩
theorem ok_behind_of (D : DefAt T.K mg "behind_of" s_behind_of ["leap", "counts", "many"]) (B : Bl mg) (c_led : Cal P w T.K mg base 2 "led" ["leap", "counts"] (spD T R_led)) : Cal P w T.K mg base 3 "behind_of" ["leap", "counts", "many"] (spD T R_behind_of) := D.cal fun f fd F => by
  refine F.ok sc_behind_of ?hlen (fun cdv A outer s H vs Q E hr h => ⟨_, (pss_cons (ps_set (i := 3) sc_behind_of.nd rfl (Or.inl rfl) (pe_lst pa_nil))
  (pss_cons (ps_set (i := 4) sc_behind_of.nd rfl (Or.inl rfl) (pv 2))
  (pss_cons (ps_for PassesOwn.never rfl (z_list T (pv 1)) (pg_name (i := 5) sc_behind_of.nd rfl (Or.inl rfl))
  (pss_cons (ps_expr (x_app T (pv 3) (x_min2 B (pv 4) (pv 5))))
  (pss_one (ps_set (i := 4) sc_behind_of.nd rfl (Or.inl rfl) (pe_op op_subA (pv 4) (x_ix T (pv 3) (pe_un un_negA pe_int)))))))
  (pss_one (ps_ret (x_call c_led (hr.mono (by decide)) (pa_cons (pv 0) (pa_cons (pv 3) pa_nil)))))))), fn_d h (fun ds d r => ?_)⟩)
  case hlen => exact spD_len (n := 3) len_R_behind_of
  obtain ⟨a, b, cs, m, rfl, rfl, lc, m0⟩ := r
  refine .inl ?_
  have sm := lc.sm
  obtain ⟨_, _, _, _, _, hc, h8⟩ := lc
  have ds := dn_sm (m := m) hc m0
  have dl := dn_len cs m
  obtain ⟨m', s5', q⟩ := bh_loop (T := T) (s0 := .dat (.tuple [.int a, .int b])) (s1 := .dat (.list (cs.map .int))) (s2 := .dat (.int m)) cs [] m .no (by rw [h8]; decide)
  simp only [List.nil_append, List.map_nil] at q
  refine se_seq (se_asgO (eo_lst ea_nil (by decide))) ?_
  · apply se_seq
    · walk_at "ev"
    · apply se_seq
      · exact se_for (ti_list (ed_var (by rfl))) q
      · refine se_freeze (i := 3) (by rfl) ?_
        walk_at "ev"
        · exact ⟨sm.1, sm.2.1, fun c hc => (ds c hc).2.mono (by decide), by omega⟩
        · rfl
theorem sc_behind : FnScope ["leap", "counts", "many"] ["leap", "counts", "many"] (defScope s_behind) := ⟨rfl, rfl, rfl, by decide +kernel, rfl, by decide +kernel, by decide +kernel⟩
theorem ok_behind (D : DefAt T.K mg "behind" s_behind ["leap", "counts", "many"]) (B : Bl mg) (c_place_of : CalX P w T.K mg base 4 "place_of" ["leap", "counts"] (spX T R_place_of (Er_pl aBadLeap aBadCount))) (c_is_number : Cal P w T.K mg base 1 "is_number" ["thing"] (spD T R_isn)) (e_BadCount : ErrF T.K mg "BadCount" aBadCount) (c_behind_of : Cal P w T.K mg base 3 "behind_of" ["leap", "counts", "many"] (spD T R_behind_of)) : CalX P w T.K mg base 5 "behind" ["leap", "counts", "many"] (spX T R_behind (Er_bh aBadLeap aBadCount)) := D.calX fun f fd F => by
  refine F.okX sc_behind ?hlen (fun cdv A outer s H vs Q E hr h => ⟨_, (pss_cons (ps_expr (x_callX c_place_of (hr.mono (by decide)) (takes_of rfl rfl rfl rfl) (pa_cons (pv 0) (pa_cons (pv 1) pa_nil))))
  (pss_cons (ps_if (PW.pt (pw_or (pt_not (pt_val (x_call c_is_number (hr.mono (by decide)) (pa_cons (pv 2) pa_nil)))) (pw_or1 (pt_not (pt_chain op_leA op_leA pe_int (pv 2) (x_sum T B (pv 1)))))))
  (pss_one (x_raise rfl (takes_of rfl rfl rfl rfl) e_BadCount))
  pss_nil)
  (pss_one (ps_ret (x_call c_behind_of (hr.mono (by decide)) (pa_cons (pv 0) (pa_cons (pv 1) (pa_cons (pv 2) pa_nil)))))))), fn_x h (fun ds d r => ?_) (fun ds C r => ?_)⟩)
  case hlen => exact spX_len (n := 3) len_R_behind len_Er_bh
  · obtain ⟨a, b, cs, m, rfl, rfl, lc, m0, m1⟩ := r
    refine .inl ?_
    refine se_seq (se_drop (ed_callX (ds := [.tuple [.int a, .int b], .list (cs.map .int)]) (ea_cons (ed_var (by rfl)) (ea_cons (ed_var (by rfl)) ea_nil)) (r_place_of lc))) ?_
    refine se_cutF (EvT.is (b := (!numB (.int m)) || !(decide (0 ≤ m) && decide (m ≤ cs.sum))) (et_or (et_not (et_B (ed_call (ds := [.int m]) (ea_cons (ed_var (by rfl)) ea_nil) (r_isn rfl)))) fun _ => et_not (et_test (ed_chain ed_int (ed_var (by rfl)) rv_le (fun _ => ed_cbB (ds := [.list (cs.map .int)]) (eba_cons (EvD.toB (ed_var (by rfl))) eba_nil) rc_sum) fun _ => rv_le))) (by simp [numB, m0, m1])) ?_
    exact se_ret (ed_call (ds := [.tuple [.int a, .int b], .list (cs.map .int), .int m]) (ea_cons (ed_var (by rfl)) (ea_cons (ed_var (by rfl)) (ea_cons (ed_var (by rfl)) ea_nil))) (r_behind_of ⟨lc, m0⟩))
  · obtain ⟨x, y, z, rfl, h⟩ := r
    rcases h with ⟨hb, rfl⟩ | ⟨hg, hc, rfl⟩ | ⟨a, b, cs, rfl, rfl, lc, hs, hz, rfl⟩
    · exact ⟨_, se_seqL (se_dropR (er_call (ds := [x, y]) (ea_cons (ed_var (by rfl)) (ea_cons (ed_var (by rfl)) ea_nil)) ⟨x, y, rfl, .inl ⟨hb, rfl⟩⟩)) trivial⟩
    · exact ⟨_, se_seqL (se_dropR (er_call (ds := [x, y]) (ea_cons (ed_var (by rfl)) (ea_cons (ed_var (by rfl)) ea_nil)) ⟨x, y, rfl, .inr ⟨hg, hc, rfl⟩⟩)) trivial⟩
    · have go : ∀ {t : TT} {tz : TS}, EvT T t [.dat (.tuple [.int a, .int b]), .dat (.list (cs.map .int)), .dat z] true → ∃ ρ', SeD T (tSeq (tDrop (tCallS (spX T R_place_of (Er_pl aBadLeap C)) (WE fun cls d _ H => E cls d H) (tCons (tVar 0) (tCons (tVar 1) tNil)))) (tSeq (tIfS t (tRaise (fun cls d _ H => E cls d H) C) tNext) tz)) [.dat (.tuple [.int a, .int b]), .dat (.list (cs.map .int)), .dat z] (.rx (fun cls d _ H => E cls d H) C ρ') := fun ht => ⟨_, se_seq (se_drop (ed_callX (ds := [.tuple [.int a, .int b], .list (cs.map .int)]) (ea_cons (ed_var (by rfl)) (ea_cons (ed_var (by rfl)) ea_nil)) (r_place_of lc))) (se_cutL ht se_raise trivial)⟩
      refine go ?_
      rcases hz with hz | ⟨m, rfl, hm⟩
      · exact EvT.is (b := (!numB z) || false) (et_or (et_not (et_B (ed_call (ds := [z]) (ea_cons (ed_var (by rfl)) ea_nil) (r_isn hs)))) fun e => by rw [hz] at e; cases e) (by rw [hz] <;> rfl)
      · exact EvT.is (b := (!numB (.int m)) || !(decide (0 ≤ m) && decide (m ≤ cs.sum))) (et_or (et_not (et_B (ed_call (ds := [.int m]) (ea_cons (ed_var (by rfl)) ea_nil) (r_isn rfl)))) fun _ => et_not (et_test (ed_chain ed_int (ed_var (by rfl)) rv_le (fun _ => ed_cbB (ds := [.list (cs.map .int)]) (eba_cons (EvD.toB (ed_var (by rfl))) eba_nil) rc_sum) fun _ => rv_le))) (by simp [numB]; omega)
theorem sc_eight : FnScope ["leap"] ["leap"] (defScope s_eight) := ⟨rfl, rfl, rfl, by decide +kernel, rfl, by decide +kernel, by decide +kernel⟩
theorem ok_eight (D : DefAt T.K mg "eight" s_eight ["leap"]) (B : Bl mg) (c_asked_leap : CalX P w T.K mg base 3 "asked_leap" ["leap"] (spX T R_asked_leap (Er_leap aBadLeap))) : CalX P w T.K mg base 4 "eight" ["leap"] (spX T R_no (Er_leap aBadLeap)) := D.calX fun f fd F => by
  refine F.okX sc_eight ?hlen (fun cdv A outer s H vs Q E hr h => ⟨_, (pss_cons (ps_expr (x_callX c_asked_leap (hr.mono (by decide)) (takes_of rfl rfl rfl rfl) (pa_cons (pv 0) pa_nil)))
  (pss_one ps_never)), fn_x h (fun ds d r => ?_) (fun ds C r => ?_)⟩)
  case hlen => exact spX_len (n := 1) len_R_no len_Er_leap
  · exact r.elim
  · obtain ⟨x, rfl, hb, rfl⟩ := r
    exact ⟨_, se_seqL (se_dropR (er_call (ds := [x]) (ea_cons (ed_var (by rfl)) ea_nil) ⟨x, rfl, hb, rfl⟩)) trivial⟩
theorem sc_told : FnScope ["leap", "place"] ["leap", "place"] (defScope s_told) := ⟨rfl, rfl, rfl, by decide +kernel, rfl, by decide +kernel, by decide +kernel⟩
theorem ok_told (D : DefAt T.K mg "told" s_told ["leap", "place"]) (B : Bl mg) (c_asked_leap : CalX P w T.K mg base 3 "asked_leap" ["leap"] (spX T R_asked_leap (Er_leap aBadLeap))) (c_asked_place : CalX P w T.K mg base 3 "asked_place" ["place"] (spX T R_no (Er_place aBadPlace))) : CalX P w T.K mg base 4 "told" ["leap", "place"] (spX T R_no (Er_told aBadLeap aBadPlace)) := D.calX fun f fd F => by
  refine F.okX sc_told ?hlen (fun cdv A outer s H vs Q E hr h => ⟨_, (pss_cons (ps_expr (x_callX c_asked_leap (hr.mono (by decide)) (takes_of rfl rfl rfl rfl) (pa_cons (pv 0) pa_nil)))
  (pss_cons (ps_expr (x_callX c_asked_place (hr.mono (by decide)) (takes_of rfl rfl rfl rfl) (pa_cons (pv 1) pa_nil)))
  (pss_one ps_never))), fn_x h (fun ds d r => ?_) (fun ds C r => ?_)⟩)
  case hlen => exact spX_len (n := 2) len_R_no len_Er_told
  · exact r.elim
  · obtain ⟨x, y, rfl, h⟩ := r
    rcases h with ⟨hb, rfl⟩ | ⟨⟨a, b, rfl, h0, h1, h2⟩, hp, rfl⟩
    · exact ⟨_, se_seqL (se_dropR (er_call (ds := [x]) (ea_cons (ed_var (by rfl)) ea_nil) ⟨x, rfl, hb, rfl⟩)) trivial⟩
    · exact ⟨_, se_seq (se_drop (ed_callX (ds := [.tuple [.int a, .int b]]) (ea_cons (ed_var (by rfl)) ea_nil) (r_asked_leap ⟨h0, h1, h2⟩))) (se_seqL (se_dropR (er_call (ds := [y]) (ea_cons (ed_var (by rfl)) ea_nil) ⟨y, rfl, hp, rfl⟩)) trivial)⟩
theorem sc_fewest : FnScope ["place"] ["place"] (defScope s_fewest) := ⟨rfl, rfl, rfl, by decide +kernel, rfl, by decide +kernel, by decide +kernel⟩
theorem ok_fewest (D : DefAt T.K mg "fewest" s_fewest ["place"]) (B : Bl mg) (c_asked_place : CalX P w T.K mg base 3 "asked_place" ["place"] (spX T R_no (Er_place aBadPlace))) : CalX P w T.K mg base 4 "fewest" ["place"] (spX T R_no (Er_place aBadPlace)) := D.calX fun f fd F => by
  refine F.okX sc_fewest ?hlen (fun cdv A outer s H vs Q E hr h => ⟨_, (pss_cons (ps_expr (x_callX c_asked_place (hr.mono (by decide)) (takes_of rfl rfl rfl rfl) (pa_cons (pv 0) pa_nil)))
  (pss_one ps_never)), fn_x h (fun ds d r => ?_) (fun ds C r => ?_)⟩)
  case hlen => exact spX_len (n := 1) len_R_no len_Er_place
  · exact r.elim
  · obtain ⟨x, rfl, hb, rfl⟩ := r
    exact ⟨_, se_seqL (se_dropR (er_call (ds := [x]) (ea_cons (ed_var (by rfl)) ea_nil) ⟨x, rfl, hb, rfl⟩)) trivial⟩
theorem sc_shortest : FnScope ["place"] ["place"] (defScope s_shortest) := ⟨rfl, rfl, rfl, by decide +kernel, rfl, by decide +kernel, by decide +kernel⟩
theorem ok_shortest (D : DefAt T.K mg "shortest" s_shortest ["place"]) (B : Bl mg) (c_asked_place : CalX P w T.K mg base 3 "asked_place" ["place"] (spX T R_no (Er_place aBadPlace))) : CalX P w T.K mg base 4 "shortest" ["place"] (spX T R_no (Er_place aBadPlace)) := D.calX fun f fd F => by
  refine F.okX sc_shortest ?hlen (fun cdv A outer s H vs Q E hr h => ⟨_, (pss_cons (ps_expr (x_callX c_asked_place (hr.mono (by decide)) (takes_of rfl rfl rfl rfl) (pa_cons (pv 0) pa_nil)))
  (pss_one ps_never)), fn_x h (fun ds d r => ?_) (fun ds C r => ?_)⟩)
  case hlen => exact spX_len (n := 1) len_R_no len_Er_place
  · exact r.elim
  · obtain ⟨x, rfl, hb, rfl⟩ := r
    exact ⟨_, se_seqL (se_dropR (er_call (ds := [x]) (ea_cons (ed_var (by rfl)) ea_nil) ⟨x, rfl, hb, rfl⟩)) trivial⟩
theorem sc_within : FnScope ["many"] ["many"] (defScope s_within) := ⟨rfl, rfl, rfl, by decide +kernel, rfl, by decide +kernel, by decide +kernel⟩
theorem ok_within (D : DefAt T.K mg "within" s_within ["many"]) (B : Bl mg) (c_asked_many : CalX P w T.K mg base 2 "asked_many" ["many"] (spX T R_asked_many (Er_many aBadCount))) : CalX P w T.K mg base 3 "within" ["many"] (spX T R_no (Er_many aBadCount)) := D.calX fun f fd F => by
  refine F.okX sc_within ?hlen (fun cdv A outer s H vs Q E hr h => ⟨_, (pss_cons (ps_expr (x_callX c_asked_many (hr.mono (by decide)) (takes_of rfl rfl rfl rfl) (pa_cons (pv 0) pa_nil)))
  (pss_one ps_never)), fn_x h (fun ds d r => ?_) (fun ds C r => ?_)⟩)
  case hlen => exact spX_len (n := 1) len_R_no len_Er_many
  · exact r.elim
  · obtain ⟨x, rfl, hb, rfl⟩ := r
    exact ⟨_, se_seqL (se_dropR (er_call (ds := [x]) (ea_cons (ed_var (by rfl)) ea_nil) ⟨x, rfl, hb, rfl⟩)) trivial⟩
theorem sc_places : FnScope ["many"] ["many"] (defScope s_places) := ⟨rfl, rfl, rfl, by decide +kernel, rfl, by decide +kernel, by decide +kernel⟩
theorem ok_places (D : DefAt T.K mg "places" s_places ["many"]) (B : Bl mg) (c_asked_many : CalX P w T.K mg base 2 "asked_many" ["many"] (spX T R_asked_many (Er_many aBadCount))) : CalX P w T.K mg base 3 "places" ["many"] (spX T R_places (Er_many aBadCount)) := D.calX fun f fd F => by
  refine F.okX sc_places ?hlen (fun cdv A outer s H vs Q E hr h => ⟨_, (pss_cons (ps_expr (x_callX c_asked_many (hr.mono (by decide)) (takes_of rfl rfl rfl rfl) (pa_cons (pv 0) pa_nil)))
  (pss_one (ps_ret (pe_ifExp (pt_cmpR op_ltA (pv 0) pe_int (nomark _)) (x_ix T (pe_tup (pa_cons pe_int (pa_cons pe_int (pa_cons pe_int (pa_cons pe_int (pa_cons pe_int pa_nil)))))) (pv 0)) (pe_op op_subA (pe_op op_mulA pe_int (pv 0)) pe_int))))), fn_x h (fun ds d r => ?_) (fun ds C r => ?_)⟩)
  case hlen => exact spX_len (n := 1) len_R_places len_Er_many
  · obtain ⟨m, rfl, rfl, m0, sm⟩ := r
    refine .inl ?_
    refine se_seq (se_drop (ed_callX (ds := [.int m]) (ea_cons (ed_var (by rfl)) ea_nil) (r_asked_many m0))) ?_
    unfold plcZ
    refine se_ret ?_
    by_cases h : m < 5
    · rw [if_pos h]
      refine ed_if (b := decide (m < 5)) ?_ (fun _ => ?_) fun e => absurd h (of_decide_eq_false e)
      · walk_at "ev"
      · refine ed_op ?_ (ed_var (by rfl)) (rv_ixT (ds := ([1, 8, 32, 68, 96] : List Int).map .int) (plc_at (by omega) h))
        show EvD T _ _ (.tuple [.int 1, .int 8, .int 32, .int 68, .int 96])
        walk_at "ev"
    · rw [if_neg h]
      refine ed_if (b := decide (m < 5)) ?_ (fun e => absurd (of_decide_eq_true e) h) fun _ => ?_
      · walk_at "ev"
      · walk_at "ev"
        exact cm_of (Sm.lit (n := 5) (by decide)) sm (by decide) (by decide) (by decide)
  · obtain ⟨x, rfl, hb, rfl⟩ := r
    exact ⟨_, se_seqL (se_dropR (er_call (ds := [x]) (ea_cons (ed_var (by rfl)) ea_nil) ⟨x, rfl, hb, rfl⟩)) trivial⟩
end
end LW
set_option Elab.async false
set_option linter.all false
set_option maxRecDepth 100000
set_option maxHeartbeats 4000000
namespace LW
open PySem PySem.Spec PyProof.Rows L2 Evl
/-! one step of an evaluation, by the reading's head -/
set_option hygiene false in
local macro_rules | `(tactic| walk_at "kb") => `(tactic| with_reducible (first | exact kb_NoneType_int | exact kb_NoneType_bool | exact kb_NoneType_tuple | exact kb_NoneType_list | exact kb_NoneType_str | exact kb_bool_int | exact kb_bool_bool | exact kb_bool_tuple | exact kb_bool_list | exact kb_bool_str | exact kb_int_int | exact kb_int_bool | exact kb_int_tuple | exact kb_int_list | exact kb_int_str | exact kb_str_int | exact kb_str_bool | exact kb_str_tuple | exact kb_str_list | exact kb_str_str | exact kb_list_int | exact kb_list_bool | exact kb_list_tuple | exact kb_list_list | exact kb_list_str | exact kb_tuple_int | exact kb_tuple_bool | exact kb_tuple_tuple | exact kb_tuple_list | exact kb_tuple_str | exact kb_dict_int | exact kb_dict_bool | exact kb_dict_tuple | exact kb_dict_list | exact kb_dict_str | exact KT.wa | exact KT.na | exact KT.ww | exact KT.wn | exact KT.nw | exact KT.nn))
set_option hygiene false in
local macro_rules | `(tactic| walk_at "sd") => `(tactic| first | assumption | rfl | decide | omega)
set_option hygiene false in
local macro_rules | `(tactic| walk_at "rv") => `(tactic| with_reducible (first
  | exact rv_add | exact rv_sub | exact rv_eqI | exact rv_neI | exact rv_lt | exact rv_le | exact rv_gt | exact rv_ge
  | apply rv_mul | apply rv_div | apply rv_mod | apply rv_pow
  | exact rv_eqBo | exact rv_neBo | exact rv_isB | exact rv_notB | exact rv_eqP | exact rv_neP
  | exact rv_eqIL | exact rv_neIL | exact rv_eqPL | exact rv_nePL
  | apply rv_ixT | apply rv_ixL | apply rv_ixS | apply rv_cat | apply rv_rep))
set_option hygiene false in
local macro_rules | `(tactic| walk_at "rc") => `(tactic| with_reducible (first
  | exact rc_abs | exact rc_max2 | exact rc_min2 | exact rc_minT | exact rc_maxT | exact rc_lenIL | exact rc_lenL | exact rc_lenT | exact rc_lenS | exact rc_sum | exact rc_all | exact rc_any | apply rc_sumD | apply rc_allD | apply rc_anyD))
set_option hygiene false in
local macro_rules | `(tactic| walk_at "r1") => `(tactic| fail)
set_option hygiene false in
local macro_rules | `(tactic| walk_at "e1") => `(tactic| first
  | (with_reducible exact ed_int) | (with_reducible exact ed_bl) | (with_reducible exact ed_non) | (with_reducible exact ed_str)
  | ((with_reducible apply ed_var); rfl)
  | ((with_reducible apply eb_own); rfl)
  | ((with_reducible apply eb_oway); rfl)
  | (with_reducible apply ea_cons) | (with_reducible exact ea_nil)
  | (with_reducible apply eba_cons) | (with_reducible exact eba_nil)
  | (with_reducible apply ed_tup)
  | ((with_reducible apply ed_ixO); rfl)
  | (with_reducible apply ed_opB (T := _) (r := rEqD _)) | (with_reducible apply ed_opB (T := _) (r := rNeD _)) | (with_reducible apply ed_opB (r := rIsB)) | (with_reducible apply ed_opB (r := rNotB)) | (with_reducible apply ed_opB (r := rInA _))
  | (with_reducible apply ed_op)
  | (with_reducible apply ed_neg)
  | (with_reducible apply ed_and) | (with_reducible apply ed_or) | (with_reducible apply ed_not)
  | (with_reducible apply ed_isi C.aw C.an)
  | (with_reducible apply ed_cbB)
  | (with_reducible apply ed_counts C) | (with_reducible apply ed_by C)
  | (with_reducible apply ed_call)
  | (with_reducible apply EvO.toD (te := tLst _)) | (with_reducible apply eo_lst)
  | (with_reducible apply EvO.toD (te := tSl _ _ _ _)) | (with_reducible apply eo_sl) | (with_reducible apply ep_some) | (with_reducible apply ep_none)
  | (with_reducible apply EvO.toD (te := tCall (spO _ _) _ _ _)) | (with_reducible apply eo_call)
  | (with_reducible apply EvO.toD (te := tCB (rListA _) _)) | ((with_reducible apply eo_listO); rfl) | (with_reducible apply eo_list)
  | (with_reducible apply ed_revP)
  | (with_reducible apply EvD.toB)
  | (with_reducible apply et_test) | (with_reducible apply et_B) | (with_reducible apply et_and) | (with_reducible apply et_or) | (with_reducible apply et_not) | (with_reducible exact et_yes)
  | (with_reducible apply se_next)
  | (with_reducible apply EvO.toD (te := tLc _ _ _ _ _)) | (with_reducible apply eo_lcTo)
  | (with_reducible exact LcTo.nil) | (with_reducible apply LcTo.cons)
  | (with_reducible exact ForTo.nil) | (with_reducible apply ForTo.go)
  | (with_reducible apply ti_tup) | (with_reducible apply ti_list) | (with_reducible apply ti_zip) | (with_reducible apply ti_rng1) | (with_reducible apply ti_rng2)
  | (with_reducible exact tg_name) | (with_reducible exact tg_pair) | (with_reducible exact tg_trip)
  | (with_reducible apply se_seq (ts := tAsg _ _)) | (with_reducible apply se_seq (ts := tPar _ _ _)) | (with_reducible apply se_seq (ts := tDrop _))
  | (with_reducible apply se_asg) | (with_reducible apply se_par) | (with_reducible apply se_asgG) | ((with_reducible apply se_app); rfl) | ((with_reducible apply se_ext); rfl) | ((with_reducible apply se_set); rfl) | (with_reducible apply se_drop)
  | ((with_reducible apply se_retV); rfl) | (with_reducible apply se_ret; with_reducible apply EvD.is)
  | (show atI _ _ = some _; rfl)
  | (show (0 : Int) < _; first | assumption | omega)
  | (exact fun (j : Nat) (hj : j ∈ _) => by revert j; decide)
  | walk_at "rv" | walk_at "rc" | walk_at "kb"
  | (with_reducible exact ClsV.ty _) | (with_reducible exact ClsV.own _)
  | (with_reducible first | exact TyD.non | exact TyD.bl _ | exact TyD.int _ | exact TyD.str _ | exact TyD.lst _ | exact TyD.tup _ | exact TyD.dct | exact TyD.way _ | exact TyD.nev _)
  | walk_at "r1"
  | (intro (_ : _ = true)) | (intro (_ : _ = false))
  | (show List.length _ ≤ 100000; exact Nat.le_of_ble_eq_true rfl) | (show List.length _ < 100000; exact Nat.le_of_ble_eq_true rfl) | (show List.length _ + List.length _ ≤ 100000; exact Nat.le_of_ble_eq_true rfl))
set_option hygiene false in
local macro_rules | `(tactic| walk_at "ev") => `(tactic| (repeat' walk_at "e1"))

/-! a test that is as said; a value handed back -/
set_option hygiene false in
local macro_rules | `(tactic| walk_at "no") => `(tactic| (apply se_cutF; (apply EvT.is; (walk_at "ev"))))
set_option hygiene false in
local macro_rules | `(tactic| walk_at "yes") => `(tactic| (apply se_cutT; (apply EvT.is; (walk_at "ev"))))
set_option hygiene false in
local macro_rules | `(tactic| walk_at "e1") => `(tactic| first
  | (with_reducible apply ed_isi0)
  | (with_reducible first | exact TyD0.non | exact TyD0.bl _ | exact TyD0.int _ | exact TyD0.str _ | exact TyD0.lst _ | exact TyD0.tup _ | exact TyD0.dct))
section
variable {P : Program} {w : World} {mg : Str → Option Value} {base : Heap} {T : Tx} {aBadLeap aBadPlace aBadCount aLE : Addr}
local macro_rules | `(tactic| walk_at "r1") => `(tactic| with_reducible (first | apply r_led | exact r_eight_of))
set_option hygiene false in
local macro_rules | `(tactic| walk_at "e1") => `(tactic| first
  | (with_reducible exact ed_dnew))
theorem sc__law_with_leap : FnScope ["_law_door", "_law_leap"] ["_law_door", "_law_leap"] (defScope s__law_with_leap) := ⟨rfl, rfl, rfl, by decide +kernel, rfl, by decide +kernel, by decide +kernel⟩
theorem ok__law_with_leap (D : DefAt T.K mg "_law_with_leap" s__law_with_leap ["_law_door", "_law_leap"]) (B : Bl mg) (c_eight : CalX P w T.K mg base 4 "eight" ["leap"] (spX T R_no (Er_leap aBadLeap))) (c_place_of : CalX P w T.K mg base 4 "place_of" ["leap", "counts"] (spX T R_place_of (Er_pl aBadLeap aBadCount))) (c_behind : CalX P w T.K mg base 5 "behind" ["leap", "counts", "many"] (spX T R_behind (Er_bh aBadLeap aBadCount))) (c_told : CalX P w T.K mg base 4 "told" ["leap", "place"] (spX T R_no (Er_told aBadLeap aBadPlace))) : CalX P w T.K mg base 6 "_law_with_leap" ["_law_door", "_law_leap"] (spX T R_no (Er_wl aBadLeap)) := D.calX fun f fd F => by
  refine F.okX sc__law_with_leap ?hlen (fun cdv A outer s H vs Q E hr h => ⟨_, (pss_cons (ps_if (pt_cmpR op_ltA (pv 0) pe_int (nomark _))
  (pss_one (ps_ret (pe_ifExp (y_eq T hr.units (pv 0) pe_int) (x_callX c_eight (hr.mono (by decide)) (takes_of rfl rfl rfl rfl) (pa_cons (pv 1) pa_nil)) (x_callX c_place_of (hr.mono (by decide)) (takes_of rfl rfl rfl rfl) (pa_cons (pv 1) (pa_cons pe_non pa_nil))))))
  pss_nil)
  (pss_one (ps_ret (pe_ifExp (y_eq T hr.units (pv 0) pe_int) (x_callX c_behind (hr.mono (by decide)) (takes_of rfl rfl rfl rfl) (pa_cons (pv 1) (pa_cons pe_non (pa_cons (pe_un un_negA pe_int) pa_nil)))) (x_callX c_told (hr.mono (by decide)) (takes_of rfl rfl rfl rfl) (pa_cons (pv 1) (pa_cons pe_non pa_nil))))))), fn_x h (fun ds d r => ?_) (fun ds C r => ?_)⟩)
  case hlen => exact spX_len (n := 2) len_R_no len_Er_wl
  · exact r.elim
  · obtain ⟨k, x, rfl, h0, h4, hb, rfl⟩ := r
    have hk : k = 0 ∨ k = 1 ∨ k = 2 ∨ k = 3 := by omega
    rcases hk with rfl | rfl | rfl | rfl
    · exact ⟨_, se_cutL (EvT.is (b := decide ((0 : Int) < 2)) (by walk_at "ev") rfl) (se_retR (er_ifT (EvT.is (b := decide ((0 : Int) = 0)) (by walk_at "ev") rfl) (er_call (ds := [x]) (ea_cons (ed_var (by rfl)) ea_nil) ⟨x, rfl, hb, rfl⟩))) trivial⟩
    · exact ⟨_, se_cutL (EvT.is (b := decide ((1 : Int) < 2)) (by walk_at "ev") rfl) (se_retR (er_ifF (EvT.is (b := decide ((1 : Int) = 0)) (by walk_at "ev") rfl) (er_call (ds := [x, .none]) (ea_cons (ed_var (by rfl)) (ea_cons ed_non ea_nil)) ⟨x, .none, rfl, .inl ⟨hb, rfl⟩⟩))) trivial⟩
    · exact ⟨_, se_cutF (EvT.is (b := decide ((2 : Int) < 2)) (by walk_at "ev") rfl) (se_retR (er_ifT (EvT.is (b := decide ((2 : Int) = 2)) (by walk_at "ev") rfl) (er_call (ds := [x, .none, .int (-1)]) (ea_cons (ed_var (by rfl)) (ea_cons ed_non (ea_cons (ed_neg ed_int) ea_nil))) ⟨x, .none, .int (-1), rfl, .inl ⟨hb, rfl⟩⟩)))⟩
    · exact ⟨_, se_cutF (EvT.is (b := decide ((3 : Int) < 2)) (by walk_at "ev") rfl) (se_retR (er_ifF (EvT.is (b := decide ((3 : Int) = 2)) (by walk_at "ev") rfl) (er_call (ds := [x, .none]) (ea_cons (ed_var (by rfl)) (ea_cons ed_non ea_nil)) ⟨x, .none, rfl, .inl ⟨hb, rfl⟩⟩)))⟩
theorem sc__law_with_place : FnScope ["_law_door", "_law_place"] ["_law_door", "_law_place"] (defScope s__law_with_place) := ⟨rfl, rfl, rfl, by decide +kernel, rfl, by decide +kernel, by decide +kernel⟩
theorem ok__law_with_place (D : DefAt T.K mg "_law_with_place" s__law_with_place ["_law_door", "_law_place"]) (B : Bl mg) (c_told : CalX P w T.K mg base 4 "told" ["leap", "place"] (spX T R_no (Er_told aBadLeap aBadPlace))) (c_fewest : CalX P w T.K mg base 4 "fewest" ["place"] (spX T R_no (Er_place aBadPlace))) (c_shortest : CalX P w T.K mg base 4 "shortest" ["place"] (spX T R_no (Er_place aBadPlace))) : CalX P w T.K mg base 5 "_law_with_place" ["_law_door", "_law_place"] (spX T R_no (Er_wp aBadPlace)) := D.calX fun f fd F => by
  refine F.okX sc__law_with_place ?hlen (fun cdv A outer s H vs Q E hr h => ⟨_, (pss_one (ps_ret (pe_ifExp (y_eq T hr.units (pv 0) pe_int) (x_callX c_told (hr.mono (by decide)) (takes_of rfl rfl rfl rfl) (pa_cons (pe_tup (pa_cons pe_int (pa_cons pe_int pa_nil))) (pa_cons (pv 1) pa_nil))) (pe_ifExp (y_eq T hr.units (pv 0) pe_int) (x_callX c_fewest (hr.mono (by decide)) (takes_of rfl rfl rfl rfl) (pa_cons (pv 1) pa_nil)) (x_callX c_shortest (hr.mono (by decide)) (takes_of rfl rfl rfl rfl) (pa_cons (pv 1) pa_nil)))))), fn_x h (fun ds d r => ?_) (fun ds C r => ?_)⟩)
  case hlen => exact spX_len (n := 2) len_R_no len_Er_wp
  · exact r.elim
  · obtain ⟨k, x, rfl, h0, h3, hb, rfl⟩ := r
    have hk : k = 0 ∨ k = 1 ∨ k = 2 := by omega
    rcases hk with rfl | rfl | rfl
    · exact ⟨_, se_retR (er_ifT (EvT.is (b := decide ((0 : Int) = 0)) (by walk_at "ev") rfl) (er_call (ds := [.tuple [.int 1, .int 2], x]) (ea_cons (ed_tup (ea_cons ed_int (ea_cons ed_int ea_nil)) (by show 2 ≤ 100000; decide)) (ea_cons (ed_var (by rfl)) ea_nil)) ⟨.tuple [.int 1, .int 2], x, rfl, .inr ⟨⟨1, 2, rfl, by decide, by decide, by decide⟩, hb, rfl⟩⟩))⟩
    · exact ⟨_, se_retR (er_ifF (EvT.is (b := decide ((1 : Int) = 0)) (by walk_at "ev") rfl) (er_ifT (EvT.is (b := decide ((1 : Int) = 1)) (by walk_at "ev") rfl) (er_call (ds := [x]) (ea_cons (ed_var (by rfl)) ea_nil) ⟨x, rfl, hb, rfl⟩)))⟩
    · exact ⟨_, se_retR (er_ifF (EvT.is (b := decide ((2 : Int) = 0)) (by walk_at "ev") rfl) (er_ifF (EvT.is (b := decide ((2 : Int) = 1)) (by walk_at "ev") rfl) (er_call (ds := [x]) (ea_cons (ed_var (by rfl)) ea_nil) ⟨x, rfl, hb, rfl⟩)))⟩
theorem sc__law_pairs : FnScope ["_law_which", "_law_more", "_law_bad"] ["_law_which", "_law_more"] (defScope s__law_pairs) := ⟨rfl, rfl, rfl, by decide +kernel, rfl, by decide +kernel, by decide +kernel⟩
theorem ok__law_pairs (D : DefAt T.K mg "_law_pairs" s__law_pairs ["_law_which", "_law_more"]) (B : Bl mg)  : Cal P w T.K mg base 1 "_law_pairs" ["_law_which", "_law_more"] (spD T R_pairs) := D.cal fun f fd F => by
  refine F.ok sc__law_pairs ?hlen (fun cdv A outer s H vs Q E hr h => ⟨_, (pss_cons (ps_set (i := 2) sc__law_pairs.nd rfl (Or.inl rfl) (pe_lst (pa_cons pe_non (pa_cons (pe_tup pa_nil) (pa_cons (pe_tup (pa_cons pe_int pa_nil)) (pa_cons (pe_tup (pa_cons pe_int (pa_cons pe_int (pa_cons pe_int pa_nil)))) (pa_cons (pe_lst (pa_cons pe_int (pa_cons pe_int pa_nil))) (pa_cons pe_str (pa_cons pe_int (pa_cons pe_dnewK (pa_cons (pe_tup (pa_cons pe_non (pa_cons pe_int pa_nil))) (pa_cons (pe_tup (pa_cons pe_int (pa_cons pe_str pa_nil))) (pa_cons (pe_tup (pa_cons pe_bl (pa_cons pe_int pa_nil))) (pa_cons (pe_tup (pa_cons pe_int (pa_cons pe_bl pa_nil))) pa_nil))))))))))))))
  (pss_one (ps_ret (x_ix T (pe_op op_addA (pv 2) (pe_lst (pa_cons (pe_tup (pa_cons (pe_lst (pa_cons pe_int pa_nil)) (pa_cons pe_int pa_nil))) (pa_cons (pe_tup (pa_cons pe_int (pa_cons (pe_tup (pa_cons pe_int pa_nil)) pa_nil))) (pa_cons (pe_tup (pa_cons (pv 1) (pa_cons pe_non pa_nil))) pa_nil))))) (pe_op op_modA (pv 0) pe_int))))), fn_d h (fun ds d r => ?_)⟩)
  case hlen => exact spD_len (n := 2) len_R_pairs
  obtain ⟨n, m, rfl, hx⟩ := r
  refine .inl ?_
  refine se_seq (se_asg (d := .list [.none, .tuple [], .tuple [.int 1], .tuple [.int 1, .int 2, .int 3], .list [.int 1, .int 2], .str "12", .int 5, .dict [], .tuple [.none, .int 1], .tuple [.int 1, .str "2"], .tuple [.bool true, .int 2], .tuple [.int 1, .bool false]]) ?_) ?_
  · walk_at "ev"
  refine se_ret (ed_op (ed_op (ed_var (by rfl)) ?_ (rv_cat (ys := [.tuple [.list [.int 1], .int 2], .tuple [.int 1, .tuple [.int 2]], .tuple [.int m, .none]]) (by show 12 + 3 ≤ 100000; decide))) ?_ (rv_ixL hx))
  · walk_at "ev"
  · walk_at "ev"
theorem sc__law_bad_counts : FnScope ["_law_which", "_law_more", "_law_bad", "_law_counts"] ["_law_which", "_law_more"] (defScope s__law_bad_counts) := ⟨rfl, rfl, rfl, by decide +kernel, rfl, by decide +kernel, by decide +kernel⟩
theorem ok__law_bad_counts (D : DefAt T.K mg "_law_bad_counts" s__law_bad_counts ["_law_which", "_law_more"]) (B : Bl mg)  : Cal P w T.K mg base 1 "_law_bad_counts" ["_law_which", "_law_more"] (spD T R_bcs) := D.cal fun f fd F => by
  refine F.ok sc__law_bad_counts ?hlen (fun cdv A outer s H vs Q E hr h => ⟨_, (pss_cons (ps_set (i := 2) sc__law_bad_counts.nd rfl (Or.inl rfl) (pe_lst (pa_cons pe_non (pa_cons (x_repT T (pe_tup (pa_cons pe_int pa_nil)) pe_int) (pa_cons pe_str (pa_cons pe_dnewK (pa_cons pe_int (pa_cons (pe_lst pa_nil) (pa_cons (pe_op op_mulA (pe_lst (pa_cons pe_int pa_nil)) pe_int) (pa_cons (pe_op op_mulA (pe_lst (pa_cons pe_int pa_nil)) pe_int) pa_nil))))))))))
  (pss_cons (ps_if (pt_cmpR op_ltA (pe_op op_modA (pv 0) pe_int) pe_int (nomark _))
  (pss_one (ps_ret (x_ix T (pv 2) (pe_op op_modA (pv 0) pe_int))))
  pss_nil)
  (pss_cons (ps_set (i := 3) sc__law_bad_counts.nd rfl (Or.inl rfl) (pe_lst (pa_cons (pv 1) (pa_cons pe_int (pa_cons pe_int (pa_cons pe_int (pa_cons pe_int (pa_cons pe_int (pa_cons pe_int (pa_cons pe_int pa_nil))))))))))
  (pss_cons (ps_asg (x_ix T (pe_lst (pa_cons pe_non (pa_cons (pe_un un_negA pe_int) (pa_cons (pe_op op_subA (pe_un un_negA pe_int) (pv 1)) (pa_cons pe_bl (pa_cons pe_str (pa_cons (pe_lst (pa_cons pe_int pa_nil)) (pa_cons (pe_tup (pa_cons pe_int pa_nil)) (pa_cons pe_dnewK pa_nil))))))))) (pe_op op_subA (pe_op op_modA (pv 0) pe_int) pe_int)) (pg_sub (pv 3) (pe_op op_modA (pe_op op_divA (pv 0) pe_int) pe_int) set_list))
  (pss_one (ps_ret (pv 3))))))), fn_d h (fun ds d r => ?_)⟩)
  case hlen => exact spD_len (n := 2) len_R_bcs
  obtain ⟨n, m, rfl, n0, m0, h⟩ := r
  refine .inl ?_
  refine se_seq (se_asg (d := .list bc1) (EvO.toD (eo_lst (ea_cons ed_non (ea_cons (ed_repT8 ?_ ed_int) (ea_cons ed_str (ea_cons ed_dnew (ea_cons ed_int (ea_cons ?_ (ea_cons (EvD.is (ed_op (EvO.toD (eo_lst (ea_cons ed_int ea_nil) (by decide))) ed_int (rv_rep ⟨by decide, by decide, by decide⟩)) rfl) (ea_cons (EvD.is (ed_op (EvO.toD (eo_lst (ea_cons ed_int ea_nil) (by decide))) ed_int (rv_rep ⟨by decide, by decide, by decide⟩)) rfl) ea_nil)))))))) (by show 8 ≤ 100000; decide)))) ?_
  · walk_at "ev"
  · walk_at "ev"
  show SeD T _ [.dat (.int n), .dat (.int m), .dat (.list bc1), .no] _
  rcases h with ⟨h8, hx⟩ | ⟨h8, x, hx, rfl⟩
  · refine se_cutT (EvT.is (b := decide (n % 16 < 8)) ?_ (decide_eq_true h8)) (se_ret (ed_op (ed_var (by rfl)) ?_ (rv_ixL hx)))
    · walk_at "ev"
    · walk_at "ev"
  · refine se_cutF (EvT.is (b := decide (n % 16 < 8)) ?_ (decide_eq_false (by omega))) ?_
    · walk_at "ev"
    refine se_seq (se_asgO (ds := base8 m) (eo_lst ?_ (by show 8 ≤ 100000; decide))) ?_
    · show EvA T _ _ [.int m, .int 0, .int 2, .int 1, .int 0, .int 0, .int 3, .int 1]
      walk_at "ev"
    refine se_seq (se_set (i := 3) (k := (n / 16 % 8).toNat) (d := x) (by rfl) (ed_op (x := .list (bads8 m)) ?_ ?_ (rv_ixL hx)) (EvD.is (d := .int (n / 16 % 8)) ?_ (by rw [show (((n / 16 % 8).toNat : Nat) : Int) = n / 16 % 8 by omega])) (by show (n / 16 % 8).toNat < 8; omega)) ?_
    · show EvD T _ _ (.list [.none, .int (-1), .int (-1 - m), .bool true, .str "1", .list [.int 1], .tuple [.int 1], .dict []])
      walk_at "ev"
    · walk_at "ev"
    · walk_at "ev"
      exact cd_lit rfl
    refine se_freeze (i := 3) (by rfl) ?_
    exact se_ret (ed_var (by rfl))
/-- the suite: what is told of an error -/
abbrev hS (T : Tx) (CL CP CC : Addr) (a : Addr) (cls : Value) (d : Option Addr) : TS := tSeq
  (tAsg (tLst (tCons (tCB (rIsX T.K cls d a) (tCons (tVar 6) (tCons (tC (V.ref CL)) tNil))) (tCons (tCB (rIsX T.K cls d a) (tCons (tVar 6) (tCons (tC (V.ref CP)) tNil))) (tCons (tCB (rIsX T.K cls d a) (tCons (tVar 6) (tCons (tC (V.ref CC)) tNil))) tNil)))) (gName 7))
  (tRet (tOp rAddA (tVar 7) (tLst (tCons (tCB (rIsX T.K cls d a) (tCons (tVar 6) (tCons (tC (V.ty "ValueError")) tNil))) tNil))))
theorem hand {CL CP CC C a : Addr} {b1 b2 b3 : Bool} {s0 s1 s2 s3 s4 s5 s7 : Sl} (hC : ExcC T.K C) (k1 : PySem.W.kitOne T.K (.ref C) (.ref CL) = some b1) (k2 : PySem.W.kitOne T.K (.ref C) (.ref CP) = some b2) (k3 : PySem.W.kitOne T.K (.ref C) (.ref CC) = some b3) (v : PySem.W.kitOne T.K (.ref C) (.type "ValueError") = some true) :
    SeD T (hS T CL CP CC a (.ref C) none) [s0, s1, s2, s3, s4, s5, .ad a, s7] (.rt (.list ([b1, b2, b3, true].map .bool))) := by
  refine se_seq (se_asg (d := .list [.bool b1, .bool b2, .bool b3]) (EvO.toD (eo_lst (ea_cons (ed_isX (by rfl) hC (fun u h => h) k1) (ea_cons (ed_isX (by rfl) hC (fun u h => h) k2) (ea_cons (ed_isX (by rfl) hC (fun u h => h) k3) ea_nil))) (by show 3 ≤ 100000; decide)))) ?_
  exact se_ret (EvD.is (ed_op (ed_var (by rfl)) (EvO.toD (eo_lst (ea_cons (ed_isX (by rfl) hC (fun u h => h) v) ea_nil) (by show 1 ≤ 100000; decide))) (rv_cat (by show 3 + 1 ≤ 100000; decide))) rfl)
abbrev i3 (T : Tx) : TS := tIfS (tTest (tOp (rEqD T.K) (tOp rModI (tVar 1) (tC (V.int 16))) (tC (V.int 15))))
  (tAsg (tOp (rIxA T.K) (tLst (tCons (tTup (tCons (tC (V.int 0)) (tCons (tC (V.int 0)) tNil))) (tCons (tTup (tCons (tOp rSubI (tUn rNegI (tC (V.int 1))) (tVar 2)) (tCons (tC (V.int 2)) tNil))) (tCons (tTup (tCons (tC (V.int 1)) (tCons (tOp rSubI (tUn rNegI (tC (V.int 1))) (tVar 2)) tNil))) tNil)))) (tOp rModI (tOp rDivI (tVar 1) (tC (V.int 64))) (tC (V.int 3)))) (gName 3)) tNext
abbrev bK0 (T : Tx) (CL : Addr) (W : WX) : TS := tSeq (tAsg (tCall (spD T R_pairs) [] E0 (tCons (tVar 1) (tCons (tVar 2) tNil))) (gName 3))
  (tSeq (i3 T) (tDrop (tCallS (spX T R_no (Er_wl CL)) (WE W) (tCons (tOp rModI (tOp rDivI (tVar 1) (tC (V.int 16))) (tC (V.int 4))) (tCons (tVar 3) tNil)))))
abbrev bK1 (T : Tx) (CP : Addr) (W : WX) : TS := tDrop (tCallS (spX T R_no (Er_wp CP)) (WE W) (tCons (tOp rModI (tOp rDivI (tVar 1) (tC (V.int 15))) (tC (V.int 3))) (tCons (tCall (spD T R_pairs) [] E0 (tCons (tVar 1) (tCons (tVar 2) tNil))) tNil)))
abbrev bK2 (T : Tx) (CL CC : Addr) (W : WX) : TS := tSeq (tAsg (tCall (spD T R_bcs) [] E0 (tCons (tVar 1) (tCons (tVar 2) tNil))) (gName 4))
  (tDrop (tIf (tTest (tOp (rEqD T.K) (tOp rModI (tOp rDivI (tVar 1) (tC (V.int 128))) (tC (V.int 2))) (tC (V.int 0)))) (tCallS (spX T R_place_of (Er_pl CL CC)) (WE W) (tCons (tTup (tCons (tC (V.int 1)) (tCons (tC (V.int 2)) tNil))) (tCons (tVar 4) tNil)))
    (tCallS (spX T R_behind (Er_bh CL CC)) (WE W) (tCons (tTup (tCons (tC (V.int 1)) (tCons (tC (V.int 2)) tNil))) (tCons (tVar 4) (tCons (tUn rNegI (tC (V.int 1))) tNil))))))
abbrev l10 (T : Tx) : TE := tLst (tCons (tC V.non) (tCons (tC (V.str "1")) (tCons (tC (V.bl true)) (tCons (tC (V.bl false)) (tCons (tLst (tCons (tC (V.int 1)) tNil)) (tCons (tTup (tCons (tC (V.int 1)) tNil)) (tCons tDNewK (tCons (tUn rNegI (tC (V.int 1))) (tCons (tOp rSubI (tUn rNegI (tC (V.int 1))) (tVar 2)) (tCons (tOp rAddA (tC (V.int 9)) (tVar 2)) tNil))))))))))
abbrev bK3 (T : Tx) (CL CC : Addr) (W : WX) : TS := tSeq (tAsg (tOp (rIxA T.K) (l10 T) (tOp rModI (tVar 1) (tC (V.int 10)))) (gName 3))
  (tSeq (tAsg (tOp rModI (tOp rDivI (tVar 1) (tC (V.int 10))) (tC (V.int 3))) (gName 5))
    (tIfS (tOr (tTest (tOp (rEqD T.K) (tVar 5) (tC (V.int 0)))) (tTest (tOp (rEqD T.K) (tOp rModI (tVar 1) (tC (V.int 10))) (tC (V.int 9)))))
      (tDrop (tCallS (spX T R_behind (Er_bh CL CC)) (WE W) (tCons (tTup (tCons (tOp rAddA (tC (V.int 1)) (tVar 2)) (tCons (tC (V.int 2)) tNil))) (tCons (tLst (tCons (tC (V.int 0)) (tCons (tC (V.int 1)) (tCons (tC (V.int 2)) (tCons (tC (V.int 0)) (tCons (tC (V.int 0)) (tCons (tC (V.int 3)) (tCons (tC (V.int 1)) (tCons (tC (V.int 1)) tNil))))))))) (tCons (tVar 3) tNil)))))
      (tIfS (tTest (tOp (rEqD T.K) (tVar 5) (tC (V.int 1)))) (tDrop (tCallS (spX T R_places (Er_many CC)) (WE W) (tCons (tVar 3) tNil))) (tDrop (tCallS (spX T R_no (Er_many CC)) (WE W) (tCons (tVar 3) tNil))))))
abbrev bAll (T : Tx) (CL CP CC : Addr) (W : WX) : TS := tIfS (tTest (tOp (rEqD T.K) (tVar 0) (tC (V.int 0)))) (bK0 T CL W) (tIfS (tTest (tOp (rEqD T.K) (tVar 0) (tC (V.int 1)))) (bK1 T CP W) (tIfS (tTest (tOp (rEqD T.K) (tVar 0) (tC (V.int 2)))) (bK2 T CL CC W) (bK3 T CL CC W)))
theorem et_k {ρ : List Sl} {k c : Int} (h : ρ[0]? = some (.dat (.int k))) : EvT T (tTest (tOp (rEqD T.K) (tVar 0) (tC (V.int c)))) ρ (decide (k = c)) := et_test (ed_opB (EvD.toB (ed_var h)) (EvD.toB ed_int) rv_eqI)
theorem k0_go {CL : Addr} {n m : Int} (n0 : 0 ≤ n) (m0 : 0 ≤ m) : ∃ y, ∀ W : WX, SeD T (bK0 T CL W) [.dat (.int 0), .dat (.int n), .dat (.int m), .no, .no, .no, .no, .no] (.rx W CL [.dat (.int 0), .dat (.int n), .dat (.int m), .dat y, .no, .no, .no, .no]) := by
  obtain ⟨x, hx, rx⟩ := r_pairs n m
  obtain ⟨y, hy, st⟩ : ∃ y, badL y ∧ SeD T (i3 T) [.dat (.int 0), .dat (.int n), .dat (.int m), .dat x, .no, .no, .no, .no] (.nx [.dat (.int 0), .dat (.int n), .dat (.int m), .dat y, .no, .no, .no, .no]) := by
    have tst : EvT T (tTest (tOp (rEqD T.K) (tOp rModI (tVar 1) (tC (V.int 16))) (tC (V.int 15)))) [.dat (.int 0), .dat (.int n), .dat (.int m), .dat x, .no, .no, .no, .no] (decide (n % 16 = 15)) := by
      walk_at "ev"
    by_cases h : n % 16 = 15
    · have h3 : n / 64 % 3 = 0 ∨ n / 64 % 3 = 1 ∨ n / 64 % 3 = 2 := by omega
      obtain ⟨y, hy, hi⟩ : ∃ y, badL y ∧ atI [PyData.tuple [.int 0, .int 0], .tuple [.int (-1 - m), .int 2], .tuple [.int 1, .int (-1 - m)]] (n / 64 % 3) = some y := by
        rcases h3 with e | e | e <;> rw [e]
        · exact ⟨_, ⟨rfl, .inr ⟨_, _, rfl, .inr (.inr ⟨rfl, rfl⟩)⟩⟩, rfl⟩
        · exact ⟨_, ⟨rfl, .inr ⟨_, _, rfl, .inl (by omega)⟩⟩, rfl⟩
        · exact ⟨_, ⟨rfl, .inr ⟨_, _, rfl, .inr (.inl (by omega))⟩⟩, rfl⟩
      refine ⟨y, hy, se_ifT (EvT.is tst (decide_eq_true h)) (se_asg (i := 3) (ed_op (x := .list [.tuple [.int 0, .int 0], .tuple [.int (-1 - m), .int 2], .tuple [.int 1, .int (-1 - m)]]) ?_ ?_ (rv_ixL hi)))⟩
      · walk_at "ev"
      · walk_at "ev"
        exact cd_lit rfl
    · exact ⟨x, ⟨hx.1, .inl hx.2⟩, se_ifF (EvT.is tst (decide_eq_false h)) se_next⟩
  refine ⟨y, fun W => se_seq (se_asg (d := x) (ed_call (ds := [.int n, .int m]) (ea_cons (ed_var (by rfl)) (ea_cons (ed_var (by rfl)) ea_nil)) rx)) (se_seq st (se_dropR (er_call (ds := [.int (n / 16 % 4), y]) (ea_cons ?_ (ea_cons (ed_var (by rfl)) ea_nil)) ⟨_, y, rfl, by omega, by omega, hy, rfl⟩)))⟩
  walk_at "ev"
  exact cd_lit rfl
theorem k1_go {CP : Addr} {n m : Int} : ∀ W : WX, SeD T (bK1 T CP W) [.dat (.int 1), .dat (.int n), .dat (.int m), .no, .no, .no, .no, .no] (.rx W CP [.dat (.int 1), .dat (.int n), .dat (.int m), .no, .no, .no, .no, .no]) := by
  obtain ⟨x, hx, rx⟩ := r_pairs n m
  refine fun W => se_dropR (er_call (ds := [.int (n / 15 % 3), x]) (ea_cons ?_ (ea_cons (ed_call (ds := [.int n, .int m]) (ea_cons (ed_var (by rfl)) (ea_cons (ed_var (by rfl)) ea_nil)) rx) ea_nil)) ⟨_, x, rfl, by omega, by omega, hx, rfl⟩)
  walk_at "ev"
  exact cd_lit rfl
theorem k2_go {CL CC : Addr} {n m : Int} (n0 : 0 ≤ n) (m0 : 0 ≤ m) : ∃ y, ∀ W : WX, SeD T (bK2 T CL CC W) [.dat (.int 2), .dat (.int n), .dat (.int m), .no, .no, .no, .no, .no] (.rx W CC [.dat (.int 2), .dat (.int n), .dat (.int m), .no, .dat y, .no, .no, .no]) := by
  obtain ⟨x, hx, rx⟩ := r_bcs n0 m0
  have g : gdL (.tuple [.int 1, .int 2]) := ⟨1, 2, rfl, by decide, by decide, by decide⟩
  have tp : ∀ {ρ : List Sl}, EvD T (tTup (tCons (tC (V.int 1)) (tCons (tC (V.int 2)) tNil))) ρ (.tuple [.int 1, .int 2]) := ed_tup (ea_cons ed_int (ea_cons ed_int ea_nil)) (by show 2 ≤ 100000; decide)
  have tst : EvT T (tTest (tOp (rEqD T.K) (tOp rModI (tOp rDivI (tVar 1) (tC (V.int 128))) (tC (V.int 2))) (tC (V.int 0)))) [.dat (.int 2), .dat (.int n), .dat (.int m), .no, .dat x, .no, .no, .no] (decide (n / 128 % 2 = 0)) := by
    walk_at "ev"
    exact cd_lit rfl
  refine ⟨x, fun W => se_seq (se_asg (d := x) (ed_call (ds := [.int n, .int m]) (ea_cons (ed_var (by rfl)) (ea_cons (ed_var (by rfl)) ea_nil)) rx)) ?_⟩
  by_cases h : n / 128 % 2 = 0
  · exact se_dropR (er_ifT (EvT.is tst (decide_eq_true h)) (er_call (ds := [.tuple [.int 1, .int 2], x]) (ea_cons tp (ea_cons (ed_var (by rfl)) ea_nil)) ⟨_, x, rfl, .inr ⟨g, hx, rfl⟩⟩))
  · exact se_dropR (er_ifF (EvT.is tst (decide_eq_false h)) (er_call (ds := [.tuple [.int 1, .int 2], x, .int (-1)]) (ea_cons tp (ea_cons (ed_var (by rfl)) (ea_cons (ed_neg ed_int) ea_nil))) ⟨_, x, _, rfl, .inr (.inl ⟨g, hx, rfl⟩)⟩))
theorem k3_go {CL CC : Addr} {n m : Int} (n0 : 0 ≤ n) (m0 : 0 ≤ m) (m9 : m < 1000) : ∃ y, ∀ W : WX, SeD T (bK3 T CL CC W) [.dat (.int 3), .dat (.int n), .dat (.int m), .no, .no, .no, .no, .no] (.rx W CC [.dat (.int 3), .dat (.int n), .dat (.int m), .dat y, .no, .dat (.int (n / 10 % 3)), .no, .no]) := by
  have lc : LC (1 + m) 2 [0, 1, 2, 0, 0, 3, 1, 1] := ⟨by omega, by decide, by omega, Sm.mono (n := 11) (show (1 + m).natAbs < 2 ^ 11 from (by have e : 2 ^ 11 = 2048 := rfl; omega)) (by decide), Sm.lit (by decide), fun c h => by
    simp only [List.mem_cons, List.not_mem_nil, or_false] at h
    rcases h with rfl | rfl | rfl | rfl | rfl | rfl | rfl | rfl <;> exact ⟨by decide, Sm.lit (by decide)⟩, rfl⟩
  have hsum : ([0, 1, 2, 0, 0, 3, 1, 1] : List Int).sum = 8 := rfl
  have hd : EvD T (l10 T) [.dat (.int 3), .dat (.int n), .dat (.int m), .no, .no, .no, .no, .no] (.list (bads10 m)) := by
    show EvD T (l10 T) _ (.list [.none, .str "1", .bool true, .bool false, .list [.int 1], .tuple [.int 1], .dict [], .int (-1), .int (-1 - m), .int (9 + m)])
    walk_at "ev"
  obtain ⟨y, hy, hi, hz⟩ : ∃ y, simpD y = true ∧ atI (bads10 m) (n % 10) = some y ∧ ((n % 10 = 9 ∧ y = .int (9 + m)) ∨ (n % 10 < 9 ∧ badM y)) := by
    by_cases h : n % 10 = 9
    · rw [h]
      exact ⟨.int (9 + m), rfl, rfl, .inl ⟨rfl, rfl⟩⟩
    · obtain ⟨y, h1, h2⟩ := bads10_ok m0 (i := (n % 10).toNat) (by omega)
      exact ⟨y, h2.1, atI_nat (by omega) h1, .inr ⟨by omega, h2⟩⟩
  have i10 : ∀ {ρ : List Sl}, ρ[1]? = some (.dat (.int n)) → EvD T (tOp rModI (tVar 1) (tC (V.int 10))) ρ (.int (n % 10)) := fun h => ed_op (ed_var h) ed_int (rv_mod (by decide))
  refine ⟨y, fun W => se_seq (se_asg (d := y) (ed_op hd (i10 (by rfl)) (rv_ixL hi))) (se_seq (se_asg (d := .int (n / 10 % 3)) ?_) ?_)⟩
  · walk_at "ev"
    exact cd_lit rfl
  show SeD T _ [.dat (.int 3), .dat (.int n), .dat (.int m), .dat y, .no, .dat (.int (n / 10 % 3)), .no, .no] _
  have tst : EvT T (tOr (tTest (tOp (rEqD T.K) (tVar 5) (tC (V.int 0)))) (tTest (tOp (rEqD T.K) (tOp rModI (tVar 1) (tC (V.int 10))) (tC (V.int 9))))) [.dat (.int 3), .dat (.int n), .dat (.int m), .dat y, .no, .dat (.int (n / 10 % 3)), .no, .no] (decide (n / 10 % 3 = 0) || decide (n % 10 = 9)) := et_or (et_test (ed_opB (EvD.toB (ed_var (by rfl))) (EvD.toB ed_int) rv_eqI)) fun _ => et_test (ed_opB (EvD.toB (i10 (by rfl))) (EvD.toB ed_int) rv_eqI)
  by_cases h : n / 10 % 3 = 0 ∨ n % 10 = 9
  · refine se_ifT (EvT.is tst (by simpa using h)) (se_dropR (er_call (ds := [.tuple [.int (1 + m), .int 2], .list (([0, 1, 2, 0, 0, 3, 1, 1] : List Int).map .int), y]) (ea_cons ?_ (ea_cons ?_ (ea_cons (ed_var (by rfl)) ea_nil))) ⟨_, _, y, rfl, .inr (.inr ⟨1 + m, 2, _, rfl, rfl, lc, hy, ?_, rfl⟩)⟩))
    · walk_at "ev"
    · show EvD T _ _ (.list [.int 0, .int 1, .int 2, .int 0, .int 0, .int 3, .int 1, .int 1])
      walk_at "ev"
    · rcases hz with ⟨_, rfl⟩ | ⟨_, hb⟩
      · exact .inr ⟨9 + m, rfl, .inr (by rw [hsum]; omega)⟩
      · rcases hb.2 with hb | ⟨z, rfl, hz⟩
        · exact .inl hb
        · exact .inr ⟨z, rfl, .inl hz⟩
  · have hb : badM y := by
      rcases hz with ⟨e, _⟩ | ⟨_, hb⟩
      · exact absurd (.inr e) h
      · exact hb
    refine se_ifF (EvT.is tst (by simpa using h)) ?_
    have t2 : EvT T (tTest (tOp (rEqD T.K) (tVar 5) (tC (V.int 1)))) [.dat (.int 3), .dat (.int n), .dat (.int m), .dat y, .no, .dat (.int (n / 10 % 3)), .no, .no] (decide (n / 10 % 3 = 1)) := et_test (ed_opB (EvD.toB (ed_var (by rfl))) (EvD.toB ed_int) rv_eqI)
    by_cases h1 : n / 10 % 3 = 1
    · exact se_ifT (EvT.is t2 (decide_eq_true h1)) (se_dropR (er_call (ds := [y]) (ea_cons (ed_var (by rfl)) ea_nil) ⟨y, rfl, hb, rfl⟩))
    · exact se_ifF (EvT.is t2 (decide_eq_false h1)) (se_dropR (er_call (ds := [y]) (ea_cons (ed_var (by rfl)) ea_nil) ⟨y, rfl, hb, rfl⟩))
theorem sc__law_told : FnScope ["_law_kind", "_law_which", "_law_more", "_law_bad", "_law_counts", "_law_door", "error", "_law_found"] ["_law_kind", "_law_which", "_law_more"] (defScope s__law_told) := ⟨rfl, rfl, rfl, by decide +kernel, rfl, by decide +kernel, by decide +kernel⟩
theorem ok__law_told (D : DefAt T.K mg "_law_told" s__law_told ["_law_kind", "_law_which", "_law_more"]) (B : Bl mg) (c_law_pairs : Cal P w T.K mg base 1 "_law_pairs" ["_law_which", "_law_more"] (spD T R_pairs)) (c_law_with_leap : CalX P w T.K mg base 6 "_law_with_leap" ["_law_door", "_law_leap"] (spX T R_no (Er_wl aBadLeap))) (c_law_with_place : CalX P w T.K mg base 5 "_law_with_place" ["_law_door", "_law_place"] (spX T R_no (Er_wp aBadPlace))) (c_law_bad_counts : Cal P w T.K mg base 1 "_law_bad_counts" ["_law_which", "_law_more"] (spD T R_bcs)) (c_place_of : CalX P w T.K mg base 4 "place_of" ["leap", "counts"] (spX T R_place_of (Er_pl aBadLeap aBadCount))) (c_behind : CalX P w T.K mg base 5 "behind" ["leap", "counts", "many"] (spX T R_behind (Er_bh aBadLeap aBadCount))) (c_places : CalX P w T.K mg base 3 "places" ["many"] (spX T R_places (Er_many aBadCount))) (c_within : CalX P w T.K mg base 3 "within" ["many"] (spX T R_no (Er_many aBadCount))) (e_BadCount : ErrF T.K mg "BadCount" aBadCount) (e_BadPlace : ErrF T.K mg "BadPlace" aBadPlace) (e_BadLeap : ErrF T.K mg "BadLeap" aBadLeap) (mV : mg "ValueError" = none) (gLE : mg "LeapError" = some (.ref aLE)) (EK : ErrK T.K aBadLeap aBadPlace aBadCount aLE) : Cal P w T.K mg base 7 "_law_told" ["_law_kind", "_law_which", "_law_more"] (spD T R_told5) := D.cal fun f fd F => by
  refine F.ok sc__law_told ?hlen (fun cdv A outer s H vs Q E hr h => ⟨_, (pss_cons (ps_try_as (i := 6) rfl rfl sc__law_told.nd rfl rfl ⟨rfl, by decide, .inl gLE⟩ takes0 (fun W pn xe tk _ => (pss_one (ps_if (y_eq T hr.units (pv 0) pe_int)
  (pss_cons (ps_set (i := 3) sc__law_told.nd rfl (Or.inl rfl) (x_call c_law_pairs (hr.mono (by decide)) (pa_cons (pv 1) (pa_cons (pv 2) pa_nil))))
  (pss_cons (ps_if (y_eq T hr.units (pe_op op_modA (pv 1) pe_int) pe_int)
  (pss_one (ps_set (i := 3) sc__law_told.nd rfl (Or.inl rfl) (x_ix T (pe_lst (pa_cons (pe_tup (pa_cons pe_int (pa_cons pe_int pa_nil))) (pa_cons (pe_tup (pa_cons (pe_op op_subA (pe_un un_negA pe_int) (pv 2)) (pa_cons pe_int pa_nil))) (pa_cons (pe_tup (pa_cons pe_int (pa_cons (pe_op op_subA (pe_un un_negA pe_int) (pv 2)) pa_nil))) pa_nil)))) (pe_op op_modA (pe_op op_divA (pv 1) pe_int) pe_int))))
  pss_nil)
  (pss_one (ps_expr (x_callX c_law_with_leap (hr.mono (by decide)) tk (pa_cons (pe_op op_modA (pe_op op_divA (pv 1) pe_int) pe_int) (pa_cons (pv 3) pa_nil)))))))
  (pss_one (ps_if (y_eq T hr.units (pv 0) pe_int)
  (pss_one (ps_expr (x_callX c_law_with_place (hr.mono (by decide)) tk (pa_cons (pe_op op_modA (pe_op op_divA (pv 1) pe_int) pe_int) (pa_cons (x_call c_law_pairs (hr.mono (by decide)) (pa_cons (pv 1) (pa_cons (pv 2) pa_nil))) pa_nil)))))
  (pss_one (ps_if (y_eq T hr.units (pv 0) pe_int)
  (pss_cons (ps_set (i := 4) sc__law_told.nd rfl (Or.inl rfl) (x_call c_law_bad_counts (hr.mono (by decide)) (pa_cons (pv 1) (pa_cons (pv 2) pa_nil))))
  (pss_one (ps_expr (pe_ifExp (y_eq T hr.units (pe_op op_modA (pe_op op_divA (pv 1) pe_int) pe_int) pe_int) (x_callX c_place_of (hr.mono (by decide)) tk (pa_cons (pe_tup (pa_cons pe_int (pa_cons pe_int pa_nil))) (pa_cons (pv 4) pa_nil))) (x_callX c_behind (hr.mono (by decide)) tk (pa_cons (pe_tup (pa_cons pe_int (pa_cons pe_int pa_nil))) (pa_cons (pv 4) (pa_cons (pe_un un_negA pe_int) pa_nil))))))))
  (pss_cons (ps_set (i := 3) sc__law_told.nd rfl (Or.inl rfl) (x_ix T (pe_lst (pa_cons pe_non (pa_cons pe_str (pa_cons pe_bl (pa_cons pe_bl (pa_cons (pe_lst (pa_cons pe_int pa_nil)) (pa_cons (pe_tup (pa_cons pe_int pa_nil)) (pa_cons pe_dnewK (pa_cons (pe_un un_negA pe_int) (pa_cons (pe_op op_subA (pe_un un_negA pe_int) (pv 2)) (pa_cons (pe_op op_addA pe_int (pv 2)) pa_nil))))))))))) (pe_op op_modA (pv 1) pe_int)))
  (pss_cons (ps_set (i := 5) sc__law_told.nd rfl (Or.inl rfl) (pe_op op_modA (pe_op op_divA (pv 1) pe_int) pe_int))
  (pss_one (ps_if (PW.pt (pw_or (y_eq T hr.units (pv 5) pe_int) (pw_or1 (y_eq T hr.units (pe_op op_modA (pv 1) pe_int) pe_int))))
  (pss_one (ps_expr (x_callX c_behind (hr.mono (by decide)) tk (pa_cons (pe_tup (pa_cons (pe_op op_addA pe_int (pv 2)) (pa_cons pe_int pa_nil))) (pa_cons (pe_lst (pa_cons pe_int (pa_cons pe_int (pa_cons pe_int (pa_cons pe_int (pa_cons pe_int (pa_cons pe_int (pa_cons pe_int (pa_cons pe_int pa_nil))))))))) (pa_cons (pv 3) pa_nil))))))
  (pss_one (ps_if (y_eq T hr.units (pv 5) pe_int)
  (pss_one (ps_expr (x_callX c_places (hr.mono (by decide)) tk (pa_cons (pv 3) pa_nil))))
  (pss_one (ps_expr (x_callX c_within (hr.mono (by decide)) tk (pa_cons (pv 3) pa_nil))))))))))))))))) (fun a oe cls d pn hz hf => (pss_cons (ps_set (i := 7) sc__law_told.nd rfl (Or.inl rfl) (pe_lst (pa_cons (x_isX T B hz hf (pv 6) (x_cls e_BadLeap.g)) (pa_cons (x_isX T B hz hf (pv 6) (x_cls e_BadPlace.g)) (pa_cons (x_isX T B hz hf (pv 6) (x_cls e_BadCount.g)) pa_nil)))))
  (pss_one (ps_ret (pe_op op_addA (pv 7) (pe_lst (pa_cons (x_isX T B hz hf (pv 6) (x_vErr mV)) pa_nil))))))))
  (pss_one (ps_ret (pe_lst pa_nil)))), fn_d h (fun ds d r => ?_)⟩)
  case hlen => exact spD_len (n := 3) len_R_told5
  obtain ⟨k, n, m, rfl, rfl, k0, k4, n0, m0, m9⟩ := r
  refine .inl ?_
  have hk : k = 0 ∨ k = 1 ∨ k = 2 ∨ k = 3 := by omega
  rcases hk with rfl | rfl | rfl | rfl
  · obtain ⟨y, go⟩ := k0_go (T := T) (CL := aBadLeap) n0 m0
    exact se_seqL (se_try (tb := bAll T aBadLeap aBadPlace aBadCount) (hs := hS T aBadLeap aBadPlace aBadCount) (C := aBadLeap) (fun W => se_ifT (EvT.is (et_k (by rfl)) rfl) (go W)) EK.mL fun a => hand EK.eL EK.kLL EK.kLP EK.kLC EK.vL) trivial
  · exact se_seqL (se_try (tb := bAll T aBadLeap aBadPlace aBadCount) (hs := hS T aBadLeap aBadPlace aBadCount) (C := aBadPlace) (fun W => se_ifF (EvT.is (et_k (by rfl)) rfl) (se_ifT (EvT.is (et_k (by rfl)) rfl) (k1_go W))) EK.mP fun a => hand EK.eP EK.kPL EK.kPP EK.kPC EK.vP) trivial
  · obtain ⟨y, go⟩ := k2_go (T := T) (CL := aBadLeap) (CC := aBadCount) n0 m0
    exact se_seqL (se_try (tb := bAll T aBadLeap aBadPlace aBadCount) (hs := hS T aBadLeap aBadPlace aBadCount) (C := aBadCount) (fun W => se_ifF (EvT.is (et_k (by rfl)) rfl) (se_ifF (EvT.is (et_k (by rfl)) rfl) (se_ifT (EvT.is (et_k (by rfl)) rfl) (go W)))) EK.mC fun a => hand EK.eC EK.kCL EK.kCP EK.kCC EK.vC) trivial
  · obtain ⟨y, go⟩ := k3_go (T := T) (CL := aBadLeap) (CC := aBadCount) n0 m0 m9
    exact se_seqL (se_try (tb := bAll T aBadLeap aBadPlace aBadCount) (hs := hS T aBadLeap aBadPlace aBadCount) (C := aBadCount) (fun W => se_ifF (EvT.is (et_k (by rfl)) rfl) (se_ifF (EvT.is (et_k (by rfl)) rfl) (se_ifF (EvT.is (et_k (by rfl)) rfl) (go W)))) EK.mC fun a => hand EK.eC EK.kCL EK.kCP EK.kCC EK.vC) trivial
end
end LW
set_option Elab.async false
set_option linter.all false
set_option maxRecDepth 100000
set_option maxHeartbeats 4000000
namespace LW
open PySem PySem.Spec PyProof.Rows L2 Evl
/-! one step of an evaluation, by the reading's head -/
set_option hygiene false in
local macro_rules | `(tactic| walk_at "kb") => `(tactic| with_reducible (first | exact kb_NoneType_int | exact kb_NoneType_bool | exact kb_NoneType_tuple | exact kb_NoneType_list | exact kb_NoneType_str | exact kb_bool_int | exact kb_bool_bool | exact kb_bool_tuple | exact kb_bool_list | exact kb_bool_str | exact kb_int_int | exact kb_int_bool | exact kb_int_tuple | exact kb_int_list | exact kb_int_str | exact kb_str_int | exact kb_str_bool | exact kb_str_tuple | exact kb_str_list | exact kb_str_str | exact kb_list_int | exact kb_list_bool | exact kb_list_tuple | exact kb_list_list | exact kb_list_str | exact kb_tuple_int | exact kb_tuple_bool | exact kb_tuple_tuple | exact kb_tuple_list | exact kb_tuple_str | exact kb_dict_int | exact kb_dict_bool | exact kb_dict_tuple | exact kb_dict_list | exact kb_dict_str | exact KT.wa | exact KT.na | exact KT.ww | exact KT.wn | exact KT.nw | exact KT.nn))
set_option hygiene false in
local macro_rules | `(tactic| walk_at "sd") => `(tactic| first | assumption | rfl | decide | omega)
set_option hygiene false in
local macro_rules | `(tactic| walk_at "rv") => `(tactic| with_reducible (first
  | exact rv_add | exact rv_sub | exact rv_eqI | exact rv_neI | exact rv_lt | exact rv_le | exact rv_gt | exact rv_ge
  | apply rv_mul | apply rv_div | apply rv_mod | apply rv_pow
  | exact rv_eqBo | exact rv_neBo | exact rv_isB | exact rv_notB | exact rv_eqP | exact rv_neP
  | exact rv_eqIL | exact rv_neIL | exact rv_eqPL | exact rv_nePL
  | apply rv_ixT | apply rv_ixL | apply rv_ixS | apply rv_cat | apply rv_rep))
set_option hygiene false in
local macro_rules | `(tactic| walk_at "rc") => `(tactic| with_reducible (first
  | exact rc_abs | exact rc_max2 | exact rc_min2 | exact rc_minT | exact rc_maxT | exact rc_lenIL | exact rc_lenL | exact rc_lenT | exact rc_lenS | exact rc_sum | exact rc_all | exact rc_any | apply rc_sumD | apply rc_allD | apply rc_anyD))
set_option hygiene false in
local macro_rules | `(tactic| walk_at "r1") => `(tactic| fail)
set_option hygiene false in
local macro_rules | `(tactic| walk_at "e1") => `(tactic| first
  | (with_reducible exact ed_int) | (with_reducible exact ed_bl) | (with_reducible exact ed_non) | (with_reducible exact ed_str)
  | ((with_reducible apply ed_var); rfl)
  | ((with_reducible apply eb_own); rfl)
  | ((with_reducible apply eb_oway); rfl)
  | (with_reducible apply ea_cons) | (with_reducible exact ea_nil)
  | (with_reducible apply eba_cons) | (with_reducible exact eba_nil)
  | (with_reducible apply ed_tup)
  | ((with_reducible apply ed_ixO); rfl)
  | (with_reducible apply ed_opB (T := _) (r := rEqD _)) | (with_reducible apply ed_opB (T := _) (r := rNeD _)) | (with_reducible apply ed_opB (r := rIsB)) | (with_reducible apply ed_opB (r := rNotB)) | (with_reducible apply ed_opB (r := rInA _))
  | (with_reducible apply ed_op)
  | (with_reducible apply ed_neg)
  | (with_reducible apply ed_and) | (with_reducible apply ed_or) | (with_reducible apply ed_not)
  | (with_reducible apply ed_isi C.aw C.an)
  | (with_reducible apply ed_cbB)
  | (with_reducible apply ed_counts C) | (with_reducible apply ed_by C)
  | (with_reducible apply ed_call)
  | (with_reducible apply EvO.toD (te := tLst _)) | (with_reducible apply eo_lst)
  | (with_reducible apply EvO.toD (te := tSl _ _ _ _)) | (with_reducible apply eo_sl) | (with_reducible apply ep_some) | (with_reducible apply ep_none)
  | (with_reducible apply EvO.toD (te := tCall (spO _ _) _ _ _)) | (with_reducible apply eo_call)
  | (with_reducible apply EvO.toD (te := tCB (rListA _) _)) | ((with_reducible apply eo_listO); rfl) | (with_reducible apply eo_list)
  | (with_reducible apply ed_revP)
  | (with_reducible apply EvD.toB)
  | (with_reducible apply et_test) | (with_reducible apply et_B) | (with_reducible apply et_and) | (with_reducible apply et_or) | (with_reducible apply et_not) | (with_reducible exact et_yes)
  | (with_reducible apply se_next)
  | (with_reducible apply EvO.toD (te := tLc _ _ _ _ _)) | (with_reducible apply eo_lcTo)
  | (with_reducible exact LcTo.nil) | (with_reducible apply LcTo.cons)
  | (with_reducible exact ForTo.nil) | (with_reducible apply ForTo.go)
  | (with_reducible apply ti_tup) | (with_reducible apply ti_list) | (with_reducible apply ti_zip) | (with_reducible apply ti_rng1) | (with_reducible apply ti_rng2)
  | (with_reducible exact tg_name) | (with_reducible exact tg_pair) | (with_reducible exact tg_trip)
  | (with_reducible apply se_seq (ts := tAsg _ _)) | (with_reducible apply se_seq (ts := tPar _ _ _)) | (with_reducible apply se_seq (ts := tDrop _))
  | (with_reducible apply se_asg) | (with_reducible apply se_par) | (with_reducible apply se_asgG) | ((with_reducible apply se_app); rfl) | ((with_reducible apply se_ext); rfl) | ((with_reducible apply se_set); rfl) | (with_reducible apply se_drop)
  | ((with_reducible apply se_retV); rfl) | (with_reducible apply se_ret; with_reducible apply EvD.is)
  | (show atI _ _ = some _; rfl)
  | (show (0 : Int) < _; first | assumption | omega)
  | (exact fun (j : Nat) (hj : j ∈ _) => by revert j; decide)
  | walk_at "rv" | walk_at "rc" | walk_at "kb"
  | (with_reducible exact ClsV.ty _) | (with_reducible exact ClsV.own _)
  | (with_reducible first | exact TyD.non | exact TyD.bl _ | exact TyD.int _ | exact TyD.str _ | exact TyD.lst _ | exact TyD.tup _ | exact TyD.dct | exact TyD.way _ | exact TyD.nev _)
  | walk_at "r1"
  | (intro (_ : _ = true)) | (intro (_ : _ = false))
  | (show List.length _ ≤ 100000; exact Nat.le_of_ble_eq_true rfl) | (show List.length _ < 100000; exact Nat.le_of_ble_eq_true rfl) | (show List.length _ + List.length _ ≤ 100000; exact Nat.le_of_ble_eq_true rfl))
set_option hygiene false in
local macro_rules | `(tactic| walk_at "ev") => `(tactic| (repeat' walk_at "e1"))

/-! a test that is as said; a value handed back -/
set_option hygiene false in
local macro_rules | `(tactic| walk_at "no") => `(tactic| (apply se_cutF; (apply EvT.is; (walk_at "ev"))))
set_option hygiene false in
local macro_rules | `(tactic| walk_at "yes") => `(tactic| (apply se_cutT; (apply EvT.is; (walk_at "ev"))))
set_option hygiene false in
local macro_rules | `(tactic| walk_at "e1") => `(tactic| first
  | (with_reducible apply ed_isi0)
  | (with_reducible first | exact TyD0.non | exact TyD0.bl _ | exact TyD0.int _ | exact TyD0.str _ | exact TyD0.lst _ | exact TyD0.tup _ | exact TyD0.dct))
section
variable {P : Program} {w : World} {mg : Str → Option Value} {base : Heap} {T : Tx} {aBadLeap aBadPlace aBadCount aLE : Addr}
local macro_rules | `(tactic| walk_at "r1") => `(tactic| with_reducible (first | apply r_told5))
theorem for1 {tb : TS} {a0 : Sl} (h : ∀ (i : Int) (t2 t3 : Sl), ∃ u2 u3 : Sl, SeD T tb [a0, .dat (.int i), t2, t3] (.nx [a0, .dat (.int i), u2, u3])) : ∀ (js : List Int) (t1 t2 t3 : Sl), ∃ u1 u2 u3 : Sl, ForTo T (gName 1) tb (js.map .int) [a0, t1, t2, t3] (.nx [a0, u1, u2, u3])
  | [], t1, t2, t3 => ⟨t1, t2, t3, .nil⟩
  | j :: js, t1, t2, t3 => by
    obtain ⟨u2, u3, q1⟩ := h j t2 t3
    obtain ⟨v1, v2, v3, q2⟩ := for1 h js (.dat (.int j)) u2 u3
    exact ⟨v1, v2, v3, .go tg_name q1 q2⟩
theorem lc0 : LC 1 2 (List.replicate 8 0) := ⟨by decide, by decide, by decide, Sm.lit (by decide), Sm.lit (by decide), fun c h => by
  rw [List.eq_of_mem_replicate h]
  exact ⟨by decide, Sm.lit (by decide)⟩, rfl⟩
theorem lc3 : LC 0 5 (3 :: List.replicate 7 0) := ⟨by decide, by decide, by decide, Sm.lit (by decide), Sm.lit (by decide), fun c h => by
  rcases List.mem_cons.mp h with rfl | h
  · exact ⟨by decide, Sm.lit (by decide)⟩
  · rw [List.eq_of_mem_replicate h]
    exact ⟨by decide, Sm.lit (by decide)⟩, rfl⟩
theorem eqvAll_bls : ∀ bs : List Bool, PyData.eqvAll (bs.map .bool) (bs.map .bool) = true
  | [] => by simp [PyData.eqvAll]
  | b :: bs => by rw [List.map_cons, PyData.eqvAll, eqv_bool, eqvAll_bls bs, beq_self_eq_true] <;> rfl
theorem lay_bls : ∀ bs : List Bool, PyData.canLayAll0 (bs.map .bool) = true
  | [] => by simp [PyData.canLayAll0]
  | b :: bs => by simp [PyData.canLayAll0, PyData.canLay0, lay_bls bs]
theorem depth_bls : ∀ bs : List Bool, PyData.depthAll (bs.map .bool) = 0
  | [] => by simp [PyData.depthAll]
  | b :: bs => by simp [PyData.depthAll, PyData.depth, depth_bls bs]
theorem eqv_bls (bs : List Bool) : PyData.eqv (.list (bs.map .bool)) (.list (bs.map .bool)) = true ∧ SeqAt.shaped (.list (bs.map .bool)) = true := ⟨by rw [PyData.eqv]; exact eqvAll_bls bs, shaped_of (by simp only [PyData.canLay0]; exact lay_bls bs) (by simp only [PyData.depth]; rw [depth_bls]; decide)⟩
abbrev lawB (T : Tx) : TS := tSeq (tAsg (tOp rModI (tVar 1) (tC (V.int 4))) (gName 2))
  (tSeq (tAsg (tLst (tCons (tOp (rEqD T.K) (tVar 2) (tC (V.int 0))) (tCons (tOp (rEqD T.K) (tVar 2) (tC (V.int 1))) (tCons (tOp rGtI (tVar 2) (tC (V.int 1))) (tCons (tC (V.bl true)) tNil))))) (gName 3))
    (tIfS (tTest (tOp (rNeD T.K) (tCall (spD T R_told5) [] E0 (tCons (tVar 2) (tCons (tOp rModI (tOp rDivI (tVar 1) (tC (V.int 4))) (tC (V.int 100000))) (tCons (tOp rModI (tOp rDivI (tVar 1) (tC (V.int 400000))) (tC (V.int 1000))) tNil)))) (tVar 3))) (tRet (tC (V.bl false))) tNext))
theorem sc_law : FnScope ["_law_script", "_law_cell", "_law_kind", "_law_due"] ["_law_script"] (defScope s_law) := ⟨rfl, rfl, rfl, by decide +kernel, rfl, by decide +kernel, by decide +kernel⟩
theorem ok_law {f : Addr} {fd : FuncData} (F : Fun T.K "law" "law" s_law f fd) (B : Bl mg) (c_law_told : Cal P w T.K mg base 7 "_law_told" ["_law_kind", "_law_which", "_law_more"] (spD T R_told5)) (c_places : CalX P w T.K mg base 3 "places" ["many"] (spX T R_places (Er_many aBadCount))) (c_behind : CalX P w T.K mg base 5 "behind" ["leap", "counts", "many"] (spX T R_behind (Er_bh aBadLeap aBadCount))) : FnOk P w T.K mg base CX0 8 f fd ["_law_script"] (spLawK T.K) := by
  refine F.ok sc_law ?hlen (fun cdv A outer s H vs Q E hr h => ⟨_, (pss_cons (ps_for PassesOwn.never rfl (z_list T (pv 0)) (pg_name (i := 1) sc_law.nd rfl (Or.inl rfl))
  (pss_cons (ps_set (i := 2) sc_law.nd rfl (Or.inl rfl) (pe_op op_modA (pv 1) pe_int))
  (pss_cons (ps_set (i := 3) sc_law.nd rfl (Or.inl rfl) (pe_lst (pa_cons (x_eq T hr.units (pv 2) pe_int) (pa_cons (x_eq T hr.units (pv 2) pe_int) (pa_cons (pe_cmpR op_gtA (pv 2) pe_int (nomark _)) (pa_cons pe_bl pa_nil))))))
  (pss_one (ps_if (y_ne T hr.units (x_call c_law_told (hr.mono (by decide)) (pa_cons (pv 2) (pa_cons (pe_op op_modA (pe_op op_divA (pv 1) pe_int) pe_int) (pa_cons (pe_op op_modA (pe_op op_divA (pv 1) pe_int) pe_int) pa_nil)))) (pv 3))
  (pss_one (ps_ret pe_bl))
  pss_nil)))))
  (pss_one (ps_ret (pe_and (x_eq T hr.units (x_callX c_behind (hr.mono (by decide)) takes0 (pa_cons (pe_tup (pa_cons pe_int (pa_cons pe_int pa_nil))) (pa_cons (pe_op op_mulA (pe_lst (pa_cons pe_int pa_nil)) pe_int) (pa_cons pe_int pa_nil)))) (pe_tup (pa_cons pe_int (pa_cons pe_int pa_nil)))) (pe_and (x_eq T hr.units (x_callX c_behind (hr.mono (by decide)) takes0 (pa_cons (pe_tup (pa_cons pe_int (pa_cons pe_int pa_nil))) (pa_cons (pe_op op_addA (pe_lst (pa_cons pe_int pa_nil)) (pe_op op_mulA (pe_lst (pa_cons pe_int pa_nil)) pe_int)) (pa_cons pe_int pa_nil)))) (pe_tup (pa_cons pe_int (pa_cons pe_int pa_nil)))) (pe_one (x_eq T hr.units (x_callX c_places (hr.mono (by decide)) takes0 (pa_cons pe_int pa_nil)) pe_int))))))), fn_d (spl h) (fun ds d r => ?_)⟩)
  case hlen => exact spLawK_len
  obtain ⟨ns, rfl, rfl, hc, hl⟩ := r
  refine .inl ?_
  have lp : ∀ (i : Int) (t2 t3 : Sl), ∃ u2 u3 : Sl, SeD T (lawB T) [.dat (scrD ns), .dat (.int i), t2, t3] (.nx [.dat (scrD ns), .dat (.int i), u2, u3]) := by
    intro i t2 t3
    have hk : 0 ≤ i % 4 ∧ i % 4 < 4 := by omega
    have ht := r_told5 (k := i % 4) (w := i / 4 % 100000) (m := i / 400000 % 1000) ⟨hk.1, hk.2, by omega, by omega, by omega⟩
    refine ⟨_, _, se_seq (se_asg (d := .int (i % 4)) ?_) (se_seq (se_asg (d := .list ([decide (i % 4 = 0), decide (i % 4 = 1), decide (1 < i % 4), true].map .bool)) ?_) (se_ifF (EvT.is (b := !PyData.eqv (.list ([decide (i % 4 = 0), decide (i % 4 = 1), decide (1 < i % 4), true].map .bool)) (.list ([decide (i % 4 = 0), decide (i % 4 = 1), decide (1 < i % 4), true].map .bool))) (et_test (ed_opB (EvD.toB (ed_call (ds := [.int (i % 4), .int (i / 4 % 100000), .int (i / 400000 % 1000)]) ?_ ht)) (EvD.toB (ed_var (by rfl))) (rv_ne rfl rfl (eqv_bls _).2 (eqv_bls _).2))) (by rw [(eqv_bls _).1]; rfl)) se_next))⟩
    · walk_at "ev"
    · show EvD T _ _ (.list [.bool (decide (i % 4 = 0)), .bool (decide (i % 4 = 1)), .bool (decide (1 < i % 4)), .bool true])
      walk_at "ev"
    · walk_at "ev"
      all_goals exact cd_lit rfl
  obtain ⟨u1, u2, u3, q⟩ := for1 lp ns .no .no .no
  refine se_seq (se_for (ti_scr (ed_var (by rfl))) q) ?_
  have a1 : (led1 1 2 (dn (List.replicate 8 0) 0) = 0 ∧ led2 1 2 (dn (List.replicate 8 0) 0) = 0) := ⟨rfl, rfl⟩
  have a2 : (led1 0 5 (dn (3 :: List.replicate 7 0) 3) = 0 ∧ led2 0 5 (dn (3 :: List.replicate 7 0) 3) = 15) := ⟨rfl, rfl⟩
  have p0 : plcZ 0 = 1 := rfl
  refine se_ret (EvD.is (ed_and (a := true) (b := true) (EvD.is (ed_opB (EvD.toB (ed_callX (ds := [.tuple [.int 1, .int 2], .list ((List.replicate 8 0).map .int), .int 0]) ?_ (r_behind ⟨lc0, by decide, by decide⟩))) (EvD.toB (d := .tuple [.int 0, .int 0]) ?_) rv_eqP) (by rw [decide_eq_true a1])) fun _ => EvD.is (ed_and (a := true) (b := true) (EvD.is (ed_opB (EvD.toB (ed_callX (ds := [.tuple [.int 0, .int 5], .list ((3 :: List.replicate 7 0).map .int), .int 3]) ?_ (r_behind ⟨lc3, by decide, by decide⟩))) (EvD.toB (d := .tuple [.int 0, .int 15]) ?_) rv_eqP) (by rw [decide_eq_true a2])) fun _ => EvD.is (ed_opB (EvD.toB (ed_callX (ds := [.int 0]) (ea_cons ed_int ea_nil) (r_places ⟨by decide, Sm.lit (by decide)⟩))) (EvD.toB ed_int) rv_eqI) (by rw [p0]; rfl)) rfl) rfl)
  · refine ea_cons ?_ (ea_cons (EvD.is (ed_op (EvO.toD (eo_lst (ea_cons ed_int ea_nil) (by decide))) ed_int (rv_rep ⟨by decide, by decide, by decide⟩)) rfl) (ea_cons ed_int ea_nil))
    walk_at "ev"
  · walk_at "ev"
  · refine ea_cons ?_ (ea_cons (EvD.is (ed_op (EvO.toD (eo_lst (ea_cons ed_int ea_nil) (by decide))) (EvD.is (z := .list ((List.replicate 7 (0 : Int)).map .int)) (ed_op (x := .list [.int 0]) (y := .int 7) (EvO.toD (eo_lst (ea_cons ed_int ea_nil) (by decide))) ed_int (rv_rep ⟨by decide, by decide, by decide⟩)) rfl) (rv_cat (by decide))) rfl) (ea_cons ed_int ea_nil))
    walk_at "ev"
  · walk_at "ev"
end
end LW
set_option Elab.async false
set_option linter.all false
set_option maxRecDepth 100000
set_option maxHeartbeats 4000000
namespace LW
open PySem PySem.Spec PyProof.Rows L2 Evl
/-! ### what the top has written, the head -/
theorem all_mk {l : PySem.W.OpenLaw} {w : World} {K : PySem.W.Frag} {h : Heap} {mg : Str → Option Value} {fa : Addr} (X : K.In h) (G : h.Ns mainGlobals mg) (hfa : mg "law" = some (.ref fa))
    {aBadLeap aBadPlace aBadCount aLE f_is_number f_is_pair f_eight_of f_asked_leap f_asked_place f_asked_many f_led f_are_counts f_place_of f_behind_of f_behind f_eight f_told f_fewest f_shortest f_within f_places f__law_with_leap f__law_with_place f__law_pairs f__law_bad_counts f__law_told f_law : Addr} {od_is_number an_is_number od_is_pair an_is_pair od_eight_of an_eight_of od_asked_leap an_asked_leap od_asked_place an_asked_place od_asked_many an_asked_many od_led an_led od_are_counts an_are_counts od_place_of an_place_of od_behind_of an_behind_of od_behind an_behind od_eight an_eight od_told an_told od_fewest an_fewest od_shortest an_shortest od_within an_within od_places an_places od__law_with_leap an__law_with_leap od__law_with_place an__law_with_place od__law_pairs an__law_pairs od__law_bad_counts an__law_bad_counts od__law_told an__law_told od_law an_law : Option Addr} {sl_is_number sl_is_pair sl_eight_of sl_asked_leap sl_asked_place sl_asked_many sl_led sl_are_counts sl_place_of sl_behind_of sl_behind sl_eight sl_told sl_fewest sl_shortest sl_within sl_places sl__law_with_leap sl__law_with_place sl__law_pairs sl__law_bad_counts sl__law_told sl_law : Array (Option Value)} {oc_is_number kV_is_number dc_is_number pm_is_number cd_is_number ct_is_number oc_is_pair kV_is_pair dc_is_pair pm_is_pair cd_is_pair ct_is_pair oc_eight_of kV_eight_of dc_eight_of pm_eight_of cd_eight_of ct_eight_of oc_asked_leap kV_asked_leap dc_asked_leap pm_asked_leap cd_asked_leap ct_asked_leap oc_asked_place kV_asked_place dc_asked_place pm_asked_place cd_asked_place ct_asked_place oc_asked_many kV_asked_many dc_asked_many pm_asked_many cd_asked_many ct_asked_many oc_led kV_led dc_led pm_led cd_led ct_led oc_are_counts kV_are_counts dc_are_counts pm_are_counts cd_are_counts ct_are_counts oc_place_of kV_place_of dc_place_of pm_place_of cd_place_of ct_place_of oc_behind_of kV_behind_of dc_behind_of pm_behind_of cd_behind_of ct_behind_of oc_behind kV_behind dc_behind pm_behind cd_behind ct_behind oc_eight kV_eight dc_eight pm_eight cd_eight ct_eight oc_told kV_told dc_told pm_told cd_told ct_told oc_fewest kV_fewest dc_fewest pm_fewest cd_fewest ct_fewest oc_shortest kV_shortest dc_shortest pm_shortest cd_shortest ct_shortest oc_within kV_within dc_within pm_within cd_within ct_within oc_places kV_places dc_places pm_places cd_places ct_places oc__law_with_leap kV__law_with_leap dc__law_with_leap pm__law_with_leap cd__law_with_leap ct__law_with_leap oc__law_with_place kV__law_with_place dc__law_with_place pm__law_with_place cd__law_with_place ct__law_with_place oc__law_pairs kV__law_pairs dc__law_pairs pm__law_pairs cd__law_pairs ct__law_pairs oc__law_bad_counts kV__law_bad_counts dc__law_bad_counts pm__law_bad_counts cd__law_bad_counts ct__law_bad_counts oc__law_told kV__law_told dc__law_told pm__law_told cd__law_told ct__law_told oc_law kV_law dc_law pm_law cd_law ct_law : Value}
    (q_BadLeap : PySem.W.nsIn K mainGlobals "BadLeap" = some (some (.ref aBadLeap)))
    (q_BadPlace : PySem.W.nsIn K mainGlobals "BadPlace" = some (some (.ref aBadPlace)))
    (q_BadCount : PySem.W.nsIn K mainGlobals "BadCount" = some (some (.ref aBadCount)))
    (q_LeapError : PySem.W.nsIn K mainGlobals "LeapError" = some (some (.ref aLE)))
    (xb_BadLeap : PySem.W.subIn K (.ref aBadLeap) (.type "BaseException") = some true)
    (xt_BadLeap : PySem.W.typeIn K (.ref aBadLeap) = some (.type "type"))
    (xd_BadLeap : PySem.W.hasDictIn K aBadLeap = true)
    (xx_BadLeap : PySem.W.excIn K aBadLeap [.type "ValueError", .type "Exception", .type "BaseException", .type "object"] "ValueError.__new__" = true)
    (xk_BadLeap : PySem.W.keepIn K (.ref aBadLeap) = true)
    (xs_BadLeap : PySem.W.subIn K (.ref aBadLeap) (.ref aLE) = some true)
    (xg_BadLeap : PySem.W.findIn K (.ref aBadLeap) "__getattribute__" = some (some (.builtin "BaseException.__getattribute__")))
    (xh_BadLeap : PySem.W.findIn K (.ref aBadLeap) "__getattr__" = some none)
    (xa_BadLeap : PySem.W.findIn K (.ref aBadLeap) "__class__" = some (some (.builtin "object.__class__")))
    (xm_BadLeap : PySem.W.mroIn K aBadLeap (.type "object") = some true)
    (t_BadLeap_BadLeap : PySem.W.kitOne K (.ref aBadLeap) (.ref aBadLeap) = some true)
    (t_BadLeap_BadPlace : PySem.W.kitOne K (.ref aBadLeap) (.ref aBadPlace) = some false)
    (t_BadLeap_BadCount : PySem.W.kitOne K (.ref aBadLeap) (.ref aBadCount) = some false)
    (t_BadLeap_VE : PySem.W.kitOne K (.ref aBadLeap) (.type "ValueError") = some true)
    (xb_BadPlace : PySem.W.subIn K (.ref aBadPlace) (.type "BaseException") = some true)
    (xt_BadPlace : PySem.W.typeIn K (.ref aBadPlace) = some (.type "type"))
    (xd_BadPlace : PySem.W.hasDictIn K aBadPlace = true)
    (xx_BadPlace : PySem.W.excIn K aBadPlace [.type "ValueError", .type "Exception", .type "BaseException", .type "object"] "ValueError.__new__" = true)
    (xk_BadPlace : PySem.W.keepIn K (.ref aBadPlace) = true)
    (xs_BadPlace : PySem.W.subIn K (.ref aBadPlace) (.ref aLE) = some true)
    (xg_BadPlace : PySem.W.findIn K (.ref aBadPlace) "__getattribute__" = some (some (.builtin "BaseException.__getattribute__")))
    (xh_BadPlace : PySem.W.findIn K (.ref aBadPlace) "__getattr__" = some none)
    (xa_BadPlace : PySem.W.findIn K (.ref aBadPlace) "__class__" = some (some (.builtin "object.__class__")))
    (xm_BadPlace : PySem.W.mroIn K aBadPlace (.type "object") = some true)
    (t_BadPlace_BadLeap : PySem.W.kitOne K (.ref aBadPlace) (.ref aBadLeap) = some false)
    (t_BadPlace_BadPlace : PySem.W.kitOne K (.ref aBadPlace) (.ref aBadPlace) = some true)
    (t_BadPlace_BadCount : PySem.W.kitOne K (.ref aBadPlace) (.ref aBadCount) = some false)
    (t_BadPlace_VE : PySem.W.kitOne K (.ref aBadPlace) (.type "ValueError") = some true)
    (xb_BadCount : PySem.W.subIn K (.ref aBadCount) (.type "BaseException") = some true)
    (xt_BadCount : PySem.W.typeIn K (.ref aBadCount) = some (.type "type"))
    (xd_BadCount : PySem.W.hasDictIn K aBadCount = true)
    (xx_BadCount : PySem.W.excIn K aBadCount [.type "ValueError", .type "Exception", .type "BaseException", .type "object"] "ValueError.__new__" = true)
    (xk_BadCount : PySem.W.keepIn K (.ref aBadCount) = true)
    (xs_BadCount : PySem.W.subIn K (.ref aBadCount) (.ref aLE) = some true)
    (xg_BadCount : PySem.W.findIn K (.ref aBadCount) "__getattribute__" = some (some (.builtin "BaseException.__getattribute__")))
    (xh_BadCount : PySem.W.findIn K (.ref aBadCount) "__getattr__" = some none)
    (xa_BadCount : PySem.W.findIn K (.ref aBadCount) "__class__" = some (some (.builtin "object.__class__")))
    (xm_BadCount : PySem.W.mroIn K aBadCount (.type "object") = some true)
    (t_BadCount_BadLeap : PySem.W.kitOne K (.ref aBadCount) (.ref aBadLeap) = some false)
    (t_BadCount_BadPlace : PySem.W.kitOne K (.ref aBadCount) (.ref aBadPlace) = some false)
    (t_BadCount_BadCount : PySem.W.kitOne K (.ref aBadCount) (.ref aBadCount) = some true)
    (t_BadCount_VE : PySem.W.kitOne K (.ref aBadCount) (.type "ValueError") = some true)
    (xb_LeapError : PySem.W.subIn K (.ref aLE) (.type "BaseException") = some true)
    (xt_LeapError : PySem.W.typeIn K (.ref aLE) = some (.type "type"))
    (xd_LeapError : PySem.W.hasDictIn K aLE = true)
    (hn_ : PySem.W.specialIn K (.builtin "object.__class__") "__get__" = some (some (.builtin "getset_descriptor.__get__")))
    (ht_ : PySem.W.takesIn K (.builtin "object.__class__") = some true)
    (z_ValueError : PySem.W.nsIn K mainGlobals "ValueError" = some none)
    (z_isinstance : PySem.W.nsIn K mainGlobals "isinstance" = some none)
    (z_int : PySem.W.nsIn K mainGlobals "int" = some none)
    (z_bool : PySem.W.nsIn K mainGlobals "bool" = some none)
    (z_tuple : PySem.W.nsIn K mainGlobals "tuple" = some none)
    (z_list : PySem.W.nsIn K mainGlobals "list" = some none)
    (z_str : PySem.W.nsIn K mainGlobals "str" = some none)
    (z_len : PySem.W.nsIn K mainGlobals "len" = some none)
    (z_all : PySem.W.nsIn K mainGlobals "all" = some none)
    (z_any : PySem.W.nsIn K mainGlobals "any" = some none)
    (z_sum : PySem.W.nsIn K mainGlobals "sum" = some none)
    (z_min : PySem.W.nsIn K mainGlobals "min" = some none)
    (z_max : PySem.W.nsIn K mainGlobals "max" = some none)
    (z_abs : PySem.W.nsIn K mainGlobals "abs" = some none)
    (z_zip : PySem.W.nsIn K mainGlobals "zip" = some none)
    (z_range : PySem.W.nsIn K mainGlobals "range" = some none)
    (z_enumerate : PySem.W.nsIn K mainGlobals "enumerate" = some none)
    (a_is_number : PySem.W.nsIn K mainGlobals "is_number" = some (some (.ref f_is_number)))
    (l_is_number : K.lookup f_is_number = some ⟨oc_is_number, od_is_number, .func (PySem.W.fnOf "is_number" "is_number" (defArgs s_is_number) (defBody s_is_number) (defScope s_is_number) .none kV_is_number dc_is_number pm_is_number an_is_number cd_is_number ct_is_number), sl_is_number⟩)
    (c_is_number : PySem.W.codeIn K cd_is_number "is_number" = true)
    (k_is_number : PySem.W.keepIn K (.ref f_is_number) = true)
    (a_is_pair : PySem.W.nsIn K mainGlobals "is_pair" = some (some (.ref f_is_pair)))
    (l_is_pair : K.lookup f_is_pair = some ⟨oc_is_pair, od_is_pair, .func (PySem.W.fnOf "is_pair" "is_pair" (defArgs s_is_pair) (defBody s_is_pair) (defScope s_is_pair) .none kV_is_pair dc_is_pair pm_is_pair an_is_pair cd_is_pair ct_is_pair), sl_is_pair⟩)
    (c_is_pair : PySem.W.codeIn K cd_is_pair "is_pair" = true)
    (k_is_pair : PySem.W.keepIn K (.ref f_is_pair) = true)
    (a_eight_of : PySem.W.nsIn K mainGlobals "eight_of" = some (some (.ref f_eight_of)))
    (l_eight_of : K.lookup f_eight_of = some ⟨oc_eight_of, od_eight_of, .func (PySem.W.fnOf "eight_of" "eight_of" (defArgs s_eight_of) (defBody s_eight_of) (defScope s_eight_of) .none kV_eight_of dc_eight_of pm_eight_of an_eight_of cd_eight_of ct_eight_of), sl_eight_of⟩)
    (c_eight_of : PySem.W.codeIn K cd_eight_of "eight_of" = true)
    (k_eight_of : PySem.W.keepIn K (.ref f_eight_of) = true)
    (a_asked_leap : PySem.W.nsIn K mainGlobals "asked_leap" = some (some (.ref f_asked_leap)))
    (l_asked_leap : K.lookup f_asked_leap = some ⟨oc_asked_leap, od_asked_leap, .func (PySem.W.fnOf "asked_leap" "asked_leap" (defArgs s_asked_leap) (defBody s_asked_leap) (defScope s_asked_leap) .none kV_asked_leap dc_asked_leap pm_asked_leap an_asked_leap cd_asked_leap ct_asked_leap), sl_asked_leap⟩)
    (c_asked_leap : PySem.W.codeIn K cd_asked_leap "asked_leap" = true)
    (k_asked_leap : PySem.W.keepIn K (.ref f_asked_leap) = true)
    (a_asked_place : PySem.W.nsIn K mainGlobals "asked_place" = some (some (.ref f_asked_place)))
    (l_asked_place : K.lookup f_asked_place = some ⟨oc_asked_place, od_asked_place, .func (PySem.W.fnOf "asked_place" "asked_place" (defArgs s_asked_place) (defBody s_asked_place) (defScope s_asked_place) .none kV_asked_place dc_asked_place pm_asked_place an_asked_place cd_asked_place ct_asked_place), sl_asked_place⟩)
    (c_asked_place : PySem.W.codeIn K cd_asked_place "asked_place" = true)
    (k_asked_place : PySem.W.keepIn K (.ref f_asked_place) = true)
    (a_asked_many : PySem.W.nsIn K mainGlobals "asked_many" = some (some (.ref f_asked_many)))
    (l_asked_many : K.lookup f_asked_many = some ⟨oc_asked_many, od_asked_many, .func (PySem.W.fnOf "asked_many" "asked_many" (defArgs s_asked_many) (defBody s_asked_many) (defScope s_asked_many) .none kV_asked_many dc_asked_many pm_asked_many an_asked_many cd_asked_many ct_asked_many), sl_asked_many⟩)
    (c_asked_many : PySem.W.codeIn K cd_asked_many "asked_many" = true)
    (k_asked_many : PySem.W.keepIn K (.ref f_asked_many) = true)
    (a_led : PySem.W.nsIn K mainGlobals "led" = some (some (.ref f_led)))
    (l_led : K.lookup f_led = some ⟨oc_led, od_led, .func (PySem.W.fnOf "led" "led" (defArgs s_led) (defBody s_led) (defScope s_led) .none kV_led dc_led pm_led an_led cd_led ct_led), sl_led⟩)
    (c_led : PySem.W.codeIn K cd_led "led" = true)
    (k_led : PySem.W.keepIn K (.ref f_led) = true)
    (a_are_counts : PySem.W.nsIn K mainGlobals "are_counts" = some (some (.ref f_are_counts)))
    (l_are_counts : K.lookup f_are_counts = some ⟨oc_are_counts, od_are_counts, .func (PySem.W.fnOf "are_counts" "are_counts" (defArgs s_are_counts) (defBody s_are_counts) (defScope s_are_counts) .none kV_are_counts dc_are_counts pm_are_counts an_are_counts cd_are_counts ct_are_counts), sl_are_counts⟩)
    (c_are_counts : PySem.W.codeIn K cd_are_counts "are_counts" = true)
    (k_are_counts : PySem.W.keepIn K (.ref f_are_counts) = true)
    (a_place_of : PySem.W.nsIn K mainGlobals "place_of" = some (some (.ref f_place_of)))
    (l_place_of : K.lookup f_place_of = some ⟨oc_place_of, od_place_of, .func (PySem.W.fnOf "place_of" "place_of" (defArgs s_place_of) (defBody s_place_of) (defScope s_place_of) .none kV_place_of dc_place_of pm_place_of an_place_of cd_place_of ct_place_of), sl_place_of⟩)
    (c_place_of : PySem.W.codeIn K cd_place_of "place_of" = true)
    (k_place_of : PySem.W.keepIn K (.ref f_place_of) = true)
    (a_behind_of : PySem.W.nsIn K mainGlobals "behind_of" = some (some (.ref f_behind_of)))
    (l_behind_of : K.lookup f_behind_of = some ⟨oc_behind_of, od_behind_of, .func (PySem.W.fnOf "behind_of" "behind_of" (defArgs s_behind_of) (defBody s_behind_of) (defScope s_behind_of) .none kV_behind_of dc_behind_of pm_behind_of an_behind_of cd_behind_of ct_behind_of), sl_behind_of⟩)
    (c_behind_of : PySem.W.codeIn K cd_behind_of "behind_of" = true)
    (k_behind_of : PySem.W.keepIn K (.ref f_behind_of) = true)
    (a_behind : PySem.W.nsIn K mainGlobals "behind" = some (some (.ref f_behind)))
    (l_behind : K.lookup f_behind = some ⟨oc_behind, od_behind, .func (PySem.W.fnOf "behind" "behind" (defArgs s_behind) (defBody s_behind) (defScope s_behind) .none kV_behind dc_behind pm_behind an_behind cd_behind ct_behind), sl_behind⟩)
    (c_behind : PySem.W.codeIn K cd_behind "behind" = true)
    (k_behind : PySem.W.keepIn K (.ref f_behind) = true)
    (a_eight : PySem.W.nsIn K mainGlobals "eight" = some (some (.ref f_eight)))
    (l_eight : K.lookup f_eight = some ⟨oc_eight, od_eight, .func (PySem.W.fnOf "eight" "eight" (defArgs s_eight) (defBody s_eight) (defScope s_eight) .none kV_eight dc_eight pm_eight an_eight cd_eight ct_eight), sl_eight⟩)
    (c_eight : PySem.W.codeIn K cd_eight "eight" = true)
    (k_eight : PySem.W.keepIn K (.ref f_eight) = true)
    (a_told : PySem.W.nsIn K mainGlobals "told" = some (some (.ref f_told)))
    (l_told : K.lookup f_told = some ⟨oc_told, od_told, .func (PySem.W.fnOf "told" "told" (defArgs s_told) (defBody s_told) (defScope s_told) .none kV_told dc_told pm_told an_told cd_told ct_told), sl_told⟩)
    (c_told : PySem.W.codeIn K cd_told "told" = true)
    (k_told : PySem.W.keepIn K (.ref f_told) = true)
    (a_fewest : PySem.W.nsIn K mainGlobals "fewest" = some (some (.ref f_fewest)))
    (l_fewest : K.lookup f_fewest = some ⟨oc_fewest, od_fewest, .func (PySem.W.fnOf "fewest" "fewest" (defArgs s_fewest) (defBody s_fewest) (defScope s_fewest) .none kV_fewest dc_fewest pm_fewest an_fewest cd_fewest ct_fewest), sl_fewest⟩)
    (c_fewest : PySem.W.codeIn K cd_fewest "fewest" = true)
    (k_fewest : PySem.W.keepIn K (.ref f_fewest) = true)
    (a_shortest : PySem.W.nsIn K mainGlobals "shortest" = some (some (.ref f_shortest)))
    (l_shortest : K.lookup f_shortest = some ⟨oc_shortest, od_shortest, .func (PySem.W.fnOf "shortest" "shortest" (defArgs s_shortest) (defBody s_shortest) (defScope s_shortest) .none kV_shortest dc_shortest pm_shortest an_shortest cd_shortest ct_shortest), sl_shortest⟩)
    (c_shortest : PySem.W.codeIn K cd_shortest "shortest" = true)
    (k_shortest : PySem.W.keepIn K (.ref f_shortest) = true)
    (a_within : PySem.W.nsIn K mainGlobals "within" = some (some (.ref f_within)))
    (l_within : K.lookup f_within = some ⟨oc_within, od_within, .func (PySem.W.fnOf "within" "within" (defArgs s_within) (defBody s_within) (defScope s_within) .none kV_within dc_within pm_within an_within cd_within ct_within), sl_within⟩)
    (c_within : PySem.W.codeIn K cd_within "within" = true)
    (k_within : PySem.W.keepIn K (.ref f_within) = true)
    (a_places : PySem.W.nsIn K mainGlobals "places" = some (some (.ref f_places)))
    (l_places : K.lookup f_places = some ⟨oc_places, od_places, .func (PySem.W.fnOf "places" "places" (defArgs s_places) (defBody s_places) (defScope s_places) .none kV_places dc_places pm_places an_places cd_places ct_places), sl_places⟩)
    (c_places : PySem.W.codeIn K cd_places "places" = true)
    (k_places : PySem.W.keepIn K (.ref f_places) = true)
    (a__law_with_leap : PySem.W.nsIn K mainGlobals "_law_with_leap" = some (some (.ref f__law_with_leap)))
    (l__law_with_leap : K.lookup f__law_with_leap = some ⟨oc__law_with_leap, od__law_with_leap, .func (PySem.W.fnOf "_law_with_leap" "_law_with_leap" (defArgs s__law_with_leap) (defBody s__law_with_leap) (defScope s__law_with_leap) .none kV__law_with_leap dc__law_with_leap pm__law_with_leap an__law_with_leap cd__law_with_leap ct__law_with_leap), sl__law_with_leap⟩)
    (c__law_with_leap : PySem.W.codeIn K cd__law_with_leap "_law_with_leap" = true)
    (k__law_with_leap : PySem.W.keepIn K (.ref f__law_with_leap) = true)
    (a__law_with_place : PySem.W.nsIn K mainGlobals "_law_with_place" = some (some (.ref f__law_with_place)))
    (l__law_with_place : K.lookup f__law_with_place = some ⟨oc__law_with_place, od__law_with_place, .func (PySem.W.fnOf "_law_with_place" "_law_with_place" (defArgs s__law_with_place) (defBody s__law_with_place) (defScope s__law_with_place) .none kV__law_with_place dc__law_with_place pm__law_with_place an__law_with_place cd__law_with_place ct__law_with_place), sl__law_with_place⟩)
    (c__law_with_place : PySem.W.codeIn K cd__law_with_place "_law_with_place" = true)
    (k__law_with_place : PySem.W.keepIn K (.ref f__law_with_place) = true)
    (a__law_pairs : PySem.W.nsIn K mainGlobals "_law_pairs" = some (some (.ref f__law_pairs)))
    (l__law_pairs : K.lookup f__law_pairs = some ⟨oc__law_pairs, od__law_pairs, .func (PySem.W.fnOf "_law_pairs" "_law_pairs" (defArgs s__law_pairs) (defBody s__law_pairs) (defScope s__law_pairs) .none kV__law_pairs dc__law_pairs pm__law_pairs an__law_pairs cd__law_pairs ct__law_pairs), sl__law_pairs⟩)
    (c__law_pairs : PySem.W.codeIn K cd__law_pairs "_law_pairs" = true)
    (k__law_pairs : PySem.W.keepIn K (.ref f__law_pairs) = true)
    (a__law_bad_counts : PySem.W.nsIn K mainGlobals "_law_bad_counts" = some (some (.ref f__law_bad_counts)))
    (l__law_bad_counts : K.lookup f__law_bad_counts = some ⟨oc__law_bad_counts, od__law_bad_counts, .func (PySem.W.fnOf "_law_bad_counts" "_law_bad_counts" (defArgs s__law_bad_counts) (defBody s__law_bad_counts) (defScope s__law_bad_counts) .none kV__law_bad_counts dc__law_bad_counts pm__law_bad_counts an__law_bad_counts cd__law_bad_counts ct__law_bad_counts), sl__law_bad_counts⟩)
    (c__law_bad_counts : PySem.W.codeIn K cd__law_bad_counts "_law_bad_counts" = true)
    (k__law_bad_counts : PySem.W.keepIn K (.ref f__law_bad_counts) = true)
    (a__law_told : PySem.W.nsIn K mainGlobals "_law_told" = some (some (.ref f__law_told)))
    (l__law_told : K.lookup f__law_told = some ⟨oc__law_told, od__law_told, .func (PySem.W.fnOf "_law_told" "_law_told" (defArgs s__law_told) (defBody s__law_told) (defScope s__law_told) .none kV__law_told dc__law_told pm__law_told an__law_told cd__law_told ct__law_told), sl__law_told⟩)
    (c__law_told : PySem.W.codeIn K cd__law_told "_law_told" = true)
    (k__law_told : PySem.W.keepIn K (.ref f__law_told) = true)
    (a_law : PySem.W.nsIn K mainGlobals "law" = some (some (.ref f_law)))
    (l_law : K.lookup f_law = some ⟨oc_law, od_law, .func (PySem.W.fnOf "law" "law" (defArgs s_law) (defBody s_law) (defScope s_law) .none kV_law dc_law pm_law an_law cd_law ct_law), sl_law⟩)
    (c_law : PySem.W.codeIn K cd_law "law" = true)
    (k_law : PySem.W.keepIn K (.ref f_law) = true) :
    ∃ fd : FuncData, (∀ (s : Shared) (v : Value), BindsTo s fd ⟨[v], []⟩ [("_law_script", v)]) ∧ ∀ base : Heap, K.In base → base.Ns mainGlobals mg → FnOk l.prog w K mg base CX0 8 fa fd ["_law_script"] (spLawK K) := by
  have e := hfa.symm.trans (PySem.W.mg_of X G a_law)
  cases e
  let T : Tx := ⟨K, fa, fa⟩
  have B : Bl mg := ⟨PySem.W.mg_none_of X G z_isinstance, PySem.W.mg_none_of X G z_int, PySem.W.mg_none_of X G z_bool, PySem.W.mg_none_of X G z_tuple, PySem.W.mg_none_of X G z_list, PySem.W.mg_none_of X G z_str, PySem.W.mg_none_of X G z_len, PySem.W.mg_none_of X G z_all, PySem.W.mg_none_of X G z_any, PySem.W.mg_none_of X G z_sum, PySem.W.mg_none_of X G z_min, PySem.W.mg_none_of X G z_max, PySem.W.mg_none_of X G z_abs, PySem.W.mg_none_of X G z_zip, PySem.W.mg_none_of X G z_range, PySem.W.mg_none_of X G z_enumerate⟩
  have e_BadLeap : ErrF T.K mg "BadLeap" aBadLeap := ⟨PySem.W.mg_of X G q_BadLeap, xx_BadLeap, xk_BadLeap, xb_BadLeap, xt_BadLeap⟩
  have ec_BadLeap : ExcC T.K aBadLeap := ⟨xg_BadLeap, xh_BadLeap, xb_BadLeap, xd_BadLeap, xa_BadLeap, hn_, ht_, xm_BadLeap⟩
  have em_BadLeap : PySem.W.exmOne T.K (.ref aBadLeap) (.ref aLE) = some true := PySem.W.exm_ref xb_LeapError xd_LeapError xt_LeapError xs_BadLeap
  have e_BadPlace : ErrF T.K mg "BadPlace" aBadPlace := ⟨PySem.W.mg_of X G q_BadPlace, xx_BadPlace, xk_BadPlace, xb_BadPlace, xt_BadPlace⟩
  have ec_BadPlace : ExcC T.K aBadPlace := ⟨xg_BadPlace, xh_BadPlace, xb_BadPlace, xd_BadPlace, xa_BadPlace, hn_, ht_, xm_BadPlace⟩
  have em_BadPlace : PySem.W.exmOne T.K (.ref aBadPlace) (.ref aLE) = some true := PySem.W.exm_ref xb_LeapError xd_LeapError xt_LeapError xs_BadPlace
  have e_BadCount : ErrF T.K mg "BadCount" aBadCount := ⟨PySem.W.mg_of X G q_BadCount, xx_BadCount, xk_BadCount, xb_BadCount, xt_BadCount⟩
  have ec_BadCount : ExcC T.K aBadCount := ⟨xg_BadCount, xh_BadCount, xb_BadCount, xd_BadCount, xa_BadCount, hn_, ht_, xm_BadCount⟩
  have em_BadCount : PySem.W.exmOne T.K (.ref aBadCount) (.ref aLE) = some true := PySem.W.exm_ref xb_LeapError xd_LeapError xt_LeapError xs_BadCount
  have gLE := PySem.W.mg_of X G q_LeapError
  have mV := PySem.W.mg_none_of X G z_ValueError
  have EK : ErrK T.K aBadLeap aBadPlace aBadCount aLE := ⟨ec_BadLeap, ec_BadPlace, ec_BadCount, em_BadLeap, em_BadPlace, em_BadCount, t_BadLeap_BadLeap, t_BadLeap_BadPlace, t_BadLeap_BadCount, t_BadPlace_BadLeap, t_BadPlace_BadPlace, t_BadPlace_BadCount, t_BadCount_BadLeap, t_BadCount_BadPlace, t_BadCount_BadCount, t_BadLeap_VE, t_BadPlace_VE, t_BadCount_VE⟩
  have F_is_number := fun_mk (st := s_is_number) l_is_number c_is_number k_is_number
  have b_is_number := F_is_number.binds (ps := ["thing"]) fun _ _ _ _ _ _ us hl => match us, hl with | [_], _ => rfl
  have D_is_number : DefAt T.K mg "is_number" s_is_number ["thing"] := ⟨⟨_, _, F_is_number, PySem.W.mg_of X G a_is_number, b_is_number⟩⟩
  have F_is_pair := fun_mk (st := s_is_pair) l_is_pair c_is_pair k_is_pair
  have b_is_pair := F_is_pair.binds (ps := ["thing"]) fun _ _ _ _ _ _ us hl => match us, hl with | [_], _ => rfl
  have D_is_pair : DefAt T.K mg "is_pair" s_is_pair ["thing"] := ⟨⟨_, _, F_is_pair, PySem.W.mg_of X G a_is_pair, b_is_pair⟩⟩
  have F_eight_of := fun_mk (st := s_eight_of) l_eight_of c_eight_of k_eight_of
  have b_eight_of := F_eight_of.binds (ps := ["leap"]) fun _ _ _ _ _ _ us hl => match us, hl with | [_], _ => rfl
  have D_eight_of : DefAt T.K mg "eight_of" s_eight_of ["leap"] := ⟨⟨_, _, F_eight_of, PySem.W.mg_of X G a_eight_of, b_eight_of⟩⟩
  have F_asked_leap := fun_mk (st := s_asked_leap) l_asked_leap c_asked_leap k_asked_leap
  have b_asked_leap := F_asked_leap.binds (ps := ["leap"]) fun _ _ _ _ _ _ us hl => match us, hl with | [_], _ => rfl
  have D_asked_leap : DefAt T.K mg "asked_leap" s_asked_leap ["leap"] := ⟨⟨_, _, F_asked_leap, PySem.W.mg_of X G a_asked_leap, b_asked_leap⟩⟩
  have F_asked_place := fun_mk (st := s_asked_place) l_asked_place c_asked_place k_asked_place
  have b_asked_place := F_asked_place.binds (ps := ["place"]) fun _ _ _ _ _ _ us hl => match us, hl with | [_], _ => rfl
  have D_asked_place : DefAt T.K mg "asked_place" s_asked_place ["place"] := ⟨⟨_, _, F_asked_place, PySem.W.mg_of X G a_asked_place, b_asked_place⟩⟩
  have F_asked_many := fun_mk (st := s_asked_many) l_asked_many c_asked_many k_asked_many
  have b_asked_many := F_asked_many.binds (ps := ["many"]) fun _ _ _ _ _ _ us hl => match us, hl with | [_], _ => rfl
  have D_asked_many : DefAt T.K mg "asked_many" s_asked_many ["many"] := ⟨⟨_, _, F_asked_many, PySem.W.mg_of X G a_asked_many, b_asked_many⟩⟩
  have F_led := fun_mk (st := s_led) l_led c_led k_led
  have b_led := F_led.binds (ps := ["leap", "counts"]) fun _ _ _ _ _ _ us hl => match us, hl with | [_, _], _ => rfl
  have D_led : DefAt T.K mg "led" s_led ["leap", "counts"] := ⟨⟨_, _, F_led, PySem.W.mg_of X G a_led, b_led⟩⟩
  have F_are_counts := fun_mk (st := s_are_counts) l_are_counts c_are_counts k_are_counts
  have b_are_counts := F_are_counts.binds (ps := ["thing"]) fun _ _ _ _ _ _ us hl => match us, hl with | [_], _ => rfl
  have D_are_counts : DefAt T.K mg "are_counts" s_are_counts ["thing"] := ⟨⟨_, _, F_are_counts, PySem.W.mg_of X G a_are_counts, b_are_counts⟩⟩
  have F_place_of := fun_mk (st := s_place_of) l_place_of c_place_of k_place_of
  have b_place_of := F_place_of.binds (ps := ["leap", "counts"]) fun _ _ _ _ _ _ us hl => match us, hl with | [_, _], _ => rfl
  have D_place_of : DefAt T.K mg "place_of" s_place_of ["leap", "counts"] := ⟨⟨_, _, F_place_of, PySem.W.mg_of X G a_place_of, b_place_of⟩⟩
  have F_behind_of := fun_mk (st := s_behind_of) l_behind_of c_behind_of k_behind_of
  have b_behind_of := F_behind_of.binds (ps := ["leap", "counts", "many"]) fun _ _ _ _ _ _ us hl => match us, hl with | [_, _, _], _ => rfl
  have D_behind_of : DefAt T.K mg "behind_of" s_behind_of ["leap", "counts", "many"] := ⟨⟨_, _, F_behind_of, PySem.W.mg_of X G a_behind_of, b_behind_of⟩⟩
  have F_behind := fun_mk (st := s_behind) l_behind c_behind k_behind
  have b_behind := F_behind.binds (ps := ["leap", "counts", "many"]) fun _ _ _ _ _ _ us hl => match us, hl with | [_, _, _], _ => rfl
  have D_behind : DefAt T.K mg "behind" s_behind ["leap", "counts", "many"] := ⟨⟨_, _, F_behind, PySem.W.mg_of X G a_behind, b_behind⟩⟩
  have F_eight := fun_mk (st := s_eight) l_eight c_eight k_eight
  have b_eight := F_eight.binds (ps := ["leap"]) fun _ _ _ _ _ _ us hl => match us, hl with | [_], _ => rfl
  have D_eight : DefAt T.K mg "eight" s_eight ["leap"] := ⟨⟨_, _, F_eight, PySem.W.mg_of X G a_eight, b_eight⟩⟩
  have F_told := fun_mk (st := s_told) l_told c_told k_told
  have b_told := F_told.binds (ps := ["leap", "place"]) fun _ _ _ _ _ _ us hl => match us, hl with | [_, _], _ => rfl
  have D_told : DefAt T.K mg "told" s_told ["leap", "place"] := ⟨⟨_, _, F_told, PySem.W.mg_of X G a_told, b_told⟩⟩
  have F_fewest := fun_mk (st := s_fewest) l_fewest c_fewest k_fewest
  have b_fewest := F_fewest.binds (ps := ["place"]) fun _ _ _ _ _ _ us hl => match us, hl with | [_], _ => rfl
  have D_fewest : DefAt T.K mg "fewest" s_fewest ["place"] := ⟨⟨_, _, F_fewest, PySem.W.mg_of X G a_fewest, b_fewest⟩⟩
  have F_shortest := fun_mk (st := s_shortest) l_shortest c_shortest k_shortest
  have b_shortest := F_shortest.binds (ps := ["place"]) fun _ _ _ _ _ _ us hl => match us, hl with | [_], _ => rfl
  have D_shortest : DefAt T.K mg "shortest" s_shortest ["place"] := ⟨⟨_, _, F_shortest, PySem.W.mg_of X G a_shortest, b_shortest⟩⟩
  have F_within := fun_mk (st := s_within) l_within c_within k_within
  have b_within := F_within.binds (ps := ["many"]) fun _ _ _ _ _ _ us hl => match us, hl with | [_], _ => rfl
  have D_within : DefAt T.K mg "within" s_within ["many"] := ⟨⟨_, _, F_within, PySem.W.mg_of X G a_within, b_within⟩⟩
  have F_places := fun_mk (st := s_places) l_places c_places k_places
  have b_places := F_places.binds (ps := ["many"]) fun _ _ _ _ _ _ us hl => match us, hl with | [_], _ => rfl
  have D_places : DefAt T.K mg "places" s_places ["many"] := ⟨⟨_, _, F_places, PySem.W.mg_of X G a_places, b_places⟩⟩
  have F__law_with_leap := fun_mk (st := s__law_with_leap) l__law_with_leap c__law_with_leap k__law_with_leap
  have b__law_with_leap := F__law_with_leap.binds (ps := ["_law_door", "_law_leap"]) fun _ _ _ _ _ _ us hl => match us, hl with | [_, _], _ => rfl
  have D__law_with_leap : DefAt T.K mg "_law_with_leap" s__law_with_leap ["_law_door", "_law_leap"] := ⟨⟨_, _, F__law_with_leap, PySem.W.mg_of X G a__law_with_leap, b__law_with_leap⟩⟩
  have F__law_with_place := fun_mk (st := s__law_with_place) l__law_with_place c__law_with_place k__law_with_place
  have b__law_with_place := F__law_with_place.binds (ps := ["_law_door", "_law_place"]) fun _ _ _ _ _ _ us hl => match us, hl with | [_, _], _ => rfl
  have D__law_with_place : DefAt T.K mg "_law_with_place" s__law_with_place ["_law_door", "_law_place"] := ⟨⟨_, _, F__law_with_place, PySem.W.mg_of X G a__law_with_place, b__law_with_place⟩⟩
  have F__law_pairs := fun_mk (st := s__law_pairs) l__law_pairs c__law_pairs k__law_pairs
  have b__law_pairs := F__law_pairs.binds (ps := ["_law_which", "_law_more"]) fun _ _ _ _ _ _ us hl => match us, hl with | [_, _], _ => rfl
  have D__law_pairs : DefAt T.K mg "_law_pairs" s__law_pairs ["_law_which", "_law_more"] := ⟨⟨_, _, F__law_pairs, PySem.W.mg_of X G a__law_pairs, b__law_pairs⟩⟩
  have F__law_bad_counts := fun_mk (st := s__law_bad_counts) l__law_bad_counts c__law_bad_counts k__law_bad_counts
  have b__law_bad_counts := F__law_bad_counts.binds (ps := ["_law_which", "_law_more"]) fun _ _ _ _ _ _ us hl => match us, hl with | [_, _], _ => rfl
  have D__law_bad_counts : DefAt T.K mg "_law_bad_counts" s__law_bad_counts ["_law_which", "_law_more"] := ⟨⟨_, _, F__law_bad_counts, PySem.W.mg_of X G a__law_bad_counts, b__law_bad_counts⟩⟩
  have F__law_told := fun_mk (st := s__law_told) l__law_told c__law_told k__law_told
  have b__law_told := F__law_told.binds (ps := ["_law_kind", "_law_which", "_law_more"]) fun _ _ _ _ _ _ us hl => match us, hl with | [_, _, _], _ => rfl
  have D__law_told : DefAt T.K mg "_law_told" s__law_told ["_law_kind", "_law_which", "_law_more"] := ⟨⟨_, _, F__law_told, PySem.W.mg_of X G a__law_told, b__law_told⟩⟩
  have F_law := fun_mk (st := s_law) l_law c_law k_law
  refine ⟨PySem.W.fnOf "law" "law" (defArgs s_law) (defBody s_law) (defScope s_law) .none kV_law dc_law pm_law an_law cd_law ct_law, fun s v => .of_eq rfl, fun base _ _ => ?_⟩
  have c_is_number := ok_is_number (T := T) (P := l.prog) (w := w) (base := base) D_is_number B  
  have c_is_pair := ok_is_pair (T := T) (P := l.prog) (w := w) (base := base) D_is_pair B  c_is_number
  have c_eight_of := ok_eight_of (T := T) (P := l.prog) (w := w) (base := base) D_eight_of B  
  have c_asked_leap := ok_asked_leap (T := T) (P := l.prog) (w := w) (base := base) D_asked_leap B  c_is_pair e_BadLeap
  have c_asked_place := ok_asked_place (T := T) (P := l.prog) (w := w) (base := base) D_asked_place B  c_is_pair e_BadPlace
  have c_asked_many := ok_asked_many (T := T) (P := l.prog) (w := w) (base := base) D_asked_many B  c_is_number e_BadCount
  have c_led := ok_led (T := T) (P := l.prog) (w := w) (base := base) D_led B  c_eight_of
  have c_are_counts := ok_are_counts (T := T) (P := l.prog) (w := w) (base := base) D_are_counts B  c_is_number
  have c_place_of := ok_place_of (T := T) (P := l.prog) (w := w) (base := base) D_place_of B  c_asked_leap c_are_counts e_BadCount c_led
  have c_behind_of := ok_behind_of (T := T) (P := l.prog) (w := w) (base := base) D_behind_of B  c_led
  have c_behind := ok_behind (T := T) (P := l.prog) (w := w) (base := base) D_behind B  c_place_of c_is_number e_BadCount c_behind_of
  have c_eight := ok_eight (T := T) (P := l.prog) (w := w) (base := base) D_eight B  c_asked_leap
  have c_told := ok_told (T := T) (P := l.prog) (w := w) (base := base) D_told B  c_asked_leap c_asked_place
  have c_fewest := ok_fewest (T := T) (P := l.prog) (w := w) (base := base) D_fewest B  c_asked_place
  have c_shortest := ok_shortest (T := T) (P := l.prog) (w := w) (base := base) D_shortest B  c_asked_place
  have c_within := ok_within (T := T) (P := l.prog) (w := w) (base := base) D_within B  c_asked_many
  have c_places := ok_places (T := T) (P := l.prog) (w := w) (base := base) D_places B  c_asked_many
  have c_law_with_leap := ok__law_with_leap (T := T) (P := l.prog) (w := w) (base := base) D__law_with_leap B  c_eight c_place_of c_behind c_told
  have c_law_with_place := ok__law_with_place (T := T) (P := l.prog) (w := w) (base := base) D__law_with_place B  c_told c_fewest c_shortest
  have c_law_pairs := ok__law_pairs (T := T) (P := l.prog) (w := w) (base := base) D__law_pairs B  
  have c_law_bad_counts := ok__law_bad_counts (T := T) (P := l.prog) (w := w) (base := base) D__law_bad_counts B  
  have c_law_told := ok__law_told (T := T) (P := l.prog) (w := w) (base := base) D__law_told B  c_law_pairs c_law_with_leap c_law_with_place c_law_bad_counts c_place_of c_behind c_places c_within e_BadCount e_BadPlace e_BadLeap mV gLE EK
  exact ok_law (T := T) F_law B  c_law_told c_places c_behind
theorem walk {l : PySem.W.OpenLaw} {q : Program} {loose : List Str} {XP : (Str → Option Value) → Heap → Prop} {YP : World → Heap → Prop} {d : DefRec} {K : Params → PySem.W.Frag} (hn : l.most = some 63) (hdf : d.params.defaults = [])
    (hY : ∀ (w : World) (h : Heap), YP w h → (K w.params).In h)
    (F : ∀ (w : World) (mg : Str → Option Value) (fa : Addr) (h : Heap), (K w.params).In h → h.Ns mainGlobals mg → mg d.name = some (.ref fa) →
      ∃ fd : FuncData, (∀ (s : Shared) (u : Value), BindsTo s fd ⟨[u], []⟩ [("_law_script", u)]) ∧ ∀ base : Heap, (K w.params).In base → base.Ns mainGlobals mg → FnOk l.prog w (K w.params) mg base CX0 8 fa fd ["_law_script"] (spLawK (K w.params))) :
    PySem.W.WalkO q loose XP YP l.row.toRowW d [] (fun f vs => PySem.call f vs) :=
  L2.walk_ofB (n := 63) (k := 8) (x := "_law_script") (CX := fun _ => CX0) (sp := fun w => spLawK (K w.params)) hn (by decide) hdf ⟨rfl, by decide, by decide⟩ hY F
    (fun w H a ns hl hb _ hS => ⟨a, ns, rfl, hS, fun c hc => sm_bits (hb c hc), hl, fun _ => rfl⟩) fun _ _ _ _ _ z => z
end LW
open PySem PySem.W PyProof.Rows in
set_option maxRecDepth 100000 in
set_option maxHeartbeats 0 in
theorem PySem.Challenge.cw_leapways_k05_refused_holds : PySem.Challenge.rw_leapways_k05_refused.Holds := by
  w_on; o_law; k_head; (case hw => w_witness2)
  k_fill
  refine LW.walk (l := PySem.Challenge.rw_leapways_k05_refused) rfl rfl (fun w h Y => PySem.W.kIn_of Y) ?F
  case F =>
    intro w mg fa h KX G hmg
    refine' LW.all_mk KX G hmg ?q_BadLeap ?q_BadPlace ?q_BadCount ?q_LeapError ?xb_BadLeap ?xt_BadLeap ?xd_BadLeap ?xx_BadLeap ?xk_BadLeap ?xs_BadLeap ?xg_BadLeap ?xh_BadLeap ?xa_BadLeap ?xm_BadLeap ?t_BadLeap_BadLeap ?t_BadLeap_BadPlace ?t_BadLeap_BadCount ?t_BadLeap_VE ?xb_BadPlace ?xt_BadPlace ?xd_BadPlace ?xx_BadPlace ?xk_BadPlace ?xs_BadPlace ?xg_BadPlace ?xh_BadPlace ?xa_BadPlace ?xm_BadPlace ?t_BadPlace_BadLeap ?t_BadPlace_BadPlace ?t_BadPlace_BadCount ?t_BadPlace_VE ?xb_BadCount ?xt_BadCount ?xd_BadCount ?xx_BadCount ?xk_BadCount ?xs_BadCount ?xg_BadCount ?xh_BadCount ?xa_BadCount ?xm_BadCount ?t_BadCount_BadLeap ?t_BadCount_BadPlace ?t_BadCount_BadCount ?t_BadCount_VE ?xb_LeapError ?xt_LeapError ?xd_LeapError ?hn_ ?ht_ ?z_ValueError ?z_isinstance ?z_int ?z_bool ?z_tuple ?z_list ?z_str ?z_len ?z_all ?z_any ?z_sum ?z_min ?z_max ?z_abs ?z_zip ?z_range ?z_enumerate ?a_is_number ?l_is_number ?c_is_number ?k_is_number ?a_is_pair ?l_is_pair ?c_is_pair ?k_is_pair ?a_eight_of ?l_eight_of ?c_eight_of ?k_eight_of ?a_asked_leap ?l_asked_leap ?c_asked_leap ?k_asked_leap ?a_asked_place ?l_asked_place ?c_asked_place ?k_asked_place ?a_asked_many ?l_asked_many ?c_asked_many ?k_asked_many ?a_led ?l_led ?c_led ?k_led ?a_are_counts ?l_are_counts ?c_are_counts ?k_are_counts ?a_place_of ?l_place_of ?c_place_of ?k_place_of ?a_behind_of ?l_behind_of ?c_behind_of ?k_behind_of ?a_behind ?l_behind ?c_behind ?k_behind ?a_eight ?l_eight ?c_eight ?k_eight ?a_told ?l_told ?c_told ?k_told ?a_fewest ?l_fewest ?c_fewest ?k_fewest ?a_shortest ?l_shortest ?c_shortest ?k_shortest ?a_within ?l_within ?c_within ?k_within ?a_places ?l_places ?c_places ?k_places ?a__law_with_leap ?l__law_with_leap ?c__law_with_leap ?k__law_with_leap ?a__law_with_place ?l__law_with_place ?c__law_with_place ?k__law_with_place ?a__law_pairs ?l__law_pairs ?c__law_pairs ?k__law_pairs ?a__law_bad_counts ?l__law_bad_counts ?c__law_bad_counts ?k__law_bad_counts ?a__law_told ?l__law_told ?c__law_told ?k__law_told ?a_law ?l_law ?c_law ?k_law
    (case q_BadLeap => k_is)
    (case q_BadPlace => k_is)
    (case q_BadCount => k_is)
    (case q_LeapError => k_is)
    (case xb_BadLeap => k_is)
    (case xt_BadLeap => k_is)
    (case xd_BadLeap => k_is)
    (case xx_BadLeap => k_exc)
    (case xk_BadLeap => k_is)
    (case xs_BadLeap => k_is)
    (case xg_BadLeap => k_is)
    (case xh_BadLeap => k_is)
    (case xa_BadLeap => k_is)
    (case xm_BadLeap => k_is)
    (case t_BadLeap_BadLeap => kit_is)
    (case t_BadLeap_BadPlace => kit_is)
    (case t_BadLeap_BadCount => kit_is)
    (case t_BadLeap_VE => kit_is)
    (case xb_BadPlace => k_is)
    (case xt_BadPlace => k_is)
    (case xd_BadPlace => k_is)
    (case xx_BadPlace => k_exc)
    (case xk_BadPlace => k_is)
    (case xs_BadPlace => k_is)
    (case xg_BadPlace => k_is)
    (case xh_BadPlace => k_is)
    (case xa_BadPlace => k_is)
    (case xm_BadPlace => k_is)
    (case t_BadPlace_BadLeap => kit_is)
    (case t_BadPlace_BadPlace => kit_is)
    (case t_BadPlace_BadCount => kit_is)
    (case t_BadPlace_VE => kit_is)
    (case xb_BadCount => k_is)
    (case xt_BadCount => k_is)
    (case xd_BadCount => k_is)
    (case xx_BadCount => k_exc)
    (case xk_BadCount => k_is)
    (case xs_BadCount => k_is)
    (case xg_BadCount => k_is)
    (case xh_BadCount => k_is)
    (case xa_BadCount => k_is)
    (case xm_BadCount => k_is)
    (case t_BadCount_BadLeap => kit_is)
    (case t_BadCount_BadPlace => kit_is)
    (case t_BadCount_BadCount => kit_is)
    (case t_BadCount_VE => kit_is)
    (case xb_LeapError => k_is)
    (case xt_LeapError => k_is)
    (case xd_LeapError => k_is)
    (case hn_ => k_is)
    (case ht_ => k_is)
    (case z_ValueError => k_is)
    (case z_isinstance => k_is)
    (case z_int => k_is)
    (case z_bool => k_is)
    (case z_tuple => k_is)
    (case z_list => k_is)
    (case z_str => k_is)
    (case z_len => k_is)
    (case z_all => k_is)
    (case z_any => k_is)
    (case z_sum => k_is)
    (case z_min => k_is)
    (case z_max => k_is)
    (case z_abs => k_is)
    (case z_zip => k_is)
    (case z_range => k_is)
    (case z_enumerate => k_is)
    (case a_is_number => k_is)
    (case l_is_number => k_is)
    (case c_is_number => k_is)
    (case k_is_number => k_is)
    (case a_is_pair => k_is)
    (case l_is_pair => k_is)
    (case c_is_pair => k_is)
    (case k_is_pair => k_is)
    (case a_eight_of => k_is)
    (case l_eight_of => k_is)
    (case c_eight_of => k_is)
    (case k_eight_of => k_is)
    (case a_asked_leap => k_is)
    (case l_asked_leap => k_is)
    (case c_asked_leap => k_is)
    (case k_asked_leap => k_is)
    (case a_asked_place => k_is)
    (case l_asked_place => k_is)
    (case c_asked_place => k_is)
    (case k_asked_place => k_is)
    (case a_asked_many => k_is)
    (case l_asked_many => k_is)
    (case c_asked_many => k_is)
    (case k_asked_many => k_is)
    (case a_led => k_is)
    (case l_led => k_is)
    (case c_led => k_is)
    (case k_led => k_is)
    (case a_are_counts => k_is)
    (case l_are_counts => k_is)
    (case c_are_counts => k_is)
    (case k_are_counts => k_is)
    (case a_place_of => k_is)
    (case l_place_of => k_is)
    (case c_place_of => k_is)
    (case k_place_of => k_is)
    (case a_behind_of => k_is)
    (case l_behind_of => k_is)
    (case c_behind_of => k_is)
    (case k_behind_of => k_is)
    (case a_behind => k_is)
    (case l_behind => k_is)
    (case c_behind => k_is)
    (case k_behind => k_is)
    (case a_eight => k_is)
    (case l_eight => k_is)
    (case c_eight => k_is)
    (case k_eight => k_is)
    (case a_told => k_is)
    (case l_told => k_is)
    (case c_told => k_is)
    (case k_told => k_is)
    (case a_fewest => k_is)
    (case l_fewest => k_is)
    (case c_fewest => k_is)
    (case k_fewest => k_is)
    (case a_shortest => k_is)
    (case l_shortest => k_is)
    (case c_shortest => k_is)
    (case k_shortest => k_is)
    (case a_within => k_is)
    (case l_within => k_is)
    (case c_within => k_is)
    (case k_within => k_is)
    (case a_places => k_is)
    (case l_places => k_is)
    (case c_places => k_is)
    (case k_places => k_is)
    (case a__law_with_leap => k_is)
    (case l__law_with_leap => k_is)
    (case c__law_with_leap => k_is)
    (case k__law_with_leap => k_is)
    (case a__law_with_place => k_is)
    (case l__law_with_place => k_is)
    (case c__law_with_place => k_is)
    (case k__law_with_place => k_is)
    (case a__law_pairs => k_is)
    (case l__law_pairs => k_is)
    (case c__law_pairs => k_is)
    (case k__law_pairs => k_is)
    (case a__law_bad_counts => k_is)
    (case l__law_bad_counts => k_is)
    (case c__law_bad_counts => k_is)
    (case k__law_bad_counts => k_is)
    (case a__law_told => k_is)
    (case l__law_told => k_is)
    (case c__law_told => k_is)
    (case k__law_told => k_is)
    (case a_law => k_is)
    (case l_law => k_is)
    (case c_law => k_is)
    (case k_law => k_is)
