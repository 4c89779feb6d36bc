import PyProof.Rows.All
import Wide.All
import OpenK.AllK
import Wide.FinOn
import HandS.ForMost
import HandS.HeadHook2
import HandS.Property
import HandS.TupAny
import HandS.TupMul
import HandS.IsInst
import HandS.WordsExc
import HandS.Defaults
import KE.GoesMore
import KE.GoesEnum
import HandS.Zip
import HandS.Deep
import KE.KDictZip
import HandS.OwnIter
import KE.DataMinMax
import HandS.SortKw
import KE.KExcInit
import HandS.Exc
import HandS.HeadHook1
import HandS.TryMany
import HandS.Codes
import KE.KStateDown
import HandS.Head0
import HandS.Head1
import HandS.Head2
import KE.KDictSum
import KE.SortData
import PyProof.TupleOfSeq
import PyProof.Transfer
import HandS.SetFor
import KE.KDictCopyH
import KE.KeyNested
import HandS.WideBits
import HandS.HeadEnd
import PySem.Challenge.RW_pegwebs_k71_whole_papers_judged
set_option Elab.async false
set_option linter.all false
set_option maxRecDepth 100000
section
set_option maxHeartbeats 4000000
/-! The logic over data: what a def's values stand for, told without addresses. -/
namespace PJ
open PySem PySem.Spec PyProof.Rows L2

/-- what a value stands for -/
inductive Dat where
  | any
  | non
  | bl (b : Bool)
  | int (i : Int)
  | str (s : Str)
  | lst (xs : List Dat)
  | tup (xs : List Dat)
  | rng (lo hi : Int)
  | ins (c : Nat) (fs : List Dat)
  /-- an object of the bag: where it stands alone -/
  | mrow (a k c : Nat)
  /-- any object, told by where it stands and what it holds -/
  | obj (mk : Addr → List V → HO) (ks : List Dat)

/-- an address by a global's name -/
abbrev gA (K : PySem.W.Frag) (x : Str) : Addr := He.ga K x
/-- the three classes and their fields -/
def cN : Nat → Str
  | 0 => "Web"
  | 1 => "Game"
  | _ => "Tables"
def cF : Nat → List Str
  | 0 => ["pegs", "_costs", "arrows"]
  | 1 => ["pegs", "webs", "discs"]
  | _ => ["game", "_costs"]
def cA (K : PySem.W.Frag) (c : Nat) : Addr := gA K (cN c)

mutual
/-- in the heap G the value v stands for d -/
def Rep (K : PySem.W.Frag) (G : Hp) : Dat → V → Prop
  | .any, _ => True
  | .non, v => v = .non
  | .bl b, v => v = .bl b
  | .int i, v => v = .int i
  | .str s, v => v = .str s
  | .lst ds, v => ∃ a vs, v = .ref a ∧ G a = some (.lst vs) ∧ Reps K G ds vs
  | .tup ds, v => ∃ a vs, v = .ref a ∧ G a = some (.tup vs) ∧ Reps K G ds vs
  | .rng lo hi, v => ∃ a, v = .ref a ∧ G a = some (.rng lo hi)
  | .ins c ds, v => ∃ a dx vs, v = .ref a ∧ G a = some (.ins (cA K c) dx ((cF c).zip vs)) ∧ Reps K G ds vs
  | .mrow a _ _, v => v = .ref a
  | .obj mk ks, v => ∃ a vs, v = .ref a ∧ G a = some (mk a vs) ∧ Reps K G ks vs
def Reps (K : PySem.W.Frag) (G : Hp) : List Dat → List V → Prop
  | [], vs => vs = []
  | d :: ds, vs => ∃ v r, vs = v :: r ∧ Rep K G d v ∧ Reps K G ds r
end

/-! rows that may turn: G marks them, H holds them -/
def oV : Option Int → V
  | none => .non
  | some i => .int i
/-- how far a row's entries may be, by its age -/
def bnd (c : Nat) : Int := if c < 10000000 then 10 ^ 97 + 12 * (c : Int) else 10 ^ 100 - 1
def small (c : Nat) (o : Option Int) : Prop := ∀ i, o = some i → -bnd c ≤ i ∧ i ≤ bnd c
def RowGood (n : Nat) (u : Option HO) : Prop := ∃ os : List (Option Int), u = some (.lst (os.map oV)) ∧ os.length = n % 8 ∧ ∀ o ∈ os, small (n / 8) o
def HoOk (o : HO) (u : Option HO) : Prop := match o with
  | .own n => RowGood n u
  | o => u = some o
/-- the part G stands in H -/
def Gh (G H : Hp) : Prop := ∀ a o, G a = some o → HoOk o (H a)
theorem HoOk.not_none {o : HO} {u : Option HO} (h : HoOk o u) : u ≠ none := fun e => by
  cases o with
  | own n =>
    obtain ⟨os, h1, _⟩ := (show RowGood n u from h)
    rw [e] at h1
    cases h1
  | lst xs =>
    have h1 : u = some (HO.lst xs) := h
    rw [e] at h1
    cases h1
  | tup xs =>
    have h1 : u = some (HO.tup xs) := h
    rw [e] at h1
    cases h1
  | dK kvs =>
    have h1 : u = some (HO.dK kvs) := h
    rw [e] at h1
    cases h1
  | dT kvs =>
    have h1 : u = some (HO.dT kvs) := h
    rw [e] at h1
    cases h1
  | set S n =>
    have h1 : u = some (HO.set S n) := h
    rw [e] at h1
    cases h1
  | ins C dx fs =>
    have h1 : u = some (HO.ins C dx fs) := h
    rw [e] at h1
    cases h1
  | xd fs =>
    have h1 : u = some (HO.xd fs) := h
    rw [e] at h1
    cases h1
  | met f x =>
    have h1 : u = some (HO.met f x) := h
    rw [e] at h1
    cases h1
  | rng lo hi =>
    have h1 : u = some (HO.rng lo hi) := h
    rw [e] at h1
    cases h1
  | frz o u' =>
    have h1 : u = some (HO.frz o u') := h
    rw [e] at h1
    cases h1
  | tbl ps =>
    have h1 : u = some (HO.tbl ps) := h
    rw [e] at h1
    cases h1
  | ext φ =>
    have h1 : u = some (HO.ext φ) := h
    rw [e] at h1
    cases h1
/-- no row that may turn -/
def NoMk (o : HO) : Prop := ∀ n, o ≠ .own n
theorem HoOk.same {o : HO} (h : NoMk o) : HoOk o (some o) := by
  cases o with
  | own n => exact absurd rfl (h n)
  | _ => exact rfl
theorem nomk_l {xs : List V} : NoMk (.lst xs) := fun _ e => nomatch e
theorem nomk_t {xs : List V} : NoMk (.tup xs) := fun _ e => nomatch e
def Ex (H H' : Hp) : Prop := ∀ a o, H a = some o → H' a = some o
theorem Ex.refl (H : Hp) : Ex H H := fun _ _ h => h
theorem Ex.trans {H H1 H2 : Hp} (a : Ex H H1) (b : Ex H1 H2) : Ex H H2 := fun x o h => b x o (a x o h)
theorem Ex.new {H : Hp} {p : Addr} {o : HO} (h : H p = none) : Ex H (upd H p o) := fun a u e => by
  rw [upd_ne (ne_of_none e h)]
  exact e

mutual
theorem Rep.mono {K : PySem.W.Frag} {G G' : Hp} (e : Ex G G') : ∀ {d : Dat} {v : V}, Rep K G d v → Rep K G' d v
  | .any, _, h => h
  | .non, _, h => h
  | .bl _, _, h => h
  | .int _, _, h => h
  | .str _, _, h => h
  | .lst _, _, ⟨a, vs, h1, h2, h3⟩ => ⟨a, vs, h1, e _ _ h2, Reps.mono e h3⟩
  | .tup _, _, ⟨a, vs, h1, h2, h3⟩ => ⟨a, vs, h1, e _ _ h2, Reps.mono e h3⟩
  | .rng _ _, _, ⟨a, h1, h2⟩ => ⟨a, h1, e _ _ h2⟩
  | .ins _ _, _, ⟨a, dx, vs, h1, h2, h3⟩ => ⟨a, dx, vs, h1, e _ _ h2, Reps.mono e h3⟩
  | .mrow _ _ _, _, h => h
  | .obj _ _, _, ⟨a, vs, h1, h2, h3⟩ => ⟨a, vs, h1, e _ _ h2, Reps.mono e h3⟩
theorem Reps.mono {K : PySem.W.Frag} {G G' : Hp} (e : Ex G G') : ∀ {ds : List Dat} {vs : List V}, Reps K G ds vs → Reps K G' ds vs
  | [], _, h => h
  | _ :: _, _, ⟨v, r, h1, h2, h3⟩ => ⟨v, r, h1, Rep.mono e h2, Reps.mono e h3⟩
end
section
variable {K : PySem.W.Frag} {G G' : Hp}
theorem Reps.nil : Reps K G [] [] := by
  show ([] : List V) = []
  rfl
theorem Reps.cons {d : Dat} {v : V} {ds : List Dat} {vs : List V} (h : Rep K G d v) (r : Reps K G ds vs) : Reps K G (d :: ds) (v :: vs) := by
  show ∃ v' r', v :: vs = v' :: r' ∧ Rep K G d v' ∧ Reps K G ds r'
  exact ⟨v, vs, rfl, h, r⟩
theorem Reps.length : ∀ {ds : List Dat} {vs : List V}, Reps K G ds vs → vs.length = ds.length
  | [], vs, h => by
    have e : vs = [] := h
    rw [e] <;> rfl
  | d :: ds, vs, h => by
    have h' : ∃ v r, vs = v :: r ∧ Rep K G d v ∧ Reps K G ds r := h
    obtain ⟨v, r, e, _, t⟩ := h'
    rw [e, List.length_cons, List.length_cons, Reps.length t]
theorem Reps.get : ∀ {ds : List Dat} {vs : List V} {i : Nat} {d : Dat}, Reps K G ds vs → ds[i]? = some d → ∃ v, vs[i]? = some v ∧ Rep K G d v
  | [], vs, i, d, _, e => by simp at e
  | x :: ds, vs, 0, d, h, e => by
    have h' : ∃ v r, vs = v :: r ∧ Rep K G x v ∧ Reps K G ds r := h
    obtain ⟨v, r, q, hv, _⟩ := h'
    have ed : x = d := Option.some.inj e
    rw [q, ← ed]
    exact ⟨v, rfl, hv⟩
  | x :: ds, vs, i + 1, d, h, e => by
    have h' : ∃ v r, vs = v :: r ∧ Rep K G x v ∧ Reps K G ds r := h
    obtain ⟨v, r, q, _, t⟩ := h'
    have e' : ds[i]? = some d := e
    obtain ⟨u, hu, ru⟩ := Reps.get t e'
    rw [q]
    exact ⟨u, hu, ru⟩
theorem Reps.back : ∀ {ds : List Dat} {vs : List V} {i : Nat} {v : V}, Reps K G ds vs → vs[i]? = some v → ∃ d, ds[i]? = some d ∧ Rep K G d v
  | ds, vs, i, v, h, e => by
    have hl := h.length
    obtain ⟨hi, _⟩ := List.getElem?_eq_some_iff.mp e
    have hi2 : i < ds.length := by omega
    obtain ⟨u, hu, ru⟩ := h.get (List.getElem?_eq_getElem hi2)
    rw [e] at hu
    have q := Option.some.inj hu
    rw [← q] at ru
    exact ⟨_, List.getElem?_eq_getElem hi2, ru⟩
theorem Reps.append : ∀ {ds es : List Dat} {vs us : List V}, Reps K G ds vs → Reps K G es us → Reps K G (ds ++ es) (vs ++ us)
  | [], es, vs, us, h, h2 => by
    have e : vs = [] := h
    rw [e]
    exact h2
  | d :: ds, es, vs, us, h, h2 => by
    have h' : ∃ v r, vs = v :: r ∧ Rep K G d v ∧ Reps K G ds r := h
    obtain ⟨v, r, e, hv, t⟩ := h'
    rw [e]
    exact Reps.cons hv (Reps.append t h2)
theorem Reps.one {d : Dat} {v : V} (h : Rep K G d v) : Reps K G [d] [v] := .cons h .nil
theorem Reps.set : ∀ {ds : List Dat} {vs : List V} {d : Dat} {v : V} (i : Nat), Reps K G ds vs → Rep K G d v → Reps K G (ds.set i d) (vs.set i v)
  | [], vs, d, v, i, h, _ => by
    have e : vs = [] := h
    rw [e]
    exact Reps.nil
  | x :: ds, vs, d, v, 0, h, hv => by
    have h' : ∃ v r, vs = v :: r ∧ Rep K G x v ∧ Reps K G ds r := h
    obtain ⟨u, r, e, _, t⟩ := h'
    rw [e]
    exact Reps.cons hv t
  | x :: ds, vs, d, v, i + 1, h, hv => by
    have h' : ∃ v r, vs = v :: r ∧ Rep K G x v ∧ Reps K G ds r := h
    obtain ⟨u, r, e, hu, t⟩ := h'
    rw [e]
    exact Reps.cons hu (Reps.set i t hv)
theorem Reps.take : ∀ {ds : List Dat} {vs : List V} (n : Nat), Reps K G ds vs → Reps K G (ds.take n) (vs.take n)
  | _, _, 0, _ => .nil
  | [], vs, n + 1, h => by
    have e : vs = [] := h
    rw [e]
    exact Reps.nil
  | d :: ds, vs, n + 1, h => by
    have h' : ∃ v r, vs = v :: r ∧ Rep K G d v ∧ Reps K G ds r := h
    obtain ⟨v, r, e, hv, t⟩ := h'
    rw [e]
    exact Reps.cons hv (Reps.take n t)
theorem Reps.drop : ∀ {ds : List Dat} {vs : List V} (n : Nat), Reps K G ds vs → Reps K G (ds.drop n) (vs.drop n)
  | _, _, 0, h => h
  | [], vs, n + 1, h => by
    have e : vs = [] := h
    rw [e]
    exact Reps.nil
  | d :: ds, vs, n + 1, h => by
    have h' : ∃ v r, vs = v :: r ∧ Rep K G d v ∧ Reps K G ds r := h
    obtain ⟨v, r, e, hv, t⟩ := h'
    rw [e]
    exact Reps.drop n t
theorem Reps.replicate {d : Dat} {v : V} (h : Rep K G d v) : ∀ n : Nat, Reps K G (List.replicate n d) (List.replicate n v)
  | 0 => .nil
  | n + 1 => .cons h (Reps.replicate h n)
theorem Reps.ints : ∀ {ns : List Int} {vs : List V}, Reps K G (ns.map Dat.int) vs → vs = ns.map V.int
  | [], vs, h => h
  | n :: ns, vs, h => by
    have h' : ∃ v r, vs = v :: r ∧ Rep K G (.int n) v ∧ Reps K G (ns.map Dat.int) r := h
    obtain ⟨v, r, e, hv, t⟩ := h'
    have ev : v = .int n := hv
    rw [e, ev, Reps.ints t]
    rfl
theorem reps_ints : ∀ (ns : List Int), Reps K G (ns.map Dat.int) (ns.map V.int)
  | [] => .nil
  | n :: ns => .cons (show V.int n = V.int n from rfl) (reps_ints ns)
end

/-! ### the draws: a list [place, numbers] that the law's helpers change -/
def DrwOk (G H : Hp) (a : Addr) : Prop := ∃ (pos : Int) (nb : Addr) (ns : List Int), H a = some (.lst [.int pos, .ref nb]) ∧ 0 ≤ pos ∧ G a = none ∧ G nb = some (.lst (ns.map V.int))
/-- from (G0, H0) to (G, H): G the part that stands still, all in H; what H0 knew stands (the draws aside), G grows by what was new alone -/
structure Fm (da : Option Addr) (G0 H0 G H : Hp) : Prop where
  gg : Ex G0 G
  gh : Gh G H
  hh : ∀ b o, da ≠ some b → (∀ n, G0 b ≠ some (.own n)) → H0 b = some o → H b = some o
  new : ∀ b o, H0 b = some o → G b = G0 b
  dr : ∀ a, da = some a → (∃ o, H0 a = some o) ∧ DrwOk G H a
section
variable {da : Option Addr} {G0 H0 G H G1 H1 G2 H2 : Hp}
theorem Fm.refl (e : Gh G H) (d : ∀ a, da = some a → DrwOk G H a) : Fm da G H G H := ⟨Ex.refl G, e, fun _ _ _ _ h => h, fun _ _ _ => rfl, fun a h => ⟨by
  obtain ⟨pos, nb, ns, h1, _⟩ := d a h
  exact ⟨_, h1⟩, d a h⟩⟩
theorem Fm.drw (f : Fm da G0 H0 G H) : ∀ a, da = some a → DrwOk G H a := fun a h => (f.dr a h).2
theorem HoOk.ex {o : HO} {u : Option HO} (h : HoOk o u) : ∃ x, u = some x := by
  cases e : u with
  | none => exact absurd e h.not_none
  | some x => exact ⟨x, rfl⟩
theorem Fm.some_ (f : Fm da G0 H0 G H) {b : Addr} {o : HO} (h : H0 b = some o) : ∃ u, H b = some u := by
  by_cases e : da = some b
  · obtain ⟨pos, nb, ns, h1, _⟩ := (f.dr b e).2
    exact ⟨_, h1⟩
  · by_cases m : ∃ n, G0 b = some (.own n)
    · obtain ⟨n, m⟩ := m
      exact (f.gh b _ (f.gg b _ m)).ex
    · exact ⟨o, f.hh b o e (fun n z => m ⟨n, z⟩) h⟩
theorem Fm.trans (f : Fm da G0 H0 G1 H1) (g : Fm da G1 H1 G2 H2) : Fm da G0 H0 G2 H2 where
  gg := f.gg.trans g.gg
  gh := g.gh
  hh := fun b o e m h => g.hh b o e (fun n z => m n (by rw [f.new b o h] at z; exact z)) (f.hh b o e m h)
  new := fun b o h => by
    obtain ⟨u, hu⟩ := f.some_ h
    rw [g.new b u hu, f.new b o h]
  dr := fun a e => ⟨(f.dr a e).1, (g.dr a e).2⟩
theorem Fm.none_of (f : Fm da G0 H0 G H) {b : Addr} (h : H b = none) : H0 b = none := by
  cases e : H0 b with
  | none => rfl
  | some o =>
    obtain ⟨u, hu⟩ := f.some_ e
    rw [hu] at h
    cases h
theorem none_G (e : Gh G H) {b : Addr} (h : H b = none) : G b = none := by
  cases q : G b with
  | none => rfl
  | some o => exact absurd h (e b o q).not_none
theorem Ex.gh (e : Ex G G1) (g : Gh G1 H) : Gh G H := fun a o h => g a o (e a o h)
theorem nomk_none {p : Addr} (h : G p = none) : ∀ n, G p ≠ some (.own n) := fun n z => by
  rw [h] at z
  cases z
theorem DrwOk.keep {a : Addr} (d : DrwOk G H a) (f : Fm none G H G1 H1) : DrwOk G1 H1 a := by
  obtain ⟨pos, nb, ns, h1, h2, h3, h4⟩ := d
  exact ⟨pos, nb, ns, f.hh a _ (fun e => nomatch e) (nomk_none h3) h1, h2, by rw [f.new a _ h1, h3], f.gg _ _ h4⟩
/-- a step that leaves the draws alone -/
theorem Fm.lift (d : ∀ a, da = some a → DrwOk G H a) (f : Fm none G H G1 H1) : Fm da G H G1 H1 :=
  ⟨f.gg, f.gh, fun b o _ m h => f.hh b o (fun e => nomatch e) m h, f.new, fun a e => ⟨by
    obtain ⟨pos, nb, ns, h1, _⟩ := d a e
    exact ⟨_, h1⟩, (d a e).keep f⟩⟩
theorem Fm.same (e : Gh G H) : Fm none G H G H := Fm.refl e fun _ h => nomatch h
/-- a new object, still -/
theorem Fm.new_ {p : Addr} {o : HO} (e : Gh G H) (h : H p = none) (nm : NoMk o := by exact fun _ e => nomatch e) : Fm none G H (upd G p o) (upd H p o) where
  gg := Ex.new (none_G e h)
  gh := fun a u q => by
    by_cases hb : a = p
    · rw [hb, upd_same] at q ⊢
      have q' := Option.some.inj q
      rw [← q']
      exact HoOk.same nm
    · rw [upd_ne hb] at q ⊢
      exact e a u q
  hh := fun b u _ _ q => by
    rw [upd_ne (ne_of_none q h)]
    exact q
  new := fun b u q => upd_ne (ne_of_none q h)
  dr := fun _ h => nomatch h
/-- a new object that does not stand still -/
theorem Fm.loose {p : Addr} {o : HO} (e : Gh G H) (h : H p = none) : Fm none G H G (upd H p o) where
  gg := Ex.refl G
  gh := fun a u q => by
    rw [upd_ne (ne_of_none q (none_G e h))]
    exact e a u q
  hh := fun b u _ _ q => by
    rw [upd_ne (ne_of_none q h)]
    exact q
  new := fun _ _ _ => rfl
  dr := fun _ h => nomatch h
end

/-! ### the names -/
inductive Sl where
  | dat (d : Dat)
  | own (ds : List Dat)
  | drw
  /-- an instance of one's own, its first fields told -/
  | slf (p : Addr) (c : Nat) (ds : List Dat)
  /-- an object of one's own, no list and no instance -/
  | dcs (mk : Addr → List V → HO) (ks : List Dat)
/-- no list, no instance, no mark -/
def Odd (o : HO) : Prop := (∀ xs, o ≠ .lst xs) ∧ (∀ C dx fs, o ≠ .ins C dx fs) ∧ NoMk o
abbrev Lv := List (Option Sl)
def SlOk (K : PySem.W.Frag) (da : Option Addr) (H0 G H : Hp) : Sl → V → Prop
  | .dat d, v => Rep K G d v
  | .own ds, v => ∃ p vs, v = .ref p ∧ H p = some (.lst vs) ∧ H0 p = none ∧ G p = none ∧ Reps K G ds vs
  | .drw, v => ∃ a, da = some a ∧ v = .ref a
  | .slf p c ds, v => ∃ dx vs, v = .ref p ∧ H p = some (.ins (cA K c) dx ((cF c).zip vs)) ∧ H0 p = none ∧ G p = none ∧ Reps K G ds vs
  | .dcs mk ks, v => ∃ p vs, v = .ref p ∧ H p = some (mk p vs) ∧ Odd (mk p vs) ∧ H0 p = none ∧ G p = none ∧ Reps K G ks vs
structure StOk (K : PySem.W.Frag) (da : Option Addr) (H0 G H : Hp) (σ : L2.St) (δ : Lv) : Prop where
  gh : Gh G H
  dr : ∀ a, da = some a → (∃ o, H0 a = some o) ∧ DrwOk G H a
  len : σ.length = δ.length
  at_ : ∀ (i : Nat) (sl : Sl), δ[i]? = some (some sl) → ∃ v, σ[i]? = some (some v) ∧ SlOk K da H0 G H sl v
  sep : ∀ (i j : Nat) (ds es : List Dat) (a : Addr), δ[i]? = some (some (.own ds)) → δ[j]? = some (some (.own es)) → σ[i]? = some (some (.ref a)) → σ[j]? = some (some (.ref a)) → i = j
section
variable {K : PySem.W.Frag} {da : Option Addr} {H0 G H G' H' : Hp} {σ : L2.St} {δ : Lv}
theorem StOk.drw (S : StOk K da H0 G H σ δ) : ∀ a, da = some a → DrwOk G H a := fun a h => (S.dr a h).2
theorem StOk.fm (S : StOk K da H0 G H σ δ) : Fm da G H G H := Fm.refl S.gh S.drw
theorem StOk.step (S : StOk K da H0 G H σ δ) (f : Fm da G H G' H') : StOk K da H0 G' H' σ δ where
  gh := f.gh
  dr := fun a e => ⟨(S.dr a e).1, (f.dr a e).2⟩
  len := S.len
  at_ := fun i sl h => by
    obtain ⟨v, h1, h2⟩ := S.at_ i sl h
    refine ⟨v, h1, ?_⟩
    cases sl with
    | dat d => exact Rep.mono f.gg h2
    | own ds =>
      obtain ⟨p, vs, e, hp, h0, hg, r⟩ := h2
      refine ⟨p, vs, e, f.hh p _ (fun z => ?_) (nomk_none hg) hp, h0, ?_, r.mono f.gg⟩
      · obtain ⟨⟨o, ho⟩, _⟩ := S.dr p z
        rw [h0] at ho
        cases ho
      · rw [f.new p _ hp]
        exact hg
    | drw => exact h2
    | slf p c ds =>
      obtain ⟨dx, vs, e, hp, h0, hg, r⟩ := h2
      refine ⟨dx, vs, e, f.hh p _ (fun z => ?_) (nomk_none hg) hp, h0, ?_, r.mono f.gg⟩
      · obtain ⟨⟨o, ho⟩, _⟩ := S.dr p z
        rw [h0] at ho
        cases ho
      · rw [f.new p _ hp]
        exact hg
    | dcs mk ks =>
      obtain ⟨p, vs, e, hp, od, h0, hg, r⟩ := h2
      refine ⟨p, vs, e, f.hh p _ (fun z => ?_) (nomk_none hg) hp, od, h0, ?_, r.mono f.gg⟩
      · obtain ⟨⟨o, ho⟩, _⟩ := S.dr p z
        rw [h0] at ho
        cases ho
      · rw [f.new p _ hp]
        exact hg
  sep := S.sep
theorem set_at {α : Type} {l : List (Option α)} {i j : Nat} {x : Option α} {y : α} (h : (l.set i x)[j]? = some (some y)) : (i = j ∧ x = some y ∧ i < l.length) ∨ (i ≠ j ∧ l[j]? = some (some y)) := by
  rw [List.getElem?_set] at h
  split at h
  · rename_i e
    split at h
    · rename_i hl
      exact .inl ⟨e, Option.some.inj h, hl⟩
    · cases h
  · rename_i e
    exact .inr ⟨e, h⟩
theorem set_eq {α : Type} {l : List (Option α)} {i : Nat} {x : Option α} (h : i < l.length) : (l.set i x)[i]? = some x := by
  rw [List.getElem?_set_self h]
theorem StOk.set (S : StOk K da H0 G H σ δ) {d : Dat} {v : V} (r : Rep K G d v) (i : Nat) : StOk K da H0 G H (σ.set i (some v)) (δ.set i (some (.dat d))) where
  gh := S.gh
  dr := S.dr
  len := by rw [List.length_set, List.length_set, S.len]
  at_ := fun j sl h => by
    rcases set_at h with ⟨e, e2, hl⟩ | ⟨e, h2⟩
    · rw [← e]
      have e3 : sl = .dat d := (Option.some.inj e2).symm
      rw [e3]
      exact ⟨v, set_eq (by rw [S.len]; exact hl), r⟩
    · obtain ⟨u, h1, h3⟩ := S.at_ j sl h2
      exact ⟨u, by rw [List.getElem?_set_ne e]; exact h1, h3⟩
  sep := fun a b ds es p h1 h2 h3 h4 => by
    rcases set_at h1 with ⟨_, e2, _⟩ | ⟨n1, k1⟩
    · cases e2
    · rcases set_at h2 with ⟨_, e2, _⟩ | ⟨n2, k2⟩
      · cases e2
      · rw [List.getElem?_set_ne n1] at h3
        rw [List.getElem?_set_ne n2] at h4
        exact S.sep a b ds es p k1 k2 h3 h4
/-- a name forgotten -/
theorem StOk.lose (S : StOk K da H0 G H σ δ) (i : Nat) (x : Option V) : StOk K da H0 G H (σ.set i x) (δ.set i none) where
  gh := S.gh
  dr := S.dr
  len := by rw [List.length_set, List.length_set, S.len]
  at_ := fun j sl h => by
    rcases set_at h with ⟨e, e2, hl⟩ | ⟨e, h2⟩
    · cases e2
    · obtain ⟨u, h1, h3⟩ := S.at_ j sl h2
      exact ⟨u, by rw [List.getElem?_set_ne e]; exact h1, h3⟩
  sep := fun a b ds es p h1 h2 h3 h4 => by
    rcases set_at h1 with ⟨_, e2, _⟩ | ⟨n1, k1⟩
    · cases e2
    · rcases set_at h2 with ⟨_, e2, _⟩ | ⟨n2, k2⟩
      · cases e2
      · rw [List.getElem?_set_ne n1] at h3
        rw [List.getElem?_set_ne n2] at h4
        exact S.sep a b ds es p k1 k2 h3 h4
/-- a list of one's own -/
theorem StOk.setOwn (S : StOk K da H0 G H σ δ) {ds : List Dat} {vs : List V} {p : Addr} (hp : H p = some (.lst vs)) (h0 : H0 p = none) (hg : G p = none) (r : Reps K G ds vs) (i : Nat)
    (hne : ∀ (j : Nat) (es : List Dat), i ≠ j → δ[j]? = some (some (.own es)) → σ[j]? ≠ some (some (.ref p))) : StOk K da H0 G H (σ.set i (some (.ref p))) (δ.set i (some (.own ds))) where
  gh := S.gh
  dr := S.dr
  len := by rw [List.length_set, List.length_set, S.len]
  at_ := fun j sl h => by
    rcases set_at h with ⟨e, e2, hl⟩ | ⟨e, h2⟩
    · rw [← e]
      have e3 : sl = .own ds := (Option.some.inj e2).symm
      rw [e3]
      exact ⟨.ref p, set_eq (by rw [S.len]; exact hl), p, vs, rfl, hp, h0, hg, r⟩
    · obtain ⟨u, h1, h3⟩ := S.at_ j sl h2
      exact ⟨u, by rw [List.getElem?_set_ne e]; exact h1, h3⟩
  sep := fun a b d1 d2 q h1 h2 h3 h4 => by
    rcases set_at h1 with ⟨e1, x1, l1⟩ | ⟨n1, k1⟩
    · rcases set_at h2 with ⟨e2, x2, l2⟩ | ⟨n2, k2⟩
      · rw [← e1, ← e2]
      · rw [← e1, set_eq (by rw [S.len]; exact l1)] at h3
        have eq : p = q := by
          have z := Option.some.inj (Option.some.inj h3)
          injection z
        rw [List.getElem?_set_ne n2, ← eq] at h4
        exact absurd h4 (hne b d2 n2 k2)
    · rcases set_at h2 with ⟨e2, x2, l2⟩ | ⟨n2, k2⟩
      · rw [← e2, set_eq (by rw [S.len]; exact l2)] at h4
        have eq : p = q := by
          have z := Option.some.inj (Option.some.inj h4)
          injection z
        rw [List.getElem?_set_ne n1, ← eq] at h3
        exact absurd h3 (hne a d1 n1 k1)
      · rw [List.getElem?_set_ne n1] at h3
        rw [List.getElem?_set_ne n2] at h4
        exact S.sep a b d1 d2 q k1 k2 h3 h4
/-- the own list at i is changed -/
theorem StOk.own_put (S : StOk K da H0 G H σ δ) {ds es : List Dat} {us : List V} {p : Addr} {i : Nat} (hi : δ[i]? = some (some (.own ds))) (hs : σ[i]? = some (some (.ref p))) (h0 : H0 p = none) (hg : G p = none) (r : Reps K G es us) :
    StOk K da H0 G (upd H p (.lst us)) σ (δ.set i (some (.own es))) where
  gh := fun b o q => by
    have n : b ≠ p := fun z => by
      rw [z, hg] at q
      cases q
    rw [upd_ne n]
    exact S.gh b o q
  dr := fun a e => ⟨(S.dr a e).1, by
    obtain ⟨⟨o, ho⟩, pos, nb, ns, h1, h2, h3, h4⟩ := S.dr a e
    have n : a ≠ p := fun z => by
      rw [z, h0] at ho
      cases ho
    exact ⟨pos, nb, ns, by rw [upd_ne n]; exact h1, h2, h3, h4⟩⟩
  len := by rw [List.length_set, S.len]
  at_ := fun j sl h => by
    rcases set_at h with ⟨e, e2, hl⟩ | ⟨e, h2⟩
    · rw [← e]
      have e3 : sl = .own es := (Option.some.inj e2).symm
      rw [e3]
      exact ⟨.ref p, hs, p, us, rfl, upd_same, h0, hg, r⟩
    · obtain ⟨u, h1, h3⟩ := S.at_ j sl h2
      refine ⟨u, h1, ?_⟩
      cases sl with
      | dat d => exact h3
      | own fs =>
        obtain ⟨q, ws, eu, hq, a0, ag, ar⟩ := h3
        refine ⟨q, ws, eu, ?_, a0, ag, ar⟩
        have n : q ≠ p := fun z => by
          rw [eu, z] at h1
          exact e (S.sep i j ds fs p hi h2 hs h1)
        rw [upd_ne n]
        exact hq
      | drw => exact h3
      | slf q c fs =>
        obtain ⟨dx, ws, eu, hq, a0, ag, ar⟩ := h3
        refine ⟨dx, ws, eu, ?_, a0, ag, ar⟩
        have n : q ≠ p := fun z => by
          obtain ⟨v2, g1, p2, vs2, ev2, hp2, _⟩ := S.at_ i _ hi
          rw [hs] at g1
          have e1 := Option.some.inj (Option.some.inj g1)
          rw [ev2] at e1
          injection e1 with e1
          rw [z, e1, hp2] at hq
          cases hq
        rw [upd_ne n]
        exact hq
      | dcs mk fs =>
        obtain ⟨q, ws, eu, hq, od, a0, ag, ar⟩ := h3
        refine ⟨q, ws, eu, ?_, od, a0, ag, ar⟩
        have n : q ≠ p := fun z => by
          obtain ⟨v2, g1, p2, vs2, ev2, hp2, _⟩ := S.at_ i _ hi
          rw [hs] at g1
          have e1 := Option.some.inj (Option.some.inj g1)
          rw [ev2] at e1
          injection e1 with e1
          have hq2 := hq
          rw [z, e1, hp2] at hq2
          have e3 := Option.some.inj hq2
          rw [← e1, ← z] at e3
          exact od.1 _ e3.symm
        rw [upd_ne n]
        exact hq
  sep := fun a b d1 d2 q h1 h2 h3 h4 => by
    have f : ∀ (c : Nat) (d : List Dat), (δ.set i (some (.own es)))[c]? = some (some (.own d)) → ∃ d', δ[c]? = some (some (.own d')) := fun c d h => by
      rcases set_at h with ⟨e1, x1, l1⟩ | ⟨n1, k1⟩
      · rw [← e1]
        exact ⟨_, hi⟩
      · exact ⟨_, k1⟩
    obtain ⟨e1, k1⟩ := f a d1 h1
    obtain ⟨e2, k2⟩ := f b d2 h2
    exact S.sep a b e1 e2 q k1 k2 h3 h4
/-- it stands still from now on -/
theorem StOk.freeze (S : StOk K da H0 G H σ δ) {ds : List Dat} {i : Nat} (hi : δ[i]? = some (some (.own ds))) : ∃ G', Ex G G' ∧ (∀ b o, H0 b = some o → G' b = G b) ∧ StOk K da H0 G' H σ (δ.set i (some (.dat (.lst ds)))) := by
  obtain ⟨v, hs, p, vs, ev, hp, h0, hg, r⟩ := S.at_ i _ hi
  rw [ev] at hs
  have gg : Ex G (upd G p (.lst vs)) := Ex.new hg
  refine ⟨upd G p (.lst vs), gg, fun b o q => upd_ne (fun z => by rw [z, h0] at q; cases q), ?_, fun a e => ⟨(S.dr a e).1, ?_⟩, by rw [List.length_set, S.len], fun j sl h => ?_, fun a b d1 d2 q h1 h2 h3 h4 => ?_⟩
  · intro b o q
    by_cases hb : b = p
    · rw [hb, upd_same] at q
      rw [hb, hp, ← Option.some.inj q]
      exact HoOk.same nomk_l
    · rw [upd_ne hb] at q
      exact S.gh b o q
  · obtain ⟨⟨o, ho⟩, pos, nb, ns, h1, h2, h3, h4⟩ := S.dr a e
    have n : a ≠ p := fun z => by
      rw [z, h0] at ho
      cases ho
    exact ⟨pos, nb, ns, h1, h2, by rw [upd_ne n]; exact h3, gg _ _ h4⟩
  · rcases set_at h with ⟨e, e2, hl⟩ | ⟨e, h2⟩
    · rw [← e]
      have e3 : sl = .dat (.lst ds) := (Option.some.inj e2).symm
      rw [e3]
      exact ⟨.ref p, hs, p, vs, rfl, upd_same, r.mono gg⟩
    · obtain ⟨u, h1, h3⟩ := S.at_ j sl h2
      refine ⟨u, h1, ?_⟩
      cases sl with
      | dat d => exact Rep.mono gg h3
      | own fs =>
        obtain ⟨q, ws, eu, hq, a0, ag, ar⟩ := h3
        refine ⟨q, ws, eu, hq, a0, ?_, ar.mono gg⟩
        have n : q ≠ p := fun z => by
          rw [eu, z] at h1
          exact e (S.sep i j ds fs p hi h2 hs h1)
        rw [upd_ne n]
        exact ag
      | drw => exact h3
      | slf q c fs =>
        obtain ⟨dx, ws, eu, hq, a0, ag, ar⟩ := h3
        refine ⟨dx, ws, eu, hq, a0, ?_, ar.mono gg⟩
        have n : q ≠ p := fun z => by
          rw [z, hp] at hq
          cases hq
        rw [upd_ne n]
        exact ag
      | dcs mk fs =>
        obtain ⟨q, ws, eu, hq, od, a0, ag, ar⟩ := h3
        refine ⟨q, ws, eu, hq, od, a0, ?_, ar.mono gg⟩
        have n : q ≠ p := fun z => by
          have hq2 := hq
          rw [z, hp] at hq2
          have e3 := Option.some.inj hq2
          rw [← z] at e3
          exact od.1 _ e3.symm
        rw [upd_ne n]
        exact ag
  · rcases set_at h1 with ⟨_, e2, _⟩ | ⟨n1, k1⟩
    · cases e2
    · rcases set_at h2 with ⟨_, e2, _⟩ | ⟨n2, k2⟩
      · cases e2
      · exact S.sep a b d1 d2 q k1 k2 h3 h4
end

/-- a def's entry: the draws, what stood still, the heap -/
structure En where
  da : Option Addr
  G0 : Hp
  H0 : Hp
/-- where the def stands -/
structure Now (K : PySem.W.Frag) (en : En) (G H : Hp) (σ : L2.St) (δ : Lv) : Prop where
  st : StOk K en.da en.H0 G H σ δ
  f0 : Fm en.da en.G0 en.H0 G H
section
variable {K : PySem.W.Frag} {en : En} {G H G' H' : Hp} {σ : L2.St} {δ : Lv}
theorem Now.step (S : Now K en G H σ δ) (f : Fm en.da G H G' H') : Now K en G' H' σ δ := ⟨S.st.step f, S.f0.trans f⟩
theorem Now.fm (S : Now K en G H σ δ) : Fm en.da G H G H := S.st.fm
theorem Now.gh (S : Now K en G H σ δ) : Gh G H := S.st.gh
theorem Now.at_ (S : Now K en G H σ δ) : ∀ (i : Nat) (sl : Sl), δ[i]? = some (some sl) → ∃ v, σ[i]? = some (some v) ∧ SlOk K en.da en.H0 G H sl v := S.st.at_
theorem Now.drw (S : Now K en G H σ δ) : ∀ a, en.da = some a → DrwOk G H a := S.st.drw
end
end PJ
end
section
set_option maxHeartbeats 4000000
namespace PJ
open PySem PySem.Spec PyProof.Rows L2

def Is {α : Type} (a : α) : α → Prop := fun b => b = a
theorem Is.self {α : Type} {a : α} : Is a a := rfl

/-! ### readings -/
def tE (K : PySem.W.Frag) (en : En) (δ : Lv) (R : Dat → Prop) : TE := fun σ H Q =>
  ∃ G, Now K en G H σ δ ∧ ∀ v G' H' d, Fm en.da G H G' H' → R d → Rep K G' d v → Q v H'
def tT (K : PySem.W.Frag) (en : En) (δ : Lv) (R : Bool → Prop) : TT := fun σ H Q =>
  ∃ G, Now K en G H σ δ ∧ ∀ b G' H', Fm en.da G H G' H' → R b → Q b H'
/-- a new list, not still -/
def tF (K : PySem.W.Frag) (en : En) (δ : Lv) (R : List Dat → Prop) : TE := fun σ H Q =>
  ∃ G, Now K en G H σ δ ∧ ∀ p vs G' H' ds, Fm en.da G H G' H' → R ds → H' p = some (.lst vs) → H p = none → G' p = none → Reps K G' ds vs → Q (.ref p) H'
def ArgsOk (K : PySem.W.Frag) (da : Option Addr) (G : Hp) : List Sl → List V → Prop
  | [], vs => vs = []
  | .dat d :: ss, vs => ∃ v r, vs = v :: r ∧ Rep K G d v ∧ ArgsOk K da G ss r
  | .drw :: ss, vs => ∃ a r, vs = .ref a :: r ∧ da = some a ∧ ArgsOk K da G ss r
  | .own _ :: _, _ => False
  | .slf _ _ _ :: _, _ => False
  | .dcs _ _ :: _, _ => False
def tA (K : PySem.W.Frag) (en : En) (δ : Lv) (R : List Sl → Prop) : TA := fun σ H Q =>
  ∃ G, Now K en G H σ δ ∧ ∀ vs G' H' ss, Fm en.da G H G' H' → R ss → ArgsOk K en.da G' ss vs → Q vs H'

def JE (X : Cx) (en : En) (e : Expr) (δ : Lv) (R : Dat → Prop) : Prop := PE X e (tE X.K en δ R)
def JT (X : Cx) (en : En) (e : Expr) (δ : Lv) (R : Bool → Prop) : Prop := PT X e (tT X.K en δ R)
def JW (X : Cx) (en : En) (e : Expr) (δ : Lv) (R : Bool → Prop) : Prop := PW X e (tT X.K en δ R)
def JF (X : Cx) (en : En) (e : Expr) (δ : Lv) (R : List Dat → Prop) : Prop := PE X e (tF X.K en δ R)
def JA (X : Cx) (en : En) (es : List Expr) (δ : Lv) (R : List Sl → Prop) : Prop := PA X es (tA X.K en δ R)

theorem PE.weak {X : Cx} {e : Expr} {t u : TE} (h : PE X e t) (w : ∀ σ H Q, u σ H Q → t σ H Q) : PE X e u := ⟨fun pins s σ H Q I q => h.run pins s σ H Q I (w σ H Q q)⟩
theorem PT.weak {X : Cx} {e : Expr} {t u : TT} (h : PT X e t) (w : ∀ σ H Q, u σ H Q → t σ H Q) : PT X e u := ⟨fun pins s σ H Q I q => h.run pins s σ H Q I (w σ H Q q)⟩
theorem PW.weak {X : Cx} {e : Expr} {t u : TT} (h : PW X e t) (w : ∀ σ H Q, u σ H Q → t σ H Q) : PW X e u := ⟨fun wh pins s σ H Q I q => h.run wh pins s σ H Q I (w σ H Q q)⟩
theorem PA.weak {X : Cx} {es : List Expr} {t u : TA} (h : PA X es t) (w : ∀ σ H Q, u σ H Q → t σ H Q) : PA X es u := ⟨fun pos pins s σ H Q I q => h.run pos pins s σ H Q I (w σ H Q q)⟩
theorem PS.weak {X : Cx} {st : Stmt} {t u : TS} (h : PS X st t) (w : ∀ D σ H, u D σ H → t D σ H) : PS X st u := ⟨fun pins s σ H D I q => h.run pins s σ H D I (w D σ H q)⟩
theorem PSs.weak {X : Cx} {st : List Stmt} {t u : TS} (h : PSs X st t) (w : ∀ D σ H, u D σ H → t D σ H) : PSs X st u := ⟨fun pins s σ H D I q => h.run pins s σ H D I (w D σ H q)⟩
/-- one reading for many -/
theorem PE.any {X : Cx} {e : Expr} {ι : Type} {t : ι → TE} (h : ∀ i, PE X e (t i)) : PE X e (fun σ H Q => ∃ i, t i σ H Q) := ⟨fun pins s σ H Q I ⟨i, q⟩ => (h i).run pins s σ H Q I q⟩
theorem PE.cond {X : Cx} {e : Expr} {t : TE} {c : Prop} (h : c → PE X e t) : PE X e (fun σ H Q => c ∧ t σ H Q) := ⟨fun pins s σ H Q I ⟨hc, q⟩ => (h hc).run pins s σ H Q I q⟩
theorem PT.cond {X : Cx} {e : Expr} {t : TT} {c : Prop} (h : c → PT X e t) : PT X e (fun σ H Q => c ∧ t σ H Q) := ⟨fun pins s σ H Q I ⟨hc, q⟩ => (h hc).run pins s σ H Q I q⟩
theorem PW.cond {X : Cx} {e : Expr} {t : TT} {c : Prop} (h : c → PW X e t) : PW X e (fun σ H Q => c ∧ t σ H Q) := ⟨fun wh pins s σ H Q I ⟨hc, q⟩ => (h hc).run wh pins s σ H Q I q⟩
theorem PSs.any {X : Cx} {st : List Stmt} {ι : Type} {t : ι → TS} (h : ∀ i, PSs X st (t i)) : PSs X st (fun D σ H => ∃ i, t i D σ H) := ⟨fun pins s σ H D I ⟨i, q⟩ => (h i).run pins s σ H D I q⟩
theorem PSs.cond {X : Cx} {st : List Stmt} {t : TS} {c : Prop} (h : c → PSs X st t) : PSs X st (fun D σ H => c ∧ t D σ H) := ⟨fun pins s σ H D I ⟨hc, q⟩ => (h hc).run pins s σ H D I q⟩

section
variable {X : Cx} {en : En} {δ : Lv} {a b c e o : Expr} {es : List Expr} {R Ra Rb Rc : Dat → Prop} {pos : Pos}

theorem JE.imp (h : JE X en e δ R) {R' : Dat → Prop} (w : ∀ d, R d → R' d) : JE X en e δ R' :=
  PE.weak h fun _ _ _ ⟨G, S, k⟩ => ⟨G, S, fun v G' H' d f r p => k v G' H' d f (w d r) p⟩
theorem JT.imp {R : Bool → Prop} (h : JT X en e δ R) {R' : Bool → Prop} (w : ∀ d, R d → R' d) : JT X en e δ R' :=
  PT.weak h fun _ _ _ ⟨G, S, k⟩ => ⟨G, S, fun b G' H' f r => k b G' H' f (w b r)⟩
theorem JF.imp {R : List Dat → Prop} (h : JF X en e δ R) {R' : List Dat → Prop} (w : ∀ d, R d → R' d) : JF X en e δ R' :=
  PE.weak h fun _ _ _ ⟨G, S, k⟩ => ⟨G, S, fun p vs G' H' ds f r => k p vs G' H' ds f (w ds r)⟩
theorem JE.is {d d' : Dat} (h : JE X en e δ (Is d)) (q : d = d') : JE X en e δ (Is d') := q ▸ h
theorem JT.is {d d' : Bool} (h : JT X en e δ (Is d)) (q : d = d') : JT X en e δ (Is d') := q ▸ h
theorem JF.is {d d' : List Dat} (h : JF X en e δ (Is d)) (q : d = d') : JF X en e δ (Is d') := q ▸ h
/-- a new list stands still from now on -/
theorem Fm.still {da : Option Addr} {G H G' H' : Hp} {p : Addr} {o : HO} (f : Fm da G H G' H') (h : H' p = some o) (h0 : H p = none) (hg : G' p = none) (nm : NoMk o := by exact fun _ e => nomatch e) : Fm da G H (upd G' p o) H' where
  gg := f.gg.trans (Ex.new hg)
  gh := fun b u q => by
    by_cases e : b = p
    · rw [e, upd_same] at q
      rw [e, h, ← Option.some.inj q]
      exact HoOk.same nm
    · rw [upd_ne e] at q
      exact f.gh b u q
  hh := f.hh
  new := fun b u q => by
    rw [upd_ne (ne_of_none q h0)]
    exact f.new b u q
  dr := fun a e => ⟨(f.dr a e).1, by
    obtain ⟨⟨o', ho⟩, pos, nb, ns, h1, h2, h3, h4⟩ := f.dr a e
    exact ⟨pos, nb, ns, h1, h2, by rw [upd_ne (ne_of_none ho h0)]; exact h3, Ex.new hg _ _ h4⟩⟩
theorem JF.je {Rs : List Dat → Prop} (h : JF X en e δ Rs) {R : Dat → Prop} (w : ∀ ds, Rs ds → R (.lst ds)) : JE X en e δ R :=
  PE.weak h fun σ H Q ⟨G, S, k⟩ => ⟨G, S, fun p vs G' H' ds f r hp h0 hg rr => k _ _ _ _ (f.still hp h0 hg) (w ds r) ⟨p, vs, rfl, upd_same, rr.mono (Ex.new hg)⟩⟩
theorem JF.je1 {ds : List Dat} (h : JF X en e δ (Is ds)) : JE X en e δ (Is (.lst ds)) := h.je fun _ q => by
  rw [show _ = ds from q]
  exact Is.self

/-! ### names, constants -/
theorem je_var (i : Nat) {x : Str} {d : Dat} (hδ : δ[i]? = some (some (.dat d))) (hN : X.N[i]? = some x := by rfl) (hv : Vis X.env.scope x := by first | exact Or.inl rfl | exact Or.inr (Or.inl rfl) | exact Or.inr (Or.inr rfl))
    (hd : (x == ("__debug__" : Str)) = false := by decide) (hcd : (x == ("__classdict__" : Str)) = false := by decide) : JE X en (.Name x pos) δ (Is d) :=
  PE.weak (pe_var hN hv hd hcd) fun σ H Q ⟨G, S, k⟩ => by
    obtain ⟨v, h1, h2⟩ := S.at_ i _ hδ
    exact ⟨v, h1, k v G H d S.fm rfl h2⟩
theorem je_c {v : V} {d : Dat} (h : PE X e (tC v)) (r : ∀ G, Rep X.K G d v) : JE X en e δ (Is d) :=
  PE.weak h fun σ H Q ⟨G, S, k⟩ => k v G H d S.fm rfl (r G)
theorem je_int {i : Int} {j} : JE X en (.Constant (.int i) j pos) δ (Is (.int i)) := je_c pe_int fun _ => rfl
theorem je_bl {i : Bool} {j} : JE X en (.Constant (.bool i) j pos) δ (Is (.bl i)) := je_c pe_bl fun _ => rfl
theorem je_non {j} : JE X en (.Constant .none j pos) δ (Is .non) := je_c pe_non fun _ => rfl
theorem je_str {i : String} {j} : JE X en (.Constant (.str i) j pos) δ (Is (.str i)) := je_c pe_str fun _ => rfl
theorem je_glob {x : Str} {i : Int} (hg : Gl X x) (hm : ∃ t, X.mg x = some (.int i t)) (hd : (x == ("__debug__" : Str)) = false := by decide) : JE X en (.Name x pos) δ (Is (.int i)) := by
  obtain ⟨t, hm⟩ := hm
  exact je_c (pe_glob (v := V.int i) hg hm ⟨t, rfl⟩ hd) fun _ => rfl

/-! ### operators by values -/
def R2Ok (K : PySem.W.Frag) (r : R2) (x y : Dat) (R : Dat → Prop) : Prop :=
  ∀ G H vx vy (Q : VK), Gh G H → Rep K G x vx → Rep K G y vy → (∀ v G' H' d, Fm none G H G' H' → R d → Rep K G' d v → Q v H') → r vx vy H Q
def R2F (K : PySem.W.Frag) (r : R2) (x y : Dat) (R : List Dat → Prop) : Prop :=
  ∀ G H vx vy (Q : VK), Gh G H → Rep K G x vx → Rep K G y vy → (∀ p vs G' H' ds, Fm none G H G' H' → R ds → H' p = some (.lst vs) → H p = none → G' p = none → Reps K G' ds vs → Q (.ref p) H') → r vx vy H Q
def R1Ok (K : PySem.W.Frag) (r : V → Hp → VK → Prop) (x : Dat) (R : Dat → Prop) : Prop :=
  ∀ G H vx (Q : VK), Gh G H → Rep K G x vx → (∀ v G' H' d, Fm none G H G' H' → R d → Rep K G' d v → Q v H') → r vx H Q
variable {r : R2} {ta tb : TE}
theorem op_core (h : ∀ x y, Ra x → Rb y → R2Ok X.K r x y R) : ∀ σ H Q, tE X.K en δ R σ H Q → tOp r (tE X.K en δ Ra) (tE X.K en δ Rb) σ H Q := fun σ H Q ⟨G, S, k⟩ =>
  ⟨G, S, fun vx G1 H1 x f1 rx px => ⟨G1, S.step f1, fun vy G2 H2 y f2 ry py => h x y rx ry G2 H2 vx vy Q f2.gh (px.mono f2.gg) py fun v G' H' d f3 rd pd =>
    k v G' H' d ((f1.trans f2).trans (f3.lift f2.drw)) rd pd⟩⟩
theorem opF_core {Rs : List Dat → Prop} (h : ∀ x y, Ra x → Rb y → R2F X.K r x y Rs) : ∀ σ H Q, tF X.K en δ Rs σ H Q → tOp r (tE X.K en δ Ra) (tE X.K en δ Rb) σ H Q := fun σ H Q ⟨G, S, k⟩ =>
  ⟨G, S, fun vx G1 H1 x f1 rx px => ⟨G1, S.step f1, fun vy G2 H2 y f2 ry py => h x y rx ry G2 H2 vx vy Q f2.gh (px.mono f2.gg) py fun p vs G' H' ds f3 rd hp h0 hg pd =>
    k p vs G' H' ds ((f1.trans f2).trans (f3.lift f2.drw)) rd hp ((f1.trans f2).none_of h0) hg pd⟩⟩
theorem je_op {op : Operator} (ho : OpR X (binaryOp op) r) (ha : JE X en a δ Ra) (hb : JE X en b δ Rb) (h : ∀ x y, Ra x → Rb y → R2Ok X.K r x y R) : JE X en (.BinOp a op b pos) δ R :=
  PE.weak (pe_op ho ha hb) (op_core h)
theorem jf_op {op : Operator} {Rs : List Dat → Prop} (ho : OpR X (binaryOp op) r) (ha : JE X en a δ Ra) (hb : JE X en b δ Rb) (h : ∀ x y, Ra x → Rb y → R2F X.K r x y Rs) : JF X en (.BinOp a op b pos) δ Rs :=
  PE.weak (pe_op ho ha hb) (opF_core h)
theorem je_cmp {op : CmpOp} (ho : OpR X (compareOp op) r) (ha : JE X en a δ Ra) (hb : JE X en b δ Rb) (h : ∀ x y, Ra x → Rb y → R2Ok X.K r x y R) (hm : behindInMarks op b = false) : JE X en (.Compare a [op] [b] pos) δ R :=
  PE.weak (pe_cmpR ho ha hb hm) (op_core h)
theorem je_ix (ho : IxR X r) (ha : JE X en a δ Ra) (hb : JE X en b δ Rb) (h : ∀ x y, Ra x → Rb y → R2Ok X.K r x y R) (hs : PlainIx b := by exact fun _ _ => rfl) : JE X en (.Subscript a b pos) δ R :=
  PE.weak (pe_ix ho ha hb hs) (op_core h)
theorem je_un {op : UnaryOp} {r1 : V → Hp → VK → Prop} (ho : UnR X (unaryOp op) r1) (ha : JE X en a δ Ra) (h : ∀ x, Ra x → R1Ok X.K r1 x R) : JE X en (.UnaryOp op a pos) δ R :=
  PE.weak (pe_un ho ha) fun σ H Q ⟨G, S, k⟩ => ⟨G, S, fun vx G1 H1 x f1 rx px => h x rx G1 H1 vx Q f1.gh px fun v G' H' d f3 rd pd => k v G' H' d (f1.trans (f3.lift f1.drw)) rd pd⟩
/-- exactly told operands -/
theorem one2 {K : PySem.W.Frag} {x y : Dat} (h : R2Ok K r x y R) : ∀ x' y', Is x x' → Is y y' → R2Ok K r x' y' R := fun _ _ e1 e2 => by
  rw [show _ = x from e1, show _ = y from e2]
  exact h
theorem one2F {K : PySem.W.Frag} {x y : Dat} {Rs : List Dat → Prop} (h : R2F K r x y Rs) : ∀ x' y', Is x x' → Is y y' → R2F K r x' y' Rs := fun _ _ e1 e2 => by
  rw [show _ = x from e1, show _ = y from e2]
  exact h
theorem one1 {K : PySem.W.Frag} {x : Dat} {r1 : V → Hp → VK → Prop} (h : R1Ok K r1 x R) : ∀ x', Is x x' → R1Ok K r1 x' R := fun _ e1 => by
  rw [show _ = x from e1]
  exact h
/-! ints -/
theorem r2_I0 {K : PySem.W.Frag} {g : Int → Int → V} {i j : Int} {d : Dat} (h : ∀ G, Rep K G d (g i j)) : R2Ok K (rI0 g) (.int i) (.int j) (Is d) := fun G H vx vy Q e rx ry k => by
  have ex : vx = .int i := rx
  have ey : vy = .int j := ry
  exact ⟨i, j, ex, ey, k _ G H d (Fm.same e) rfl (h G)⟩
theorem r2_I {K : PySem.W.Frag} {C : Int → Int → Prop} {g : Int → Int → V} {i j : Int} {d : Dat} (hc : C i j) (h : ∀ G, Rep K G d (g i j)) : R2Ok K (rI C g) (.int i) (.int j) (Is d) := fun G H vx vy Q e rx ry k => by
  have ex : vx = .int i := rx
  have ey : vy = .int j := ry
  exact ⟨i, j, ex, ey, hc, k _ G H d (Fm.same e) rfl (h G)⟩
theorem je_add {i j : Int} (ha : JE X en a δ (Is (.int i))) (hb : JE X en b δ (Is (.int j))) : JE X en (.BinOp a .Add b pos) δ (Is (.int (i + j))) := je_op op_add ha hb (one2 (r2_I0 fun _ => rfl))
theorem je_sub {i j : Int} (ha : JE X en a δ (Is (.int i))) (hb : JE X en b δ (Is (.int j))) : JE X en (.BinOp a .Sub b pos) δ (Is (.int (i - j))) := je_op op_sub ha hb (one2 (r2_I0 fun _ => rfl))
theorem je_lt {i j : Int} (ha : JE X en a δ (Is (.int i))) (hb : JE X en b δ (Is (.int j))) : JE X en (.Compare a [.Lt] [b] pos) δ (Is (.bl (decide (i < j)))) := je_cmp op_lt ha hb (one2 (r2_I0 fun _ => rfl)) (nomark _)
theorem je_le {i j : Int} (ha : JE X en a δ (Is (.int i))) (hb : JE X en b δ (Is (.int j))) : JE X en (.Compare a [.LtE] [b] pos) δ (Is (.bl (decide (i ≤ j)))) := je_cmp op_le ha hb (one2 (r2_I0 fun _ => rfl)) (nomark _)
theorem je_gt {i j : Int} (ha : JE X en a δ (Is (.int i))) (hb : JE X en b δ (Is (.int j))) : JE X en (.Compare a [.Gt] [b] pos) δ (Is (.bl (decide (j < i)))) := je_cmp op_gt ha hb (one2 (r2_I0 fun _ => rfl)) (nomark _)
theorem je_ge {i j : Int} (ha : JE X en a δ (Is (.int i))) (hb : JE X en b δ (Is (.int j))) : JE X en (.Compare a [.GtE] [b] pos) δ (Is (.bl (decide (j ≤ i)))) := je_cmp op_ge ha hb (one2 (r2_I0 fun _ => rfl)) (nomark _)
theorem r2_eqI {K : PySem.W.Frag} {i j : Int} : R2Ok K rEq (.int i) (.int j) (Is (.bl (decide (i = j)))) := fun G H vx vy Q e rx ry k => by
  have ex : vx = .int i := rx
  have ey : vy = .int j := ry
  rw [ex, ey]
  refine ⟨rfl, k _ G H _ (Fm.same e) rfl ?_⟩
  show V.bl (decide (V.int i = V.int j)) = V.bl (decide (i = j))
  exact congrArg V.bl (by simp)
theorem r2_neI {K : PySem.W.Frag} {i j : Int} : R2Ok K rNe (.int i) (.int j) (Is (.bl (!decide (i = j)))) := fun G H vx vy Q e rx ry k => by
  have ex : vx = .int i := rx
  have ey : vy = .int j := ry
  rw [ex, ey]
  refine ⟨rfl, k _ G H _ (Fm.same e) rfl ?_⟩
  show V.bl (!decide (V.int i = V.int j)) = V.bl (!decide (i = j))
  exact congrArg V.bl (by simp)
theorem je_eq {i j : Int} (ha : JE X en a δ (Is (.int i))) (hb : JE X en b δ (Is (.int j))) : JE X en (.Compare a [.Eq] [b] pos) δ (Is (.bl (decide (i = j)))) := je_cmp op_eq ha hb (one2 r2_eqI) (nomark _)
theorem je_ne {i j : Int} (ha : JE X en a δ (Is (.int i))) (hb : JE X en b δ (Is (.int j))) : JE X en (.Compare a [.NotEq] [b] pos) δ (Is (.bl (!decide (i = j)))) := je_cmp op_ne ha hb (one2 r2_neI) (nomark _)
def isNon : Dat → Bool
  | .non => true
  | _ => false
/-- no hole: what it stands for tells its kind -/
def Told : Dat → Prop
  | .any => False
  | _ => True
theorem rep_non {K : PySem.W.Frag} {G : Hp} {d : Dat} {v : V} (h : Rep K G d v) (t : Told d) : decide (v = .non) = isNon d := by
  cases d with
  | any => exact t.elim
  | non =>
    have e : v = .non := h
    rw [e] <;> rfl
  | bl b =>
    have e : v = .bl b := h
    rw [e] <;> rfl
  | int i =>
    have e : v = .int i := h
    rw [e] <;> rfl
  | str s =>
    have e : v = .str s := h
    rw [e] <;> rfl
  | lst xs =>
    obtain ⟨p, vs, e, _⟩ := (show ∃ p vs, v = .ref p ∧ G p = some (.lst vs) ∧ Reps K G xs vs from h)
    rw [e] <;> rfl
  | tup xs =>
    obtain ⟨p, vs, e, _⟩ := (show ∃ p vs, v = .ref p ∧ G p = some (.tup vs) ∧ Reps K G xs vs from h)
    rw [e] <;> rfl
  | rng lo hi =>
    obtain ⟨p, e, _⟩ := (show ∃ p, v = .ref p ∧ G p = some (.rng lo hi) from h)
    rw [e] <;> rfl
  | ins c fs =>
    obtain ⟨p, dx, vs, e, _⟩ := (show ∃ p dx vs, v = .ref p ∧ G p = some (.ins (cA K c) dx ((cF c).zip vs)) ∧ Reps K G fs vs from h)
    rw [e] <;> rfl
  | mrow a k c =>
    have e : v = .ref a := h
    rw [e] <;> rfl
  | obj mk ks =>
    obtain ⟨p, vs, e, _⟩ := (show ∃ p vs, v = .ref p ∧ G p = some (mk p vs) ∧ Reps K G ks vs from h)
    rw [e] <;> rfl
theorem je_isN {d : Dat} {j} {p2 : Pos} (ha : JE X en a δ (Is d)) (t : Told d := by trivial) : JE X en (.Compare a [.Is] [.Constant .none j p2] pos) δ (Is (.bl (isNon d))) :=
  je_cmp op_isN ha (je_non (δ := δ)) (one2 (fun G H vx vy Q e rx ry k => ⟨ry, k _ G H _ (Fm.same e) rfl (show V.bl _ = V.bl _ by rw [rep_non rx t])⟩)) (nomark _)
theorem je_notN {d : Dat} {j} {p2 : Pos} (ha : JE X en a δ (Is d)) (t : Told d := by trivial) : JE X en (.Compare a [.IsNot] [.Constant .none j p2] pos) δ (Is (.bl (!isNon d))) :=
  je_cmp op_notN ha (je_non (δ := δ)) (one2 (fun G H vx vy Q e rx ry k => ⟨ry, k _ G H _ (Fm.same e) rfl (show V.bl _ = V.bl _ by rw [rep_non rx t])⟩)) (nomark _)
/-- two constants told alike -/
theorem r2_eqS {K : PySem.W.Frag} {i j : Str} : R2Ok K rEq (.str i) (.str j) (Is (.bl (decide (i = j)))) := fun G H vx vy Q e rx ry k => by
  have ex : vx = .str i := rx
  have ey : vy = .str j := ry
  rw [ex, ey]
  refine ⟨rfl, k _ G H _ (Fm.same e) rfl ?_⟩
  show V.bl (decide (V.str i = V.str j)) = V.bl (decide (i = j))
  exact congrArg V.bl (by simp)
theorem r2_neS {K : PySem.W.Frag} {i j : Str} : R2Ok K rNe (.str i) (.str j) (Is (.bl (!decide (i = j)))) := fun G H vx vy Q e rx ry k => by
  have ex : vx = .str i := rx
  have ey : vy = .str j := ry
  rw [ex, ey]
  refine ⟨rfl, k _ G H _ (Fm.same e) rfl ?_⟩
  show V.bl (!decide (V.str i = V.str j)) = V.bl (!decide (i = j))
  exact congrArg V.bl (by simp)
theorem je_eqS {i j : Str} (ha : JE X en a δ (Is (.str i))) (hb : JE X en b δ (Is (.str j))) : JE X en (.Compare a [.Eq] [b] pos) δ (Is (.bl (decide (i = j)))) := je_cmp op_eq ha hb (one2 r2_eqS) (nomark _)
theorem je_neS {i j : Str} (ha : JE X en a δ (Is (.str i))) (hb : JE X en b δ (Is (.str j))) : JE X en (.Compare a [.NotEq] [b] pos) δ (Is (.bl (!decide (i = j)))) := je_cmp op_ne ha hb (one2 r2_neS) (nomark _)

/-! ### tests, truth values -/
theorem bl_of {K : PySem.W.Frag} {G : Hp} {b : Bool} {v : V} (h : Rep K G (.bl b) v) : v = .bl b := h
/-- a test: a value that is a bool -/
theorem jt_val {Rt : Bool → Prop} (h : JE X en e δ R) (w : ∀ d, R d → ∃ k, d = .bl k ∧ Rt k) (he : ∀ whole, isTrue e X.env whole = (do let v ← whole; standAt e.pos; holding [v] (truthy v)) := by intro _; rfl) : JT X en e δ Rt :=
  PT.weak (pt_val h he) fun σ H Q ⟨G, S, k⟩ => ⟨G, S, fun v G1 H1 d f r p => by
    obtain ⟨kb, ed, rk⟩ := w d r
    rw [ed] at p
    exact ⟨kb, p, k kb G1 H1 f rk⟩⟩
theorem jt_v {k : Bool} (h : JE X en e δ (Is (.bl k))) (he : ∀ whole, isTrue e X.env whole = (do let v ← whole; standAt e.pos; holding [v] (truthy v)) := by intro _; rfl) : JT X en e δ (Is k) :=
  jt_val h (fun _ q => ⟨k, q, rfl⟩) he
/-- a comparison as a test -/
theorem jt_cmp {op : CmpOp} {Rt : Bool → Prop} (ho : OpR X (compareOp op) r) (ha : JE X en a δ Ra) (hb : JE X en b δ Rb) (h : ∀ x y, Ra x → Rb y → R2Ok X.K r x y (fun d => ∃ k, d = .bl k ∧ Rt k)) (hm : behindInMarks op b = false) : JT X en (.Compare a [op] [b] pos) δ Rt :=
  PT.weak (pt_cmpR ho ha hb hm) fun σ H Q ⟨G, S, k⟩ => by
    refine op_core h σ H _ ⟨G, S, fun v G1 H1 d f rd p => ?_⟩
    obtain ⟨kb, ed, rk⟩ := rd
    rw [ed] at p
    exact ⟨kb, p, k kb G1 H1 f rk⟩
theorem r2_test {K : PySem.W.Frag} {x y : Dat} {k : Bool} (h : R2Ok K r x y (Is (.bl k))) : ∀ x' y', Is x x' → Is y y' → R2Ok K r x' y' (fun d => ∃ k', d = .bl k' ∧ Is k k') := fun x' y' e1 e2 => by
  rw [show x' = x from e1, show y' = y from e2]
  exact fun G H vx vy Q e rx ry q => h G H vx vy Q e rx ry fun v G' H' d f rd p => q v G' H' d f ⟨k, rd, rfl⟩ p
theorem jt_lt {i j : Int} (ha : JE X en a δ (Is (.int i))) (hb : JE X en b δ (Is (.int j))) : JT X en (.Compare a [.Lt] [b] pos) δ (Is (decide (i < j))) := jt_cmp op_lt ha hb (r2_test (r2_I0 fun _ => rfl)) (nomark _)
theorem jt_le {i j : Int} (ha : JE X en a δ (Is (.int i))) (hb : JE X en b δ (Is (.int j))) : JT X en (.Compare a [.LtE] [b] pos) δ (Is (decide (i ≤ j))) := jt_cmp op_le ha hb (r2_test (r2_I0 fun _ => rfl)) (nomark _)
theorem jt_gt {i j : Int} (ha : JE X en a δ (Is (.int i))) (hb : JE X en b δ (Is (.int j))) : JT X en (.Compare a [.Gt] [b] pos) δ (Is (decide (j < i))) := jt_cmp op_gt ha hb (r2_test (r2_I0 fun _ => rfl)) (nomark _)
theorem jt_ge {i j : Int} (ha : JE X en a δ (Is (.int i))) (hb : JE X en b δ (Is (.int j))) : JT X en (.Compare a [.GtE] [b] pos) δ (Is (decide (j ≤ i))) := jt_cmp op_ge ha hb (r2_test (r2_I0 fun _ => rfl)) (nomark _)
theorem jt_eq {i j : Int} (ha : JE X en a δ (Is (.int i))) (hb : JE X en b δ (Is (.int j))) : JT X en (.Compare a [.Eq] [b] pos) δ (Is (decide (i = j))) := jt_cmp op_eq ha hb (r2_test r2_eqI) (nomark _)
theorem jt_ne {i j : Int} (ha : JE X en a δ (Is (.int i))) (hb : JE X en b δ (Is (.int j))) : JT X en (.Compare a [.NotEq] [b] pos) δ (Is (!decide (i = j))) := jt_cmp op_ne ha hb (r2_test r2_neI) (nomark _)
theorem jt_eqS {i j : Str} (ha : JE X en a δ (Is (.str i))) (hb : JE X en b δ (Is (.str j))) : JT X en (.Compare a [.Eq] [b] pos) δ (Is (decide (i = j))) := jt_cmp op_eq ha hb (r2_test r2_eqS) (nomark _)
theorem jt_neS {i j : Str} (ha : JE X en a δ (Is (.str i))) (hb : JE X en b δ (Is (.str j))) : JT X en (.Compare a [.NotEq] [b] pos) δ (Is (!decide (i = j))) := jt_cmp op_ne ha hb (r2_test r2_neS) (nomark _)
theorem jt_isN {d : Dat} {j} {p2 : Pos} (ha : JE X en a δ (Is d)) (t : Told d := by trivial) : JT X en (.Compare a [.Is] [.Constant .none j p2] pos) δ (Is (isNon d)) :=
  jt_cmp op_isN ha (je_non (δ := δ)) (r2_test (fun G H vx vy Q e rx ry k => ⟨ry, k _ G H _ (Fm.same e) rfl (show V.bl _ = V.bl _ by rw [rep_non rx t])⟩)) (nomark _)
theorem jt_notN {d : Dat} {j} {p2 : Pos} (ha : JE X en a δ (Is d)) (t : Told d := by trivial) : JT X en (.Compare a [.IsNot] [.Constant .none j p2] pos) δ (Is (!isNon d)) :=
  jt_cmp op_notN ha (je_non (δ := δ)) (r2_test (fun G H vx vy Q e rx ry k => ⟨ry, k _ G H _ (Fm.same e) rfl (show V.bl _ = V.bl _ by rw [rep_non rx t])⟩)) (nomark _)
theorem jt_not {k : Bool} (h : JT X en a δ (Is k)) : JT X en (.UnaryOp .Not a pos) δ (Is (!k)) :=
  PT.weak (pt_not h) fun σ H Q ⟨G, S, q⟩ => ⟨G, S, fun b G1 H1 f rb => q (!b) G1 H1 f (by rw [show b = k from rb]; rfl)⟩
/-- and, or, as a test -/
theorem JW.jt {R : Bool → Prop} (h : JW X en e δ R) : JT X en e δ R := PW.pt h
theorem jw_and1 {R : Bool → Prop} (h : JT X en a δ R) : JW X en (.BoolOp .And [a] pos) δ R := pw_and1 h
theorem jw_or1 {R : Bool → Prop} (h : JT X en a δ R) : JW X en (.BoolOp .Or [a] pos) δ R := pw_or1 h
variable {Rt Rt1 Rt2 : Bool → Prop} {rest : List Expr}
theorem jw_and (ha : JT X en a δ Rt1) (hb : Rt1 true → JW X en (.BoolOp .And (b :: rest) pos) δ Rt) (hf : Rt1 false → Rt false) : JW X en (.BoolOp .And (a :: b :: rest) pos) δ Rt :=
  PW.weak (pw_and ha (PW.cond hb)) fun σ H Q ⟨G, S, k⟩ => ⟨G, S, fun x G1 H1 f rx => by
    cases x with
    | true => exact ⟨rx, G1, S.step f, fun y G2 H2 f2 ry => k y G2 H2 (f.trans f2) ry⟩
    | false => exact k false G1 H1 f (hf rx)⟩
theorem jw_or (ha : JT X en a δ Rt1) (hb : Rt1 false → JW X en (.BoolOp .Or (b :: rest) pos) δ Rt) (ht : Rt1 true → Rt true) : JW X en (.BoolOp .Or (a :: b :: rest) pos) δ Rt :=
  PW.weak (pw_or ha (PW.cond hb)) fun σ H Q ⟨G, S, k⟩ => ⟨G, S, fun x G1 H1 f rx => by
    cases x with
    | true => exact k true G1 H1 f (ht rx)
    | false => exact ⟨rx, G1, S.step f, fun y G2 H2 f2 ry => k y G2 H2 (f.trans f2) ry⟩⟩
/-- told exactly; the second is asked where it counts -/
theorem jw_andI {x y : Bool} (ha : JT X en a δ (Is x)) (hb : x = true → JW X en (.BoolOp .And (b :: rest) pos) δ (Is y)) : JW X en (.BoolOp .And (a :: b :: rest) pos) δ (Is (x && y)) := by
  cases x with
  | true => exact jw_and ha (fun _ => hb rfl) (fun q => nomatch (show false = true from q))
  | false => exact jw_and ha (fun q => nomatch (show true = false from q)) (fun _ => rfl)
theorem jw_orI {x y : Bool} (ha : JT X en a δ (Is x)) (hb : x = false → JW X en (.BoolOp .Or (b :: rest) pos) δ (Is y)) : JW X en (.BoolOp .Or (a :: b :: rest) pos) δ (Is (x || y)) := by
  cases x with
  | true => exact jw_or ha (fun q => nomatch (show false = true from q)) (fun _ => rfl)
  | false => exact jw_or ha (fun _ => hb rfl) (fun q => nomatch (show true = false from q))
/-- and, or, as a value -/
theorem je_one {op} (h : JE X en a δ R) : JE X en (.BoolOp op [a] pos) δ R := pe_one h
theorem je_andI {x y : Bool} (ha : JE X en a δ (Is (.bl x))) (hb : x = true → JE X en (.BoolOp .And (b :: rest) pos) δ (Is (.bl y))) : JE X en (.BoolOp .And (a :: b :: rest) pos) δ (Is (.bl (x && y))) :=
  PE.weak (pe_and ha (PE.cond hb)) fun σ H Q ⟨G, S, k⟩ => ⟨G, S, fun v G1 H1 d f rd p => by
    have p' : Rep X.K G1 (.bl x) v := by
      rw [show d = .bl x from rd] at p
      exact p
    refine ⟨x, p', ?_⟩
    cases x with
    | true => exact ⟨rfl, G1, S.step f, fun v2 G2 H2 d2 f2 r2 p2 => k v2 G2 H2 d2 (f.trans f2) r2 p2⟩
    | false => exact k _ G1 H1 _ f rfl rfl⟩
theorem je_orI {x y : Bool} (ha : JE X en a δ (Is (.bl x))) (hb : x = false → JE X en (.BoolOp .Or (b :: rest) pos) δ (Is (.bl y))) : JE X en (.BoolOp .Or (a :: b :: rest) pos) δ (Is (.bl (x || y))) :=
  PE.weak (pe_or ha (PE.cond hb)) fun σ H Q ⟨G, S, k⟩ => ⟨G, S, fun v G1 H1 d f rd p => by
    have p' : Rep X.K G1 (.bl x) v := by
      rw [show d = .bl x from rd] at p
      exact p
    refine ⟨x, p', ?_⟩
    cases x with
    | true => exact k _ G1 H1 _ f rfl rfl
    | false => exact ⟨rfl, G1, S.step f, fun v2 G2 H2 d2 f2 r2 p2 => k v2 G2 H2 d2 (f.trans f2) r2 p2⟩⟩
theorem je_notV {x : Bool} (ha : JE X en a δ (Is (.bl x))) : JE X en (.UnaryOp .Not a pos) δ (Is (.bl (!x))) :=
  PE.weak (pe_not ha) fun σ H Q ⟨G, S, k⟩ => ⟨G, S, fun v G1 H1 d f rd p => by
    have p' : Rep X.K G1 (.bl x) v := by
      rw [show d = .bl x from rd] at p
      exact p
    exact ⟨x, p', k _ G1 H1 _ f rfl rfl⟩⟩
theorem je_ifExp {R : Dat → Prop} (hc : JT X en c δ Rt) (ha : Rt true → JE X en a δ R) (hb : Rt false → JE X en b δ R) : JE X en (.IfExp c a b pos) δ R :=
  PE.weak (pe_ifExp hc (PE.cond ha) (PE.cond hb)) fun σ H Q ⟨G, S, k⟩ => ⟨G, S, fun x G1 H1 f rx => by
    cases x with
    | true => exact ⟨rx, G1, S.step f, fun v2 G2 H2 d2 f2 r2 p2 => k v2 G2 H2 d2 (f.trans f2) r2 p2⟩
    | false => exact ⟨rx, G1, S.step f, fun v2 G2 H2 d2 f2 r2 p2 => k v2 G2 H2 d2 (f.trans f2) r2 p2⟩⟩

/-! ### arguments, displays -/
theorem ArgsOk.mono {da : Option Addr} {K : PySem.W.Frag} {G G' : Hp} (e : Ex G G') : ∀ {ss : List Sl} {vs : List V}, ArgsOk K da G ss vs → ArgsOk K da G' ss vs
  | [], _, h => h
  | .dat _ :: _, _, ⟨v, r, h1, h2, h3⟩ => ⟨v, r, h1, h2.mono e, ArgsOk.mono e h3⟩
  | .drw :: _, _, ⟨a, r, h1, h2, h3⟩ => ⟨a, r, h1, h2, ArgsOk.mono e h3⟩
  | .own _ :: _, _, h => h.elim
  | .slf _ _ _ :: _, _, h => h.elim
  | .dcs _ _ :: _, _, h => h.elim
theorem ArgsOk.reps {da : Option Addr} {K : PySem.W.Frag} {G : Hp} : ∀ {ds : List Dat} {vs : List V}, ArgsOk K da G (ds.map Sl.dat) vs → Reps K G ds vs
  | [], _, h => h
  | d :: ds, vs, h => by
    obtain ⟨v, r, e, h1, h2⟩ := (show ∃ v r, vs = v :: r ∧ Rep K G d v ∧ ArgsOk K da G (ds.map Sl.dat) r from h)
    rw [e]
    exact .cons h1 (ArgsOk.reps h2)
theorem ja_nil : JA X en [] δ (Is []) := PA.weak pa_nil fun σ H Q ⟨G, S, k⟩ => k [] G H [] S.fm rfl rfl
theorem ja_cons {Rs : List Sl → Prop} (h : JE X en e δ R) (hs : JA X en es δ Rs) (hst : starEach (e :: es) X.env = (false, eval e X.env) :: starEach es X.env := by rfl) :
    JA X en (e :: es) δ (fun l => ∃ d r, l = .dat d :: r ∧ R d ∧ Rs r) :=
  PA.weak (pa_cons h hs hst) fun σ H Q ⟨G, S, k⟩ => ⟨G, S, fun v G1 H1 d f rd p => ⟨G1, S.step f, fun vs G2 H2 ss f2 rs ps =>
    k (v :: vs) G2 H2 (.dat d :: ss) (f.trans f2) ⟨d, ss, rfl, rd, rs⟩ ⟨v, vs, rfl, p.mono f2.gg, ps⟩⟩⟩
theorem JA.imp {Rs Rs' : List Sl → Prop} (h : JA X en es δ Rs) (w : ∀ l, Rs l → Rs' l) : JA X en es δ Rs' :=
  PA.weak h fun _ _ _ ⟨G, S, k⟩ => ⟨G, S, fun vs G' H' ss f r p => k vs G' H' ss f (w ss r) p⟩
/-- exactly told -/
theorem ja_c {d : Dat} {ss : List Sl} (h : JE X en e δ (Is d)) (hs : JA X en es δ (Is ss)) (hst : starEach (e :: es) X.env = (false, eval e X.env) :: starEach es X.env := by rfl) : JA X en (e :: es) δ (Is (.dat d :: ss)) :=
  (ja_cons h hs hst).imp fun l ⟨d', r, e1, e2, e3⟩ => by rw [e1, show d' = d from e2, show r = ss from e3]; exact Is.self
/-- the draws handed on -/
theorem ja_drw (i : Nat) {x : Str} {Rs : List Sl → Prop} (hδ : δ[i]? = some (some .drw)) (hs : JA X en es δ Rs) (hN : X.N[i]? = some x := by rfl) (hv : Vis X.env.scope x := by first | exact Or.inl rfl | exact Or.inr (Or.inl rfl) | exact Or.inr (Or.inr rfl))
    (hd : (x == ("__debug__" : Str)) = false := by decide) (hcd : (x == ("__classdict__" : Str)) = false := by decide) (hst : starEach (.Name x pos :: es) X.env = (false, eval (.Name x pos) X.env) :: starEach es X.env := by rfl) :
    JA X en (.Name x pos :: es) δ (fun l => ∃ r, l = .drw :: r ∧ Rs r) :=
  PA.weak (pa_cons (pe_var hN hv hd hcd) hs hst) fun σ H Q ⟨G, S, k⟩ => by
    obtain ⟨v, h1, a, ea, ev⟩ := S.at_ i _ hδ
    refine ⟨v, h1, G, S, fun vs G2 H2 ss f2 rs ps => k (v :: vs) G2 H2 (.drw :: ss) f2 ⟨ss, rfl, rs⟩ ⟨a, vs, by rw [ev], ea, ps⟩⟩
theorem je_tup {Rs : List Sl → Prop} {x1} (h : JA X en es δ Rs) (w : ∀ l, Rs l → ∃ ds, l = ds.map Sl.dat ∧ ds.length ≤ sizeLine ∧ R (.tup ds)) : JE X en (.Tuple es x1 pos) δ R :=
  PE.weak (pe_tup h) fun σ H Q ⟨G, S, k⟩ => ⟨G, S, fun vs G1 H1 ss f rs ps => by
    obtain ⟨ds, el, hl, rd⟩ := w ss rs
    rw [el] at ps
    have rp := ps.reps
    refine ⟨by rw [rp.length]; exact hl, fun p hp => ?_⟩
    exact k _ _ _ _ (f.trans ((Fm.new_ f.gh hp).lift f.drw)) rd ⟨p, vs, rfl, upd_same, rp.mono (Ex.new (none_G f.gh hp))⟩⟩
theorem je_tupI {ds : List Dat} {x1} (h : JA X en es δ (Is (ds.map Sl.dat))) (hl : ds.length ≤ sizeLine) : JE X en (.Tuple es x1 pos) δ (Is (.tup ds)) := je_tup h fun _ q => ⟨ds, q, hl, rfl⟩
theorem jf_lst {Rs : List Sl → Prop} {Rl : List Dat → Prop} (h : JA X en es δ Rs) (w : ∀ l, Rs l → ∃ ds, l = ds.map Sl.dat ∧ ds.length ≤ sizeLine ∧ Rl ds) : JF X en (.List es pos) δ Rl :=
  PE.weak (pe_lst h) fun σ H Q ⟨G, S, k⟩ => ⟨G, S, fun vs G1 H1 ss f rs ps => by
    obtain ⟨ds, el, hl, rd⟩ := w ss rs
    rw [el] at ps
    have rp := ps.reps
    refine ⟨by rw [rp.length]; exact hl, fun p hp => ?_⟩
    exact k p vs _ _ ds (f.trans ((Fm.loose f.gh hp).lift f.drw)) rd upd_same (f.none_of hp) (none_G f.gh hp) rp⟩
theorem jf_lstI {ds : List Dat} (h : JA X en es δ (Is (ds.map Sl.dat))) (hl : ds.length ≤ sizeLine) : JF X en (.List es pos) δ (Is ds) := jf_lst h fun _ q => ⟨ds, q, hl, rfl⟩
end
end PJ
end
section
set_option maxHeartbeats 4000000
namespace PJ
open PySem PySem.Spec PyProof.Rows L2

section
variable {X : Cx} {en : En} {δ : Lv} {a b c e o : Expr} {es : List Expr} {R Ra Rb Rc : Dat → Prop} {pos : Pos}
theorem sqL {K : PySem.W.Frag} {H : Hp} {p : Addr} {xs : List V} (h : H p = some (.lst xs)) : SqL K H p xs := .inl (.inl h)
theorem sqT {K : PySem.W.Frag} {H : Hp} {p : Addr} {xs : List V} (h : H p = some (.tup xs)) : SqT K H p xs := .inl (.inl h)
theorem rep_lst {K : PySem.W.Frag} {G : Hp} {ds : List Dat} {v : V} (h : Rep K G (.lst ds) v) : ∃ p vs, v = .ref p ∧ G p = some (.lst vs) ∧ Reps K G ds vs := h
theorem rep_tup {K : PySem.W.Frag} {G : Hp} {ds : List Dat} {v : V} (h : Rep K G (.tup ds) v) : ∃ p vs, v = .ref p ∧ G p = some (.tup vs) ∧ Reps K G ds vs := h

/-! ### items -/
theorem r2_ixL {K : PySem.W.Frag} {ds : List Dat} {i : Int} {j : Nat} {d : Dat} (ei : i = (j : Int)) (h : ds[j]? = some d) : R2Ok K (rIxL K) (.lst ds) (.int i) (Is d) := fun G H vx vy Q e rx ry k => by
  obtain ⟨p, vs, ev, hp, r⟩ := rep_lst rx
  obtain ⟨v, hv, rv⟩ := r.get h
  have ey : vy = .int i := ry
  refine ⟨p, vs, i, v, ev, ey, sqL (e _ _ hp), ?_, k v G H d (Fm.same e) rfl rv⟩
  rw [ei]
  exact atI_nat hv
theorem r2_ixT {K : PySem.W.Frag} {ds : List Dat} {i : Int} {j : Nat} {d : Dat} (ei : i = (j : Int)) (h : ds[j]? = some d) : R2Ok K (rIxT K) (.tup ds) (.int i) (Is d) := fun G H vx vy Q e rx ry k => by
  obtain ⟨p, vs, ev, hp, r⟩ := rep_tup rx
  obtain ⟨v, hv, rv⟩ := r.get h
  have ey : vy = .int i := ry
  refine ⟨p, vs, i, v, ev, ey, sqT (e _ _ hp), ?_, k v G H d (Fm.same e) rfl rv⟩
  rw [ei]
  exact atI_nat hv
theorem je_ixL {ds : List Dat} {i : Int} {j : Nat} {d : Dat} (ha : JE X en a δ (Is (.lst ds))) (hb : JE X en b δ (Is (.int i))) (h : ds[j]? = some d) (ei : i = (j : Int) := by rfl) (hs : PlainIx b := by exact fun _ _ => rfl) : JE X en (.Subscript a b pos) δ (Is d) :=
  je_ix ix_list ha hb (one2 (r2_ixL ei h)) hs
theorem je_ixT {ds : List Dat} {i : Int} {j : Nat} {d : Dat} (ha : JE X en a δ (Is (.tup ds))) (hb : JE X en b δ (Is (.int i))) (h : ds[j]? = some d) (ei : i = (j : Int) := by rfl) (hs : PlainIx b := by exact fun _ _ => rfl) : JE X en (.Subscript a b pos) δ (Is d) :=
  je_ix ix_tup ha hb (one2 (r2_ixT ei h)) hs
/-- either a list or a tuple -/
def Seqd (d : Dat) (ds : List Dat) : Prop := d = .lst ds ∨ d = .tup ds
theorem je_ixS {D : Dat} {ds : List Dat} {i : Int} {j : Nat} {d : Dat} (hD : Seqd D ds) (ha : JE X en a δ (Is D)) (hb : JE X en b δ (Is (.int i))) (h : ds[j]? = some d) (ei : i = (j : Int) := by rfl) (hs : PlainIx b := by exact fun _ _ => rfl) : JE X en (.Subscript a b pos) δ (Is d) := by
  rcases hD with q | q
  · rw [q] at ha
    exact je_ixL ha hb h ei hs
  · rw [q] at ha
    exact je_ixT ha hb h ei hs
theorem atI_neg1 {α : Type} {xs : List α} {v : α} (h : xs.getLast? = some v) : atI xs (-1) = some v := by
  have q : xs = xs.dropLast ++ [v] := by
    cases xs with
    | nil => cases h
    | cons x r =>
      have e := List.getLast?_eq_getLast (List.cons_ne_nil x r)
      rw [e] at h
      have h2 := Option.some.inj h
      rw [← h2, List.dropLast_concat_getLast]
  rw [q]
  exact atI_last _ _
/-- the last item -/
theorem je_lastL {ds : List Dat} {d : Dat} (ha : JE X en a δ (Is (.lst ds))) (hb : JE X en b δ (Is (.int (-1)))) (h : ds.getLast? = some d) (hs : PlainIx b := by exact fun _ _ => rfl) : JE X en (.Subscript a b pos) δ (Is d) :=
  je_ix ix_list ha hb (one2 (fun G H vx vy Q e rx ry k => by
    obtain ⟨p, vs, ev, hp, r⟩ := rep_lst rx
    have hl := r.length
    have ey : vy = .int (-1) := ry
    have h1 : ds[ds.length - 1]? = some d := by rw [← List.getLast?_eq_getElem?]; exact h
    obtain ⟨v, hv, rv⟩ := r.get h1
    have h2 : vs.getLast? = some v := by rw [List.getLast?_eq_getElem?, hl]; exact hv
    exact ⟨p, vs, -1, v, ev, ey, sqL (e _ _ hp), atI_neg1 h2, k v G H d (Fm.same e) rfl rv⟩)) hs
/-- an item of a list of one's own -/
theorem je_ixO (i : Nat) {x : Str} {p1 : Pos} {ds : List Dat} {z : Int} {j : Nat} {d : Dat} (hδ : δ[i]? = some (some (.own ds))) (hb : JE X en b δ (Is (.int z))) (h : ds[j]? = some d) (ei : z = (j : Int) := by rfl) (hN : X.N[i]? = some x := by rfl) (hv : Vis X.env.scope x := by first | exact Or.inl rfl | exact Or.inr (Or.inl rfl) | exact Or.inr (Or.inr rfl))
    (hs : PlainIx b := by exact fun _ _ => rfl) (hd : (x == ("__debug__" : Str)) = false := by decide) (hcd : (x == ("__classdict__" : Str)) = false := by decide) : JE X en (.Subscript (.Name x p1) b pos) δ (Is d) :=
  PE.weak (pe_ix ix_list (pe_var hN hv hd hcd) hb hs) fun σ H Q ⟨G, S, k⟩ => by
    obtain ⟨v, h1, p, vs, ev, hp, h0, hg, r⟩ := S.at_ i _ hδ
    refine ⟨v, h1, G, S, fun vy G1 H1 y f1 ry py => ?_⟩
    have S1 := S.step f1
    obtain ⟨v', h1', p', vs', ev', hp', h0', hg', r'⟩ := S1.at_ i _ hδ
    rw [h1] at h1'
    have e1 : v = v' := Option.some.inj (Option.some.inj h1')
    obtain ⟨u, hu, ru⟩ := r'.get h
    rw [show y = .int z from ry] at py
    refine ⟨p', vs', z, u, by rw [e1, ev'], py, sqL hp', ?_, k u G1 H1 d f1 rfl ru⟩
    rw [ei]
    exact atI_nat hu
theorem je_lastO (i : Nat) {x : Str} {p1 : Pos} {ds : List Dat} {d : Dat} (hδ : δ[i]? = some (some (.own ds))) (hb : JE X en b δ (Is (.int (-1)))) (h : ds.getLast? = some d) (hN : X.N[i]? = some x := by rfl) (hv : Vis X.env.scope x := by first | exact Or.inl rfl | exact Or.inr (Or.inl rfl) | exact Or.inr (Or.inr rfl))
    (hs : PlainIx b := by exact fun _ _ => rfl) (hd : (x == ("__debug__" : Str)) = false := by decide) (hcd : (x == ("__classdict__" : Str)) = false := by decide) : JE X en (.Subscript (.Name x p1) b pos) δ (Is d) :=
  PE.weak (pe_ix ix_list (pe_var hN hv hd hcd) hb hs) fun σ H Q ⟨G, S, k⟩ => by
    obtain ⟨v, h1, p, vs, ev, hp, h0, hg, r⟩ := S.at_ i _ hδ
    refine ⟨v, h1, G, S, fun vy G1 H1 y f1 ry py => ?_⟩
    have S1 := S.step f1
    obtain ⟨v', h1', p', vs', ev', hp', h0', hg', r'⟩ := S1.at_ i _ hδ
    rw [h1] at h1'
    have e1 : v = v' := Option.some.inj (Option.some.inj h1')
    have hl := r'.length
    have h3 : ds[ds.length - 1]? = some d := by rw [← List.getLast?_eq_getElem?]; exact h
    obtain ⟨u, hu, ru⟩ := r'.get h3
    rw [show y = .int (-1) from ry] at py
    have h2 : vs'.getLast? = some u := by rw [List.getLast?_eq_getElem?, hl]; exact hu
    exact ⟨p', vs', -1, u, by rw [e1, ev'], py, sqL hp', atI_neg1 h2, k u G1 H1 d f1 rfl ru⟩

/-! ### lists and tuples by operators -/
theorem r2f_cat {K : PySem.W.Frag} {ds es : List Dat} (hl : ds.length + es.length ≤ sizeLine) : R2F K rCat (.lst ds) (.lst es) (Is (ds ++ es)) := fun G H vx vy Q e rx ry k => by
  obtain ⟨p, vs, ev, hp, r⟩ := rep_lst rx
  obtain ⟨q, us, eu, hq, r2⟩ := rep_lst ry
  exact ⟨p, q, vs, us, ev, eu, e _ _ hp, e _ _ hq, by rw [r.length, r2.length]; exact hl, fun l hl => k l _ _ _ _ (Fm.loose e hl) rfl upd_same hl (none_G e hl) (r.append r2)⟩
theorem jf_cat {ds es : List Dat} (ha : JE X en a δ (Is (.lst ds))) (hb : JE X en b δ (Is (.lst es))) (hl : ds.length + es.length ≤ sizeLine) : JF X en (.BinOp a .Add b pos) δ (Is (ds ++ es)) := jf_op op_cat ha hb (one2F (r2f_cat hl))
theorem r2f_rep {K : PySem.W.Frag} {ds : List Dat} {n : Nat} (hn : n ≤ 1000) (hl : ds.length * n ≤ sizeLine) : R2F K rRep (.lst ds) (.int (n : Int)) (Is (List.replicate n ds).flatten) := fun G H vx vy Q e rx ry k => by
  obtain ⟨p, vs, ev, hp, r⟩ := rep_lst rx
  have ey : vy = .int (n : Int) := ry
  have rr : ∀ n : Nat, Reps K G (List.replicate n ds).flatten (List.replicate n vs).flatten := fun n => by
    induction n with
    | zero => exact Reps.nil
    | succ n ih =>
      rw [List.replicate_succ, List.replicate_succ, List.flatten_cons, List.flatten_cons]
      exact r.append ih
  refine ⟨p, (n : Int), vs, ev, ey, e _ _ hp, by omega, by omega, by rw [r.length]; exact hl, fun l hl => ?_⟩
  exact k l _ _ _ _ (Fm.loose e hl) rfl upd_same hl (none_G e hl) (rr n)
theorem jf_rep {ds : List Dat} {n : Nat} (ha : JE X en a δ (Is (.lst ds))) (hb : JE X en b δ (Is (.int (n : Int)))) (hn : n ≤ 1000) (hl : ds.length * n ≤ sizeLine) : JF X en (.BinOp a .Mult b pos) δ (Is (List.replicate n ds).flatten) := jf_op op_rep ha hb (one2F (r2f_rep hn hl))
theorem flat_one {α : Type} (x : α) : ∀ n : Nat, (List.replicate n [x]).flatten = List.replicate n x
  | 0 => rfl
  | n + 1 => by rw [List.replicate_succ, List.flatten_cons, flat_one x n, List.replicate_succ]; rfl
theorem jf_rep1 {d : Dat} {n : Nat} (ha : JE X en a δ (Is (.lst [d]))) (hb : JE X en b δ (Is (.int (n : Int)))) (hn : n ≤ 1000) : JF X en (.BinOp a .Mult b pos) δ (Is (List.replicate n d)) :=
  (jf_rep ha hb hn (by rw [sizeLine_eq]; simp; omega)).is (flat_one d n)
theorem r2_repT {K : PySem.W.Frag} {ds : List Dat} {n : Nat} (hn : 2 ≤ n ∧ n ≤ 1000) (hne : ds ≠ []) (hl : ds.length ≤ 1000) : R2Ok K (rRepT K) (.tup ds) (.int (n : Int)) (Is (.tup (List.replicate n ds).flatten)) := fun G H vx vy Q e rx ry k => by
  obtain ⟨p, vs, ev, hp, r⟩ := rep_tup rx
  have ey : vy = .int (n : Int) := ry
  have rr : ∀ n : Nat, Reps K G (List.replicate n ds).flatten (List.replicate n vs).flatten := fun n => by
    induction n with
    | zero => exact Reps.nil
    | succ n ih =>
      rw [List.replicate_succ, List.replicate_succ, List.flatten_cons, List.flatten_cons]
      exact r.append ih
  refine ⟨p, (n : Int), vs, ev, ey, sqT (e _ _ hp), fun z => hne ?_, by omega, by omega, by rw [r.length]; exact hl, fun l hl => ?_⟩
  · have q := r.length
    rw [z] at q
    exact List.length_eq_zero_iff.mp q.symm
  · exact k _ _ _ _ (Fm.new_ e hl) rfl ⟨l, _, rfl, upd_same, (rr n).mono (Ex.new (none_G e hl))⟩
theorem je_repT1 {d : Dat} {n : Nat} (ha : JE X en a δ (Is (.tup [d]))) (hb : JE X en b δ (Is (.int (n : Int)))) (hn : 2 ≤ n ∧ n ≤ 1000) : JE X en (.BinOp a .Mult b pos) δ (Is (.tup (List.replicate n d))) :=
  (je_op op_repT ha hb (one2 (r2_repT hn (by simp) (by simp)))).is (by rw [flat_one])
theorem r2_catT {K : PySem.W.Frag} {ds es : List Dat} (hl : ds.length + es.length ≤ sizeLine) : R2Ok K (rCatA K) (.tup ds) (.tup es) (Is (.tup (ds ++ es))) := fun G H vx vy Q e rx ry k => by
  obtain ⟨p, vs, ev, hp, r⟩ := rep_tup rx
  obtain ⟨q, us, eu, hq, r2⟩ := rep_tup ry
  have l1 := r.length
  have l2 := r2.length
  refine ⟨p, q, vs, us, ev, eu, sqT (e _ _ hp), sqT (e _ _ hq), by rw [l1, l2]; exact hl, fun z => ?_, fun z z2 => ?_, fun _ _ l hl => ?_⟩
  · have hd : ds = [] := List.length_eq_zero_iff.mp (by rw [← l1, z]; rfl)
    refine k _ G H _ (Fm.same e) rfl ?_
    rw [hd]
    exact ⟨q, us, rfl, hq, r2⟩
  · have hd : es = [] := List.length_eq_zero_iff.mp (by rw [← l2, z2]; rfl)
    refine k _ G H _ (Fm.same e) rfl ?_
    rw [hd, List.append_nil]
    exact ⟨p, vs, rfl, hp, r⟩
  · exact k _ _ _ _ (Fm.new_ e hl) rfl ⟨l, _, rfl, upd_same, (r.append r2).mono (Ex.new (none_G e hl))⟩
theorem je_catT {ds es : List Dat} (ha : JE X en a δ (Is (.tup ds))) (hb : JE X en b δ (Is (.tup es))) (hl : ds.length + es.length ≤ sizeLine) : JE X en (.BinOp a .Add b pos) δ (Is (.tup (ds ++ es))) := je_op op_catA ha hb (one2 (r2_catT hl))

/-! ### built-ins by values -/
def CrOk (K : PySem.W.Frag) (r : List V → Hp → VK → Prop) (ds : List Dat) (R : Dat → Prop) : Prop :=
  ∀ G H vs (Q : VK), Gh G H → Reps K G ds vs → (∀ v G' H' d, Fm none G H G' H' → R d → Rep K G' d v → Q v H') → r vs H Q
def CrF (K : PySem.W.Frag) (r : List V → Hp → VK → Prop) (ds : List Dat) (R : List Dat → Prop) : Prop :=
  ∀ G H vs (Q : VK), Gh G H → Reps K G ds vs → (∀ p vs G' H' ds, Fm none G H G' H' → R ds → H' p = some (.lst vs) → H p = none → G' p = none → Reps K G' ds vs → Q (.ref p) H') → r vs H Q
variable {r : List V → Hp → VK → Prop} {id T : String} {x : Str} {p1 : Pos}
theorem cr_core {ds : List Dat} (h : CrOk X.K r ds R) : ∀ σ H Q, tE X.K en δ R σ H Q → tCB r (tA X.K en δ (Is (ds.map Sl.dat))) σ H Q := fun σ H Q ⟨G, S, k⟩ =>
  ⟨G, S, fun vs G1 H1 ss f rs ps => by
    rw [show ss = ds.map Sl.dat from rs] at ps
    exact h G1 H1 vs Q f.gh ps.reps fun v G' H' d f3 rd pd => k v G' H' d (f.trans (f3.lift f.drw)) rd pd⟩
theorem crF_core {ds : List Dat} {Rl : List Dat → Prop} (h : CrF X.K r ds Rl) : ∀ σ H Q, tF X.K en δ Rl σ H Q → tCB r (tA X.K en δ (Is (ds.map Sl.dat))) σ H Q := fun σ H Q ⟨G, S, k⟩ =>
  ⟨G, S, fun vs G1 H1 ss f rs ps => by
    rw [show ss = ds.map Sl.dat from rs] at ps
    exact h G1 H1 vs Q f.gh ps.reps fun p vs2 G' H' es f3 rd hp h0 hg pd => k p vs2 G' H' es (f.trans (f3.lift f.drw)) rd hp (f.none_of h0) hg pd⟩
theorem je_B {ds : List Dat} (hc : CallR X (.builtin id) r) (ha : JA X en (e :: es) δ (Is (ds.map Sl.dat))) (h : CrOk X.K r ds R) (hm : X.mg x = none) (hv : bootBuiltins x = some (.builtin id)) (hg : Gl X x := by rfl) (hn : x ≠ "__name__" := by decide) (hdb : (x == ("__debug__" : Str)) = false := by decide)
    (he : starEach (e :: es) X.env = (false, eval e X.env) :: starEach es X.env := by rfl) (hpl : (backTo pos (starEach es X.env)).any (·.1) = false := by rfl) : JE X en (.Call (.Name x p1) (e :: es) [] pos) δ R :=
  PE.weak (pe_callB hc hg hm hv ha hn hdb he hpl) (cr_core h)
theorem je_Ty {ds : List Dat} (hc : CallR X (.type T) r) (ha : JA X en (e :: es) δ (Is (ds.map Sl.dat))) (h : CrOk X.K r ds R) (hm : X.mg x = none) (hv : bootBuiltins x = some (.type T)) (hg : Gl X x := by rfl) (hn : x ≠ "__name__" := by decide) (hdb : (x == ("__debug__" : Str)) = false := by decide)
    (he : starEach (e :: es) X.env = (false, eval e X.env) :: starEach es X.env := by rfl) (hpl : (backTo pos (starEach es X.env)).any (·.1) = false := by rfl) : JE X en (.Call (.Name x p1) (e :: es) [] pos) δ R :=
  PE.weak (pe_callTy hc hg hm hv ha hn hdb he hpl) (cr_core h)
theorem jf_Ty {ds : List Dat} {Rl : List Dat → Prop} (hc : CallR X (.type T) r) (ha : JA X en (e :: es) δ (Is (ds.map Sl.dat))) (h : CrF X.K r ds Rl) (hm : X.mg x = none) (hv : bootBuiltins x = some (.type T)) (hg : Gl X x := by rfl) (hn : x ≠ "__name__" := by decide) (hdb : (x == ("__debug__" : Str)) = false := by decide)
    (he : starEach (e :: es) X.env = (false, eval e X.env) :: starEach es X.env := by rfl) (hpl : (backTo pos (starEach es X.env)).any (·.1) = false := by rfl) : JF X en (.Call (.Name x p1) (e :: es) [] pos) δ Rl :=
  PE.weak (pe_callTy hc hg hm hv ha hn hdb he hpl) (crF_core h)
theorem jf_B {ds : List Dat} {Rl : List Dat → Prop} (hc : CallR X (.builtin id) r) (ha : JA X en (e :: es) δ (Is (ds.map Sl.dat))) (h : CrF X.K r ds Rl) (hm : X.mg x = none) (hv : bootBuiltins x = some (.builtin id)) (hg : Gl X x := by rfl) (hn : x ≠ "__name__" := by decide) (hdb : (x == ("__debug__" : Str)) = false := by decide)
    (he : starEach (e :: es) X.env = (false, eval e X.env) :: starEach es X.env := by rfl) (hpl : (backTo pos (starEach es X.env)).any (·.1) = false := by rfl) : JF X en (.Call (.Name x p1) (e :: es) [] pos) δ Rl :=
  PE.weak (pe_callB hc hg hm hv ha hn hdb he hpl) (crF_core h)
theorem reps1 {K : PySem.W.Frag} {G : Hp} {d : Dat} {vs : List V} (h : Reps K G [d] vs) : ∃ v, vs = [v] ∧ Rep K G d v := by
  obtain ⟨v, r, e, h1, h2⟩ := (show ∃ v r, vs = v :: r ∧ Rep K G d v ∧ Reps K G [] r from h)
  have e2 : r = [] := h2
  exact ⟨v, by rw [e, e2], h1⟩
theorem reps2 {K : PySem.W.Frag} {G : Hp} {d d2 : Dat} {vs : List V} (h : Reps K G [d, d2] vs) : ∃ v u, vs = [v, u] ∧ Rep K G d v ∧ Rep K G d2 u := by
  obtain ⟨v, r, e, h1, h2⟩ := (show ∃ v r, vs = v :: r ∧ Rep K G d v ∧ Reps K G [d2] r from h)
  obtain ⟨u, e2, h3⟩ := reps1 h2
  exact ⟨v, u, by rw [e, e2], h1, h3⟩
theorem cr_len {K : PySem.W.Frag} {D : Dat} {ds : List Dat} (h : Seqd D ds) : CrOk K (fun xs H Q => ∃ p ys, xs = [.ref p] ∧ (SqL K H p ys ∨ SqT K H p ys) ∧ Q (.int ys.length) H) [D] (Is (.int (ds.length : Int))) := fun G H vs Q e rs k => by
  obtain ⟨v, ev, r⟩ := reps1 rs
  rcases h with q | q
  · rw [q] at r
    obtain ⟨p, us, eu, hp, ru⟩ := rep_lst r
    exact ⟨p, us, by rw [ev, eu], .inl (sqL (e _ _ hp)), k _ G H _ (Fm.same e) rfl (show V.int _ = V.int _ by rw [ru.length])⟩
  · rw [q] at r
    obtain ⟨p, us, eu, hp, ru⟩ := rep_tup r
    exact ⟨p, us, by rw [ev, eu], .inr (sqT (e _ _ hp)), k _ G H _ (Fm.same e) rfl (show V.int _ = V.int _ by rw [ru.length])⟩
theorem je_len {D : Dat} {ds : List Dat} (h : Seqd D ds) (ha : JE X en e δ (Is D)) (hm : X.mg "len" = none) (hg : Gl X "len" := by rfl) (he : starEach [e] X.env = (false, eval e X.env) :: starEach [] X.env := by rfl) :
    JE X en (.Call (.Name "len" p1) [e] [] pos) δ (Is (.int (ds.length : Int))) := je_B (ds := [D]) call_len_seq (ja_c ha ja_nil he) (cr_len h) hm PySem.boot_len hg (by decide) (by decide) he
/-- len of a list of one's own -/
theorem je_lenO (i : Nat) {y : Str} {p2 : Pos} {ds : List Dat} (hδ : δ[i]? = some (some (.own ds))) (hm : X.mg "len" = none) (hN : X.N[i]? = some y := by rfl) (hv : Vis X.env.scope y := by first | exact Or.inl rfl | exact Or.inr (Or.inl rfl) | exact Or.inr (Or.inr rfl))
    (hg : Gl X "len" := by rfl) (hd : (y == ("__debug__" : Str)) = false := by decide) (hcd : (y == ("__classdict__" : Str)) = false := by decide) (he : starEach [.Name y p2] X.env = (false, eval (.Name y p2) X.env) :: starEach [] X.env := by rfl) :
    JE X en (.Call (.Name "len" p1) [.Name y p2] [] pos) δ (Is (.int (ds.length : Int))) :=
  PE.weak (pe_callB call_len_seq hg hm PySem.boot_len (pa_cons (pe_var hN hv hd hcd) pa_nil he) (by decide) (by decide) he) fun σ H Q ⟨G, S, k⟩ => by
    obtain ⟨v, h1, p, vs, ev, hp, h0, hg, r⟩ := S.at_ i _ hδ
    exact ⟨v, h1, p, vs, by rw [ev], .inl (sqL hp), k _ G H _ S.fm rfl (show V.int _ = V.int _ by rw [r.length])⟩
theorem jf_list {D : Dat} {ds : List Dat} (h : Seqd D ds) (ha : JE X en e δ (Is D)) (hm : X.mg "list" = none) (hg : Gl X "list" := by rfl) (he : starEach [e] X.env = (false, eval e X.env) :: starEach [] X.env := by rfl) :
    JF X en (.Call (.Name "list" p1) [e] [] pos) δ (Is ds) := jf_Ty (ds := [D]) call_list_of (ja_c ha ja_nil he) (fun G H vs Q e rs k => by
  obtain ⟨v, ev, r⟩ := reps1 rs
  rcases h with q | q
  · rw [q] at r
    obtain ⟨p, us, eu, hp, ru⟩ := rep_lst r
    exact ⟨p, us, by rw [ev, eu], .inl (sqL (e _ _ hp)), fun l hl => k l us G _ ds (Fm.loose e hl) rfl upd_same hl (none_G e hl) ru⟩
  · rw [q] at r
    obtain ⟨p, us, eu, hp, ru⟩ := rep_tup r
    exact ⟨p, us, by rw [ev, eu], .inr (sqT (e _ _ hp)), fun l hl => k l us G _ ds (Fm.loose e hl) rfl upd_same hl (none_G e hl) ru⟩) hm (by decide +kernel) hg (by decide) (by decide) he
theorem je_tuple {D : Dat} {ds : List Dat} (h : Seqd D ds) (ha : JE X en e δ (Is D)) (hm : X.mg "tuple" = none) (hg : Gl X "tuple" := by rfl) (he : starEach [e] X.env = (false, eval e X.env) :: starEach [] X.env := by rfl) :
    JE X en (.Call (.Name "tuple" p1) [e] [] pos) δ (Is (.tup ds)) := je_Ty (ds := [D]) call_tuple_of (ja_c ha ja_nil he) (fun G H vs Q e rs k => by
  obtain ⟨v, ev, r⟩ := reps1 rs
  rcases h with q | q
  · rw [q] at r
    obtain ⟨p, us, eu, hp, ru⟩ := rep_lst r
    exact ⟨p, us, by rw [ev, eu], .inl ⟨sqL (e _ _ hp), fun l hl => k _ _ _ _ (Fm.new_ e hl) rfl ⟨l, us, rfl, upd_same, ru.mono (Ex.new (none_G e hl))⟩⟩⟩
  · rw [q] at r
    obtain ⟨p, us, eu, hp, ru⟩ := rep_tup r
    exact ⟨p, us, by rw [ev, eu], .inr ⟨sqT (e _ _ hp), k _ G H _ (Fm.same e) rfl ⟨p, us, rfl, hp, ru⟩⟩⟩) hm (by decide +kernel) hg (by decide) (by decide) he
theorem je_all {bs : List Bool} (hc : X.calm = true) (ha : JE X en e δ (Is (.lst (bs.map Dat.bl)))) (hm : X.mg "all" = none) (hg : Gl X "all" := by rfl) (he : starEach [e] X.env = (false, eval e X.env) :: starEach [] X.env := by rfl) :
    JE X en (.Call (.Name "all" p1) [e] [] pos) δ (Is (.bl (bs.all (fun b => b)))) := je_B (ds := [.lst (bs.map Dat.bl)]) (cr_all hc) (ja_c ha ja_nil he) (fun G H vs Q e rs k => by
  obtain ⟨v, ev, r⟩ := reps1 rs
  obtain ⟨p, us, eu, hp, ru⟩ := rep_lst r
  have bb : ∀ (bs : List Bool) (us : List V), Reps X.K G (bs.map Dat.bl) us → us = bs.map V.bl := fun bs => by
    induction bs with
    | nil => exact fun us h => h
    | cons b bs ih =>
      intro us h
      obtain ⟨v, r, e, h1, h2⟩ := (show ∃ v r, us = v :: r ∧ Rep X.K G (.bl b) v ∧ Reps X.K G (bs.map Dat.bl) r from h)
      have e1 : v = .bl b := h1
      rw [e, e1, ih r h2]
      rfl
  exact ⟨p, bs, by rw [ev, eu], sqL (by rw [← bb bs us ru]; exact e _ _ hp), k _ G H _ (Fm.same e) rfl rfl⟩) hm (by decide +kernel) hg (by decide) (by decide) he
theorem je_abs {i : Int} (ha : JE X en e δ (Is (.int i))) (hm : X.mg "abs" = none) (hg : Gl X "abs" := by rfl) (he : starEach [e] X.env = (false, eval e X.env) :: starEach [] X.env := by rfl) :
    JE X en (.Call (.Name "abs" p1) [e] [] pos) δ (Is (.int (if i < 0 then -i else i))) := je_B (ds := [.int i]) call_abs (ja_c ha ja_nil he) (fun G H vs Q e rs k => by
  obtain ⟨v, ev, r⟩ := reps1 rs
  have e1 : v = .int i := r
  exact ⟨i, by rw [ev, e1], k _ G H _ (Fm.same e) rfl rfl⟩) hm (by decide +kernel) hg (by decide) (by decide) he
theorem je_intc {i : Int} (ha : JE X en e δ (Is (.int i))) (hm : X.mg "int" = none) (hg : Gl X "int" := by rfl) (he : starEach [e] X.env = (false, eval e X.env) :: starEach [] X.env := by rfl) :
    JE X en (.Call (.Name "int" p1) [e] [] pos) δ (Is (.int i)) := je_Ty (ds := [.int i]) call_int1 (ja_c ha ja_nil he) (fun G H vs Q e rs k => by
  obtain ⟨v, ev, r⟩ := reps1 rs
  have e1 : v = .int i := r
  exact .inl ⟨i, by rw [ev, e1], k _ G H _ (Fm.same e) rfl rfl⟩) hm (by decide +kernel) hg (by decide) (by decide) he

/-! ### isinstance -/
/-- the built-in type's name -/
def tyN : Dat → Option String
  | .non => some "NoneType"
  | .bl _ => some "bool"
  | .int _ => some "int"
  | .str _ => some "str"
  | .lst _ => some "list"
  | .tup _ => some "tuple"
  | _ => none
theorem tyx {K : PySem.W.Frag} {G H : Hp} (e : Gh G H) {d : Dat} {v : V} {n : String} (h : Rep K G d v) (hn : tyN d = some n) : TyX K H v (.type n) := by
  cases d with
  | non =>
    have ev : v = .non := h
    cases hn
    rw [ev]
    exact .base .non
  | bl b =>
    have ev : v = .bl b := h
    cases hn
    rw [ev]
    exact .base (.bl b)
  | int i =>
    have ev : v = .int i := h
    cases hn
    rw [ev]
    exact .base (.int i)
  | str s =>
    have ev : v = .str s := h
    cases hn
    rw [ev]
    exact .base (.str s)
  | lst xs =>
    obtain ⟨p, vs, ev, hp, _⟩ := rep_lst h
    cases hn
    rw [ev]
    exact .base (.lst (e _ _ hp))
  | tup xs =>
    obtain ⟨p, vs, ev, hp, _⟩ := rep_tup h
    cases hn
    rw [ev]
    exact .base (.tup (e _ _ hp))
  | any => cases hn
  | rng _ _ => cases hn
  | ins _ _ => cases hn
  | mrow _ _ _ => cases hn
  | obj _ _ => cases hn
/-- isinstance(x, T) -/
theorem je_isi {d : Dat} {n T : String} {b : Bool} {y : Str} {p2 : Pos} (ha : JE X en e δ (Is d)) (hn : tyN d = some n) (hT : kitB n T = some b) (hy : bootBuiltins y = some (.type T)) (hm : X.mg "isinstance" = none) (hmy : X.mg y = none)
    (hg : Gl X "isinstance" := by rfl) (hgy : Gl X y := by rfl) (hny : y ≠ "__name__" := by decide) (hdb : (y == ("__debug__" : Str)) = false := by decide)
    (he : starEach [e, .Name y p2] X.env = (false, eval e X.env) :: starEach [.Name y p2] X.env := by rfl) (he2 : starEach [.Name y p2] X.env = (false, eval (.Name y p2) X.env) :: starEach [] X.env := by rfl)
    (hpl : (backTo pos (starEach [.Name y p2] X.env)).any (·.1) = false := by rfl) :
    JE X en (.Call (.Name "isinstance" p1) [e, .Name y p2] [] pos) δ (Is (.bl b)) :=
  PE.weak (pe_callB call_isi hg hm (by decide +kernel) (pa_cons ha (pa_cons (pe_bltn (v := .ty T) hgy hmy hy rfl hny hdb) pa_nil he2) he) (by decide) (by decide) he hpl) fun σ H Q ⟨G, S, k⟩ =>
    ⟨G, S, fun v G1 H1 d' f r p => by
      rw [show d' = d from r] at p
      exact ⟨v, .ty T, .type n, .type T, b, rfl, .ty T, tyx f.gh p hn, kit_ty hT, k _ G1 H1 _ f rfl rfl⟩⟩
/-- isinstance(x, (list, tuple)) -/
def isSeq (d : Dat) : Bool := match d with
  | .lst _ => true
  | .tup _ => true
  | _ => false
theorem kit_seq {K : PySem.W.Frag} {d : Dat} {n : String} (hn : tyN d = some n) : PySem.W.kitAny K (.type n) [.type "list", .type "tuple"] = some (isSeq d) := by
  cases d with
  | non => cases hn; exact kitAny_cons (b := false) (kit_ty (by decide +kernel)) (fun _ => kitAny_cons (b := false) (kit_ty (by decide +kernel)) (fun _ => rfl) (fun q => nomatch q)) (fun q => nomatch q)
  | bl b => cases hn; exact kitAny_cons (b := false) (kit_ty (by decide +kernel)) (fun _ => kitAny_cons (b := false) (kit_ty (by decide +kernel)) (fun _ => rfl) (fun q => nomatch q)) (fun q => nomatch q)
  | int i => cases hn; exact kitAny_cons (b := false) (kit_ty (by decide +kernel)) (fun _ => kitAny_cons (b := false) (kit_ty (by decide +kernel)) (fun _ => rfl) (fun q => nomatch q)) (fun q => nomatch q)
  | str s => cases hn; exact kitAny_cons (b := false) (kit_ty (by decide +kernel)) (fun _ => kitAny_cons (b := false) (kit_ty (by decide +kernel)) (fun _ => rfl) (fun q => nomatch q)) (fun q => nomatch q)
  | lst xs => cases hn; exact kitAny_cons (b := true) (kit_ty (by decide +kernel)) (fun q => nomatch q) (fun _ => rfl)
  | tup xs => cases hn; exact kitAny_cons (b := false) (kit_ty (by decide +kernel)) (fun _ => kitAny_cons (b := true) (kit_ty (by decide +kernel)) (fun q => nomatch q) (fun _ => rfl)) (fun q => nomatch q)
  | any => cases hn
  | rng _ _ => cases hn
  | ins _ _ => cases hn
  | mrow _ _ _ => cases hn
  | obj _ _ => cases hn
theorem je_isSeq {d : Dat} {p2 p3 p4 : Pos} {kk} (ha : JE X en e δ (Is d)) (hn : (tyN d).isSome = true) (hm : X.mg "isinstance" = none) (hml : X.mg "list" = none) (hmt : X.mg "tuple" = none)
    (hg : Gl X "isinstance" := by rfl) (hgl : Gl X "list" := by rfl) (hgt : Gl X "tuple" := by rfl)
    (he : starEach [e, .Tuple [.Name "list" p2, .Name "tuple" p3] kk p4] X.env = (false, eval e X.env) :: starEach [.Tuple [.Name "list" p2, .Name "tuple" p3] kk p4] X.env := by rfl)
    (he2 : starEach [.Tuple [.Name "list" p2, .Name "tuple" p3] kk p4] X.env = (false, eval (.Tuple [.Name "list" p2, .Name "tuple" p3] kk p4) X.env) :: starEach [] X.env := by rfl)
    (he3 : starEach [.Name "list" p2, .Name "tuple" p3] X.env = (false, eval (.Name "list" p2) X.env) :: starEach [.Name "tuple" p3] X.env := by rfl) (he4 : starEach [.Name "tuple" p3] X.env = (false, eval (.Name "tuple" p3) X.env) :: starEach [] X.env := by rfl)
    (hpl : (backTo pos (starEach [.Tuple [.Name "list" p2, .Name "tuple" p3] kk p4] X.env)).any (·.1) = false := by rfl) :
    JE X en (.Call (.Name "isinstance" p1) [e, .Tuple [.Name "list" p2, .Name "tuple" p3] kk p4] [] pos) δ (Is (.bl (isSeq d))) := by
  obtain ⟨n, hn⟩ := Option.isSome_iff_exists.mp hn
  refine PE.weak (pe_callB call_isiT hg hm (by decide +kernel) (pa_cons ha (pa_cons (pe_tup (pa_cons (pe_bltn (v := .ty "list") hgl hml (by decide +kernel) rfl) (pa_cons (pe_bltn (v := .ty "tuple") hgt hmt (by decide +kernel) rfl) pa_nil he4) he3)) pa_nil he2) he) (by decide) (by decide) he hpl) fun σ H Q ⟨G, S, k⟩ =>
    ⟨G, S, fun v G1 H1 d' f r p => ?_⟩
  rw [show d' = d from r] at p
  refine ⟨by show 2 ≤ sizeLine; decide, fun t ht => ?_⟩
  have f2 := f.trans ((Fm.new_ (o := .tup [.ty "list", .ty "tuple"]) f.gh ht).lift f.drw)
  exact ⟨v, t, [.ty "list", .ty "tuple"], .type n, [.type "list", .type "tuple"], isSeq d, rfl, upd_same, .cons (.ty _) (.cons (.ty _) .nil), tyx f2.gh (p.mono (Ex.new (none_G f.gh ht))) hn, kit_seq hn, k _ _ _ _ f2 rfl rfl⟩

/-! ### fields -/
theorem zip_lookup : ∀ {ns : List Str} {vs : List V} {i : Nat} {f : Str} {v : V}, ns.Nodup → ns[i]? = some f → vs[i]? = some v → (ns.zip vs).lookup f = some v
  | [], _, i, f, v, _, h, _ => by simp at h
  | n :: ns, [], i, f, v, _, _, h => by simp at h
  | n :: ns, u :: vs, 0, f, v, _, h1, h2 => by
    have e1 : n = f := Option.some.inj h1
    have e2 : u = v := Option.some.inj h2
    rw [e1, e2, List.zip_cons_cons, List.lookup_cons, beq_self_eq_true]
  | n :: ns, u :: vs, i + 1, f, v, hn, h1, h2 => by
    obtain ⟨hn1, hn2⟩ := List.nodup_cons.mp hn
    have h1' : ns[i]? = some f := h1
    have h2' : vs[i]? = some v := h2
    have ne : (f == n) = false := by
      rw [beq_eq_false_iff_ne]
      intro q
      rw [q] at h1'
      exact hn1 (List.mem_of_getElem? h1')
    rw [List.zip_cons_cons, List.lookup_cons, ne]
    exact zip_lookup hn2 h1' h2'
theorem zip_none {f : Str} : ∀ {ns : List Str} {vs : List V}, f ∉ ns → (ns.zip vs).lookup f = none
  | [], _, _ => rfl
  | n :: ns, [], _ => rfl
  | n :: ns, u :: vs, h => by
    have ne : (f == n) = false := by
      rw [beq_eq_false_iff_ne]
      intro q
      exact h (q ▸ List.mem_cons_self)
    rw [List.zip_cons_cons, List.lookup_cons, ne]
    exact zip_none fun q => h (List.mem_cons_of_mem _ q)
theorem cF_nodup : ∀ c : Nat, (cF c).Nodup
  | 0 => by decide +kernel
  | 1 => by decide +kernel
  | _ + 2 => show ((["game", "_costs"] : List Str)).Nodup by decide +kernel
theorem je_fld {c : Nat} {fs : List Dat} {f : Str} (i : Nat) {d : Dat} (ha : JE X en e δ (Is (.ins c fs))) (hi : (cF c)[i]? = some f) (hd : fs[i]? = some d) (cl : Cls X.K (cA X.K c)) (na : NoAttr X.K (cA X.K c) f)
    (hb : attributeBase e f X.env (eval e X.env) = eval e X.env := by rfl) : JE X en (.Attribute e f pos) δ (Is d) :=
  PE.weak (pe_fld ha hb) fun σ H Q ⟨G, S, k⟩ => ⟨G, S, fun v G1 H1 d' fm r p => by
    rw [show d' = .ins c fs from r] at p
    obtain ⟨a, dx, vs, ev, ha, rs⟩ := (show ∃ a dx vs, v = .ref a ∧ G1 a = some (.ins (cA X.K c) dx ((cF c).zip vs)) ∧ Reps X.K G1 fs vs from p)
    obtain ⟨u, hu, ru⟩ := rs.get hd
    exact ⟨a, _, dx, _, u, ev, fm.gh _ _ ha, cl, na, zip_lookup (cF_nodup c) hi hu, k u G1 H1 d fm rfl ru⟩⟩
end
end PJ
end
section
set_option maxHeartbeats 4000000
namespace PJ
open PySem PySem.Spec PyProof.Rows L2

/-! ### slices -/
section
variable {X : Cx} {en : En} {δ : Lv} {a b c e o : Expr} {es : List Expr} {R Ra Rb Rc : Dat → Prop} {pos p2 : Pos}
/-- one end of a slice: none, or a number -/
def JO (X : Cx) (en : En) (e : Option Expr) (δ : Lv) (o : Option Int) : Prop := PO X e (fun σ H Q => ∃ G, Now X.K en G H σ δ ∧ ∀ G' H', Fm en.da G H G' H' → Q o H')
theorem jo_none : JO X en none δ none := ⟨fun pins s σ H Q I ⟨G, S, k⟩ => po_none.run pins s σ H Q I (k G H S.fm)⟩
theorem jo_some {i : Int} (h : JE X en e δ (Is (.int i))) : JO X en (some e) δ (some i) := ⟨fun pins s σ H Q I ⟨G, S, k⟩ => (po_some h).run pins s σ H Q I ⟨G, S, fun v G' H' d f r p => by
  rw [show d = .int i from r] at p
  exact ⟨i, p, k G' H' f⟩⟩⟩
def cutD (ds : List Dat) (lo hi : Option Int) : List Dat := (ds.drop (HT.sIx ds.length 0 lo)).take (HT.sIx ds.length ds.length hi - HT.sIx ds.length 0 lo)
theorem Reps.cut {K : PySem.W.Frag} {G : Hp} {ds : List Dat} {vs : List V} (r : Reps K G ds vs) (lo hi : Option Int) : Reps K G (cutD ds lo hi) (cutV vs lo hi) := by
  unfold cutD cutV
  rw [r.length]
  exact (r.drop _).take _
theorem cut_to {ds : List Dat} {n : Nat} : cutD ds none (some (n : Int)) = ds.take n := by
  unfold cutD
  rw [HT.sIx_none, HT.sIx_nat, Nat.sub_zero, List.drop_zero]
  by_cases h : n ≤ ds.length
  · rw [Nat.min_eq_left h]
  · rw [Nat.min_eq_right (by omega), List.take_length, List.take_of_length_le (by omega)]
theorem cut_from {ds : List Dat} {n : Nat} : cutD ds (some (n : Int)) none = ds.drop n := by
  unfold cutD
  rw [HT.sIx_none, HT.sIx_nat]
  by_cases h : n ≤ ds.length
  · rw [Nat.min_eq_left h, List.take_of_length_le (by rw [List.length_drop]; omega)]
  · rw [Nat.min_eq_right (by omega), Nat.sub_self, List.take_zero, List.drop_eq_nil_of_le (by omega)]
theorem jf_slL {ds : List Dat} {lo hi : Option Expr} {l h : Option Int} (ha : JE X en a δ (Is (.lst ds))) (hl : JO X en lo δ l) (hh : JO X en hi δ h) : JF X en (.Subscript a (.Slice lo hi none p2) pos) δ (Is (cutD ds l h)) :=
  PE.weak (pe_slice sl_list ha hl hh) fun σ H Q ⟨G, S, k⟩ => ⟨G, S, fun v G1 H1 d f r p => by
    rw [show d = .lst ds from r] at p
    refine ⟨G1, S.step f, fun G2 H2 f2 => ⟨G2, (S.step f).step f2, fun G3 H3 f3 => ?_⟩⟩
    obtain ⟨q, vs, ev, hq, rs⟩ := rep_lst (p.mono (f2.gg.trans f3.gg))
    have fa := (f.trans f2).trans f3
    exact ⟨q, vs, ev, sqL (f3.gh _ _ hq), fun l hl => k l _ _ _ _ (fa.trans ((Fm.loose f3.gh hl).lift fa.drw)) rfl upd_same (fa.none_of hl) (none_G f3.gh hl) (rs.cut _ _)⟩⟩
theorem je_slT {ds : List Dat} {lo hi : Option Expr} {l h : Option Int} (ha : JE X en a δ (Is (.tup ds))) (hl : JO X en lo δ l) (hh : JO X en hi δ h) : JE X en (.Subscript a (.Slice lo hi none p2) pos) δ (Is (.tup (cutD ds l h))) :=
  PE.weak (pe_slice sl_tupA ha hl hh) fun σ H Q ⟨G, S, k⟩ => ⟨G, S, fun v G1 H1 d f r p => by
    rw [show d = .tup ds from r] at p
    refine ⟨G1, S.step f, fun G2 H2 f2 => ⟨G2, (S.step f).step f2, fun G3 H3 f3 => ?_⟩⟩
    obtain ⟨q, vs, ev, hq, rs⟩ := rep_tup (p.mono (f2.gg.trans f3.gg))
    have fa := (f.trans f2).trans f3
    refine ⟨q, vs, ev, sqT (f3.gh _ _ hq), fun hw => ?_, fun _ t ht => ?_⟩
    · refine k _ G3 H3 _ fa rfl ⟨q, vs, rfl, hq, ?_⟩
      have e : cutD ds l h = ds := by
        unfold cutD
        rw [rs.length] at hw
        rw [hw.1, hw.2, Nat.sub_zero, List.drop_zero, List.take_length]
      rw [e]
      exact rs
    · exact k _ _ _ _ (fa.trans ((Fm.new_ f3.gh ht).lift fa.drw)) rfl ⟨t, _, rfl, upd_same, (rs.cut _ _).mono (Ex.new (none_G f3.gh ht))⟩⟩

/-! ### targets -/
inductive Tg where
  | nm (j : Nat)
  | tp (ts : List Tg)
mutual
def gT (K : PySem.W.Frag) : Tg → TG
  | .nm j => gName j
  | .tp ts => gTup K ts.length (gTs K ts)
def gTs (K : PySem.W.Frag) : List Tg → TGs
  | [] => gNil
  | t :: ts => gCons (gT K t) (gTs K ts)
end
mutual
def bindT : Tg → Dat → Lv → Option Lv
  | .nm j, d, δ => some (δ.set j (some (.dat d)))
  | .tp ts, .tup ds, δ => bindTs ts ds δ
  | .tp _, _, _ => none
def bindTs : List Tg → List Dat → Lv → Option Lv
  | [], [], δ => some δ
  | t :: ts, d :: ds, δ => (bindT t d δ).bind fun δ' => bindTs ts ds δ'
  | _, _, _ => none
end
mutual
def slotsT : Tg → List Nat
  | .nm j => [j]
  | .tp ts => slotsTs ts
def slotsTs : List Tg → List Nat
  | [] => []
  | t :: ts => slotsT t ++ slotsTs ts
end
def OffSl (l : List Nat) (σ σ' : L2.St) : Prop := σ'.length = σ.length ∧ ∀ i : Nat, i ∉ l → σ'[i]? = σ[i]?
mutual
theorem gT_ok {K : PySem.W.Frag} {en : En} {G H : Hp} : ∀ {t : Tg} {d : Dat} {δ δ' : Lv} {σ : L2.St} {v : V} {Q : L2.St → Hp → Prop}, bindT t d δ = some δ' → Now K en G H σ δ → Rep K G d v →
    (∀ σ', Now K en G H σ' δ' → OffSl (slotsT t) σ σ' → Q σ' H) → gT K t v σ H Q
  | .nm j, d, δ, δ', σ, v, Q, hb, S, r, k => by
    have e : δ.set j (some (.dat d)) = δ' := Option.some.inj hb
    refine k _ ⟨?_, S.f0⟩ ⟨List.length_set, fun i hi => List.getElem?_set_ne (fun z => hi (by rw [← z]; exact List.mem_singleton.mpr rfl))⟩
    rw [← e]
    exact S.st.set r j
  | .tp ts, .tup ds, δ, δ', σ, v, Q, hb, S, r, k => by
    obtain ⟨p, vs, ev, hp, rs⟩ := rep_tup r
    have hl : bindTs ts ds δ = some δ' := hb
    exact ⟨p, vs, ev, sqT (S.gh _ _ hp), by rw [rs.length]; exact (bindTs_len hl).symm, gTs_ok hl S rs k⟩
  | .tp _, .any, _, _, _, _, _, hb, _, _, _ => nomatch hb
  | .tp _, .non, _, _, _, _, _, hb, _, _, _ => nomatch hb
  | .tp _, .bl _, _, _, _, _, _, hb, _, _, _ => nomatch hb
  | .tp _, .int _, _, _, _, _, _, hb, _, _, _ => nomatch hb
  | .tp _, .str _, _, _, _, _, _, hb, _, _, _ => nomatch hb
  | .tp _, .lst _, _, _, _, _, _, hb, _, _, _ => nomatch hb
  | .tp _, .rng _ _, _, _, _, _, _, hb, _, _, _ => nomatch hb
  | .tp _, .ins _ _, _, _, _, _, _, hb, _, _, _ => nomatch hb
  | .tp _, .mrow _ _ _, _, _, _, _, _, hb, _, _, _ => nomatch hb
  | .tp _, .obj _ _, _, _, _, _, _, hb, _, _, _ => nomatch hb
theorem bindTs_len : ∀ {ts : List Tg} {ds : List Dat} {δ δ' : Lv}, bindTs ts ds δ = some δ' → ts.length = ds.length
  | [], [], _, _, _ => rfl
  | [], _ :: _, _, _, h => nomatch h
  | _ :: _, [], _, _, h => nomatch h
  | t :: ts, d :: ds, δ, δ', h => by
    have h2 : ((bindT t d δ).bind fun δ' => bindTs ts ds δ') = some δ' := h
    obtain ⟨δ1, h3, h4⟩ := Option.bind_eq_some_iff.mp h2
    rw [List.length_cons, List.length_cons, bindTs_len h4]
theorem gTs_ok {K : PySem.W.Frag} {en : En} {G H : Hp} : ∀ {ts : List Tg} {ds : List Dat} {δ δ' : Lv} {σ : L2.St} {vs : List V} {Q : L2.St → Hp → Prop}, bindTs ts ds δ = some δ' → Now K en G H σ δ → Reps K G ds vs →
    (∀ σ', Now K en G H σ' δ' → OffSl (slotsTs ts) σ σ' → Q σ' H) → gTs K ts vs σ H Q
  | [], [], δ, δ', σ, vs, Q, hb, S, r, k => by
    have e : δ = δ' := Option.some.inj hb
    have ev : vs = [] := r
    refine ⟨ev, k σ (e ▸ S) ⟨rfl, fun _ _ => rfl⟩⟩
  | [], _ :: _, _, _, _, _, _, hb, _, _, _ => nomatch hb
  | _ :: _, [], _, _, _, _, _, hb, _, _, _ => nomatch hb
  | t :: ts, d :: ds, δ, δ', σ, vs, Q, hb, S, r, k => by
    have h2 : ((bindT t d δ).bind fun δ' => bindTs ts ds δ') = some δ' := hb
    obtain ⟨δ1, h3, h4⟩ := Option.bind_eq_some_iff.mp h2
    obtain ⟨v, rr, ev, rv, rs⟩ := (show ∃ v r, vs = v :: r ∧ Rep K G d v ∧ Reps K G ds r from r)
    refine ⟨v, rr, ev, gT_ok h3 S rv fun σ1 S1 o1 => gTs_ok h4 S1 rs fun σ2 S2 o2 => k σ2 S2 ⟨o2.1.trans o1.1, fun i hi => ?_⟩⟩
    have hi' : i ∉ slotsT t ++ slotsTs ts := hi
    rw [o2.2 i (fun z => hi' (List.mem_append_right _ z)), o1.2 i (fun z => hi' (List.mem_append_left _ z))]
end
def JG (X : Cx) (e : Expr) (t : Tg) : Prop := PG X e (gT X.K t)
def JGs (X : Cx) (es : List Expr) (ts : List Tg) : Prop := PGs X es (gTs X.K ts)
theorem jg_nm (i : Nat) {x : Str} (hN : X.N.Nodup) (hi : X.N[i]? = some x := by rfl) (hx : Loc X.env.scope x := by first | exact .inl rfl | exact .inr rfl) (hf : X.fn x = true ∨ X.env.scope.names.lookup x = some .local := by first | exact .inl rfl | exact .inr rfl) : JG X (.Name x pos) (.nm i) := pg_name hN hi hx hf
theorem jgs_nil : JGs X [] [] := pgs_nil
theorem jgs_cons {t : Tg} {ts : List Tg} (h1 : JG X e t) (h2 : JGs X es ts) (hs : (assignEach (e :: es) X.env).map (·.2) = assign e X.env :: (assignEach es X.env).map (·.2) := by rfl) : JGs X (e :: es) (t :: ts) := pgs_cons h1 h2 hs
theorem jg_tp {ts : List Tg} {k : Nat} (h : JGs X es ts) (hc : X.calm = true := by rfl) (hn : (assignEach es X.env).length = ts.length := by rfl) (hst : (assignEach es X.env).findIdx? (·.1) = none := by rfl) : JG X (.Tuple es k pos) (.tp ts) := pg_tup hc h hn hst

/-! ### statements -/
structure Po where
  nx : Lv → Prop
  rt : Dat → Prop
  bk : Lv → Prop := fun _ => False
  ct : Lv → Prop := fun _ => False
def tS (K : PySem.W.Frag) (en : En) (δ : Lv) (P : Po) : TS := fun D σ H => ∃ G, Now K en G H σ δ ∧
  (∀ σ' G' H' δ', Ex G G' → Now K en G' H' σ' δ' → P.nx δ' → D.nx σ' H') ∧
  (∀ v G' H' d, Fm en.da en.G0 en.H0 G' H' → P.rt d → Rep K G' d v → D.rt v H') ∧
  (∀ σ' G' H' δ', Ex G G' → Now K en G' H' σ' δ' → P.bk δ' → D.bk σ' H') ∧
  (∀ σ' G' H' δ', Ex G G' → Now K en G' H' σ' δ' → P.ct δ' → D.ct σ' H')
def JS (X : Cx) (en : En) (st : Stmt) (δ : Lv) (P : Po) : Prop := PS X st (tS X.K en δ P)
def JB (X : Cx) (en : En) (st : List Stmt) (δ : Lv) (P : Po) : Prop := PSs X st (tS X.K en δ P)
variable {st : Stmt} {rest : List Stmt} {P : Po}
theorem jb_nil (h : P.nx δ) : JB X en [] δ P := PSs.weak pss_nil fun D σ H ⟨G, S, k1, _⟩ => k1 σ G H δ (Ex.refl G) S h
theorem jb_cons {M : Lv → Prop} (h1 : JS X en st δ { P with nx := M }) (h2 : ∀ δ', M δ' → JB X en rest δ' P) : JB X en (st :: rest) δ P :=
  PSs.weak (pss_cons h1 (PSs.any fun δ' => PSs.cond (h2 δ'))) fun D σ H ⟨G, S, k1, k2, k3, k4⟩ => ⟨G, S,
    fun σ' G' H' δ' e S' m => ⟨δ', m, G', S', fun s2 G2 H2 d2 e2 => k1 s2 G2 H2 d2 (e.trans e2), k2, fun s2 G2 H2 d2 e2 => k3 s2 G2 H2 d2 (e.trans e2), fun s2 G2 H2 d2 e2 => k4 s2 G2 H2 d2 (e.trans e2)⟩, k2, k3, k4⟩
theorem jb_one (h1 : JS X en st δ P) : JB X en [st] δ P := pss_one h1
theorem JS.imp {P' : Po} (h : JS X en st δ P) (h1 : ∀ d, P.nx d → P'.nx d) (h2 : ∀ d, P.rt d → P'.rt d) (h3 : ∀ d, P.bk d → P'.bk d) (h4 : ∀ d, P.ct d → P'.ct d) : JS X en st δ P' :=
  PS.weak h fun D σ H ⟨G, S, k1, k2, k3, k4⟩ => ⟨G, S, fun s g hh d e n m => k1 s g hh d e n (h1 d m), fun v g hh d f m => k2 v g hh d f (h2 d m), fun s g hh d e n m => k3 s g hh d e n (h3 d m), fun s g hh d e n m => k4 s g hh d e n (h4 d m)⟩
theorem JB.imp {P' : Po} (h : JB X en rest δ P) (h1 : ∀ d, P.nx d → P'.nx d) (h2 : ∀ d, P.rt d → P'.rt d) (h3 : ∀ d, P.bk d → P'.bk d) (h4 : ∀ d, P.ct d → P'.ct d) : JB X en rest δ P' :=
  PSs.weak h fun D σ H ⟨G, S, k1, k2, k3, k4⟩ => ⟨G, S, fun s g hh d e n m => k1 s g hh d e n (h1 d m), fun v g hh d f m => k2 v g hh d f (h2 d m), fun s g hh d e n m => k3 s g hh d e n (h3 d m), fun s g hh d e n m => k4 s g hh d e n (h4 d m)⟩
/-- the names told otherwise -/
theorem JB.lv {δ' : Lv} (h : JB X en rest δ' P) (e : δ = δ') : JB X en rest δ P := e ▸ h
/-- name = e -/
theorem js_set (i : Nat) {x : Str} {p' : Pos} (hN : X.N.Nodup) (he : JE X en e δ R) (k : ∀ d, R d → P.nx (δ.set i (some (.dat d)))) (hi : X.N[i]? = some x := by rfl) (hx : Loc X.env.scope x := by first | exact .inl rfl | exact .inr rfl)
    (hs : swapsWith e (some (.Name x p')) pos.line X.env = pure false := by rfl) (hf : X.fn x = true ∨ X.env.scope.names.lookup x = some .local := by first | exact .inl rfl | exact .inr rfl) : JS X en (.Assign [.Name x p'] e pos) δ P :=
  PS.weak (ps_set hN hi hx he hs hf) fun D σ H ⟨G, S, k1, _⟩ => ⟨G, S, fun v G' H' d f r p => k1 _ G' H' _ f.gg ⟨(S.step f).st.set p i, (S.step f).f0⟩ (k d r)⟩
/-- name = e, then the rest -/
theorem jb_setN (i : Nat) {x : Str} {p' : Pos} (hN : X.N.Nodup) (he : JE X en e δ R) (k : ∀ d, R d → JB X en rest (δ.set i (some (.dat d))) P) (hi : X.N[i]? = some x := by rfl) (hx : Loc X.env.scope x := by first | exact .inl rfl | exact .inr rfl)
    (hs : swapsWith e (some (.Name x p')) pos.line X.env = pure false := by rfl) (hf : X.fn x = true ∨ X.env.scope.names.lookup x = some .local := by first | exact .inl rfl | exact .inr rfl) : JB X en (.Assign [.Name x p'] e pos :: rest) δ P :=
  jb_cons (M := fun δ' => ∃ d, R d ∧ δ' = δ.set i (some (.dat d))) (js_set i hN he (fun d r => ⟨d, r, rfl⟩) hi hx hs hf) fun δ' ⟨d, r, e⟩ => e ▸ k d r
theorem jb_set (i : Nat) {x : Str} {p' : Pos} {d : Dat} (hN : X.N.Nodup) (he : JE X en e δ (Is d)) (k : JB X en rest (δ.set i (some (.dat d))) P) (hi : X.N[i]? = some x := by rfl) (hx : Loc X.env.scope x := by first | exact .inl rfl | exact .inr rfl)
    (hs : swapsWith e (some (.Name x p')) pos.line X.env = pure false := by rfl) (hf : X.fn x = true ∨ X.env.scope.names.lookup x = some .local := by first | exact .inl rfl | exact .inr rfl) : JB X en (.Assign [.Name x p'] e pos :: rest) δ P :=
  jb_setN i hN he (fun d' r => by rw [show d' = d from r]; exact k) hi hx hs hf
theorem own_apart {G H H' G' : Hp} {σ : L2.St} {p : Addr} (S : Now X.K en G H σ δ) (h0 : H p = none) : ∀ (j : Nat) (es : List Dat), δ[j]? = some (some (.own es)) → σ[j]? ≠ some (some (.ref p)) := fun j es h z => by
  obtain ⟨v, h1, q, vs, ev, hq, _⟩ := S.at_ j _ h
  rw [z] at h1
  have e1 := Option.some.inj (Option.some.inj h1)
  rw [ev] at e1
  injection e1 with e2
  rw [e2, hq] at h0
  cases h0
/-- name = a new list, one's own -/
theorem jb_ownN (i : Nat) {x : Str} {p' : Pos} {Rl : List Dat → Prop} (hN : X.N.Nodup) (he : JF X en e δ Rl) (k : ∀ ds, Rl ds → JB X en rest (δ.set i (some (.own ds))) P) (hi : X.N[i]? = some x := by rfl) (hx : Loc X.env.scope x := by first | exact .inl rfl | exact .inr rfl)
    (hs : swapsWith e (some (.Name x p')) pos.line X.env = pure false := by rfl) (hf : X.fn x = true ∨ X.env.scope.names.lookup x = some .local := by first | exact .inl rfl | exact .inr rfl) : JB X en (.Assign [.Name x p'] e pos :: rest) δ P :=
  jb_cons (M := fun δ' => ∃ ds, Rl ds ∧ δ' = δ.set i (some (.own ds))) (PS.weak (ps_set hN hi hx he hs hf) fun D σ H ⟨G, S, k1, _⟩ => ⟨G, S, fun p vs G' H' ds f r hp h0 hg rs =>
    k1 _ G' H' _ f.gg ⟨(S.step f).st.setOwn hp (S.f0.none_of h0) hg rs i fun j es _ hj => own_apart (G' := G') (H' := H') S h0 j es hj, (S.step f).f0⟩ ⟨ds, r, rfl⟩⟩) fun δ' ⟨ds, r, e⟩ => e ▸ k ds r
theorem jb_own (i : Nat) {x : Str} {p' : Pos} {ds : List Dat} (hN : X.N.Nodup) (he : JF X en e δ (Is ds)) (k : JB X en rest (δ.set i (some (.own ds))) P) (hi : X.N[i]? = some x := by rfl) (hx : Loc X.env.scope x := by first | exact .inl rfl | exact .inr rfl)
    (hs : swapsWith e (some (.Name x p')) pos.line X.env = pure false := by rfl) (hf : X.fn x = true ∨ X.env.scope.names.lookup x = some .local := by first | exact .inl rfl | exact .inr rfl) : JB X en (.Assign [.Name x p'] e pos :: rest) δ P :=
  jb_ownN i hN he (fun d' r => by rw [show d' = ds from r]; exact k) hi hx hs hf
/-- it stands still from here on -/
theorem jb_freeze (i : Nat) {ds : List Dat} (h : δ[i]? = some (some (.own ds))) (k : JB X en rest (δ.set i (some (.dat (.lst ds)))) P) : JB X en rest δ P :=
  PSs.weak k fun D σ H ⟨G, S, k1, k2, k3, k4⟩ => by
    obtain ⟨G', gg, new, S'⟩ := S.st.freeze h
    have f' : Fm en.da en.G0 en.H0 G' H := ⟨S.f0.gg.trans gg, S'.gh, S.f0.hh, fun b o q => (new b o q).trans (S.f0.new b o q), S'.dr⟩
    exact ⟨G', ⟨S', f'⟩, fun s2 G2 H2 d2 e2 => k1 s2 G2 H2 d2 (gg.trans e2), k2, fun s2 G2 H2 d2 e2 => k3 s2 G2 H2 d2 (gg.trans e2), fun s2 G2 H2 d2 e2 => k4 s2 G2 H2 d2 (gg.trans e2)⟩
theorem jb_lose (i : Nat) (k : JB X en rest (δ.set i none) P) : JB X en rest δ P :=
  PSs.weak k fun D σ H ⟨G, S, q⟩ => ⟨G, ⟨by
    by_cases hi : i < σ.length
    · have h := S.st.lose i (σ[i])
      rw [List.set_getElem_self] at h
      exact h
    · have h := S.st.lose i none
      rw [List.set_eq_of_length_le (by omega)] at h
      exact h, S.f0⟩, q⟩
/-- return -/
theorem js_ret (he : JE X en e δ P.rt) : JS X en (.Return (some e) pos) δ P :=
  PS.weak (ps_ret he) fun D σ H ⟨G, S, _, k2, _⟩ => ⟨G, S, fun v G' H' d f r p => k2 v G' H' d (S.f0.trans f) r p⟩
theorem js_retI {d : Dat} (he : JE X en e δ (Is d)) (h : P.rt d) : JS X en (.Return (some e) pos) δ P := js_ret (he.imp fun d' q => by rw [show d' = d from q]; exact h)
theorem js_expr (he : JE X en e δ R) (k : ∀ d, R d → P.nx δ) (hs : swapsWith e none pos.line X.env = pure false := by rfl) : JS X en (.Expr e pos) δ P :=
  PS.weak (ps_expr he hs) fun D σ H ⟨G, S, k1, _⟩ => ⟨G, S, fun v G' H' d f r p => k1 σ G' H' δ f.gg (S.step f) (k d r)⟩
theorem js_pass (h : P.nx δ) : JS X en (.Pass pos) δ P := PS.weak ps_pass fun D σ H ⟨G, S, k1, _⟩ => k1 σ G H δ (Ex.refl G) S h
theorem js_break (h : P.bk δ) : JS X en (.Break pos) δ P := PS.weak ps_break fun D σ H ⟨G, S, _, _, k3, _⟩ => k3 σ G H δ (Ex.refl G) S h
theorem js_continue (h : P.ct δ) : JS X en (.Continue pos) δ P := PS.weak ps_continue fun D σ H ⟨G, S, _, _, _, k4⟩ => k4 σ G H δ (Ex.refl G) S h
/-- if -/
theorem js_if {sa sb : List Stmt} {Rt : Bool → Prop} (hc : JT X en c δ Rt) (ha : Rt true → JB X en sa δ P) (hb : Rt false → JB X en sb δ P) : JS X en (.If c sa sb pos) δ P :=
  PS.weak (ps_if hc (PSs.cond ha) (PSs.cond hb)) fun D σ H ⟨G, S, k1, k2, k3, k4⟩ => ⟨G, S, fun b G' H' f r => by
    have q : tS X.K en δ P D σ H' := ⟨G', S.step f, fun s2 G2 H2 d2 e2 => k1 s2 G2 H2 d2 (f.gg.trans e2), k2, fun s2 G2 H2 d2 e2 => k3 s2 G2 H2 d2 (f.gg.trans e2), fun s2 G2 H2 d2 e2 => k4 s2 G2 H2 d2 (f.gg.trans e2)⟩
    cases b with
    | true => exact ⟨r, q⟩
    | false => exact ⟨r, q⟩⟩
/-- if c: .. (that does not come through); then the rest -/
theorem jb_ifX {sa : List Stmt} {Rt : Bool → Prop} (hc : JT X en c δ Rt) (ha : Rt true → JB X en sa δ { P with nx := fun _ => False }) (hr : Rt false → JB X en rest δ P) : JB X en (.If c sa [] pos :: rest) δ P :=
  jb_cons (M := fun δ' => Rt false ∧ δ' = δ) (js_if hc (fun q => (ha q).imp (fun _ z => z.elim) (fun _ z => z) (fun _ z => z) (fun _ z => z)) (fun q => jb_nil ⟨q, rfl⟩)) fun δ' ⟨q, e⟩ => e ▸ hr q
/-- if c: .. else ..; then the rest, from M -/
theorem jb_if {sa sb : List Stmt} {Rt : Bool → Prop} {M : Lv → Prop} (hc : JT X en c δ Rt) (ha : Rt true → JB X en sa δ { P with nx := M }) (hb : Rt false → JB X en sb δ { P with nx := M }) (hr : ∀ δ', M δ' → JB X en rest δ' P) : JB X en (.If c sa sb pos :: rest) δ P :=
  jb_cons (M := M) (js_if hc ha hb) hr
/-- x.append(e), x one's own -/
theorem js_app (i : Nat) {x : Str} {p1 p3 : Pos} {ds : List Dat} (hδ : δ[i]? = some (some (.own ds))) (he : JE X en e δ R) (hl : ds.length < sizeLine) (k : ∀ d, R d → P.nx (δ.set i (some (.own (ds ++ [d]))))) (hN : X.N[i]? = some x := by rfl) (hv : Vis X.env.scope x := by first | exact Or.inl rfl | exact Or.inr (Or.inl rfl) | exact Or.inr (Or.inr rfl))
    (hd : (x == ("__debug__" : Str)) = false := by decide) (hcd : (x == ("__classdict__" : Str)) = false := by decide) (he1 : starEach [e] X.env = (false, eval e X.env) :: starEach [] X.env := by rfl)
    (hbase : attributeBase (.Name x p1) "append" X.env (eval (.Name x p1) X.env) = eval (.Name x p1) X.env := by rfl)
    (hfew : ((backTo p2 (starEach [e] X.env)).all (fun x => !x.1) && (backToKw p2 (keywordEach [] X.env)).all (fun x => x.1.isSome) && decide (([e]).length + ([] : List Keyword).length + (if ([] : List Keyword).isEmpty then 0 else 1) < 30)) = true := by rfl)
    (hline : (p3.endLine == p2.line) = true := by rfl) (hplain : (backTo p2 (starEach [] X.env)).any (·.1) = false := by rfl) (hs : swapsWith (.Call (.Attribute (.Name x p1) "append" p3) [e] [] p2) none pos.line X.env = pure false := by rfl) :
    JS X en (.Expr (.Call (.Attribute (.Name x p1) "append" p3) [e] [] p2) pos) δ P :=
  PS.weak (ps_expr (pe_bm PySem.F.plainAttrs_list PySem.F.slot_list_append PySem.F.type_list_append mt_append (pe_var hN hv hd hcd) (pa_cons he pa_nil he1) hbase hfew hline he1 hplain) hs) fun D σ H ⟨G, S, k1, _⟩ => by
    obtain ⟨v, h1, p, vs, ev, hp, h0, hg, r⟩ := S.at_ i _ hδ
    rw [ev] at h1
    refine ⟨.ref p, h1, .inl ⟨rfl, vs, sqL hp⟩, G, S, fun u G1 H1 d f rd pd => ?_⟩
    · have S1 := S.step f
      obtain ⟨v', h1', p', vs', ev', hp', h0', hg', r'⟩ := S1.at_ i _ hδ
      rw [h1] at h1'
      have e1 : V.ref p = v' := Option.some.inj (Option.some.inj h1')
      rw [ev'] at e1
      refine ⟨p', vs', u, e1, rfl, hp', by rw [r'.length]; exact hl, ?_⟩
      rw [e1] at h1
      have S2 := S1.st.own_put hδ h1 h0' hg' (r'.append (Reps.one pd))
      refine k1 σ G1 _ _ f.gg ⟨S2, S1.f0.gg, S2.gh, fun b o e m q => ?_, S1.f0.new, S2.dr⟩ (k d rd)
      rw [upd_ne (ne_of_none q h0')]
      exact S1.f0.hh b o e m q
/-- x[j] = e, x one's own -/
theorem js_put (i : Nat) {x : Str} {p1 : Pos} {ix : Expr} {ds : List Dat} {j : Nat} (hδ : δ[i]? = some (some (.own ds))) (he : JE X en e δ R) (hx : JE X en ix δ (Is (.int (j : Int)))) (hj : j < ds.length) (k : ∀ d, R d → P.nx (δ.set i (some (.own (ds.set j d))))) (hN : X.N[i]? = some x := by rfl) (hv : Vis X.env.scope x := by first | exact Or.inl rfl | exact Or.inr (Or.inl rfl) | exact Or.inr (Or.inr rfl))
    (hd : (x == ("__debug__" : Str)) = false := by decide) (hcd : (x == ("__classdict__" : Str)) = false := by decide)
    (ha : ∀ v, assign (.Subscript (.Name x p1) ix p2) X.env v = (do
      let ov ← holding [v] (eval (.Name x p1) X.env)
      let iv ← holding [v, ov] (eval ix X.env)
      standAt p2
      holding [v, ov, iv] (setItem ov iv v)
      release [v, ov, iv] []) := by intro _; rfl)
    (hs : swapsWithSole [.Subscript (.Name x p1) ix p2] e pos.line X.env = pure false := by rfl) (hw : swappedStores [.Subscript (.Name x p1) ix p2] e X.env = pure none := by rfl) (h1 : (assignEach [.Subscript (.Name x p1) ix p2] X.env).map (·.2) = [assign (.Subscript (.Name x p1) ix p2) X.env] := by rfl) :
    JS X en (.Assign [.Subscript (.Name x p1) ix p2] e pos) δ P :=
  PS.weak (ps_asg he (pg_sub (pe_var hN hv hd hcd) hx set_list ha) hs hw h1) fun D σ H ⟨G, S, k1, _⟩ => ⟨G, S, fun u G1 H1 d f rd pd => by
    have S1 := S.step f
    obtain ⟨v, h1, _⟩ := S1.at_ i _ hδ
    refine ⟨v, h1, G1, S1, fun w2 G2 H2 d2 f2 rd2 pd2 => ?_⟩
    have S2 := S1.step f2
    obtain ⟨v', h1', p', vs', ev', hp', h0', hg', r'⟩ := S2.at_ i _ hδ
    rw [h1] at h1'
    have e1 : v = v' := Option.some.inj (Option.some.inj h1')
    rw [ev'] at e1
    rw [show d2 = .int (j : Int) from rd2] at pd2
    refine ⟨p', vs', (j : Int), j, e1, pd2, hp', ?_, ?_⟩
    · have hl := r'.length
      unfold ixN
      rw [hl]
      have c1 : ¬ ((j : Int) < 0) := by omega
      first
        | (simp only [c1, if_false]; simp; omega)
        | (split <;> first | omega | (simp; omega) | rfl)
    · rw [e1] at h1
      have S3 := S2.st.own_put hδ h1 h0' hg' (r'.set j (pd.mono f2.gg))
      refine k1 σ G2 _ _ (f.gg.trans f2.gg) ⟨S3, S2.f0.gg, S3.gh, fun b o e m q => ?_, S2.f0.new, S3.dr⟩ (k d rd)
      rw [upd_ne (ne_of_none q h0')]
      exact S2.f0.hh b o e m q⟩
/-- a, b, .. = e -/
theorem js_unpack {tg : Expr} {t : Tg} (he : JE X en e δ R) (hg : JG X tg t) (k : ∀ d, R d → ∃ δ', bindT t d δ = some δ' ∧ P.nx δ') (hs : swapsWithSole [tg] e pos.line X.env = pure false := by rfl) (hw : swappedStores [tg] e X.env = pure none := by rfl)
    (h1 : (assignEach [tg] X.env).map (·.2) = [assign tg X.env] := by rfl) : JS X en (.Assign [tg] e pos) δ P :=
  PS.weak (ps_asg he hg hs hw h1) fun D σ H ⟨G, S, k1, _⟩ => ⟨G, S, fun u G1 H1 d f rd pd => by
    obtain ⟨δ', hb, n⟩ := k d rd
    exact gT_ok hb (S.step f) pd fun σ' S' _ => k1 σ' G1 H1 δ' f.gg S' n⟩
theorem jb_unpack {tg : Expr} {t : Tg} {d : Dat} {δ' : Lv} (he : JE X en e δ (Is d)) (hg : JG X tg t) (hb : bindT t d δ = some δ') (k : JB X en rest δ' P) (hs : swapsWithSole [tg] e pos.line X.env = pure false := by rfl) (hw : swappedStores [tg] e X.env = pure none := by rfl)
    (h1 : (assignEach [tg] X.env).map (·.2) = [assign tg X.env] := by rfl) : JB X en (.Assign [tg] e pos :: rest) δ P :=
  jb_cons (M := Is δ') (js_unpack he hg (fun d' r => ⟨δ', by rw [show d' = d from r]; exact hb, rfl⟩) hs hw h1) fun _ q => by rw [show _ = δ' from q]; exact k
end
end PJ
end
section
set_option maxHeartbeats 4000000
namespace PJ
open PySem PySem.Spec PyProof.Rows L2

/-! ### what is walked -/
structure Sq (K : PySem.W.Frag) (G : Hp) (J : It) (items : List Dat) : Prop where
  go : ∀ i H, Gh G H → i < items.length → J.go i H
  yld : ∀ i G1 H x H' d, Ex G G1 → Gh G1 H → items[i]? = some d → J.yld i H x H' → ∃ G', Fm none G1 H G' H' ∧ Rep K G' d x
  stop : ∀ H, Gh G H → J.stop items.length H
def tI (K : PySem.W.Frag) (en : En) (δ : Lv) (RI : List Dat → Prop) : TI := fun σ H R => ∃ G, Now K en G H σ δ ∧ ∀ J G' H' items, Fm en.da G H G' H' → RI items → Sq K G' J items → R J H'
def JI (X : Cx) (en : En) (tg iter : Expr) (δ : Lv) (RI : List Dat → Prop) : Prop := PI X tg iter (tI X.K en δ RI)
theorem PI.weak {X : Cx} {tg iter : Expr} {t u : TI} (h : PI X tg iter t) (w : ∀ σ H R, u σ H R → t σ H R) : PI X tg iter u := ⟨fun pins s σ H R I q => h.run pins s σ H R I (w σ H R q)⟩
section
variable {X : Cx} {en : En} {δ : Lv} {a b c e o tg iter : Expr} {es : List Expr} {R Ra Rb Rc : Dat → Prop} {pos p1 p2 tpos : Pos} {elts : List Expr} {kk : Nat}
theorem ji_list {ds : List Dat} (h : JE X en iter δ (Is (.lst ds))) : JI X en tg iter δ (Is ds) :=
  PI.weak (pi_list h) fun σ H R' ⟨G, S, k⟩ => ⟨G, S, fun v G1 H1 d f r p => by
    rw [show d = .lst ds from r] at p
    obtain ⟨q, vs, ev, hq, rs⟩ := rep_lst p
    have hl := rs.length
    refine ⟨q, ev, ⟨vs, sqL (f.gh _ _ hq)⟩, k (Itl X.K q) G1 H1 ds f rfl ⟨fun i H2 e hi => ?_, fun i G2 H2 x H3 d2 e1 e2 hd hy => ?_, fun H2 e => ⟨vs, sqL (e _ _ hq), by omega⟩⟩⟩
    · exact ⟨vs, vs[i]'(by omega), sqL (e _ _ hq), List.getElem?_eq_getElem (by omega)⟩
    · obtain ⟨e3, hx⟩ := hy
      have e4 := hx vs (sqL (e2 _ _ (e1 _ _ hq)))
      obtain ⟨u, hu, ru⟩ := rs.get hd
      rw [e4] at hu
      have e5 := Option.some.inj hu
      rw [e3, e5]
      exact ⟨G2, Fm.same e2, ru.mono e1⟩⟩
theorem ji_tup {ds : List Dat} (h : JE X en iter δ (Is (.tup ds))) : JI X en tg iter δ (Is ds) :=
  PI.weak (pi_tup h) fun σ H R' ⟨G, S, k⟩ => ⟨G, S, fun v G1 H1 d f r p => by
    rw [show d = .tup ds from r] at p
    obtain ⟨q, vs, ev, hq, rs⟩ := rep_tup p
    have hl := rs.length
    refine ⟨q, ev, ⟨vs, sqT (f.gh _ _ hq)⟩, k (Itt X.K q) G1 H1 ds f rfl ⟨fun i H2 e hi => ?_, fun i G2 H2 x H3 d2 e1 e2 hd hy => ?_, fun H2 e => ⟨vs, sqT (e _ _ hq), by omega⟩⟩⟩
    · exact ⟨vs, vs[i]'(by omega), sqT (e _ _ hq), List.getElem?_eq_getElem (by omega)⟩
    · obtain ⟨e3, hx⟩ := hy
      have e4 := hx vs (sqT (e2 _ _ (e1 _ _ hq)))
      obtain ⟨u, hu, ru⟩ := rs.get hd
      rw [e4] at hu
      have e5 := Option.some.inj hu
      rw [e3, e5]
      exact ⟨G2, Fm.same e2, ru.mono e1⟩⟩
theorem ji_seq {D : Dat} {ds : List Dat} (hD : Seqd D ds) (h : JE X en iter δ (Is D)) : JI X en tg iter δ (Is ds) := by
  rcases hD with q | q
  · rw [q] at h
    exact ji_list h
  · rw [q] at h
    exact ji_tup h
theorem sq_range {K : PySem.W.Frag} {G : Hp} {lo : Int} {n : Nat} : Sq K G (Itr lo n) ((List.range n).map fun (i : Nat) => Dat.int (lo + (i : Int))) where
  go := fun i H e hi => by
    rw [List.length_map, List.length_range] at hi
    exact hi
  yld := fun i G1 H x H' d e1 e2 hd hy => by
    obtain ⟨e3, e4⟩ := hy
    rw [List.getElem?_map] at hd
    cases hr : (List.range n)[i]? with
    | none =>
      rw [hr] at hd
      cases hd
    | some j =>
      rw [hr] at hd
      obtain ⟨hi2, e5⟩ := List.getElem?_eq_some_iff.mp hr
      rw [List.getElem_range] at e5
      have e6 := Option.some.inj hd
      rw [e3, ← e6, ← e5, e4]
      exact ⟨G1, Fm.same e2, rfl⟩
  stop := fun H e => by
    show n ≤ _
    rw [List.length_map, List.length_range]
    exact Nat.le_refl n
theorem range_int (n : Nat) : ((List.range n).map fun (i : Nat) => Dat.int ((0 : Int) + (i : Int))) = (List.range n).map fun (i : Nat) => Dat.int (i : Int) := by
  refine List.map_congr_left fun i _ => ?_
  rw [Int.zero_add]
theorem ji_range {n : Nat} (h : JE X en e δ (Is (.int (n : Int)))) (hn : n ≤ 1000000) (hm : X.mg "range" = none) (hg : Gl X "range" := by rfl) (hs : starEach [e] X.env = [(false, eval e X.env)] := by rfl) :
    JI X en tg (.Call (.Name "range" p1) [e] [] pos) δ (Is ((List.range n).map fun (i : Nat) => Dat.int (i : Int))) :=
  PI.weak (pi_range1 hg hm (ja_c h ja_nil hs) hs) fun σ H R' ⟨G, S, k⟩ => ⟨G, S, fun vs G1 H1 ss f r ps => by
    rw [show ss = [Sl.dat (.int (n : Int))] from r] at ps
    obtain ⟨v, ev, rv⟩ := reps1 (ArgsOk.reps (ds := [.int (n : Int)]) ps)
    have e1 : v = .int (n : Int) := rv
    refine ⟨(n : Int), by rw [ev, e1], by omega, by omega, ?_⟩
    refine k _ G1 H1 _ f ?_ (sq_range (lo := 0) (n := n))
    exact range_int n⟩
theorem mapIdx_get {α β : Type} {l : List α} {f : Nat → α → β} {i : Nat} {y : β} (h : (l.mapIdx f)[i]? = some y) : ∃ x, l[i]? = some x ∧ f i x = y := by
  rw [List.getElem?_mapIdx] at h
  cases e : l[i]? with
  | none =>
    rw [e] at h
    cases h
  | some x =>
    rw [e] at h
    exact ⟨x, rfl, Option.some.inj h⟩
def enumD (ds : List Dat) : List Dat := ds.mapIdx fun i d => .tup [.int (i : Int), d]
theorem enumD_len (ds : List Dat) : (enumD ds).length = ds.length := List.length_mapIdx
theorem enumD_get {ds : List Dat} {i : Nat} {y : Dat} (h : (enumD ds)[i]? = some y) : ∃ d, ds[i]? = some d ∧ y = .tup [.int (i : Int), d] := by
  obtain ⟨x, h1, h2⟩ := mapIdx_get h
  exact ⟨x, h1, h2.symm⟩
theorem ji_enumL {ds : List Dat} (h : JE X en e δ (Is (.lst ds))) (hm : X.mg "enumerate" = none) (hg : Gl X "enumerate" := by rfl) (hs : starEach [e] X.env = [(false, eval e X.env)] := by rfl) :
    JI X en (.Tuple elts kk tpos) (.Call (.Name "enumerate" p1) [e] [] pos) δ (Is (enumD ds)) :=
  PI.weak (pi_enum hg hm (ja_c h ja_nil hs) hs) fun σ H R' ⟨G, S, k⟩ => ⟨G, S, fun vs G1 H1 ss f r ps => by
    rw [show ss = [Sl.dat (.lst ds)] from r] at ps
    obtain ⟨v, ev, rv⟩ := reps1 (ArgsOk.reps (ds := [.lst ds]) ps)
    obtain ⟨q, us, eq, hq, rs⟩ := rep_lst rv
    have hl := rs.length
    refine ⟨q, us, by rw [ev, eq], sqL (f.gh _ _ hq), k _ G1 H1 _ f rfl ⟨fun i H2 e hi => ?_, fun i G2 H2 x H3 d2 e1 e2 hd hy => ?_, fun H2 e => ⟨us, sqL (e _ _ hq), by rw [enumD_len]; omega⟩⟩⟩
    · rw [enumD_len] at hi
      exact ⟨us, us[i]'(by omega), sqL (e _ _ hq), List.getElem?_eq_getElem (by omega)⟩
    · obtain ⟨T, y, ex, hT, eH, hx⟩ := hy
      have e4 := hx us (sqL (e2 _ _ (e1 _ _ hq)))
      obtain ⟨d, hdd, ed⟩ := enumD_get hd
      obtain ⟨u, hu, ru⟩ := rs.get hdd
      rw [e4] at hu
      have e5 := Option.some.inj hu
      rw [eH, ed, ex]
      refine ⟨_, Fm.new_ e2 hT, T, _, rfl, upd_same, Reps.cons (show V.int _ = V.int _ from rfl) (Reps.one ?_)⟩
      rw [e5]
      exact (ru.mono e1).mono (Ex.new (none_G e2 hT))⟩
def zipD (ds es : List Dat) : List Dat := List.zipWith (fun a b => Dat.tup [a, b]) ds es
theorem zipD_len (ds es : List Dat) : (zipD ds es).length = min ds.length es.length := List.length_zipWith
theorem zipD_get {ds es : List Dat} {i : Nat} {y : Dat} (h : (zipD ds es)[i]? = some y) : ∃ d e, ds[i]? = some d ∧ es[i]? = some e ∧ y = .tup [d, e] := by
  unfold zipD at h
  rw [List.getElem?_zipWith] at h
  cases e1 : ds[i]? with
  | none =>
    rw [e1] at h
    cases h
  | some d =>
    cases e2 : es[i]? with
    | none =>
      rw [e1, e2] at h
      cases h
    | some e' =>
      rw [e1, e2] at h
      exact ⟨d, e', rfl, rfl, (Option.some.inj h).symm⟩

/-! ### for -/
variable {body rest : List Stmt} {P : Po}
theorem js_for {t : Tg} {RI : List Dat → Prop} (Inv : List Dat → Nat → Lv → Prop) (hi : JI X en tg iter δ RI) (hg : JG X tg t) (h0 : ∀ items, RI items → Inv items 0 δ)
    (hs : ∀ items i d δ', RI items → items[i]? = some d → Inv items i δ' → ∃ δ2, bindT t d δ' = some δ2 ∧ JB X en body δ2 { nx := Inv items (i + 1), ct := Inv items (i + 1), bk := P.nx, rt := P.rt })
    (hd : ∀ items δ', RI items → Inv items items.length δ' → P.nx δ') (hp : PassesOwn (model X.prog X.w) X.A X.env X.xe := by exact passes_of rfl) (hc : X.calm = true := by rfl)
    (hf : ∀ x, foldedSetIterable iter X.env x = pure x := by intro _; rfl) : JS X en (.For tg iter body [] pos) δ P := by
  have hb : PSs X body (fun D σ H => ∃ q : { q : List Dat × Nat × Lv // JB X en body q.2.2 { nx := Inv q.1 (q.2.1 + 1), ct := Inv q.1 (q.2.1 + 1), bk := P.nx, rt := P.rt } }, tS X.K en q.1.2.2 { nx := Inv q.1.1 (q.1.2.1 + 1), ct := Inv q.1.1 (q.1.2.1 + 1), bk := P.nx, rt := P.rt } D σ H) :=
    PSs.any fun q => q.2
  refine PS.weak (ps_for hp hc hi hg hb hf) fun D σ H ⟨G, S, k1, k2, k3, k4⟩ => ⟨G, S, fun J G1 H1 items f ri sq => ?_⟩
  refine ⟨fun i m σ H => m = items.length - i ∧ i ≤ items.length ∧ ∃ G2 δ2, Ex G1 G2 ∧ Now X.K en G2 H σ δ2 ∧ Inv items i δ2, ⟨items.length, by simp, Nat.zero_le _, G1, δ, Ex.refl G1, S.step f, h0 items ri⟩, ?_⟩
  rintro i m σ2 H2 ⟨rfl, hi2, G2, δ2, e2, S2, iv⟩
  by_cases hlt : i < items.length
  · refine .inr ⟨sq.go i H2 (e2.gh S2.gh) hlt, fun σ3 H3 => ∃ G3 δ3, Ex G1 G3 ∧ Now X.K en G3 H3 σ3 δ3 ∧ Inv items (i + 1) δ3, fun σ3 H3 z => ⟨items.length - (i + 1), by omega, rfl, hlt, z⟩, fun x H3 hy => ?_⟩
    have hd2 : items[i]? = some items[i] := List.getElem?_eq_getElem hlt
    obtain ⟨G3, f3, rx⟩ := sq.yld i G2 H2 x H3 _ e2 S2.gh hd2 hy
    obtain ⟨δ3, hb3, jb⟩ := hs items i _ δ2 ri hd2 iv
    have S3 := S2.step (f3.lift S2.drw)
    refine gT_ok hb3 S3 rx fun σ4 S4 _ => ⟨⟨(items, i, δ3), jb⟩, G3, S4, fun s5 G5 H5 d5 e5 n5 m5 => ⟨G5, d5, (e2.trans f3.gg).trans e5, n5, m5⟩, k2, fun s5 G5 H5 d5 e5 n5 m5 => ?_, fun s5 G5 H5 d5 e5 n5 m5 => ⟨G5, d5, (e2.trans f3.gg).trans e5, n5, m5⟩⟩
    exact k1 s5 G5 H5 d5 (((f.gg.trans e2).trans f3.gg).trans e5) n5 m5
  · have e : i = items.length := by omega
    rw [e] at iv ⊢
    exact .inl ⟨sq.stop H2 (e2.gh S2.gh), k1 σ2 G2 H2 δ2 (f.gg.trans e2) S2 (hd items δ2 ri iv)⟩
/-- the items told exactly -/
theorem js_forI {t : Tg} {items : List Dat} (Inv : Nat → Lv → Prop) (hi : JI X en tg iter δ (Is items)) (hg : JG X tg t) (h0 : Inv 0 δ)
    (hs : ∀ i d δ', items[i]? = some d → Inv i δ' → ∃ δ2, bindT t d δ' = some δ2 ∧ JB X en body δ2 { nx := Inv (i + 1), ct := Inv (i + 1), bk := P.nx, rt := P.rt })
    (hd : ∀ δ', Inv items.length δ' → P.nx δ') (hp : PassesOwn (model X.prog X.w) X.A X.env X.xe := by exact passes_of rfl) (hc : X.calm = true := by rfl)
    (hf : ∀ x, foldedSetIterable iter X.env x = pure x := by intro _; rfl) : JS X en (.For tg iter body [] pos) δ P :=
  js_for (fun its i δ' => its = items → Inv i δ') hi hg (fun its r _ => h0) (fun its i d δ' r hd2 iv => by
    have e : its = items := r
    rw [e] at hd2
    obtain ⟨δ2, hb, jb⟩ := hs i d δ' hd2 (iv e)
    exact ⟨δ2, hb, jb.imp (fun _ z _ => z) (fun _ z => z) (fun _ z => z) (fun _ z _ => z)⟩) (fun its δ' r iv => by
    have e : its = items := r
    have z := iv e
    rw [e] at z
    exact hd δ' z) hp hc hf

/-! ### comprehensions -/
def wipeL (δ : Lv) : List Nat → Lv
  | [] => δ
  | v :: vs => (wipeL δ vs).set v none
theorem now_wipe {K : PySem.W.Frag} {G H : Hp} {σ : L2.St} (S : Now K en G H σ δ) : ∀ vs : List Nat, Now K en G H (wipe σ vs) (wipeL δ vs)
  | [] => S
  | v :: vs => ⟨(now_wipe S vs).st.lose v none, S.f0⟩
theorem wipe_off {σ σ2 : L2.St} {vs sl : List Nat} (h : OffSl sl (wipe σ vs) σ2) (hs : ∀ i ∈ sl, i ∈ vs) : wipe σ2 vs = wipe σ vs := by
  have key : ∀ (us : List Nat) (ρ : L2.St) (i : Nat), (wipe ρ us)[i]? = if i ∈ us then (if i < ρ.length then some none else none) else ρ[i]? := fun us => by
    induction us with
    | nil =>
      intro ρ i
      simp [wipe]
    | cons v us ih =>
      intro ρ i
      unfold wipe
      rw [List.getElem?_set, wipe_length]
      by_cases e : v = i
      · subst e
        simp
      · rw [if_neg e, ih ρ i]
        have e' : i ≠ v := fun z => e z.symm
        by_cases hi : i ∈ us
        · simp [hi]
        · simp [hi, e']
  refine List.ext_getElem? fun i => ?_
  rw [key vs σ2 i, key vs σ i]
  have hl : σ2.length = σ.length := by rw [h.1, wipe_length]
  by_cases hi : i ∈ vs
  · rw [if_pos hi, if_pos hi, hl]
  · rw [if_neg hi, if_neg hi, h.2 i (fun z => hi (hs i z)), key vs σ i, if_neg hi]
/-- a comprehension, told: Rl what it makes -/
def LcOk (X : Cx) (en : En) (δ : Lv) (elt tg iter : Expr) (ifs : List Expr) (scope : Scope) (Rl : List Dat → Prop) : Prop := ∃ (own : List (Str × Nat)) (wi : TI) (g : TG) (tt : TT) (te : TE), PI X tg iter wi ∧ BlkOk X.N X.env.scope scope own ∧
  (∀ (s : Shared) (H : Hp) (C : Addr) (cl : List (Str × Addr)) (fp : List Addr), PG (X.blk s H scope (compEnvC scope cl C X.env) fp) tg g) ∧ (∀ (s : Shared) (H : Hp) (C : Addr) (cl : List (Str × Addr)) (fp : List Addr), PTs (X.blk s H scope (compEnvC scope cl C X.env) fp) ifs tt) ∧
  (∀ (s : Shared) (H : Hp) (C : Addr) (cl : List (Str × Addr)) (fp : List Addr), PE (X.blk s H scope (compEnvC scope cl C X.env) fp) elt te) ∧ (∀ x, foldedSetIterable iter X.env x = pure x) ∧ ∀ σ H Q, tF X.K en δ Rl σ H Q → tLc wi g tt te (own.map (·.2)) σ H Q
theorem LcOk.jf {elt : Expr} {ifs : List Expr} {scope : Scope} {Rl : List Dat → Prop} (h : LcOk X en δ elt tg iter ifs scope Rl) (hN : X.N.Nodup) (hc : X.calm = true := by rfl) : JF X en (.ListComp elt [⟨tg, iter, ifs, 0⟩] scope pos) δ Rl := by
  obtain ⟨own, wi, g, tt, te, hi, ok, hg, ht, he, hs, w⟩ := h
  exact PE.weak (pe_lc hc hN hi ok hg ht he hs) w
/-- name = [..] on one line, the name a local: one's own -/
theorem jb_ownLcN {rest : List Stmt} {P : Po} (i : Nat) {y : Str} {py spos : Pos} {elt : Expr} {ifs : List Expr} {scope : Scope} {Rl : List Dat → Prop} (hN : X.N.Nodup) (h : LcOk X en δ elt tg iter ifs scope Rl) (k : ∀ ds, Rl ds → JB X en rest (δ.set i (some (.own ds))) P)
    (hy : X.N[i]? = some y := by rfl) (hyl : X.env.scope.names.lookup y = some .local := by rfl) (hsw : swapsWith (.ListComp elt [⟨tg, iter, ifs, 0⟩] scope pos) (some (.Name y py)) spos.line X.env = pure true := by exact sw_true rfl rfl rfl (by decide +kernel)) (hc : X.calm = true := by rfl) :
    JB X en (.Assign [.Name y py] (.ListComp elt [⟨tg, iter, ifs, 0⟩] scope pos) spos :: rest) δ P := by
  obtain ⟨own, wi, g, tt, te, hi, ok, hg, ht, he, hs, w⟩ := h
  refine jb_cons (M := fun δ' => ∃ ds, Rl ds ∧ δ' = δ.set i (some (.own ds))) (PS.weak (ps_setLc hc hN hy hyl hsw hi ok hg ht he hs) fun D σ H ⟨G, S, k1, _⟩ => w σ H _ ⟨G, S, fun p vs G' H' ds f r hp h0 hg rs =>
    k1 _ G' H' _ f.gg ⟨(S.step f).st.setOwn hp (S.f0.none_of h0) hg rs i fun j es _ hj => own_apart (G' := G') (H' := H') S h0 j es hj, (S.step f).f0⟩ ⟨ds, r, rfl⟩⟩) fun δ' ⟨ds, r, e⟩ => e ▸ k ds r
theorem jb_ownLc {rest : List Stmt} {P : Po} (i : Nat) {y : Str} {py spos : Pos} {elt : Expr} {ifs : List Expr} {scope : Scope} {ds : List Dat} (hN : X.N.Nodup) (h : LcOk X en δ elt tg iter ifs scope (Is ds)) (k : JB X en rest (δ.set i (some (.own ds))) P)
    (hy : X.N[i]? = some y := by rfl) (hyl : X.env.scope.names.lookup y = some .local := by rfl) (hsw : swapsWith (.ListComp elt [⟨tg, iter, ifs, 0⟩] scope pos) (some (.Name y py)) spos.line X.env = pure true := by exact sw_true rfl rfl rfl (by decide +kernel)) (hc : X.calm = true := by rfl) :
    JB X en (.Assign [.Name y py] (.ListComp elt [⟨tg, iter, ifs, 0⟩] scope pos) spos :: rest) δ P :=
  jb_ownLcN i hN h (fun ds' q => by rw [show ds' = ds from q]; exact k) hy hyl hsw hc
/-- [elt for tg in iter if test]: A: what the new list holds behind i items -/
theorem lc_T {t : Tg} {elt : Expr} {ifs : List Expr} {scope : Scope} {own : List (Str × Nat)} {RI : List Dat → Prop} {Rl : List Dat → Prop} (A : List Dat → Nat → List Dat → Prop) (hi : JI X en tg iter δ RI) (ok : BlkOk X.N X.env.scope scope own)
    (hg : ∀ (s : Shared) (H : Hp) (C : Addr) (cl : List (Str × Addr)) (fp : List Addr), JG (X.blk s H scope (compEnvC scope cl C X.env) fp) tg t) (hsl : ∀ i ∈ slotsT t, i ∈ own.map (·.2))
    (h0 : ∀ items, RI items → items.length ≤ sizeLine ∧ A items 0 [])
    (ht : ∀ items i d acc, RI items → items[i]? = some d → A items i acc → ∃ (δ2 : Lv) (Rt : Bool → Prop) (Re : Dat → Prop), bindT t d (wipeL δ (own.map (·.2))) = some δ2 ∧
      (∀ (s : Shared) (H : Hp) (C : Addr) (cl : List (Str × Addr)) (fp : List Addr), PTs (X.blk s H scope (compEnvC scope cl C X.env) fp) ifs (tT X.K en δ2 Rt)) ∧
      (∀ (s : Shared) (H : Hp) (C : Addr) (cl : List (Str × Addr)) (fp : List Addr), JE (X.blk s H scope (compEnvC scope cl C X.env) fp) en elt δ2 Re) ∧ (Rt true → ∀ y, Re y → A items (i + 1) (acc ++ [y])) ∧ (Rt false → A items (i + 1) acc))
    (hd : ∀ items acc, RI items → A items items.length acc → Rl acc) (hs : ∀ x, foldedSetIterable iter X.env x = pure x := by intro _; rfl) :
    LcOk X en δ elt tg iter ifs scope Rl := by
  have he : ∀ (s : Shared) (H : Hp) (C : Addr) (cl : List (Str × Addr)) (fp : List Addr), PE (X.blk s H scope (compEnvC scope cl C X.env) fp) elt (fun σ H Q => ∃ q : { q : Lv × (Dat → Prop) // ∀ (s : Shared) (H : Hp) (C : Addr) (cl : List (Str × Addr)) (fp : List Addr), JE (X.blk s H scope (compEnvC scope cl C X.env) fp) en elt q.1 q.2 }, tE X.K en q.1.1 q.1.2 σ H Q) :=
    fun s H C cl fp => PE.any fun q => q.2 s H C cl fp
  have htt : ∀ (s : Shared) (H : Hp) (C : Addr) (cl : List (Str × Addr)) (fp : List Addr), PTs (X.blk s H scope (compEnvC scope cl C X.env) fp) ifs (fun σ H Q => ∃ q : { q : Lv × (Bool → Prop) // ∀ (s : Shared) (H : Hp) (C : Addr) (cl : List (Str × Addr)) (fp : List Addr), PTs (X.blk s H scope (compEnvC scope cl C X.env) fp) ifs (tT X.K en q.1 q.2) }, tT X.K en q.1.1 q.1.2 σ H Q) :=
    fun s H C cl fp => ⟨fun pins s1 σ H1 Q I ⟨q, z⟩ => (q.2 s H C cl fp).run pins s1 σ H1 Q I z⟩
  refine ⟨own, _, gT X.K t, _, _, hi, ok, hg, htt, he, hs, fun σ H Q ⟨G, S, k⟩ => ⟨G, S, fun J G1 H1 items f ri sq D hD => ?_⟩⟩
  have gD : G1 D = none := none_G f.gh hD
  have fD : Fm none G1 H1 G1 (upd H1 D (.lst [])) := Fm.loose f.gh hD
  refine ⟨fun i m H => m = items.length - i ∧ i ≤ items.length ∧ ∃ G2 acc vs, Fm en.da G1 H1 G2 H ∧ H D = some (.lst vs) ∧ G2 D = none ∧ Reps X.K G2 acc vs ∧ A items i acc ∧ acc.length ≤ i,
    ⟨items.length, by simp, Nat.zero_le _, G1, [], [], fD.lift f.drw, upd_same, gD, Reps.nil, (h0 items ri).2, Nat.le_refl 0⟩, ?_⟩
  rintro i m H2 ⟨rfl, hi2, G2, acc, vs, f2, hvs, g2, rs, ha, hal⟩
  by_cases hlt : i < items.length
  · refine .inr ⟨sq.go i H2 (f2.gg.gh f2.gh) hlt, fun H3 => ∃ G3 acc vs, Fm en.da G1 H1 G3 H3 ∧ H3 D = some (.lst vs) ∧ G3 D = none ∧ Reps X.K G3 acc vs ∧ A items (i + 1) acc ∧ acc.length ≤ i + 1, fun H3 z => ⟨items.length - (i + 1), by omega, rfl, hlt, z⟩, fun x H3 hy => ?_⟩
    have hd2 : items[i]? = some items[i] := List.getElem?_eq_getElem hlt
    obtain ⟨G3, f3, rx⟩ := sq.yld i G2 H2 x H3 _ f2.gg f2.gh hd2 hy
    obtain ⟨δ2, Rt, Re, hb, jt, je, a1, a0⟩ := ht items i _ acc ri hd2 ha
    have f23 := f2.trans (f3.lift f2.drw)
    have S3 : Now X.K en G3 H3 (wipe σ (own.map (·.2))) (wipeL δ (own.map (·.2))) := now_wipe (S.step (f.trans f23)) _
    have keepD : ∀ {Ga Ha Gb Hb : Hp} {us : List V}, (∀ a, en.da = some a → ∃ o, H1 a = some o) → Fm en.da Ga Ha Gb Hb → Ha D = some (.lst us) → Ga D = none → Hb D = some (.lst us) ∧ Gb D = none := fun {Ga Ha Gb Hb us} hda ff h1 h2 =>
      ⟨ff.hh D _ (fun z => by obtain ⟨o, ho⟩ := hda D z; rw [hD] at ho; cases ho) (nomk_none h2) h1, by rw [ff.new D _ h1]; exact h2⟩
    have hda : ∀ a, en.da = some a → ∃ o, H1 a = some o := fun a e => by
      obtain ⟨pos, nb, ns, q, _⟩ := f.drw a e
      exact ⟨_, q⟩
    obtain ⟨v3, g3⟩ := keepD hda (f3.lift f2.drw) hvs g2
    refine gT_ok hb S3 rx fun σ4 S4 o4 => ⟨wipe_off o4 hsl, ⟨(δ2, Rt), jt⟩, G3, S4, fun b G5 H5 f5 rb => ?_⟩
    obtain ⟨v5, g5⟩ := keepD hda f5 v3 g3
    have f25 := f23.trans f5
    cases b with
    | false => exact ⟨G5, acc, vs, f25, v5, g5, (rs.mono f3.gg).mono f5.gg, a0 rb, Nat.le_succ_of_le hal⟩
    | true =>
      refine ⟨⟨(δ2, Re), je⟩, G5, S4.step f5, fun y G6 H6 d6 f6 r6 p6 => ?_⟩
      obtain ⟨v6, g6⟩ := keepD hda f6 v5 g5
      have f26 := f25.trans f6
      have hsz := (h0 items ri).1
      have rs6 := ((rs.mono f3.gg).mono f5.gg).mono f6.gg
      refine ⟨vs, v6, by rw [rs.length]; omega, G6, acc ++ [d6], vs ++ [y], ?_, upd_same, g6, rs6.append (Reps.one p6), a1 rb _ r6, by rw [List.length_append, List.length_singleton]; omega⟩
      refine ⟨f26.gg, fun b o q => ?_, fun b o e m q => ?_, f26.new, fun a e => ?_⟩
      · rw [upd_ne (fun z => by rw [z, g6] at q; cases q)]
        exact f26.gh b o q
      · rw [upd_ne (ne_of_none q hD)]
        exact f26.hh b o e m q
      · obtain ⟨⟨o, ho⟩, pos, nb, ns, q1, q2, q3, q4⟩ := f26.dr a e
        exact ⟨⟨o, ho⟩, pos, nb, ns, by rw [upd_ne (ne_of_none ho hD)]; exact q1, q2, q3, q4⟩
  · have e : i = items.length := by omega
    rw [e] at ha ⊢
    exact .inl ⟨sq.stop H2 (f2.gg.gh f2.gh), k D vs G2 H2 acc (f.trans f2) (hd items acc ri ha) hvs (f.none_of hD) g2 rs⟩
theorem pts_yes {X : Cx} {en : En} {δ : Lv} : PTs X [] (tT X.K en δ (Is true)) := ⟨fun pins s σ H Q I ⟨G, S, k⟩ => pts_nil.run pins s σ H Q I (k true G H S.fm rfl)⟩
/-- without a test: each item its element -/
theorem lc_map {t : Tg} {elt : Expr} {scope : Scope} {own : List (Str × Nat)} {items : List Dat} (f : Nat → Dat) (hi : JI X en tg iter δ (Is items)) (ok : BlkOk X.N X.env.scope scope own)
    (hg : ∀ (s : Shared) (H : Hp) (C : Addr) (cl : List (Str × Addr)) (fp : List Addr), JG (X.blk s H scope (compEnvC scope cl C X.env) fp) tg t) (hsl : ∀ i ∈ slotsT t, i ∈ own.map (·.2)) (hz : items.length ≤ sizeLine)
    (he : ∀ i d, items[i]? = some d → ∃ δ2 : Lv, bindT t d (wipeL δ (own.map (·.2))) = some δ2 ∧ ∀ (s : Shared) (H : Hp) (C : Addr) (cl : List (Str × Addr)) (fp : List Addr), JE (X.blk s H scope (compEnvC scope cl C X.env) fp) en elt δ2 (Is (f i)))
    (hs : ∀ x, foldedSetIterable iter X.env x = pure x := by intro _; rfl) :
    LcOk X en δ elt tg iter [] scope (Is ((List.range items.length).map f)) := by
  refine lc_T (fun its i acc => its = items → acc = (List.range i).map f) hi ok hg hsl (fun its r => ⟨by rw [show its = items from r]; exact hz, fun _ => rfl⟩) (fun its i d acc r hd ha => ?_) (fun its acc r ha => ?_) hs
  · have e : its = items := r
    rw [e] at hd
    obtain ⟨δ2, hb, je⟩ := he i d hd
    refine ⟨δ2, Is true, Is (f i), hb, fun s H C cl fp => pts_yes, je, fun _ y ry _ => ?_, fun q => nomatch (show false = true from q)⟩
    rw [ha e, List.range_succ, List.map_append, show y = f i from ry]
    rfl
  · have e : its = items := r
    rw [← e]
    exact ha e
/-- without a test, the elements by a word -/
theorem lc_N {t : Tg} {elt : Expr} {scope : Scope} {own : List (Str × Nat)} {RI : List Dat → Prop} (W : Dat → Prop) (n : Nat) (hi : JI X en tg iter δ RI) (ok : BlkOk X.N X.env.scope scope own)
    (hg : ∀ (s : Shared) (H : Hp) (C : Addr) (cl : List (Str × Addr)) (fp : List Addr), JG (X.blk s H scope (compEnvC scope cl C X.env) fp) tg t) (hsl : ∀ i ∈ slotsT t, i ∈ own.map (·.2)) (hz : ∀ items, RI items → items.length = n) (hn : n ≤ sizeLine)
    (he : ∀ (items : List Dat) (i : Nat) (d : Dat), RI items → items[i]? = some d → ∃ δ2 : Lv, bindT t d (wipeL δ (own.map (·.2))) = some δ2 ∧ ∀ (s : Shared) (H : Hp) (C : Addr) (cl : List (Str × Addr)) (fp : List Addr), JE (X.blk s H scope (compEnvC scope cl C X.env) fp) en elt δ2 W)
    (hs : ∀ x, foldedSetIterable iter X.env x = pure x := by intro _; rfl) :
    LcOk X en δ elt tg iter [] scope (fun ds => ds.length = n ∧ ∀ d ∈ ds, W d) := by
  refine lc_T (fun its i acc => acc.length = i ∧ ∀ d ∈ acc, W d) hi ok hg hsl (fun its r => ⟨by rw [hz its r]; exact hn, rfl, fun d hd => nomatch hd⟩) (fun its i d acc r hd ha => ?_) (fun its acc r ha => ⟨by rw [ha.1, hz its r], ha.2⟩) hs
  obtain ⟨δ2, hb, je⟩ := he its i d r hd
  refine ⟨δ2, Is true, W, hb, fun s H C cl fp => pts_yes, je, fun _ y ry => ⟨by rw [List.length_append, ha.1]; rfl, fun z hz => ?_⟩, fun q => nomatch (show false = true from q)⟩
  rcases List.mem_append.mp hz with q | q
  · exact ha.2 z q
  · rw [List.mem_singleton.mp q]
    exact ry
/-- name = [..] on one line, the name a local; one's own -/
theorem pts_one' {X : Cx} {en : En} {δ : Lv} {c : Expr} {R : Bool → Prop} (h : JT X en c δ R) : PTs X [c] (tT X.K en δ R) := pts_one h
end

/-! ### defs -/
/-- a def's promise by data: W arguments, results, (what is raised: kind, its number) -/
abbrev Wf := List Sl → (Dat → Prop) → (Nat → Int → Prop) → Prop
def eN : Nat → Str
  | 0 => "BadPosition"
  | 1 => "BadFloor"
  | _ => "BadPaper"
def eA (K : PySem.W.Frag) (k : Nat) : Addr := gA K (eN k)
def SpJ (K : PySem.W.Frag) (W : Wf) : Sp := fun vs H Q E => ∃ (da : Option Addr) (G : Hp) (ss : List Sl) (R : Dat → Prop) (Z : Nat → Int → Prop), Gh G H ∧ (∀ a, da = some a → DrwOk G H a) ∧ ArgsOk K da G ss vs ∧ W ss R Z ∧
  (∀ v G' H' d, Fm da G H G' H' → R d → Rep K G' d v → Q v H') ∧ (∀ k n dd G' H', Fm da G H G' H' → Z k n → H dd = none → H' dd = some (.xd [(("disc" : Str), .int n)]) → E (.ref (eA K k)) (some dd) H')
/-- where a def stands: its object, how its arguments bind, the module's name -/
def DefJ (P : Program) (w : World) (K : PySem.W.Frag) (mg : Str → Option Value) (base : Heap) (x : Str) (k : Nat) (ps : List Str) (W : Wf) : Prop :=
  ∃ fd : FuncData, FnOk P w K mg base (L2.CX P w) k (gA K x) fd ps (SpJ K W) ∧ Binds K fd ps [] ∧ mg x = some (.ref (gA K x)) ∧ PySem.W.keepIn K (.ref (gA K x)) = true
section
variable {X : Cx} {en : En} {δ : Lv} {e : Expr} {es : List Expr} {R : Dat → Prop} {pos p1 : Pos}
/-- a call of a def that raises nothing here -/
theorem je_call {x : Str} {k : Nat} {ps : List Str} {W : Wf} {Rs : List Sl → Prop} (F : DefJ X.prog X.w X.K X.mg X.base x k ps W) (ha : JA X en (e :: es) δ Rs) (h : ∀ ss, Rs ss → W ss R (fun _ _ => False)) (hr : Room k X.A) (hg : Gl X x := by rfl) (hdb : (x == ("__debug__" : Str)) = false := by decide)
    (he : starEach (e :: es) X.env = (false, eval e X.env) :: starEach es X.env := by rfl) (hpl : (backTo pos (starEach es X.env)).any (·.1) = false := by rfl) : JE X en (.Call (.Name x p1) (e :: es) [] pos) δ R := by
  obtain ⟨fd, F1, hb, hm, hk⟩ := F
  refine PE.weak (pe_call F1 hr hg hm hk hb .nil passL ha hdb he hpl) fun σ H Q ⟨G, S, q⟩ => ⟨G, S, fun vs G1 H1 ss f rs ps => ?_⟩
  show SpJ X.K W (vs ++ []) H1 Q E0
  rw [List.append_nil]
  exact ⟨en.da, G1, ss, R, fun _ _ => False, f.gh, f.drw, ps, h ss rs, fun v G' H' d f2 rd rp => q v G' H' d (f.trans f2) rd rp, fun k n dd G' H' _ z => z.elim⟩
theorem je_callI {x : Str} {k : Nat} {ps : List Str} {W : Wf} {ss : List Sl} (F : DefJ X.prog X.w X.K X.mg X.base x k ps W) (ha : JA X en (e :: es) δ (Is ss)) (h : W ss R (fun _ _ => False)) (hr : Room k X.A) (hg : Gl X x := by rfl) (hdb : (x == ("__debug__" : Str)) = false := by decide)
    (he : starEach (e :: es) X.env = (false, eval e X.env) :: starEach es X.env := by rfl) (hpl : (backTo pos (starEach es X.env)).any (·.1) = false := by rfl) : JE X en (.Call (.Name x p1) (e :: es) [] pos) δ R :=
  je_call F ha (fun ss' q => by rw [show ss' = ss from q]; exact h) hr hg hdb he hpl
/-- a call of a def that may raise: what the exception is to find -/
theorem je_callX {x : Str} {k : Nat} {ps : List Str} {W : Wf} {ss : List Sl} {Wx : WX} (Z : Nat → Int → Prop) (F : DefJ X.prog X.w X.K X.mg X.base x k ps W) (ha : JA X en (e :: es) δ (Is ss)) (h : W ss R Z) (hr : Room k X.A) (tk : Takes X Wx)
    (hZ : ∀ k n dd G' H' σ, Z k n → Now X.K en G' H' σ δ → en.H0 dd = none → H' dd = some (.xd [(("disc" : Str), .int n)]) → Wx (.ref (eA X.K k)) (some dd) σ H') (hg : Gl X x := by rfl) (hdb : (x == ("__debug__" : Str)) = false := by decide)
    (he : starEach (e :: es) X.env = (false, eval e X.env) :: starEach es X.env := by rfl) (hpl : (backTo pos (starEach es X.env)).any (·.1) = false := by rfl) : JE X en (.Call (.Name x p1) (e :: es) [] pos) δ R := by
  obtain ⟨fd, F1, hb, hm, hk⟩ := F
  refine PE.weak (pe_callS F1 hr hg hm hk hb (E := fun σ => WE Wx σ) (fun σ => passAt tk σ) ha hdb he hpl) fun σ H Q ⟨G, S, q⟩ => ⟨G, S, fun vs G1 H1 ss' f rs ps => ?_⟩
  rw [show ss' = ss from rs] at ps
  exact ⟨en.da, G1, ss, R, Z, f.gh, f.drw, ps, h, fun v G' H' d f2 rd rp => q v G' H' d (f.trans f2) rd rp, fun k n dd G' H' f2 z h0 hdd => hZ k n dd G' H' σ z ((S.step f).step f2) ((S.f0.trans f).none_of h0) hdd⟩
theorem ArgsOk.start {K : PySem.W.Frag} {da : Option Addr} {G : Hp} : ∀ {ss : List Sl} {vs : List V}, ArgsOk K da G ss vs → ss.length = vs.length ∧ (∀ (i : Nat) sl, ss[i]? = some sl → ∃ v, vs[i]? = some v ∧ ∀ H0 H, SlOk K da H0 G H sl v) ∧ ∀ (i : Nat) ds, ss[i]? ≠ some (.own ds)
  | [], vs, h => by
    have e : vs = [] := h
    rw [e]
    exact ⟨rfl, fun i sl q => by simp at q, fun i ds q => by simp at q⟩
  | .dat d :: ss, vs, ⟨v, r, e, h1, h2⟩ => by
    obtain ⟨l, a, b⟩ := ArgsOk.start h2
    rw [e]
    refine ⟨by rw [List.length_cons, List.length_cons, l], fun i sl q => ?_, fun i ds q => ?_⟩
    · cases i with
      | zero =>
        have e1 : Sl.dat d = sl := Option.some.inj q
        rw [← e1]
        exact ⟨v, rfl, fun _ _ => h1⟩
      | succ i => exact a i sl q
    · cases i with
      | zero => cases q
      | succ i => exact b i ds q
  | .drw :: ss, vs, ⟨p, r, e, h1, h2⟩ => by
    obtain ⟨l, a, b⟩ := ArgsOk.start h2
    rw [e]
    refine ⟨by rw [List.length_cons, List.length_cons, l], fun i sl q => ?_, fun i ds q => ?_⟩
    · cases i with
      | zero =>
        have e1 : Sl.drw = sl := Option.some.inj q
        rw [← e1]
        exact ⟨.ref p, rfl, fun _ _ => ⟨p, h1, rfl⟩⟩
      | succ i => exact a i sl q
    · cases i with
      | zero => cases q
      | succ i => exact b i ds q
  | .own _ :: _, _, h => h.elim
  | .slf _ _ _ :: _, _, h => h.elim
  | .dcs _ _ :: _, _, h => h.elim
def startL (N : List Str) (ss : List Sl) : Lv := ss.map some ++ List.replicate (N.length - ss.length) none
theorem now_start {K : PySem.W.Frag} {da : Option Addr} {G H : Hp} {ss : List Sl} {vs : List V} {N : List Str} (e : Gh G H) (d : ∀ a, da = some a → DrwOk G H a) (h : ArgsOk K da G ss vs) : Now K ⟨da, G, H⟩ G H (L2.start N vs) (startL N ss) := by
  obtain ⟨l, a, b⟩ := h.start
  have at1 : ∀ (i : Nat) sl, (startL N ss)[i]? = some (some sl) → ss[i]? = some sl := fun i sl q => by
    unfold startL at q
    by_cases hi : i < ss.length
    · rw [List.getElem?_append_left (by rw [List.length_map]; exact hi), List.getElem?_map] at q
      cases e2 : ss[i]? with
      | none =>
        rw [e2] at q
        cases q
      | some s2 =>
        rw [e2] at q
        have e3 : some s2 = some sl := Option.some.inj q
        exact e3
    · rw [List.getElem?_append_right (by rw [List.length_map]; omega), List.getElem?_replicate] at q
      split at q <;> cases q
  refine ⟨⟨e, fun a q => ⟨?_, d a q⟩, ?_, fun i sl q => ?_, fun i j ds es p q _ _ _ => absurd (at1 i _ q) (b i ds)⟩, Fm.refl e d⟩
  · obtain ⟨pos, nb, ns, q1, _⟩ := d a q
    exact ⟨_, q1⟩
  · unfold L2.start startL
    rw [List.length_append, List.length_append, List.length_map, List.length_map, List.length_replicate, List.length_replicate, l]
  · obtain ⟨v, hv, ok⟩ := a i sl (at1 i sl q)
    refine ⟨v, ?_, ok _ _⟩
    unfold L2.start
    rw [List.getElem?_append_left (by rw [List.length_map]; exact (List.getElem?_eq_some_iff.mp hv).1), List.getElem?_map, hv]
    rfl
/-- THE RULE for a def -/
theorem defj {P : Program} {w : World} {K : PySem.W.Frag} {mg : Str → Option Value} {base : Heap} {x qual : Str} {params : Arguments} {body : List Stmt} {scope : Scope} {fd : FuncData} {N ps : List Str} {k : Nat} {W : Wf} (f : Addr)
    (F : FunD K x qual params body scope [] [] f fd) (S : FnScope N ps scope) (hl : ∀ ss R Z, W ss R Z → ss.length = ps.length)
    (hb : ∀ (cdv : Value) (A : Around) (outer : List Env) (s : Shared) (H : Hp) (E : XK) (en : En) (ss : List Sl) (R : Dat → Prop) (Z : Nat → Int → Prop), Room k (A.deeper (envOfC qual scope s.heap.objs.size f cdv)) → W ss R Z →
      (∀ k n dd G' H', Z k n → Fm en.da en.G0 en.H0 G' H' → en.H0 dd = none → H' dd = some (.xd [(("disc" : Str), .int n)]) → E (.ref (eA K k)) (some dd) H') →
      JB (cxOf (L2.CX P w) P w K mg base N qual scope f cdv A outer s H E) en body (startL N ss) { nx := fun _ => R .non, rt := R }) : FnOk P w K mg base (L2.CX P w) (k + 1) f fd ps (SpJ K W) := by
  refine F.ok S (fun vs H Q E ⟨da, G, ss, R, Z, e, d, ha, hw, _⟩ => by rw [← ha.start.1]; exact hl ss R Z hw) (fun cdv A outer s H vs Q E hr ⟨da, G, ss, R, Z, e, d, ha, hw, q, qx⟩ => ⟨_, hb cdv A outer s H E ⟨da, G, H⟩ ss R Z hr hw (fun k n dd G' H' z f h0 hd => qx k n dd G' H' f z h0 hd), ?_⟩)
  exact ⟨G, now_start e d ha, fun σ' G' H' δ' _ S' r => q _ G' H' .non S'.f0 r rfl, fun v G' H' d' f r p => q v G' H' d' f r p, fun _ _ _ _ _ _ z => z.elim, fun _ _ _ _ _ _ z => z.elim⟩
end
end PJ
end
section
set_option maxHeartbeats 4000000
/-! enumerate and zip over lists and tuples in any mix. -/
namespace PX
open PySem PySem.Spec PyProof.Rows L2 PJ

def SqB (K : PySem.W.Frag) : Bool → Hp → Addr → List V → Prop
  | true => SqL K
  | false => SqT K
def IterB : Bool → Heap → Addr → Addr → Nat → Prop
  | true, h, it, a, i => h.IsListIter it a i
  | false, h, it, a, i => h.IsTupleIter it a i
def ItemsB : Bool → Heap → Addr → Array Value → Prop
  | true, h, a, its => h.IsList a its
  | false, h, a, its => h.IsTuple a its
def iterO : Bool → Addr → Obj
  | true, a => { cls := .type "list_iterator", data := .fields #[.ref a, .int 0 0] }
  | false, a => { cls := .type "tuple_iterator", data := .fields #[.ref a, .int 0 0] }
theorem iterB_new : ∀ {k : Bool} {h : Heap} {it a : Addr}, h.get? it = some (iterO k a) → IterB k h it a 0
  | true, _, _, _, e => ⟨_, e, rfl, rfl⟩
  | false, _, _, _, e => ⟨_, e, rfl, rfl⟩
theorem iterB_obj : ∀ {k : Bool} {h : Heap} {it a : Addr} {i : Nat}, IterB k h it a i → ∃ o, h.get? it = some o ∧ ∀ v, o.data ≠ .cell v
  | true, _, _, _, _, ⟨o, e, _, d⟩ => ⟨o, e, fun v q => by rw [d] at q; cases q⟩
  | false, _, _, _, _, ⟨o, e, _, d⟩ => ⟨o, e, fun v q => by rw [d] at q; cases q⟩
theorem iterB_at : ∀ {k : Bool} {h h' : Heap} {it a : Addr} {i : Nat}, IterB k h it a i → (∀ o, h.get? it = some o → h'.get? it = some o) → IterB k h' it a i
  | true, _, _, _, _, _, x, f => Heap.IsListIter.at x f
  | false, _, _, _, _, _, x, f => Heap.IsTupleIter.at x f
theorem drawsB {prog : Program} {w : World} {A : Around} (hh : A.handled = none) (k : Bool) (it a : Addr) (hne : a ≠ it) (its : Array Value) :
    Draws prog w A it [it, a] its.size (fun i v => its[i]? = some v) (fun i h => IterB k h it a i ∧ ItemsB k h a its) := by
  cases k with
  | true => exact Draws.list hh it a hne its
  | false => exact Draws.tuple hh it a hne its
theorem beginsB (k : Bool) (a : Addr) (its : Array Value) : Begins (.ref a) (iterO k a) fun h => ItemsB k h a its := by
  cases k with
  | true => exact begins_list a its
  | false => exact begins_tuple a its
section
variable {X : Cx} {pins : List (Addr × Obj)} {σ : L2.St} {H : Hp} {s : Shared}
theorem itemsB_of (I : Inv X pins σ H s) {k : Bool} {a : Addr} {xs : List V} (h : SqB X.K k H a xs) : ∃ its : List Value, Vals xs its ∧ ItemsB k s.heap a its.toArray ∧ a < s.heap.objs.size := by
  cases k with
  | true =>
    obtain ⟨its, rv, p, _⟩ := I.list h
    exact ⟨its, rv, p.isList, p.lt⟩
  | false =>
    obtain ⟨its, rv, p, _⟩ := I.tuple h
    exact ⟨its, rv, (show s.heap.IsTuple a its.toArray from p), p.lt⟩
theorem sqB_inj (I : Inv X pins σ H s) {k : Bool} {a : Addr} {xs ys : List V} (h : SqB X.K k H a xs) (h' : SqB X.K k H a ys) : xs = ys := by
  cases k with
  | true => exact I.list_inj h h'
  | false => exact I.tuple_inj h h'
end

/-! ### enumerate -/
def IteB (K : PySem.W.Frag) (k : Bool) (a : Addr) : It :=
  ⟨fun i H => ∃ (xs : List V) (x : V), SqB K k H a xs ∧ xs[i]? = some x, fun i H v H' => ∃ T x, v = .ref T ∧ H T = none ∧ H' = upd H T (.tup [.int (i : Nat), x]) ∧ ∀ xs, SqB K k H a xs → xs[i]? = some x, fun i H => ∃ xs : List V, SqB K k H a xs ∧ xs.length = i⟩
theorem turn_enumB {P : Program} {w : World} {K : PySem.W.Frag} {elts : List Expr} {kk : Nat} {tpos : Pos} (k : Bool) (a e it : Addr) (hae : a ≠ e) (hai : a ≠ it) :
    Turn P w K (.Tuple elts kk tpos) (IteB K k a) [e, it] e (fun i h => (∃ old, IsEnum h e it ((i : Nat) : Int) old) ∧ IterB k h it a i ∧ e ≠ it) where
  mem := by simp
  obj := fun i h st b hb => by
    obtain ⟨⟨old, he⟩, hi, _⟩ := st
    have e' : b = e ∨ b = it := by simpa using hb
    rcases e' with z | z
    · rw [z]; exact ⟨_, he, fun v q => nomatch q⟩
    · rw [z]; exact iterB_obj hi
  keep := fun i h h' st k => let ⟨⟨old, he⟩, hi, hne⟩ := st; ⟨⟨old, k e (by simp) _ he⟩, iterB_at hi fun o q => k it (by simp) o q, hne⟩
  item := by
    intro X hP hw hK hc i pins s σ H E I hf st hg
    subst hP hw hK
    obtain ⟨⟨old, he⟩, hit, hne⟩ := st
    obtain ⟨xs, x, hq, hx⟩ := hg
    obtain ⟨its, rv, p, hz⟩ := itemsB_of I hq
    obtain ⟨u, hu, ru⟩ := rv.get hx
    have hel : e < s.heap.objs.size := Heap.lt_size he
    have hil : it < s.heap.objs.size := by obtain ⟨_, q, _⟩ := iterB_obj hit; exact Heap.lt_size q
    have D : Draws X.prog X.w X.A.in1 it [it, a] its.toArray.size (fun i v => its.toArray[i]? = some v) (fun i h => IterB k h it a i ∧ ItemsB k h a its.toArray) := drawsB (A := X.A.in1) (I.ok.hd hc) k it a hai its.toArray
    have hlt : i < its.toArray.size := by
      obtain ⟨z, _⟩ := List.getElem?_eq_some_iff.mp hu
      simpa using z
    refine wpAny_pyNext_enum_itemD D he ⟨hit, p⟩ hlt hne (fun z => ?_) fun x2 h' tk px ho st' hT hsz hk => ?_
    · rcases List.mem_cons.mp z with z | z
      · exact hne z
      · exact hae (List.mem_singleton.mp z).symm
    have ex2 : x2 = u := by
      have q : its[i]? = some x2 := by simpa using px
      rw [hu] at q
      exact (Option.some.inj q).symm
    refine ⟨_, rfl, wpAny_letOwnedTupleGo_enum (s := { s with heap := h', toks := tk + 1 }) ho fun h'' he' sb => ?_⟩
    have hT2 : h''.get? s.heap.objs.size = some { cls := .type "tuple", data := .seq #[.int i tk, x2] } := (sb.2 _ (Nat.ne_of_gt hel)).trans hT
    rw [ex2] at hT2
    have new : ObjOk X.prog X.w (upd H s.heap.objs.size (.tup [.int (i : Nat), x])) h'' s.heap.objs.size (.tup [.int (i : Nat), x]) :=
      ⟨by show 2 ≤ sizeLine; decide, [.int i tk, u], .cons ⟨_, rfl⟩ (.cons ru .nil), ⟨_, hT2, rfl, _, rfl⟩⟩
    have I1 : Inv X pins σ (upd H s.heap.objs.size (.tup [.int (i : Nat), x])) { s with heap := h'', toks := tk + 1 } :=
      I.turnedNew (ch := [e, it]) (fun b ob hb q => (sb.2 b (fun z => hb (by simp [z]))).trans (hk b ob (fun z => hb (by simp [z])) (fun z => hb (by simp [z])) q)) hf (Nat.le_refl _) new
    refine ⟨.ref s.heap.objs.size, _, I1, rfl, ⟨_, x, rfl, I.hok.fresh (Nat.le_refl _), rfl, fun ys hy => by rw [sqB_inj I hy hq]; exact hx⟩, ⟨⟨x2, ?_⟩, iterB_at st'.1 fun o q => (sb.2 it (Ne.symm hne)).trans q, hne⟩, fun b hb => ?_⟩
    · have e1 : ((i + 1 : Nat) : Int) = (i : Int) + 1 := by omega
      rw [e1]; exact he'
    · have hb' : b < s.heap.objs.size := by
        have e' : b = e ∨ b = it := by simpa using hb
        rcases e' with z | z
        · rw [z]; exact hel
        · rw [z]; exact hil
      rw [upd_ne (Nat.ne_of_lt hb')]
      exact (hf b hb).1
  done := by
    intro X hP hw hK hc i pins s σ H E I hf st hg
    subst hP hw hK
    obtain ⟨⟨old, he⟩, hit, hne⟩ := st
    obtain ⟨xs, hq, hx⟩ := hg
    obtain ⟨its, rv, p, hz⟩ := itemsB_of I hq
    obtain ⟨f0, f1, f2, f3, f4, f5⟩ := hf it (by simp)
    have hl := rv.length
    have D : Draws X.prog X.w X.A.in1 it [it, a] its.toArray.size (fun i v => its.toArray[i]? = some v) (fun i h => IterB k h it a i ∧ ItemsB k h a its.toArray) := drawsB (A := X.A.in1) (I.ok.hd hc) k it a hai its.toArray
    have e1 : its.toArray.size = i := by rw [List.size_toArray]; omega
    refine wpAny_pyNext_enum_endD D he ⟨by rw [e1]; exact hit, p⟩ fun h' eb => ⟨rfl, I.turned (t' := s.toks) (fun b o hb q => eb b o hb q) f0 f1 f3 f4 f5⟩
  self := fun A i s Q E st h => let ⟨⟨_, he⟩, _⟩ := st; wpAny_pyIter_enum he h
theorem meets_enumerate_newB0 {v : Value} {o : Obj} {H : Heap → Prop} (B : Begins v o H) :
    Meets (Builtin.«enumerate.__new__» ⟨[.type "enumerate", v], []⟩) (fun _ R s => H s.heap ∧
      R (.ok (.ret (.ref (s.heap.push o).objs.size))) { s with heap := (s.heap.push o).push { cls := .type "enumerate", data := .fields #[.none, .bool false, .ref s.heap.objs.size, rawInt 0, .none, .none] } }) :=
  .of_wp fun prog w A R s h => by
    obtain ⟨hp, g, d, tk, os⟩ := s; obtain ⟨h1, h⟩ := h
    have hsub := sub_enumerate
    have q1 : ∀ {A' : Around} {E : Value → Shared → Prop} {Q : Value → Shared → Prop}, Q (.ref hp.objs.size) ⟨hp.push o, g, d, tk, os⟩ → wpAny (model prog w) A' (pyIter v) Q E ⟨hp, g, d, tk, os⟩ :=
      fun q => B.iter prog w _ _ ⟨hp, g, d, tk, os⟩ _ h1 q
    wp_walk using q1
    refine wpAny_stack_any fun st => wpAny_pure ?_
    split
    · rename_i c _ _ _ _ _
      cases (c == Value.type "enumerate")
      · wp_walk using q1
        exact ⟨_, rfl, h⟩
      · wp_walk using q1
        exact ⟨_, rfl, h⟩
    · wp_walk using q1
      exact ⟨_, rfl, h⟩
theorem enum_begins0 {prog : Program} {w : World} {A : Around} {E : Value → Shared → Prop} {s : Shared} {v : Value} {o : Obj} {H : Heap → Prop} {Q : Value → Shared → Prop} (B : Begins v o H) (h1 : H s.heap)
    (h : ∀ h', IsEnum h' (s.heap.objs.size + 1) s.heap.objs.size 0 .none → h'.get? s.heap.objs.size = some o → h'.objs.size = s.heap.objs.size + 2 →
      (∀ b o, s.heap.get? b = some o → h'.get? b = some o) → Q (.ref (s.heap.objs.size + 1)) { s with heap := h' }) :
    wpAny (model prog w) A (call (.type "enumerate") [v]) Q E s := by
  refine callType_new F.called_enumerate (by decide) (F.typeCall_enumerate_1 _) (F.newCall_enumerate_1 _) (fun obj => F.args_object_init_2 obj _) F.entry_enumerate_new
    (meets_enumerate_newB0 B) ⟨h1, ?_⟩
  have hz : (s.heap.push o).objs.size = s.heap.objs.size + 1 := Heap.size_push ..
  show _ ∧ _
  rw [hz]
  have he : IsEnum ((s.heap.push o).push { cls := .type "enumerate", data := .fields #[.none, .bool false, .ref s.heap.objs.size, rawInt 0, .none, .none] }) (s.heap.objs.size + 1) s.heap.objs.size 0 .none := by
    have := Heap.get?_push_size (s.heap.push o) (o := { cls := .type "enumerate", data := .fields #[.none, .bool false, .ref s.heap.objs.size, rawInt 0, .none, .none] }) rfl
    rw [hz] at this; exact this
  refine ⟨⟨_, he, rfl⟩, h _ he (Heap.get?_push_of_some _ (Heap.get?_push_size _ B.free)) (by rw [Heap.size_push, hz]) fun b o x => Heap.get?_push_of_some _ (Heap.get?_push_of_some _ x)⟩
def iEnumB (K : PySem.W.Frag) (ta : TA) : TI := fun σ H R => ta σ H fun vs H1 => ∃ k a xs, vs = [.ref a] ∧ SqB K k H1 a xs ∧ R (IteB K k a) H1
theorem pi_enumB {X : Cx} {e : Expr} {ta : TA} {p pos tpos : Pos} {elts : List Expr} {kk : Nat} (hg : Gl X "enumerate") (hm : X.mg "enumerate" = none) (ha : PA X [e] ta) (hs : starEach [e] X.env = [(false, eval e X.env)] := by rfl) :
    PI X (.Tuple elts kk tpos) (.Call (.Name "enumerate" p) [e] [] pos) (iEnumB X.K ta) := by
  refine ⟨fun pins s σ H R I h => ?_⟩
  refine Call_ (ld_blt I hg hm boot_enumerate (PyProof.Rows.callWith_type1 (thn (ha.run pos pins s σ H _ I h) fun us s1 ⟨vs, H1, I1, r1, q1⟩ => ?_) hs rfl))
  obtain ⟨k, a, xs, ex, hq, q⟩ := q1
  subst ex
  cases r1 with
  | cons r rr =>
    cases rr
    cases r
    obtain ⟨its, rv, p', hz⟩ := itemsB_of I1 hq
    refine enum_begins0 (beginsB k a its.toArray) p' fun h' he hit hsz hk => wpAny_pyIter_enum he ?_
    have I2 : Inv X pins σ H1 { s1 with heap := h' } := I1.kept (t' := s1.toks) hk
    refine ⟨s1.heap.objs.size + 1, [s1.heap.objs.size + 1, s1.heap.objs.size], _, _, H1, rfl, I2, turn_enumB k a (s1.heap.objs.size + 1) s1.heap.objs.size (Nat.ne_of_lt (Nat.lt_succ_of_lt hz)) (Nat.ne_of_lt hz), ⟨⟨.none, he⟩, iterB_new hit, Nat.succ_ne_self _⟩, fun b hb => ?_, q⟩
    have e' : b = s1.heap.objs.size + 1 ∨ b = s1.heap.objs.size := by simpa using hb
    have hle : s1.heap.objs.size ≤ b := by
      rcases e' with z | z
      · rw [z]; exact Nat.le_add_right _ _
      · rw [z]; exact Nat.le_refl _
    exact I1.fpOk hle (I1.hok.fresh hle)

/-! ### zip -/
def ItzB (K : PySem.W.Frag) (k1 k2 : Bool) (a b : Addr) : It :=
  ⟨fun i H => ∃ (xs ys : List V) (x y : V), SqB K k1 H a xs ∧ SqB K k2 H b ys ∧ xs[i]? = some x ∧ ys[i]? = some y,
    fun i H v H' => ∃ T x y, v = .ref T ∧ H T = none ∧ H' = upd H T (.tup [x, y]) ∧ (∀ xs, SqB K k1 H a xs → xs[i]? = some x) ∧ ∀ ys, SqB K k2 H b ys → ys[i]? = some y,
    fun i H => ∃ xs ys : List V, SqB K k1 H a xs ∧ SqB K k2 H b ys ∧ i ≤ xs.length ∧ i ≤ ys.length ∧ (i = xs.length ∨ i = ys.length)⟩
theorem turn_zipB {P : Program} {w : World} {K : PySem.W.Frag} {elts : List Expr} {kk : Nat} {tpos : Pos} {k1 k2 : Bool} {a b z TI TO i1 i2 : Addr} (S : ZipSep2 z TI TO i1 i2 [i1, a] [i2, b]) (hai : a ≠ i1) (hbi : b ≠ i2) :
    Turn P w K (.Tuple elts kk tpos) (ItzB K k1 k2 a b) [z, TI, TO, i1, i2] z (fun i h => IsZip h z TI TO .none ∧ IsTupOf2 h TI (.ref i1) (.ref i2) ∧ (∃ x y, IsTupOf2 h TO x y) ∧ IterB k1 h i1 a i ∧ IterB k2 h i2 b i) where
  mem := by simp
  obj := fun i h st c hc => by
    obtain ⟨hz, hTI, ⟨x, y, hTO⟩, h1, h2⟩ := st
    have e' : c = z ∨ c = TI ∨ c = TO ∨ c = i1 ∨ c = i2 := by simpa using hc
    rcases e' with q | q | q | q | q
    · rw [q]; exact ⟨_, hz, fun v q => nomatch q⟩
    · rw [q]; exact ⟨_, hTI, fun v q => nomatch q⟩
    · rw [q]; exact ⟨_, hTO, fun v q => nomatch q⟩
    · rw [q]; exact iterB_obj h1
    · rw [q]; exact iterB_obj h2
  keep := fun i h h' st k => by
    obtain ⟨hz, hTI, ⟨x, y, hTO⟩, h1, h2⟩ := st
    exact ⟨k z (by simp) _ hz, k TI (by simp) _ hTI, ⟨x, y, k TO (by simp) _ hTO⟩, iterB_at h1 fun o q => k i1 (by simp) o q, iterB_at h2 fun o q => k i2 (by simp) o q⟩
  item := by
    intro X hP hw hK hc i pins s σ H E I hf st hg
    subst hP hw hK
    obtain ⟨hz, hTI, ⟨x0, y0, hTO⟩, h1, h2⟩ := st
    obtain ⟨xs, ys, x, y, hqx, hqy, hx, hy⟩ := hg
    obtain ⟨its, rv, p, _⟩ := itemsB_of I hqx
    obtain ⟨its2, rv2, p2, _⟩ := itemsB_of I hqy
    obtain ⟨u, hu, ru⟩ := rv.get hx
    obtain ⟨u2, hu2, ru2⟩ := rv2.get hy
    have hzl : z < s.heap.objs.size := Heap.lt_size hz
    have l1 : i < its.toArray.size := by
      obtain ⟨q, _⟩ := List.getElem?_eq_some_iff.mp hu
      simpa using q
    have l2 : i < its2.toArray.size := by
      obtain ⟨q, _⟩ := List.getElem?_eq_some_iff.mp hu2
      simpa using q
    refine wpAny_pyNext_zipD2_item S (drawsB (A := X.A.in1) (I.ok.hd hc) k1 i1 a hai its.toArray) (drawsB (A := X.A.in1) (I.ok.hd hc) k2 i2 b hbi its2.toArray) hz hTI hTO ⟨h1, p⟩ ⟨h2, p2⟩ l1 l2 fun x1 x2 h' tk px1 px2 z' TO' st1' st2' hT hsz hk => ?_
    have ex1 : x1 = u := by
      have q : its[i]? = some x1 := by simpa using px1
      rw [hu] at q
      exact (Option.some.inj q).symm
    have ex2 : x2 = u2 := by
      have q : its2[i]? = some x2 := by simpa using px2
      rw [hu2] at q
      exact (Option.some.inj q).symm
    rw [ex1, ex2] at hT
    refine ⟨_, rfl, wpAny_letOwnedTupleGo_zip (s := { s with heap := h', toks := tk }) z' fun h'' z'' sb => ?_⟩
    have hT2 : h''.get? s.heap.objs.size = some { cls := .type "tuple", data := .seq #[u, u2] } := (sb.2 _ (Nat.ne_of_gt hzl)).trans hT
    have new : ObjOk X.prog X.w (upd H s.heap.objs.size (.tup [x, y])) h'' s.heap.objs.size (.tup [x, y]) :=
      ⟨by show 2 ≤ sizeLine; decide, [u, u2], .cons ru (.cons ru2 .nil), ⟨_, hT2, rfl, _, rfl⟩⟩
    have I1 : Inv X pins σ (upd H s.heap.objs.size (.tup [x, y])) { s with heap := h'', toks := tk } :=
      I.turnedNew (ch := [z, TI, TO, i1, i2]) (fun c o hb q => (sb.2 c (fun q' => hb (by simp [q']))).trans (hk c o (fun q' => hb (by simp [q'])) (fun q' => hb (by simp [q'])) (fun q' => hb (by simp [q'])) (fun q' => hb (by simp [q'])) q)) hf (Nat.le_refl _) new
    refine ⟨.ref s.heap.objs.size, _, I1, rfl, ⟨_, x, y, rfl, I.hok.fresh (Nat.le_refl _), rfl, fun l hl => by rw [sqB_inj I hl hqx]; exact hx, fun l hl => by rw [sqB_inj I hl hqy]; exact hy⟩, ⟨z'', ?_, ⟨x1, x2, ?_⟩, ?_, ?_⟩, fun c hcm => ?_⟩
    · exact (sb.2 _ S.TIz).trans (hk _ _ S.TIz S.TITO S.TIi1 S.TIi2 hTI)
    · exact (sb.2 _ S.TOz).trans TO'
    · exact iterB_at st1'.1 fun o q => (sb.2 _ (Ne.symm S.zi1)).trans q
    · exact iterB_at st2'.1 fun o q => (sb.2 _ (Ne.symm S.zi2)).trans q
    · have hlt : c < s.heap.objs.size := by
        have e' : c = z ∨ c = TI ∨ c = TO ∨ c = i1 ∨ c = i2 := by simpa using hcm
        rcases e' with q | q | q | q | q
        · rw [q]; exact hzl
        · rw [q]; exact Heap.lt_size hTI
        · rw [q]; exact Heap.lt_size hTO
        · rw [q]; obtain ⟨_, e1, _⟩ := iterB_obj h1; exact Heap.lt_size e1
        · rw [q]; obtain ⟨_, e2, _⟩ := iterB_obj h2; exact Heap.lt_size e2
      rw [upd_ne (Nat.ne_of_lt hlt)]
      exact (hf c hcm).1
  done := by
    intro X hP hw hK hc i pins s σ H E I hf st hg
    subst hP hw hK
    obtain ⟨hz, hTI, ⟨x0, y0, hTO⟩, h1, h2⟩ := st
    obtain ⟨xs, ys, hqx, hqy, le1, le2, hend⟩ := hg
    obtain ⟨its, rv, p, _⟩ := itemsB_of I hqx
    obtain ⟨its2, rv2, p2, _⟩ := itemsB_of I hqy
    have l1 := rv.length
    have l2 := rv2.length
    refine wpAny_pyNext_zipD2_end S (drawsB (A := X.A.in1) (I.ok.hd hc) k1 i1 a hai its.toArray) (drawsB (A := X.A.in1) (I.ok.hd hc) k2 i2 b hbi its2.toArray) hz hTI hTO ⟨h1, p⟩ ⟨h2, p2⟩ (by rw [List.size_toArray]; omega) (by rw [List.size_toArray]; omega) (by rw [List.size_toArray, List.size_toArray]; omega) fun h' tk hk => ⟨rfl, I.turnedL (ch := [z, TI, TO, i1, i2]) (fun c o hb q =>
      hk c o (fun q' => hb (by simp [q'])) (fun q' => hb (by simp [q'])) (fun q' => hb (by simp [q'])) (fun q' => hb (by simp [q'])) q) hf⟩
  self := fun A i s Q E st h => wpAny_pyIter_zip st.1 h
def iZipB (K : PySem.W.Frag) (ta : TA) : TI := fun σ H R => ta σ H fun vs H1 => ∃ k1 k2 a b xs ys, vs = [.ref a, .ref b] ∧ SqB K k1 H1 a xs ∧ SqB K k2 H1 b ys ∧ R (ItzB K k1 k2 a b) H1
theorem pi_zipB {X : Cx} {e e2 : Expr} {ta : TA} {p pos tpos : Pos} {elts : List Expr} {kk : Nat} (hg : Gl X "zip") (hm : X.mg "zip" = none) (ha : PA X [e, e2] ta)
    (hs : starEach [e, e2] X.env = (false, eval e X.env) :: starEach [e2] X.env := by rfl) (hpl : (backTo pos (starEach [e2] X.env)).any (·.1) = false := by rfl) :
    PI X (.Tuple elts kk tpos) (.Call (.Name "zip" p) [e, e2] [] pos) (iZipB X.K ta) := by
  refine ⟨fun pins s σ H R I h => ?_⟩
  refine Call_ (ld_blt I hg hm PyProof.Rows.boot_zip (PyProof.Rows.callWith_type1 (thn (ha.run pos pins s σ H _ I h) fun us s1 ⟨vs, H1, I1, r1, q1⟩ => ?_) hs hpl))
  obtain ⟨k1, k2, a, b, xs, ys, ex, hqx, hqy, q⟩ := q1
  subst ex
  cases r1 with
  | cons r rr =>
    cases rr with
    | cons r' rr =>
      cases rr
      cases r
      cases r'
      obtain ⟨its, rv, p1, la⟩ := itemsB_of I1 hqx
      obtain ⟨its2, rv2, p2, lb⟩ := itemsB_of I1 hqy
      refine zip_begins2 (beginsB k1 a its.toArray) (beginsB k2 b its2.toArray) p1 p2 fun h' hz hTI hTO h1 h2 hsz hk => wpAny_pyIter_zip hz ?_
      have I2 : Inv X pins σ H1 { s1 with heap := h' } := I1.kept (t' := s1.toks) hk
      refine ⟨s1.heap.objs.size + 4, [s1.heap.objs.size + 4, s1.heap.objs.size + 2, s1.heap.objs.size + 3, s1.heap.objs.size, s1.heap.objs.size + 1], _, _, H1, rfl, I2,
        turn_zipB (zip_sep2 (N := s1.heap.objs.size) (fp1 := [a]) (fp2 := [b]) (fun c hc => by rw [List.mem_singleton.mp hc]; exact la) (fun c hc => by rw [List.mem_singleton.mp hc]; exact lb)) (Nat.ne_of_lt la) (Nat.ne_of_lt (Nat.lt_succ_of_lt lb)),
        ⟨hz, hTI, ⟨_, _, hTO⟩, iterB_new h1, iterB_new h2⟩, fun c hcm => ?_, q⟩
      have e' : c = s1.heap.objs.size + 4 ∨ c = s1.heap.objs.size + 2 ∨ c = s1.heap.objs.size + 3 ∨ c = s1.heap.objs.size ∨ c = s1.heap.objs.size + 1 := by simpa using hcm
      have hle : s1.heap.objs.size ≤ c := by
        rcases e' with z | z | z | z | z
        · rw [z]; exact Nat.le_add_right _ _
        · rw [z]; exact Nat.le_add_right _ _
        · rw [z]; exact Nat.le_add_right _ _
        · rw [z]; exact Nat.le_refl _
        · rw [z]; exact Nat.le_add_right _ _
      exact I1.fpOk hle (I1.hok.fresh hle)

/-! ### over data -/
section
variable {X : Cx} {en : En} {δ : Lv} {e e2 : Expr} {pos p1 tpos : Pos} {elts : List Expr} {kk : Nat}
/-- a list's or a tuple's kind -/
theorem seq_sq {K : PySem.W.Frag} {G H : Hp} (ex : Gh G H) {D : Dat} {ds : List Dat} {v : V} (hD : Seqd D ds) (h : Rep K G D v) : ∃ (k : Bool) (p : Addr) (vs : List V), v = .ref p ∧ (∀ H', Gh G H' → SqB K k H' p vs) ∧ Reps K G ds vs := by
  rcases hD with q | q
  · rw [q] at h
    obtain ⟨p, vs, ev, hp, rs⟩ := rep_lst h
    exact ⟨true, p, vs, ev, fun H' e => sqL (e _ _ hp), rs⟩
  · rw [q] at h
    obtain ⟨p, vs, ev, hp, rs⟩ := rep_tup h
    exact ⟨false, p, vs, ev, fun H' e => sqT (e _ _ hp), rs⟩
theorem ji_enum {D : Dat} {ds : List Dat} (hD : Seqd D ds) (h : JE X en e δ (Is D)) (hm : X.mg "enumerate" = none) (hg : Gl X "enumerate" := by rfl) (hs : starEach [e] X.env = [(false, eval e X.env)] := by rfl) :
    JI X en (.Tuple elts kk tpos) (.Call (.Name "enumerate" p1) [e] [] pos) δ (Is (enumD ds)) :=
  PI.weak (pi_enumB hg hm (ja_c h ja_nil hs) hs) fun σ H R' ⟨G, S, k⟩ => ⟨G, S, fun vs G1 H1 ss f r ps => by
    rw [show ss = [Sl.dat D] from r] at ps
    obtain ⟨v, ev, rv⟩ := reps1 (ArgsOk.reps (ds := [D]) ps)
    obtain ⟨kb, q, us, eq, hq, rs⟩ := seq_sq f.gh hD rv
    have hl := rs.length
    refine ⟨kb, q, us, by rw [ev, eq], hq _ f.gh, k _ G1 H1 _ f rfl ⟨fun i H2 e hi => ?_, fun i G2 H2 x H3 d2 e1 e2 hd hy => ?_, fun H2 e => ⟨us, hq _ e, by rw [enumD_len]; omega⟩⟩⟩
    · rw [enumD_len] at hi
      exact ⟨us, us[i]'(by omega), hq _ e, List.getElem?_eq_getElem (by omega)⟩
    · obtain ⟨T, y, ex, hT, eH, hx⟩ := hy
      have e4 := hx us (hq _ (e1.gh e2))
      obtain ⟨d, hdd, ed⟩ := enumD_get hd
      obtain ⟨u, hu, ru⟩ := rs.get hdd
      rw [e4] at hu
      have e5 := Option.some.inj hu
      rw [eH, ed, ex]
      refine ⟨_, Fm.new_ e2 hT, T, _, rfl, upd_same, Reps.cons (show V.int _ = V.int _ from rfl) (Reps.one ?_)⟩
      rw [e5]
      exact (ru.mono e1).mono (Ex.new (none_G e2 hT))⟩
theorem ji_zip {D D2 : Dat} {ds ds2 : List Dat} (hD : Seqd D ds) (hD2 : Seqd D2 ds2) (h : JE X en e δ (Is D)) (h2 : JE X en e2 δ (Is D2)) (hm : X.mg "zip" = none) (hg : Gl X "zip" := by rfl)
    (hs : starEach [e, e2] X.env = (false, eval e X.env) :: starEach [e2] X.env := by rfl) (hs2 : starEach [e2] X.env = (false, eval e2 X.env) :: starEach [] X.env := by rfl) (hpl : (backTo pos (starEach [e2] X.env)).any (·.1) = false := by rfl) :
    JI X en (.Tuple elts kk tpos) (.Call (.Name "zip" p1) [e, e2] [] pos) δ (Is (zipD ds ds2)) :=
  PI.weak (pi_zipB hg hm (ja_c h (ja_c h2 ja_nil hs2) hs) hs hpl) fun σ H R' ⟨G, S, k⟩ => ⟨G, S, fun vs G1 H1 ss f r ps => by
    rw [show ss = [Sl.dat D, Sl.dat D2] from r] at ps
    obtain ⟨v, v2, ev, rv, rv2⟩ := reps2 (ArgsOk.reps (ds := [D, D2]) ps)
    obtain ⟨kb, q, us, eq, hq, rs⟩ := seq_sq f.gh hD rv
    obtain ⟨kb2, q2, us2, eq2, hq2, rs2⟩ := seq_sq f.gh hD2 rv2
    have hl := rs.length
    have hl2 := rs2.length
    refine ⟨kb, kb2, q, q2, us, us2, by rw [ev, eq, eq2], hq _ f.gh, hq2 _ f.gh, k _ G1 H1 _ f rfl ⟨fun i H2 e hi => ?_, fun i G2 H2 x H3 d2 e1 e2 hd hy => ?_, fun H2 e => ⟨us, us2, hq _ e, hq2 _ e, ?_, ?_, ?_⟩⟩⟩
    · rw [zipD_len] at hi
      exact ⟨us, us2, us[i]'(by omega), us2[i]'(by omega), hq _ e, hq2 _ e, List.getElem?_eq_getElem (by omega), List.getElem?_eq_getElem (by omega)⟩
    · obtain ⟨T, y, y2, ex, hT, eH, hx, hx2⟩ := hy
      have e4 := hx us (hq _ (e1.gh e2))
      have e42 := hx2 us2 (hq2 _ (e1.gh e2))
      obtain ⟨d, d3, hdd, hdd2, ed⟩ := zipD_get hd
      obtain ⟨u, hu, ru⟩ := rs.get hdd
      obtain ⟨u2, hu2, ru2⟩ := rs2.get hdd2
      rw [e4] at hu
      rw [e42] at hu2
      have e5 := Option.some.inj hu
      have e6 := Option.some.inj hu2
      rw [eH, ed, ex]
      refine ⟨_, Fm.new_ e2 hT, T, _, rfl, upd_same, Reps.cons ?_ (Reps.one ?_)⟩
      · rw [e5]
        exact (ru.mono e1).mono (Ex.new (none_G e2 hT))
      · rw [e6]
        exact (ru2.mono e1).mono (Ex.new (none_G e2 hT))
    · rw [zipD_len]
      omega
    · rw [zipD_len]
      omega
    · rw [zipD_len]
      omega⟩
end
end PX
end
section
set_option maxHeartbeats 4000000
/-! == and in over data. -/
namespace PX
open PySem PySem.Spec PyProof.Rows L2 PJ
mutual
def pyD : Dat → PyData
  | .non => .none
  | .bl b => .bool b
  | .int i => .int i
  | .str s => .str s
  | .lst xs => .list (pyDs xs)
  | .tup xs => .tuple (pyDs xs)
  | .any => .none
  | .rng _ _ => .none
  | .ins _ _ => .none
  | .mrow _ _ _ => .none
  | .obj _ _ => .none
def pyDs : List Dat → List PyData
  | [] => []
  | d :: ds => pyD d :: pyDs ds
end
mutual
/-- data, no text in it but short ones, at most n deep -/
def okD : Nat → Dat → Bool
  | _, .non => true
  | _, .bl _ => true
  | _, .int _ => true
  | _, .str s => PyData.strOk s
  | 0, .lst _ => false
  | 0, .tup _ => false
  | n + 1, .lst xs => okDs n xs
  | n + 1, .tup xs => okDs n xs
  | _, .any => false
  | _, .rng _ _ => false
  | _, .ins _ _ => false
  | _, .mrow _ _ _ => false
  | _, .obj _ _ => false
def okDs : Nat → List Dat → Bool
  | _, [] => true
  | n, d :: ds => okD n d && okDs n ds
end
mutual
theorem ok_lay : ∀ (n : Nat) (d : Dat), okD n d = true → (pyD d).canLay0 = true ∧ (pyD d).depth ≤ n
  | n, .non, _ => by simp [pyD, PyData.canLay0, PyData.depth]
  | n, .bl _, _ => by simp [pyD, PyData.canLay0, PyData.depth]
  | n, .int _, _ => by simp [pyD, PyData.canLay0, PyData.depth]
  | n, .str s, h => by
    have h' : PyData.strOk s = true := by
      cases n <;> exact h
    simp [pyD, PyData.canLay0, PyData.depth, h']
  | 0, .lst _, h => nomatch h
  | 0, .tup _, h => nomatch h
  | n + 1, .lst xs, h => by
    obtain ⟨h1, h2⟩ := ok_lays n xs h
    simp only [pyD, PyData.canLay0, PyData.depth]
    exact ⟨h1, Nat.succ_le_succ h2⟩
  | n + 1, .tup xs, h => by
    obtain ⟨h1, h2⟩ := ok_lays n xs h
    simp only [pyD, PyData.canLay0, PyData.depth]
    exact ⟨h1, Nat.succ_le_succ h2⟩
  | 0, .any, h => nomatch h
  | n + 1, .any, h => nomatch h
  | 0, .rng _ _, h => nomatch h
  | n + 1, .rng _ _, h => nomatch h
  | 0, .ins _ _, h => nomatch h
  | n + 1, .ins _ _, h => nomatch h
  | 0, .mrow _ _ _, h => nomatch h
  | n + 1, .mrow _ _ _, h => nomatch h
  | 0, .obj _ _, h => nomatch h
  | n + 1, .obj _ _, h => nomatch h
theorem ok_lays : ∀ (n : Nat) (ds : List Dat), okDs n ds = true → PyData.canLayAll0 (pyDs ds) = true ∧ PyData.depthAll (pyDs ds) ≤ n
  | n, [], _ => by simp [pyDs, PyData.canLayAll0, PyData.depthAll]
  | n, d :: ds, h => by
    have h' : (okD n d && okDs n ds) = true := h
    obtain ⟨h1, h2⟩ := Bool.and_eq_true_iff.mp h'
    obtain ⟨a1, a2⟩ := ok_lay n d h1
    obtain ⟨b1, b2⟩ := ok_lays n ds h2
    simp only [pyDs, PyData.canLayAll0, PyData.depthAll]
    exact ⟨by rw [a1, b1]; rfl, Nat.max_le.mpr ⟨a2, b2⟩⟩
end
theorem ok_shaped {n : Nat} {d : Dat} (h : okD n d = true) (hn : n ≤ 64) : SeqAt.shaped (pyD d) = true := by
  obtain ⟨h1, h2⟩ := ok_lay n d h
  unfold SeqAt.shaped
  rw [h1, decide_eq_true (by omega)]
  rfl
mutual
theorem rep_dp {K : PySem.W.Frag} {G H : Hp} (e : Gh G H) : ∀ (n : Nat) (d : Dat) (v : V), okD n d = true → Rep K G d v → Dp K H v (pyD d)
  | n, .non, v, _, h => by
    have ev : v = .non := h
    rw [ev]
    exact .non
  | n, .bl b, v, _, h => by
    have ev : v = .bl b := h
    rw [ev]
    exact .bl b
  | n, .int i, v, _, h => by
    have ev : v = .int i := h
    rw [ev]
    exact .int i
  | n, .str s, v, _, h => by
    have ev : v = .str s := h
    rw [ev]
    exact .str s
  | 0, .lst _, _, h, _ => nomatch h
  | 0, .tup _, _, h, _ => nomatch h
  | n + 1, .lst xs, v, ho, h => by
    obtain ⟨p, vs, ev, hp, rs⟩ := rep_lst h
    rw [ev]
    exact .lst (sqL (e _ _ hp)) (reps_dp e n xs vs ho rs)
  | n + 1, .tup xs, v, ho, h => by
    obtain ⟨p, vs, ev, hp, rs⟩ := rep_tup h
    rw [ev]
    exact .tup (sqT (e _ _ hp)) (reps_dp e n xs vs ho rs)
  | 0, .any, _, h, _ => nomatch h
  | n + 1, .any, _, h, _ => nomatch h
  | 0, .rng _ _, _, h, _ => nomatch h
  | n + 1, .rng _ _, _, h, _ => nomatch h
  | 0, .ins _ _, _, h, _ => nomatch h
  | n + 1, .ins _ _, _, h, _ => nomatch h
  | 0, .mrow _ _ _, _, h, _ => nomatch h
  | n + 1, .mrow _ _ _, _, h, _ => nomatch h
  | 0, .obj _ _, _, h, _ => nomatch h
  | n + 1, .obj _ _, _, h, _ => nomatch h
theorem reps_dp {K : PySem.W.Frag} {G H : Hp} (e : Gh G H) : ∀ (n : Nat) (ds : List Dat) (vs : List V), okDs n ds = true → Reps K G ds vs → DpAll K H vs (pyDs ds)
  | n, [], vs, _, h => by
    have ev : vs = [] := h
    rw [ev]
    exact .nil
  | n, d :: ds, vs, ho, h => by
    have ho' : (okD n d && okDs n ds) = true := ho
    obtain ⟨h1, h2⟩ := Bool.and_eq_true_iff.mp ho'
    obtain ⟨v, r, ev, rv, rs⟩ := (show ∃ v r, vs = v :: r ∧ Rep K G d v ∧ Reps K G ds r from h)
    rw [ev]
    exact .cons (rep_dp e n d v h1 rv) (reps_dp e n ds r h2 rs)
end
section
variable {X : Cx} {en : En} {δ : Lv} {a b : Expr} {pos : Pos} {d d2 : Dat} {n : Nat}
theorem r2_eqD {K : PySem.W.Frag} (h1 : okD 60 d = true) (h2 : okD 60 d2 = true) : R2Ok K (rEqD K) d d2 (Is (.bl (PyData.eqv (pyD d) (pyD d2)))) := fun G H vx vy Q e rx ry k =>
  ⟨pyD d, pyD d2, rep_dp e 60 d vx h1 rx, rep_dp e 60 d2 vy h2 ry, ok_shaped h1 (by decide), ok_shaped h2 (by decide), k _ G H _ (Fm.same e) rfl rfl⟩
theorem r2_neD {K : PySem.W.Frag} (h1 : okD 60 d = true) (h2 : okD 60 d2 = true) : R2Ok K (rNeD K) d d2 (Is (.bl (!PyData.eqv (pyD d) (pyD d2)))) := fun G H vx vy Q e rx ry k =>
  ⟨pyD d, pyD d2, rep_dp e 60 d vx h1 rx, rep_dp e 60 d2 vy h2 ry, ok_shaped h1 (by decide), ok_shaped h2 (by decide), k _ G H _ (Fm.same e) rfl rfl⟩
theorem je_eqD (hu : X.A.units + 64 < cLine) (ha : JE X en a δ (Is d)) (hb : JE X en b δ (Is d2)) (h1 : okD 60 d = true) (h2 : okD 60 d2 = true) : JE X en (.Compare a [.Eq] [b] pos) δ (Is (.bl (PyData.eqv (pyD d) (pyD d2)))) :=
  je_cmp (op_eqD hu) ha hb (one2 (r2_eqD h1 h2)) (nomark _)
theorem jt_eqD (hu : X.A.units + 64 < cLine) (ha : JE X en a δ (Is d)) (hb : JE X en b δ (Is d2)) (h1 : okD 60 d = true) (h2 : okD 60 d2 = true) : JT X en (.Compare a [.Eq] [b] pos) δ (Is (PyData.eqv (pyD d) (pyD d2))) :=
  jt_cmp (op_eqD hu) ha hb (r2_test (r2_eqD h1 h2)) (nomark _)
theorem jt_neD (hu : X.A.units + 64 < cLine) (ha : JE X en a δ (Is d)) (hb : JE X en b δ (Is d2)) (h1 : okD 60 d = true) (h2 : okD 60 d2 = true) : JT X en (.Compare a [.NotEq] [b] pos) δ (Is (!PyData.eqv (pyD d) (pyD d2))) :=
  jt_cmp (op_neD hu) ha hb (r2_test (r2_neD h1 h2)) (nomark _)
theorem je_neD (hu : X.A.units + 64 < cLine) (ha : JE X en a δ (Is d)) (hb : JE X en b δ (Is d2)) (h1 : okD 60 d = true) (h2 : okD 60 d2 = true) : JE X en (.Compare a [.NotEq] [b] pos) δ (Is (.bl (!PyData.eqv (pyD d) (pyD d2)))) :=
  je_cmp (op_neD hu) ha hb (one2 (r2_neD h1 h2)) (nomark _)
theorem r2_inD {K : PySem.W.Frag} {ds : List Dat} (h1 : okD 60 d = true) (h2 : okDs 60 ds = true) : R2Ok K (rInD K) d (.lst ds) (Is (.bl ((pyDs ds).any fun z => PyData.eqv z (pyD d)))) := fun G H vx vy Q e rx ry k => by
  have h3 : okD 61 (.lst ds) = true := h2
  have q := rep_dp e 61 (.lst ds) vy h3 ry
  exact ⟨pyD d, pyDs ds, rep_dp e 60 d vx h1 rx, q, ok_shaped h1 (by decide), ok_shaped (n := 61) (d := .lst ds) h3 (by decide), k _ G H _ (Fm.same e) rfl rfl⟩
theorem r2_notInD {K : PySem.W.Frag} {ds : List Dat} (h1 : okD 60 d = true) (h2 : okDs 60 ds = true) : R2Ok K (rNotInD K) d (.lst ds) (Is (.bl (!(pyDs ds).any fun z => PyData.eqv z (pyD d)))) := fun G H vx vy Q e rx ry k => by
  have h3 : okD 61 (.lst ds) = true := h2
  have q := rep_dp e 61 (.lst ds) vy h3 ry
  exact ⟨pyD d, pyDs ds, rep_dp e 60 d vx h1 rx, q, ok_shaped h1 (by decide), ok_shaped (n := 61) (d := .lst ds) h3 (by decide), k _ G H _ (Fm.same e) rfl rfl⟩
theorem jt_inD {ds : List Dat} (hu : X.A.units + 65 < cLine) (ha : JE X en a δ (Is d)) (hb : JE X en b δ (Is (.lst ds))) (h1 : okD 60 d = true) (h2 : okDs 60 ds = true) (hm : behindInMarks .In b = false := by rfl) : JT X en (.Compare a [.In] [b] pos) δ (Is ((pyDs ds).any fun z => PyData.eqv z (pyD d))) :=
  jt_cmp (op_inD hu) ha hb (r2_test (r2_inD h1 h2)) hm
theorem jt_notInD {ds : List Dat} (hu : X.A.units + 65 < cLine) (ha : JE X en a δ (Is d)) (hb : JE X en b δ (Is (.lst ds))) (h1 : okD 60 d = true) (h2 : okDs 60 ds = true) (hm : behindInMarks .NotIn b = false := by rfl) : JT X en (.Compare a [.NotIn] [b] pos) δ (Is (!(pyDs ds).any fun z => PyData.eqv z (pyD d))) :=
  jt_cmp (op_notInD hu) ha hb (r2_test (r2_notInD h1 h2)) hm
end
theorem okDs_ints (n : Nat) : ∀ ns : List Int, okDs n (ns.map Dat.int) = true
  | [] => by simp [okDs]
  | i :: ns => by simp [okDs, okD, okDs_ints n ns]
theorem ok_tup_ints (ns : List Int) : okD 60 (.tup (ns.map Dat.int)) = true := okDs_ints 59 ns
theorem eqv_ints : ∀ ns ms : List Int, PyData.eqvAll (pyDs (ns.map Dat.int)) (pyDs (ms.map Dat.int)) = decide (ns = ms)
  | [], [] => by simp [pyDs, PyData.eqvAll]
  | [], _ :: _ => by simp [pyDs, PyData.eqvAll]
  | _ :: _, [] => by simp [pyDs, PyData.eqvAll]
  | i :: ns, j :: ms => by
    have ih := eqv_ints ns ms
    simp only [List.map_cons, pyDs, PyData.eqvAll, pyD, PyData.eqv, ih]
    by_cases e : i = j
    · by_cases e2 : ns = ms
      · simp [e, e2]
      · simp [e, e2]
    · simp [e]
theorem eqv_tints (ns ms : List Int) : PyData.eqv (pyD (.tup (ns.map Dat.int))) (pyD (.tup (ms.map Dat.int))) = decide (ns = ms) := by
  simp only [pyD, PyData.eqv]
  exact eqv_ints ns ms
end PX
end
section
set_option maxHeartbeats 4000000
/-! Comprehensions of common kinds. -/
namespace PX
open PySem PySem.Spec PyProof.Rows L2 PJ
theorem szl {n : Nat} (h : Nat.ble n 100 = true) : n ≤ sizeLine := by
  have := Nat.le_of_ble_eq_true h
  rw [sizeLine_eq]
  omega
theorem Room.u65 {k : Nat} {A : Around} (r : Room k A) : A.units + 65 < cLine := by have := r.un; omega
abbrev intsD (k : Nat) : List Dat := (List.range k).map fun (i : Nat) => Dat.int (i : Int)
theorem intsD_back {k x : Nat} {d : Dat} (h : (intsD k)[x]? = some d) : x < k ∧ d = .int (x : Int) := by
  have h1 := (List.getElem?_eq_some_iff.mp h).1
  rw [List.length_map, List.length_range] at h1
  refine ⟨h1, ?_⟩
  rw [List.getElem?_map, List.getElem?_range h1] at h
  exact (Option.some.inj h).symm
theorem intsD_len (k : Nat) : (intsD k).length = k := by rw [List.length_map, List.length_range]
section
variable {X : Cx} {en : En} {δ : Lv} {elt e iter tg : Expr} {scope : Scope} {y : Str} {p1 p2 pos : Pos}
/-- [.. for y in range(n)] -/
theorem lc_rng (i : Nat) {n : Nat} (f : Nat → Dat) (h : JE X en e δ (Is (.int (n : Int)))) (hn : n ≤ 1000) (hm : X.mg "range" = none) (ok : BlkOk X.N X.env.scope scope [(y, i)])
    (hg : ∀ (s : Shared) (H : Hp) (C : Addr) (cl : List (Str × Addr)) (fp : List Addr), JG (X.blk s H scope (compEnvC scope cl C X.env) fp) (.Name y p2) (.nm i))
    (he : ∀ j, j < n → ∀ (s : Shared) (H : Hp) (C : Addr) (cl : List (Str × Addr)) (fp : List Addr), JE (X.blk s H scope (compEnvC scope cl C X.env) fp) en elt ((δ.set i none).set i (some (.dat (.int (j : Int))))) (Is (f j)))
    (hgl : Gl X "range" := by rfl) (hse : starEach [e] X.env = [(false, eval e X.env)] := by rfl) (hs : ∀ x, foldedSetIterable (.Call (.Name "range" p1) [e] [] pos) X.env x = pure x := by intro _; rfl) :
    LcOk X en δ elt (.Name y p2) (.Call (.Name "range" p1) [e] [] pos) [] scope (Is ((List.range n).map f)) := by
  have q := lc_map (own := [(y, i)]) (t := .nm i) (elt := elt) f (ji_range (tg := .Name y p2) h (by omega) hm hgl hse) ok hg (fun j hj => hj) (by rw [intsD_len, sizeLine_eq]; omega) (fun j d hd => by
    obtain ⟨hj, ed⟩ := intsD_back hd
    refine ⟨_, rfl, fun s H C cl fp => ?_⟩
    rw [ed]
    exact he j hj s H C cl fp) hs
  rw [intsD_len] at q
  exact q
/-- [.. for y in ds], ds a list or a tuple -/
theorem lc_sq (i : Nat) {D : Dat} {ds : List Dat} (f : Nat → Dat) (hD : Seqd D ds) (h : JE X en iter δ (Is D)) (hn : ds.length ≤ 10000) (ok : BlkOk X.N X.env.scope scope [(y, i)])
    (hg : ∀ (s : Shared) (H : Hp) (C : Addr) (cl : List (Str × Addr)) (fp : List Addr), JG (X.blk s H scope (compEnvC scope cl C X.env) fp) (.Name y p2) (.nm i))
    (he : ∀ (j : Nat) d, ds[j]? = some d → ∀ (s : Shared) (H : Hp) (C : Addr) (cl : List (Str × Addr)) (fp : List Addr), JE (X.blk s H scope (compEnvC scope cl C X.env) fp) en elt ((δ.set i none).set i (some (.dat d))) (Is (f j)))
    (hs : ∀ x, foldedSetIterable iter X.env x = pure x := by intro _; rfl) :
    LcOk X en δ elt (.Name y p2) iter [] scope (Is ((List.range ds.length).map f)) :=
  lc_map (own := [(y, i)]) (t := .nm i) (elt := elt) f (ji_seq hD h) ok hg (fun j hj => hj) (by rw [sizeLine_eq]; omega) (fun j d hd => ⟨_, rfl, fun s H C cl fp => he j d hd s H C cl fp⟩) hs
theorem map_getD {α β : Type} (ds : List α) (h : α → β) (x : α) : (List.range ds.length).map (fun j => h (ds.getD j x)) = ds.map h := by
  refine List.ext_getElem? fun j => ?_
  by_cases hj : j < ds.length
  · rw [List.getElem?_map, List.getElem?_range hj, List.getElem?_map, List.getElem?_eq_getElem hj]
    simp [hj]
  · rw [List.getElem?_eq_none (by rw [List.length_map, List.length_range]; omega), List.getElem?_eq_none (by rw [List.length_map]; omega)]
theorem lc_sqm (i : Nat) {D : Dat} {ds : List Dat} (f : Dat → Dat) (hD : Seqd D ds) (h : JE X en iter δ (Is D)) (hn : ds.length ≤ 10000) (ok : BlkOk X.N X.env.scope scope [(y, i)])
    (hg : ∀ (s : Shared) (H : Hp) (C : Addr) (cl : List (Str × Addr)) (fp : List Addr), JG (X.blk s H scope (compEnvC scope cl C X.env) fp) (.Name y p2) (.nm i))
    (he : ∀ (j : Nat) d, ds[j]? = some d → ∀ (s : Shared) (H : Hp) (C : Addr) (cl : List (Str × Addr)) (fp : List Addr), JE (X.blk s H scope (compEnvC scope cl C X.env) fp) en elt ((δ.set i none).set i (some (.dat d))) (Is (f d)))
    (hs : ∀ x, foldedSetIterable iter X.env x = pure x := by intro _; rfl) :
    LcOk X en δ elt (.Name y p2) iter [] scope (Is (ds.map f)) := by
  have q := lc_sq i (elt := elt) (p2 := p2) (fun j => f (ds.getD j .non)) hD h hn ok hg (fun j d hd s H C cl fp => by
    rw [List.getD_eq_getElem?_getD, hd]
    exact he j d hd s H C cl fp) hs
  rw [map_getD] at q
  exact q
/-- [.. for y, z in zip(ds, es)] -/
theorem lc_zip (i i2 : Nat) {D D2 : Dat} {ds ds2 : List Dat} {e2 : Expr} {z : Str} {p3 p4 : Pos} {kk : Nat} {n : Nat} (f : Nat → Dat) (hD : Seqd D ds) (hD2 : Seqd D2 ds2) (h : JE X en e δ (Is D)) (h2 : JE X en e2 δ (Is D2)) (hl : min ds.length ds2.length = n) (hn : n ≤ 10000) (hm : X.mg "zip" = none) (ok : BlkOk X.N X.env.scope scope [(y, i), (z, i2)])
    (hg : ∀ (s : Shared) (H : Hp) (C : Addr) (cl : List (Str × Addr)) (fp : List Addr), JG (X.blk s H scope (compEnvC scope cl C X.env) fp) (.Tuple [.Name y p2, .Name z p3] kk p4) (.tp [.nm i, .nm i2]))
    (he : ∀ j d d2, ds[j]? = some d → ds2[j]? = some d2 → ∀ (s : Shared) (H : Hp) (C : Addr) (cl : List (Str × Addr)) (fp : List Addr), JE (X.blk s H scope (compEnvC scope cl C X.env) fp) en elt ((((δ.set i2 none).set i none).set i (some (.dat d))).set i2 (some (.dat d2))) (Is (f j)))
    (hgl : Gl X "zip" := by rfl) (hs1 : starEach [e, e2] X.env = (false, eval e X.env) :: starEach [e2] X.env := by rfl) (hs2 : starEach [e2] X.env = [(false, eval e2 X.env)] := by rfl) (hpl : (backTo pos (starEach [e2] X.env)).any (·.1) = false := by rfl) (hs : ∀ x, foldedSetIterable (.Call (.Name "zip" p1) [e, e2] [] pos) X.env x = pure x := by intro _; rfl) :
    LcOk X en δ elt (.Tuple [.Name y p2, .Name z p3] kk p4) (.Call (.Name "zip" p1) [e, e2] [] pos) [] scope (Is ((List.range n).map f)) := by
  have q := lc_map (own := [(y, i), (z, i2)]) (t := .tp [.nm i, .nm i2]) (elt := elt) f (ji_zip (elts := [.Name y p2, .Name z p3]) (kk := kk) (tpos := p4) hD hD2 h h2 hm hgl hs1 hs2 hpl) ok hg (fun j hj => hj) (by rw [zipD_len, sizeLine_eq]; omega) (fun j d hd => by
    obtain ⟨a, b, ha, hb, ed⟩ := zipD_get hd
    refine ⟨_, by rw [ed]; rfl, fun s H C cl fp => ?_⟩
    exact he j a b ha hb s H C cl fp) hs
  rw [zipD_len, hl] at q
  exact q
/-- [.. for y, z in enumerate(ds)] -/
theorem lc_enum (i i2 : Nat) {D : Dat} {ds : List Dat} {z : Str} {p3 p4 : Pos} {kk : Nat} (f : Nat → Dat) (hD : Seqd D ds) (h : JE X en e δ (Is D)) (hn : ds.length ≤ 10000) (hm : X.mg "enumerate" = none) (ok : BlkOk X.N X.env.scope scope [(y, i), (z, i2)])
    (hg : ∀ (s : Shared) (H : Hp) (C : Addr) (cl : List (Str × Addr)) (fp : List Addr), JG (X.blk s H scope (compEnvC scope cl C X.env) fp) (.Tuple [.Name y p2, .Name z p3] kk p4) (.tp [.nm i, .nm i2]))
    (he : ∀ (j : Nat) d, ds[j]? = some d → ∀ (s : Shared) (H : Hp) (C : Addr) (cl : List (Str × Addr)) (fp : List Addr), JE (X.blk s H scope (compEnvC scope cl C X.env) fp) en elt ((((δ.set i2 none).set i none).set i (some (.dat (.int (j : Int))))).set i2 (some (.dat d))) (Is (f j)))
    (hgl : Gl X "enumerate" := by rfl) (hs2 : starEach [e] X.env = [(false, eval e X.env)] := by rfl) (hs : ∀ x, foldedSetIterable (.Call (.Name "enumerate" p1) [e] [] pos) X.env x = pure x := by intro _; rfl) :
    LcOk X en δ elt (.Tuple [.Name y p2, .Name z p3] kk p4) (.Call (.Name "enumerate" p1) [e] [] pos) [] scope (Is ((List.range ds.length).map f)) := by
  have q := lc_map (own := [(y, i), (z, i2)]) (t := .tp [.nm i, .nm i2]) (elt := elt) f (ji_enum (elts := [.Name y p2, .Name z p3]) (kk := kk) (tpos := p4) hD h hm hgl hs2) ok hg (fun j hj => hj) (by rw [enumD_len, sizeLine_eq]; omega) (fun j d hd => by
    obtain ⟨a, ha, ed⟩ := enumD_get hd
    refine ⟨_, by rw [ed]; rfl, fun s H C cl fp => ?_⟩
    exact he j a ha s H C cl fp) hs
  rw [enumD_len] at q
  exact q
theorem je_neg {a : Expr} {i : Int} (ha : JE X en a δ (Is (.int i))) : JE X en (.UnaryOp .USub a pos) δ (Is (.int (-i))) :=
  je_un un_neg ha (one1 fun G H vx Q e rx k => ⟨i, rx, k _ G H _ (Fm.same e) rfl rfl⟩)
/-- a op b op' c -/
theorem je_chain {a b c : Expr} {op op' : CmpOp} {r r' : R2} {x y z : Dat} {k1 k2 : Bool} (ho : OpR X (compareOp op) r) (ho' : OpR X (compareOp op') r') (ha : JE X en a δ (Is x)) (hb : JE X en b δ (Is y)) (hc : JE X en c δ (Is z))
    (h1 : R2Ok X.K r x y (Is (.bl k1))) (h2 : R2Ok X.K r' y z (Is (.bl k2))) (hm : lastMarks [op, op'] [b, c] = false := by with_unfolding_all rfl) : JE X en (.Compare a [op, op'] [b, c] pos) δ (Is (.bl (k1 && k2))) :=
  PE.weak (pe_chain ho ho' ha hb hc hm) fun σ H Q ⟨G, S, k⟩ => ⟨G, S, fun vx G1 H1 x' f1 rx px => ⟨G1, S.step f1, fun vy G2 H2 y' f2 ry py => by
    rw [show x' = x from rx] at px
    rw [show y' = y from ry] at py
    refine h1 G2 H2 vx vy _ f2.gh (px.mono f2.gg) py fun v G3 H3 d f3 rd pd => ?_
    rw [show d = .bl k1 from rd] at pd
    have f123 := (f1.trans f2).trans (f3.lift f2.drw)
    refine ⟨k1, pd, ?_⟩
    cases k1 with
    | false => exact k _ G3 H3 _ f123 rfl rfl
    | true =>
      refine ⟨G3, S.step f123, fun vz G4 H4 z' f4 rz pz => ?_⟩
      rw [show z' = z from rz] at pz
      exact h2 G4 H4 vy vz Q f4.gh ((py.mono f3.gg).mono f4.gg) pz fun v5 G5 H5 d5 f5 rd5 pd5 => k _ G5 H5 d5 ((f123.trans f4).trans (f5.lift f4.drw)) (show d5 = _ from rd5) pd5⟩⟩
theorem jt_chain {a b c : Expr} {op op' : CmpOp} {r r' : R2} {x y z : Dat} {k1 k2 : Bool} (ho : OpR X (compareOp op) r) (ho' : OpR X (compareOp op') r') (ha : JE X en a δ (Is x)) (hb : JE X en b δ (Is y)) (hc : JE X en c δ (Is z))
    (h1 : R2Ok X.K r x y (Is (.bl k1))) (h2 : R2Ok X.K r' y z (Is (.bl k2))) (hm : lastMarks [op, op'] [b, c] = false := by with_unfolding_all rfl) : JT X en (.Compare a [op, op'] [b, c] pos) δ (Is (k1 && k2)) :=
  PT.weak (pt_chain ho ho' ha hb hc hm) fun σ H Q ⟨G, S, k⟩ => ⟨G, S, fun vx G1 H1 x' f1 rx px => ⟨G1, S.step f1, fun vy G2 H2 y' f2 ry py => by
    rw [show x' = x from rx] at px
    rw [show y' = y from ry] at py
    refine h1 G2 H2 vx vy _ f2.gh (px.mono f2.gg) py fun v G3 H3 d f3 rd pd => ?_
    rw [show d = .bl k1 from rd] at pd
    have f123 := (f1.trans f2).trans (f3.lift f2.drw)
    refine ⟨k1, pd, ?_⟩
    cases k1 with
    | false => exact ⟨false, rfl, k _ G3 H3 f123 rfl⟩
    | true =>
      refine ⟨G3, S.step f123, fun vz G4 H4 z' f4 rz pz => ?_⟩
      rw [show z' = z from rz] at pz
      exact h2 G4 H4 vy vz _ f4.gh ((py.mono f3.gg).mono f4.gg) pz fun v5 G5 H5 d5 f5 rd5 pd5 => by
        rw [show d5 = .bl k2 from rd5] at pd5
        exact ⟨k2, pd5, k k2 G5 H5 ((f123.trans f4).trans (f5.lift f4.drw)) rfl⟩⟩⟩
theorem inV_ints (i : Int) (ns : List Int) : inV (.int i) (ns.map V.int) = decide (i ∈ ns) := by
  unfold inV
  induction ns with
  | nil => rfl
  | cons n ns ih =>
    rw [List.map_cons, List.any_cons, ih]
    show ((n == i) || decide (i ∈ ns)) = _
    by_cases h : n = i
    · simp [h]
    · have h' : ¬ i = n := fun e => h e.symm
      simp [h, h']
theorem flat_ints (ns : List Int) : (ns.map V.int).all flatV = true := by
  induction ns with
  | nil => rfl
  | cons n ns ih => rw [List.map_cons, List.all_cons, ih]; rfl
/-- i in ns, a list or a tuple of ints -/
theorem r2_inI {K : PySem.W.Frag} {i : Int} {D : Dat} {ns : List Int} (hD : Seqd D (ns.map Dat.int)) : R2Ok K (rIn K false) (.int i) D (Is (.bl (decide (i ∈ ns)))) := fun G H vx vy Q e rx ry k => by
  have ex : vx = .int i := rx
  rcases hD with q | q
  · rw [q] at ry
    obtain ⟨p, vs, ev, hp, r⟩ := rep_lst ry
    have e2 := r.ints
    refine ⟨p, vs, ev, .inl (sqL (e _ _ hp)), by rw [ex]; rfl, by rw [e2]; exact flat_ints ns, k _ G H _ (Fm.same e) rfl ?_⟩
    rw [ex, e2]
    exact congrArg V.bl (inV_ints i ns)
  · rw [q] at ry
    obtain ⟨p, vs, ev, hp, r⟩ := rep_tup ry
    have e2 := r.ints
    refine ⟨p, vs, ev, .inr (sqT (e _ _ hp)), by rw [ex]; rfl, by rw [e2]; exact flat_ints ns, k _ G H _ (Fm.same e) rfl ?_⟩
    rw [ex, e2]
    exact congrArg V.bl (inV_ints i ns)
theorem jt_inI {a b : Expr} {i : Int} {D : Dat} {ns : List Int} (hD : Seqd D (ns.map Dat.int)) (ha : JE X en a δ (Is (.int i))) (hb : JE X en b δ (Is D)) (hm : behindInMarks .In b = false := by rfl) : JT X en (.Compare a [.In] [b] pos) δ (Is (decide (i ∈ ns))) :=
  jt_cmp op_in_seq ha hb (r2_test (r2_inI hD)) hm
theorem r2_leI {K : PySem.W.Frag} {i j : Int} : R2Ok K (rI0 fun i j => V.bl (decide (i ≤ j))) (.int i) (.int j) (Is (.bl (decide (i ≤ j)))) := r2_I0 fun _ => rfl
theorem r2_ltI {K : PySem.W.Frag} {i j : Int} : R2Ok K (rI0 fun i j => V.bl (decide (i < j))) (.int i) (.int j) (Is (.bl (decide (i < j)))) := r2_I0 fun _ => rfl
end
end PX
end
section
set_option maxHeartbeats 4000000
/-! list(zip(a, b)) of two lists. -/
namespace PX
open PySem PySem.Spec PyProof.Rows L2 PJ
theorem zip_nolen : typeLookup (.type "zip") "__len__" = pure none := by rw [typeLookup_type, builtinLookup_eq_fast]; kernel_rfl
theorem zip_nohint : typeLookup (.type "zip") "__length_hint__" = pure none := by rw [typeLookup_type, builtinLookup_eq_fast]; kernel_rfl
def ZS (z TI TO i1 i2 l1 l2 q : Addr) (xs ys : Array Value) (i : Nat) (h : Heap) : Prop :=
  IsPair h TI (.ref i1) (.ref i2) ∧ h.IsListIter i1 l1 i ∧ h.IsListIter i2 l2 i ∧ h.IsList l1 xs ∧ h.IsList l2 ys ∧
    ((IsZip h z TI TO .none ∧ ∃ a b, IsPair h TO a b) ∨ ∃ T f oT, IsZipHeld h z TI TO T f ∧ h.get? T = some oT ∧ T ≠ z ∧ T ≠ i1 ∧ T ≠ i2 ∧ T ≠ q ∧ ∃ oO, h.get? TO = some oO)
theorem ZS.frame {z TI TO i1 i2 l1 l2 q : Addr} {xs ys : Array Value} {i : Nat} {h h' : Heap} (st : ZS z TI TO i1 i2 l1 l2 q xs ys i h) (nq : z ≠ q ∧ TI ≠ q ∧ TO ≠ q ∧ i1 ≠ q ∧ i2 ≠ q ∧ l1 ≠ q ∧ l2 ≠ q) (hk : ∀ b o, b ≠ q → h.get? b = some o → h'.get? b = some o) : ZS z TI TO i1 i2 l1 l2 q xs ys i h' := by
  obtain ⟨hTI, h1, h2, hl1, hl2, hz⟩ := st
  obtain ⟨dz, dTI, dTO, di1, di2, dl1, dl2⟩ := nq
  refine ⟨hk _ _ dTI hTI, h1.at fun o e => hk _ o di1 e, h2.at fun o e => hk _ o di2 e, hl1.at fun o e => hk _ o dl1 e, hl2.at fun o e => hk _ o dl2 e, ?_⟩
  rcases hz with ⟨hz, a, b, hTO⟩ | ⟨T, f, oT, hz, hT, r1, r2, r3, r4, oO, hO⟩
  · exact .inl ⟨hk _ _ dz hz, a, b, hk _ _ dTO hTO⟩
  · exact .inr ⟨T, f, oT, hk _ _ dz hz, hk _ _ r4 hT, r1, r2, r3, r4, oO, hk _ _ dTO hO⟩
/-- what a filled list tells: its pairs are new tuples -/
structure ZipEnd (H1 : Hp) (q : Addr) (xs ys : List V) (n : Nat) (Ts : List Addr) (H : Hp) : Prop where
  len : Ts.length = n
  lst : H q = some (.lst (Ts.map V.ref))
  old : ∀ b o, H1 b = some o → H b = some o
  tup : ∀ (j : Nat) T, Ts[j]? = some T → H1 T = none ∧ T ≠ q ∧ ∃ x y, xs[j]? = some x ∧ ys[j]? = some y ∧ H T = some (.tup [x, y])
section
variable {X : Cx} {pins : List (Addr × Obj)} {σ : L2.St}
theorem FpOk.upd {H : Hp} {b T : Addr} {o : HO} (f : FpOk X pins H b) (h : b ≠ T) : FpOk X pins (upd H T o) b := ⟨by rw [upd_ne h]; exact f.1, f.2⟩
theorem zip_loop {A1 : Around} {Rs : Result → Shared → Prop} {z TI TO i1 i2 l1 l2 q : Addr} {xs ys : List V} {its its2 : List Value} {H1 : Hp} (hh : A1.in1.handled = none) (D : ZipApart z TI TO i1 i2 l1 l2)
    (nq : z ≠ q ∧ TI ≠ q ∧ TO ≠ q ∧ i1 ≠ q ∧ i2 ≠ q ∧ l1 ≠ q ∧ l2 ≠ q) (rx : Vals xs its) (ry : Vals ys its2) (hq1 : H1 q = none) (hsz : min xs.length ys.length ≤ 10000)
    (hdone : ∀ Ts H s, Inv X pins σ H s → ZipEnd H1 q xs ys (min xs.length ys.length) Ts H → Rs (.ok (.ret .none)) s) :
    ∀ (m i : Nat) (Ts : List Addr) (H : Hp) (s : Shared), m = min xs.length ys.length - i → i ≤ min xs.length ys.length → Inv X pins σ H s → ZipEnd H1 q xs ys i Ts H → (∀ b ∈ [z, TO, i1, i2], FpOk X pins H b) → ZS z TI TO i1 i2 l1 l2 q its.toArray its2.toArray i s.heap →
      codeAny (model X.prog X.w) A1 (.builtin "list.extend.loop" ⟨[.ref q, .ref z, .none], []⟩) Rs s := by
  have lx := rx.length
  have ly := ry.length
  intro m
  induction m with
  | zero =>
    intro i Ts H s hm hi I ze hf st
    have ei : i = min xs.length ys.length := by omega
    refine codeAny_builtin PySem.F.entry_extend_loop ?_
    rw [Around.under_plainId PySem.F.plain_extend_loop _]
    show wpAny _ A1.in1 (pyNext (.ref z) >>= _) _ _ s
    obtain ⟨hTI, h1, h2, hl1, hl2, hz⟩ := st
    have hend : its.toArray[i]? = none ∨ its2.toArray[i]? = none := by
      rcases Nat.le_total xs.length ys.length with h | h
      · exact .inl (Array.getElem?_eq_none (by rw [List.size_toArray]; omega))
      · exact .inr (Array.getElem?_eq_none (by rw [List.size_toArray]; omega))
    rw [ei] at ze
    rcases hz with ⟨hz, a, b, hTO⟩ | ⟨T, f, oT, hz, hT, r1, r2, r3, r4, oO, hO⟩
    · refine wpAny_bind (wpAny_pyNext_zip_end hh D hz hTI hTO h1 h2 hl1 hl2 hend fun h' hk => ?_)
      exact wpAny_pure (hdone Ts H _ (I.turnedL (t' := s.toks) (ch := [z, TO, i1, i2]) (fun c o hc e => hk c o (fun x => hc (by simp [x])) (fun x => hc (by simp [x])) (fun x => hc (by simp [x])) (fun x => hc (by simp [x])) e) hf) ze)
    · refine wpAny_bind (wpAny_pyNext_zip_end_held hh D hz hT hTI h1 h2 hl1 hl2 hend fun h' hk => ?_)
      exact wpAny_pure (hdone Ts H _ (I.turnedL (t' := s.toks) (ch := [z, TO, i1, i2]) (fun c o hc e => hk c o (fun x => hc (by simp [x])) (fun x => hc (by simp [x])) (fun x => hc (by simp [x])) e) hf) ze)
  | succ m ih =>
    intro i Ts H s hm hi I ze hf st
    have hix : i < xs.length := by omega
    have hiy : i < ys.length := by omega
    have ex : xs[i]? = some xs[i] := List.getElem?_eq_getElem hix
    have ey : ys[i]? = some ys[i] := List.getElem?_eq_getElem hiy
    obtain ⟨u, hu, ru⟩ := rx.get ex
    obtain ⟨u2, hu2, ru2⟩ := ry.get ey
    have hu' : its.toArray[i]? = some u := by simpa using hu
    have hu2' : its2.toArray[i]? = some u2 := by simpa using hu2
    refine codeAny_builtin PySem.F.entry_extend_loop ?_
    rw [Around.under_plainId PySem.F.plain_extend_loop _]
    show wpAny _ A1.in1 (pyNext (.ref z) >>= _) _ _ s
    obtain ⟨hTI, h1, h2, hl1, hl2, hz⟩ := st
    have lt : ∀ {c o}, s.heap.get? c = some o → s.heap.objs.size ≠ c := fun e => Nat.ne_of_gt (Heap.lt_size e)
    have n1 : s.heap.objs.size ≠ i1 := let ⟨_, e, _⟩ := h1; lt e
    have n2 : s.heap.objs.size ≠ i2 := let ⟨_, e, _⟩ := h2; lt e
    have hqT : q ≠ s.heap.objs.size := fun e => by
      have := I.hok.fresh (Nat.le_refl s.heap.objs.size)
      rw [← e, ze.lst] at this
      cases this
    -- behind the item
    have go : ∀ (h' : Heap), IsPair h' s.heap.objs.size u u2 → (∀ c o, c ∉ [z, TO, i1, i2] → s.heap.get? c = some o → h'.get? c = some o) → ZS z TI TO i1 i2 l1 l2 q its.toArray its2.toArray (i + 1) h' → z ≠ s.heap.objs.size → TO ≠ s.heap.objs.size →
        wpAny (model X.prog X.w) A1.in1 (updateSeq q (·.push (.ref s.heap.objs.size)) >>= fun _ => again (.builtin "list.extend.loop" ⟨[.ref q, .ref z, .none], []⟩)) (fun fin s' => match fin with | .done f => Rs (.ok f) s' | .again c' => c'.quiet = true ∧ codeAny (model X.prog X.w) A1 c' Rs s') (fun e s' => Rs (.error e) s') { s with heap := h' } := fun h' hT hk st' nz nTO => by
      have new : ObjOk X.prog X.w (upd H s.heap.objs.size (.tup [xs[i], ys[i]])) h' s.heap.objs.size (.tup [xs[i], ys[i]]) :=
        ⟨by show 2 ≤ sizeLine; decide, [u, u2], .cons ru (.cons ru2 .nil), ⟨_, hT, rfl, _, rfl⟩⟩
      have I1 : Inv X pins σ (upd H s.heap.objs.size (.tup [xs[i], ys[i]])) { s with heap := h' } := I.turnedNew (t' := s.toks) (ch := [z, TO, i1, i2]) hk hf (Nat.le_refl _) new
      have hq2 : upd H s.heap.objs.size (.tup [xs[i], ys[i]]) q = some (.lst (Ts.map V.ref)) := by rw [upd_ne hqT]; exact ze.lst
      obtain ⟨_, its3, k, r3, hl3, e⟩ := I1.lstM hq2
      have hl3' : its3.length = i := by rw [← hl3, List.length_map, ze.len]
      refine wpAny_bind (wpAny_updateSeq e rfl (wpAny_pure ⟨plainId_quiet PySem.F.plain_extend_loop _, ?_⟩) (by rw [List.size_toArray, sizeLine_eq]; omega) (by show (its3.toArray.push (.ref s.heap.objs.size)).size ≤ sizeLine + 1; rw [Array.size_push, List.size_toArray, sizeLine_eq]; omega))
      have I2 := I1.lset (its' := its3 ++ [.ref s.heap.objs.size]) (f := (·.push (.ref s.heap.objs.size))) (ys := Ts.map V.ref ++ [.ref s.heap.objs.size]) (t' := s.toks) hq2 e (by simp) (show Vals (Ts.map V.ref ++ [.ref s.heap.objs.size]) (its3 ++ [.ref s.heap.objs.size]) from r3.append (.cons rfl .nil)) (by rw [List.length_append, List.length_map, ze.len, List.length_singleton, sizeLine_eq]; omega)
      refine ih (i + 1) (Ts ++ [s.heap.objs.size]) _ _ (by omega) (by omega) I2 ⟨by rw [List.length_append, ze.len]; rfl, ?_, fun b o q1 => ?_, fun j T hj => ?_⟩ (fun b hb => ?_) (st'.frame nq fun b o hb e2 => (Heap.get?_update_other _ _ (Ne.symm hb)).trans e2)
      · rw [upd_same, List.map_append]
        rfl
      · have q2 := ze.old b o q1
        rw [upd_ne (ne_of_none q1 hq1), upd_ne (ne_of_none q2 (I.hok.fresh (Nat.le_refl _)))]
        exact q2
      · by_cases hj2 : j < Ts.length
        · rw [List.getElem?_append_left hj2] at hj
          obtain ⟨a1, a2, x, y, a3, a4, a5⟩ := ze.tup j T hj
          exact ⟨a1, a2, x, y, a3, a4, by rw [upd_ne a2, upd_ne (ne_of_none a5 (I.hok.fresh (Nat.le_refl _)))]; exact a5⟩
        · rw [List.getElem?_append_right (by omega)] at hj
          have hj3 : j - Ts.length = 0 := by
            have := (List.getElem?_eq_some_iff.mp hj).1
            rw [List.length_singleton] at this
            omega
          rw [hj3] at hj
          have eT : s.heap.objs.size = T := Option.some.inj hj
          have ej : j = i := by have := ze.len; omega
          subst ej
          rw [← eT]
          refine ⟨?_, Ne.symm hqT, _, _, ex, ey, by rw [upd_ne (Ne.symm hqT), upd_same]⟩
          cases hH : H1 s.heap.objs.size with
          | none => rfl
          | some o =>
            have := ze.old _ _ hH
            rw [I.hok.fresh (Nat.le_refl _)] at this
            cases this
      · have hb1 : b ≠ s.heap.objs.size := by
          simp only [List.mem_cons, List.not_mem_nil, or_false] at hb
          rcases hb with e | e | e | e
          · rw [e]; exact nz
          · rw [e]; exact nTO
          · rw [e]; exact Ne.symm n1
          · rw [e]; exact Ne.symm n2
        have hb2 : b ≠ q := by
          simp only [List.mem_cons, List.not_mem_nil, or_false] at hb
          rcases hb with e | e | e | e
          · rw [e]; exact nq.1
          · rw [e]; exact nq.2.2.1
          · rw [e]; exact nq.2.2.2.1
          · rw [e]; exact nq.2.2.2.2.1
        exact FpOk.upd (FpOk.upd (hf b hb) hb1) hb2
    have nTO' : ∀ {o}, s.heap.get? TO = some o → TO ≠ s.heap.objs.size := fun e => Ne.symm (lt e)
    rcases hz with ⟨hz, a, b, hTO⟩ | ⟨T, f, oT, hz, hT, r1, r2, r3, r4, oO, hO⟩
    · refine wpAny_bind (wpAny_pyNext_zip_item D hz hTI hTO h1 h2 hl1 hl2 hu' hu2' fun h' a1 a2 a3 a4 a5 a6 hk => ?_)
      refine go h' a5 (fun c o hc e => hk c o (fun x => hc (by simp [x])) (fun x => hc (by simp [x])) (fun x => hc (by simp [x])) (fun x => hc (by simp [x])) e) ⟨hk _ _ D.TIz D.TITO D.TIi1 D.TIi2 hTI, a3, a4, hl1.at fun o e => hk _ o D.l1z D.l1TO D.l1i1 D.l1i2 e, hl2.at fun o e => hk _ o D.l2z D.l2TO D.l2i1 D.l2i2 e,
              .inr ⟨s.heap.objs.size, false, _, a1, a5, lt hz, n1, n2, Ne.symm hqT, _, a2⟩⟩ (Ne.symm (lt hz)) (Ne.symm (lt hTO))
    · have hTOz : TO ≠ s.heap.objs.size := Ne.symm (lt hO)
      refine wpAny_bind (wpAny_pyNext_zip_item_held D hz hT hTI h1 h2 hl1 hl2 hu' hu2' fun h' a1 a3 a4 a5 a6 hk => ?_)
      refine go h' a5 (fun c o hc e => hk c o (fun x => hc (by simp [x])) (fun x => hc (by simp [x])) (fun x => hc (by simp [x])) e) ⟨hk _ _ D.TIz D.TIi1 D.TIi2 hTI, a3, a4, hl1.at fun o e => hk _ o D.l1z D.l1i1 D.l1i2 e, hl2.at fun o e => hk _ o D.l2z D.l2i1 D.l2i2 e,
              .inr ⟨T, true, oT, a1, hk _ _ r1 r2 r3 hT, r1, r2, r3, r4, oO, hk _ _ D.TOz D.TOi1 D.TOi2 hO⟩⟩ (Ne.symm (lt hz)) hTOz
/-- list(z), z a zip object of two lists that has not begun -/
theorem call_list_zip {s : Shared} {H : Hp} {Q : Value → Shared → Prop} {E : Value → Shared → Prop} {z TI TO i1 i2 l1 l2 : Addr} {xs ys : List V} {its its2 : List Value} (hh : X.A.handled = none) (D : ZipApart z TI TO i1 i2 l1 l2)
    (I : Inv X pins σ H s) (hf : ∀ b ∈ [z, TO, i1, i2], FpOk X pins H b) (rx : Vals xs its) (ry : Vals ys its2) (hsz : min xs.length ys.length ≤ 10000)
    (hTI : IsPair s.heap TI (.ref i1) (.ref i2)) (h1 : s.heap.IsListIter i1 l1 0) (h2 : s.heap.IsListIter i2 l2 0) (hl1 : s.heap.IsList l1 its.toArray) (hl2 : s.heap.IsList l2 its2.toArray) (hz : IsZip s.heap z TI TO .none) (hTO : ∃ a b, IsPair s.heap TO a b)
    (hQ : ∀ q Ts H' s', H q = none → Inv X pins σ H' s' → ZipEnd H q xs ys (min xs.length ys.length) Ts H' → Q (.ref q) s') :
    wpAny (model X.prog X.w) X.A (call (.type "list") [.ref z]) Q E s := by
  obtain ⟨ta, tb, hTO⟩ := hTO
  have lt : ∀ {c o}, s.heap.get? c = some o → c ≠ s.heap.objs.size := fun e => Nat.ne_of_lt (Heap.lt_size e)
  have nq : z ≠ s.heap.objs.size ∧ TI ≠ s.heap.objs.size ∧ TO ≠ s.heap.objs.size ∧ i1 ≠ s.heap.objs.size ∧ i2 ≠ s.heap.objs.size ∧ l1 ≠ s.heap.objs.size ∧ l2 ≠ s.heap.objs.size :=
    ⟨lt hz, lt hTI, lt hTO, let ⟨_, e, _⟩ := h1; lt e, let ⟨_, e, _⟩ := h2; lt e, let ⟨_, e, _⟩ := hl1; lt e, let ⟨_, e, _⟩ := hl2; lt e⟩
  refine callType_codes (Q₁ := fun obj s₁ => obj = .ref s.heap.objs.size ∧ s₁ = { s with heap := s.heap.push { cls := .type "list", data := .seq #[] } }) PySem.F.called_list (PySem.F.typeCall_list_1 _) PySem.F.entry_list_init
    (code_list_new _ ⟨rfl, rfl⟩) fun obj s₁ h₁ => ?_
  obtain ⟨rfl, rfl⟩ := h₁
  have hS : (s.heap.push { cls := .type "list", data := .seq #[] }).get? s.heap.objs.size = some { cls := .type "list", data := .seq #[] } := Heap.get?_push_size _ rfl
  refine ⟨⟨_, hS, rfl⟩, PySem.F.args_list_init_2 _ _, ?_⟩
  have fr : H s.heap.objs.size = none := I.hok.fresh (Nat.le_refl _)
  have I1 : Inv X pins σ (upd H s.heap.objs.size (.lst [])) { s with heap := s.heap.push { cls := .type "list", data := .seq #[] } } := I.lnew (its := []) (t' := s.toks) .nil (Nat.zero_le _)
  have k1 : ∀ b o, b ≠ s.heap.objs.size → s.heap.get? b = some o → (s.heap.push { cls := .type "list", data := .seq #[] }).get? b = some o := fun b o _ e => Heap.get?_push_of_some _ e
  show wpAny _ _ (do let old ← Builtin.List.listItems (.ref s.heap.objs.size); Builtin.List.listUpdate (.ref s.heap.objs.size) (fun _ => #[]); letGo old.toList.reverse; Builtin.List.listExtendWith (.ref s.heap.objs.size) (.ref z) .none) _ _ _
  refine wpAny_bind ?_
  unfold Builtin.List.listItems
  refine wpAny_bind (wpAny_seqItems hS rfl (wpAny_pure ?_))
  show wpAny _ _ (updateSeq s.heap.objs.size (fun _ => #[]) >>= fun _ => letGo (#[] : Array Value).toList.reverse >>= fun _ => Builtin.List.listExtendWith (.ref s.heap.objs.size) (.ref z) .none) _ _ _
  refine wpAny_bind (wpAny_updateSeq hS rfl ?_)
  have I2 := I1.lset (f := fun _ => #[]) (its := []) (its' := []) (ys := []) (t' := s.toks) upd_same hS rfl .nil (Nat.zero_le _)
  rw [upd_upd] at I2
  have hS2 := Heap.get?_update_self (Obj.mapSeq (fun _ => (#[] : Array Value))) hS rfl
  refine wpAny_bind (wpAny_letGo ?_)
  unfold Builtin.List.listExtendWith
  have up : ∀ (h : Heap) (f : Obj → Obj), (∀ b o, b ≠ s.heap.objs.size → s.heap.get? b = some o → h.get? b = some o) → ∀ b o, b ≠ s.heap.objs.size → s.heap.get? b = some o → (h.update s.heap.objs.size f).get? b = some o := fun h f q b o hb e =>
    (Heap.get?_update_other _ _ (Ne.symm hb)).trans (q b o hb e)
  have k2 := up _ (Obj.mapSeq (fun _ => (#[] : Array Value))) k1
  have ty : ∀ {h : Heap}, (∀ b o, b ≠ s.heap.objs.size → s.heap.get? b = some o → h.get? b = some o) → ({ s with heap := h } : Shared).TypeIs (.ref z) "zip" := fun {h} k => ⟨_, k _ _ nq.1 hz, rfl⟩
  refine wpAny_bind (wpAny_typeOf (ty k2) ?_)
  have e1 : Builtin.List.listSameRef (.ref s.heap.objs.size) (.ref z) = false := by simp [Builtin.List.listSameRef, Ne.symm nq.1]
  have e2 : (Value.type "zip" == Value.type "list") = false := by decide
  have e3 : (Value.type "zip" == Value.type "tuple") = false := by decide
  simp only [e1, e2, e3, Bool.or_false, Bool.false_eq_true, if_false]
  refine wpAny_bind (wpAny_pyIter_zip (k2 _ _ nq.1 hz) ?_)
  refine wpAny_bind (wpAny_holding ?_)
  unfold Builtin.List.listLengthHint
  refine wpAny_bind (wpAny_specialOf (ty k2) zip_nolen ?_)
  show wpAny _ _ (specialOf (Value.ref z) (Str.ofString "__length_hint__") >>= _) _ _ _
  refine wpAny_bind (wpAny_specialOf (ty k2) zip_nohint ?_)
  refine wpAny_pure ?_
  show wpAny _ _ (rule "list.extend.makes-room" >>= fun _ => Builtin.List.listTouch (.ref s.heap.objs.size) >>= fun _ =>
    again (.builtin "list.extend.loop" ⟨[.ref s.heap.objs.size, .ref z, .none], []⟩)) _ _ _
  refine wpAny_bind (wpAny_rule ?_)
  refine wpAny_bind ?_
  show wpAny _ _ (updateSeq s.heap.objs.size (·.push .none) >>= fun _ => updateSeq s.heap.objs.size (·.pop)) _ _ _
  refine wpAny_bind (wpAny_updateSeq hS2 rfl ?_)
  have I3 := I2.lset (f := (·.push Value.none)) (its := []) (its' := [Value.none]) (ys := [.non]) (t' := s.toks) upd_same hS2 (by simp) (.cons rfl .nil) (by rw [List.length_singleton, sizeLine_eq]; decide)
  rw [upd_upd] at I3
  have hS3 := Heap.get?_update_self (Obj.mapSeq (·.push Value.none)) hS2 rfl
  refine wpAny_updateSeq (hz := by seq_fits) hS3 rfl ?_
  have I4 := I3.lset (f := (·.pop)) (its := [Value.none]) (its' := []) (ys := []) (t' := s.toks) upd_same hS3 (by rfl) .nil (Nat.zero_le _)
  rw [upd_upd] at I4
  have k4 := up _ (Obj.mapSeq (·.pop)) (up _ (Obj.mapSeq (·.push Value.none)) k2)
  refine wpAny_pure ⟨plainId_quiet PySem.F.plain_extend_loop _, ?_⟩
  refine zip_loop (A1 := X.A.in1) (H1 := H) (Rs := _) hh D nq rx ry fr hsz (fun Ts H' s' I' ze => ?_) (min xs.length ys.length) 0 [] _ _ (by omega) (Nat.zero_le _) I4 ⟨rfl, upd_same, fun b o q => by rw [upd_ne (ne_of_none q fr)]; exact q, fun j T hj => by simp at hj⟩ (fun b hb => FpOk.upd (hf b hb) ?_) (ZS.frame (h := s.heap) ⟨hTI, h1, h2, hl1, hl2, .inl ⟨hz, _, _, hTO⟩⟩ nq k4)
  · exact ⟨rfl, hQ _ Ts H' s' fr I' ze⟩
  · simp only [List.mem_cons, List.not_mem_nil, or_false] at hb
    rcases hb with e | e | e | e
    · rw [e]; exact nq.1
    · rw [e]; exact nq.2.2.1
    · rw [e]; exact nq.2.2.2.1
    · rw [e]; exact nq.2.2.2.2.1
end
theorem nn {a b : Nat} (h : ¬ a = b) : @Ne Addr a b := h
theorem zapart {N a b : Nat} (ha : a < N) (hb : b < N) : ZipApart (N + 4) (N + 2) (N + 3) N (N + 1) a b :=
  ⟨nn (by omega), nn (by omega), nn (by omega), nn (by omega), nn (by omega), nn (by omega), nn (by omega), nn (by omega), nn (by omega), nn (by omega), nn (by omega), nn (by omega), nn (by omega), nn (by omega), nn (by omega), nn (by omega), nn (by omega), nn (by omega)⟩
/-- list(zip(e, e2)) -/
def tListZip (K : PySem.W.Frag) (ta : TA) : TE := fun σ H Q => ta σ H fun vs H1 => ∃ a b xs ys, vs = [.ref a, .ref b] ∧ SqL K H1 a xs ∧ SqL K H1 b ys ∧ min xs.length ys.length ≤ 10000 ∧
  ∀ q Ts H', H1 q = none → ZipEnd H1 q xs ys (min xs.length ys.length) Ts H' → Q (.ref q) H'
theorem pe_listZip {X : Cx} {e e2 : Expr} {ta : TA} {p p2 pos pos2 : Pos} (hc : X.calm = true) (hg : Gl X "list") (hm : X.mg "list" = none) (hgz : Gl X "zip") (hmz : X.mg "zip" = none) (ha : PA X [e, e2] ta)
    (hs : starEach [e, e2] X.env = (false, eval e X.env) :: starEach [e2] X.env := by rfl) (hpl : (backTo pos2 (starEach [e2] X.env)).any (·.1) = false := by rfl)
    (he : starEach [.Call (.Name "zip" p2) [e, e2] [] pos2] X.env = (false, eval (.Call (.Name "zip" p2) [e, e2] [] pos2) X.env) :: starEach [] X.env := by rfl) :
    PE X (.Call (.Name "list" p) [.Call (.Name "zip" p2) [e, e2] [] pos2] [] pos) (tListZip X.K ta) := by
  refine ⟨fun pins s σ H Q I h => ?_⟩
  refine wpAny_Call_Name_kw (ld_blt I hg hm (show bootBuiltins "list" = some (.type "list") by decide +kernel) ?_)
  refine PyProof.Rows.callWith_type1 ?_ he rfl
  rw [he]
  show wpAny _ _ (spliced ((false, eval _ X.env) :: backTo pos (starEach [] X.env))) _ _ s
  refine Calls.spliced_cons (Call_ (ld_blt I hgz hmz PyProof.Rows.boot_zip (PyProof.Rows.callWith_type1 (thn (ha.run pos2 pins s σ H _ I h) fun us s1 ⟨vs, H1, I1, r1, q1⟩ => ?_) hs hpl)))
  obtain ⟨a, b, xs, ys, ex, hqx, hqy, hsz, q⟩ := q1
  subst ex
  cases r1 with
  | cons r rr =>
    cases rr with
    | cons r' rr =>
      cases rr
      cases r
      cases r'
      obtain ⟨its, rv, p1, _⟩ := I1.list hqx
      obtain ⟨its2, rv2, p2, _⟩ := I1.list hqy
      have l1 := p1.isList
      have l2 := p2.isList
      have la : a < s1.heap.objs.size := let ⟨_, e, _⟩ := l1; Heap.lt_size e
      have lb : b < s1.heap.objs.size := let ⟨_, e, _⟩ := l2; Heap.lt_size e
      refine zip_begins2 (beginsB true a its.toArray) (beginsB true b its2.toArray) ?_ ?_ fun h' hz hTI hTO h1 h2 hsz2 hk => ?_
      · exact l1
      · exact l2
      have I2 : Inv X pins σ H1 { s1 with heap := h' } := I1.kept (t' := s1.toks) hk
      refine Calls.spliced_nil ?_
      refine call_list_zip (I.ok.hd hc) (z := s1.heap.objs.size + 4) (TI := s1.heap.objs.size + 2) (TO := s1.heap.objs.size + 3) (i1 := s1.heap.objs.size) (i2 := s1.heap.objs.size + 1) (l1 := a) (l2 := b) (zapart la lb)
        I2 (fun c hcm => ?_) rv rv2 hsz hTI (iterB_new (k := true) h1) (iterB_new (k := true) h2) (l1.at fun o e => hk _ o e) (l2.at fun o e => hk _ o e) hz ⟨_, _, hTO⟩ (fun q1 Ts H' s' hn I' ze => ⟨.ref q1, H', I', rfl, q q1 Ts H' hn ze⟩)
      have e' : c = s1.heap.objs.size + 4 ∨ c = s1.heap.objs.size + 3 ∨ c = s1.heap.objs.size ∨ c = s1.heap.objs.size + 1 := by simpa using hcm
      have hle : s1.heap.objs.size ≤ c := by
        rcases e' with z | z | z | z
        · rw [z]; exact Nat.le_add_right _ _
        · rw [z]; exact Nat.le_add_right _ _
        · rw [z]; exact Nat.le_refl _
        · rw [z]; exact Nat.le_add_right _ _
      exact I1.fpOk hle (I1.hok.fresh hle)
section
variable {X : Cx} {en : En} {δ : Lv} {e e2 : Expr} {pos p1 p2 pos2 : Pos}
theorem jf_listZip {ds ds2 : List Dat} (h : JE X en e δ (Is (.lst ds))) (h2 : JE X en e2 δ (Is (.lst ds2))) (hsz : min ds.length ds2.length ≤ 10000) (hml : X.mg "list" = none) (hm : X.mg "zip" = none) (hc : X.calm = true := by rfl) (hgl : Gl X "list" := by rfl) (hg : Gl X "zip" := by rfl)
    (hs : starEach [e, e2] X.env = (false, eval e X.env) :: starEach [e2] X.env := by rfl) (hs2 : starEach [e2] X.env = (false, eval e2 X.env) :: starEach [] X.env := by rfl) (hpl : (backTo pos2 (starEach [e2] X.env)).any (·.1) = false := by rfl)
    (he : starEach [.Call (.Name "zip" p2) [e, e2] [] pos2] X.env = (false, eval (.Call (.Name "zip" p2) [e, e2] [] pos2) X.env) :: starEach [] X.env := by rfl) :
    JF X en (.Call (.Name "list" p1) [.Call (.Name "zip" p2) [e, e2] [] pos2] [] pos) δ (Is (zipD ds ds2)) :=
  PE.weak (pe_listZip hc hgl hml hg hm (ja_c h (ja_c h2 ja_nil hs2) hs) hs hpl he) fun σ H Q ⟨G, S, k⟩ => ⟨G, S, fun vs G1 H1 ss f r ps => by
    rw [show ss = [Sl.dat (.lst ds), Sl.dat (.lst ds2)] from r] at ps
    obtain ⟨v, v2, ev, rv, rv2⟩ := reps2 (ArgsOk.reps (ds := [.lst ds, .lst ds2]) ps)
    obtain ⟨q, us, eq, hq, rs⟩ := rep_lst rv
    obtain ⟨q2, us2, eq2, hq2, rs2⟩ := rep_lst rv2
    have hl := rs.length
    have hl2 := rs2.length
    refine ⟨q, q2, us, us2, by rw [ev, eq, eq2], sqL (f.gh _ _ hq), sqL (f.gh _ _ hq2), by rw [hl, hl2]; exact hsz, fun z Ts H' hz ze => ?_⟩
    rw [hl, hl2] at ze
    obtain ⟨zl, zq, zo, zt⟩ := ze
    let G2 : Hp := fun b => if b ∈ Ts then H' b else G1 b
    have g1n : ∀ T ∈ Ts, H1 T = none ∧ T ≠ z := fun T hT => by
      obtain ⟨j, hj⟩ := List.getElem?_of_mem hT
      obtain ⟨a1, a2, _⟩ := zt j T hj
      exact ⟨a1, a2⟩
    have ee : Ex G1 G2 := fun b o hb => by
      show (if b ∈ Ts then H' b else G1 b) = some o
      rw [if_neg (fun hT => (f.gh _ _ hb).not_none (g1n b hT).1)]
      exact hb
    have fm : Fm none G1 H1 G2 H' := ⟨ee, fun b o hb => by
        have hb' : (if b ∈ Ts then H' b else G1 b) = some o := hb
        by_cases hT : b ∈ Ts
        · rw [if_pos hT] at hb'
          obtain ⟨j, hj⟩ := List.getElem?_of_mem hT
          obtain ⟨_, _, x, y, _, _, hT2⟩ := zt j b hj
          rw [hT2] at hb' ⊢
          rw [← Option.some.inj hb']
          exact HoOk.same nomk_t
        · rw [if_neg hT] at hb'
          have q1 := f.gh b o hb'
          obtain ⟨u, hu⟩ := q1.ex
          rw [hu] at q1
          rw [zo b u hu]
          exact q1, fun b o _ _ hb => zo b o hb, fun b o hb => by
        show (if b ∈ Ts then H' b else G1 b) = _
        rw [if_neg (fun hT => by have := (g1n b hT).1; rw [hb] at this; cases this)], fun _ h => nomatch h⟩
    refine k z (Ts.map V.ref) G2 H' (zipD ds ds2) (f.trans (fm.lift f.drw)) rfl zq (f.none_of hz) ?_ ?_
    · show (if z ∈ Ts then H' z else G1 z) = none
      rw [if_neg (fun hT => (g1n z hT).2 rfl)]
      exact none_G f.gh hz
    · have key : ∀ (Ts : List Addr) (es : List Dat), Ts.length = es.length → (∀ (j : Nat) T d, Ts[j]? = some T → es[j]? = some d → Rep X.K G2 d (.ref T)) → Reps X.K G2 es (Ts.map V.ref) := fun Ts => by
        induction Ts with
        | nil =>
          intro es hl _
          cases es with
          | nil => exact Reps.nil
          | cons _ _ => cases hl
        | cons T Ts ih =>
          intro es hl h
          cases es with
          | nil => cases hl
          | cons d es =>
            exact Reps.cons (h 0 T d rfl rfl) (ih es (by simpa using hl) fun j T d hT hd => h (j + 1) T d hT hd)
      refine key Ts _ (by rw [zl, zipD_len]) fun j T d hT hd => ?_
      obtain ⟨d1, d2, hd1, hd2, ed⟩ := zipD_get hd
      obtain ⟨_, _, x, y, hx, hy, hT2⟩ := zt j T hT
      obtain ⟨u, hu, ru⟩ := rs.get hd1
      obtain ⟨u2, hu2, ru2⟩ := rs2.get hd2
      rw [hx] at hu
      rw [hy] at hu2
      rw [ed]
      refine ⟨T, [x, y], rfl, ?_, Reps.cons (by rw [Option.some.inj hu]; exact ru.mono ee) (Reps.one (by rw [Option.some.inj hu2]; exact ru2.mono ee))⟩
      show (if T ∈ Ts then H' T else G1 T) = _
      rw [if_pos (List.mem_of_getElem? hT)]
      exact hT2⟩
end
end PX
end
section
set_option maxHeartbeats 4000000
/-! max(a list of ints, default=d). -/
namespace PX
open PySem PySem.Spec PyProof.Rows L2 PJ
section
variable {prog : Program} {w : World} {A : Around} {E : Value → Shared → Prop} {s : Shared}
theorem max_rawD {l : Addr} {its : List Value} {ns : List Int} {d : Value} {Q : Value → Shared → Prop} (hh : A.handled = none) (hl : s.heap.IsList l its.toArray) (hi : IntsAre its ns)
    (h0 : ns = [] → ∀ h' tk, (∀ b o, s.heap.get? b = some o → h'.get? b = some o) → Q d { s with heap := h', toks := tk })
    (h : ∀ h' tk M t', (∀ b o, s.heap.get? b = some o → h'.get? b = some o) → M ∈ ns → (∀ a, a ∈ ns → a ≤ M) → Q (.int M t') { s with heap := h', toks := tk }) : wpAny (model prog w) A (call (.builtin "max") [.ref l] [(Str.ofString "default", d)]) Q E s := by
  obtain ⟨xs, e⟩ := hi.allInts.items
  have hn : numsOf (intItems xs).toList = ns := by rw [← e]; exact hi.numsOf
  rw [nums_intItems] at hn
  subst hn
  rw [e] at hl
  refine PySem.call_max_walkD (iter_intList hl fun s₂ e2 st hfp hlI => ?_)
  subst e2
  refine ⟨_, _, _, _, _, _, _, ({} : Heap), _, rfl, (Walks.list (A := A.in1) hh _ l hlI (intItems xs)).toS, st, hfp, fun b o q => ?_, fun b o q => ?_, fun hz s' mv => ?_, fun hz => ⟨fun i j vi vj s3 Q3 E3 _ p1 p2 q => CmpOf.ints_gt (numAt xs) (fun _ _ => intItems_at) i j vi vj s3 Q3 E3 p1 p2 q, fun v s' hP mv => ?_⟩⟩
  · have : (none : Option Obj) = some o := q
    cases this
  · have : (none : Option Obj) = some o := q
    cases this
  · have hx : xs.size = 0 := by simpa [intItems] using hz
    have hx2 : List.map (fun p => p.1) xs.toList = [] := by
      have : xs.toList.length = 0 := by simpa using hx
      rw [List.length_eq_zero_iff.mp this]
      rfl
    have e3 : s' = { s with heap := s'.heap, toks := s'.toks } := by
      obtain ⟨a1, a2, a3, a4, a5, a6, a7⟩ := s'
      obtain ⟨_, q1, q2, q3, _⟩ := mv
      simp only at q1 q2 q3
      rw [q1, q2, q3]
    rw [e3]
    exact h0 hx2 s'.heap s'.toks (old_kept mv.heap)
  · have hx : 0 < xs.size := by simpa [intItems] using hz
    obtain ⟨t, rfl⟩ := intItems_at hP
    have hsz : (intItems xs).size = xs.size := by simp [intItems]
    obtain ⟨h1, h2⟩ := argBest_gt (numAt xs) ((intItems xs).size - 1)
    have e3 : s' = { s with heap := s'.heap, toks := s'.toks } := by
      obtain ⟨a1, a2, a3, a4, a5, a6, a7⟩ := s'
      obtain ⟨_, q1, q2, q3, _⟩ := mv
      simp only at q1 q2 q3
      rw [q1, q2, q3]
    rw [e3]
    refine h s'.heap s'.toks _ t (old_kept mv.heap) ?_ fun a ha => ?_
    · rw [numAt_eq]; exact PySem.getD_mem (by rw [List.length_map, Array.length_toList]; omega)
    · obtain ⟨j, hj, rfl⟩ := mem_getD ha
      rw [List.length_map, Array.length_toList] at hj
      rw [← numAt_eq]; exact h2 j (by omega)
end
/-- max(xs, default=d) -/
def rMaxDf (K : PySem.W.Frag) : List V → List V → Hp → VK → Prop := fun vs zs H Q => ∃ (a : Addr) (ns : List Int) (d : V), vs = [V.ref a] ∧ zs = [d] ∧ SqL K H a (ns.map V.int) ∧ (ns = [] → Q d H) ∧ ∀ m, m ∈ ns → (∀ y, y ∈ ns → y ≤ m) → Q (.int m) H
theorem cr_maxDf {X : Cx} (hc : X.calm = true) : CallRK X (.builtin "max") [Str.ofString "default"] (rMaxDf X.K) := by
  intro pins s σ H vs zs us ws Q I r r2 h
  obtain ⟨a, ns, d, rfl, rfl, hs, q0, q⟩ := h
  obtain ⟨its, rv, hl, _⟩ := I.list hs
  rw [Vals.ref1 r]
  cases r2 with
  | cons rd rr =>
    cases rr
    exact max_rawD (I.ok.hd hc) hl.isList rv.ints (fun z h' tk hk => ⟨d, H, I.kept hk, rd, q0 z⟩) fun h' tk m t' hk h1 h2 => ⟨.int _, H, I.kept hk, ⟨_, rfl⟩, q m h1 h2⟩
section
variable {X : Cx} {en : En} {δ : Lv} {e e2 : Expr} {pos p1 kpos : Pos}
theorem je_maxDf {R : Dat → Prop} {ns : List Int} {d : Int} (ha : JE X en e δ (Is (.lst (ns.map Dat.int)))) (hd : JE X en e2 δ (Is (.int d))) (h0 : ns = [] → R (.int d)) (h : ∀ m, m ∈ ns → (∀ y, y ∈ ns → y ≤ m) → R (.int m)) (hm : X.mg "max" = none) (hc : X.calm = true := by rfl) (hg : Gl X "max" := by rfl)
    (he1 : starEach [e] X.env = (false, eval e X.env) :: starEach [] X.env := by rfl) (he : backTo pos (starEach [e] X.env) = (false, eval e X.env) :: backTo pos (starEach [] X.env) := by rfl) (hpl : (backTo pos (starEach [e] X.env)).any (·.1) = false := by rfl)
    (hall : (backToKw pos (keywordEach [⟨some "default", e2, kpos⟩] X.env)).all (·.1.isSome) = true := by rfl) (hnone : (backToKw pos (keywordEach [⟨some "default", e2, kpos⟩] X.env)).any (·.1.isNone) = false := by rfl) (hks : (backToKw pos (keywordEach [⟨some "default", e2, kpos⟩] X.env)).filterMap (·.1) = [Str.ofString "default"] := by rfl) :
    JE X en (.Call (.Name "max" p1) [e] [⟨some "default", e2, kpos⟩] pos) δ R :=
  PE.weak (pe_callBK (cr_maxDf hc) hg hm (by decide +kernel) (ja_c ha ja_nil he1) (pk_cons hd pk_nil) (by decide) (by decide) he hpl hall hnone hks) fun σ H Q ⟨G, S, k⟩ => ⟨G, S, fun vs G1 H1 ss f r ps => by
    rw [show ss = [Sl.dat (.lst (ns.map Dat.int))] from r] at ps
    obtain ⟨v, ev, rv⟩ := reps1 (ArgsOk.reps (ds := [.lst (ns.map Dat.int)]) ps)
    obtain ⟨q, us, eq, hq, rs⟩ := rep_lst rv
    have eu := rs.ints
    refine ⟨G1, S.step f, fun v2 G2 H2 d2 f2 r2 p2 => ?_⟩
    rw [show d2 = .int d from r2] at p2
    have ff := f.trans f2
    refine ⟨q, ns, v2, by rw [ev, eq], rfl, sqL (by rw [← eu]; exact f2.gh _ _ (f2.gg _ _ hq)), fun z => k v2 G2 H2 (.int d) ff (h0 z) p2, fun m h1 h2 => k _ G2 H2 (.int m) ff (h m h1 h2) rfl⟩⟩
end
end PX
end
section
set_option maxHeartbeats 4000000
/-! Instances: made, their fields, methods, properties. -/
namespace PJ
open PySem PySem.Spec PyProof.Rows L2

theorem putF_zip : ∀ {ns : List Str} {vs : List V} {f : Str} {y : V}, ns.Nodup → ns[vs.length]? = some f → putF f y (ns.zip vs) = ns.zip (vs ++ [y])
  | [], vs, f, y, _, h => by simp at h
  | n :: ns, [], f, y, _, h => by
    have e : n = f := Option.some.inj h
    subst e
    simp [putF]
  | n :: ns, u :: us, f, y, hn, h => by
    obtain ⟨h1, h2⟩ := List.nodup_cons.mp hn
    have h' : ns[us.length]? = some f := h
    have ne : ¬ n = f := fun e => h1 (e ▸ List.mem_of_getElem? h')
    rw [List.zip_cons_cons]
    show (if n = f then _ else _) = _
    rw [if_neg ne, putF_zip h2 h', List.cons_append, List.zip_cons_cons]
theorem StOk.slf_put {K : PySem.W.Frag} {da : Option Addr} {H0 G H : Hp} {σ : L2.St} {δ : Lv} (S : StOk K da H0 G H σ δ) {c : Nat} {ds es : List Dat} {us ws : List V} {p dx : Addr} {i : Nat} (hi : δ[i]? = some (some (.slf p c ds))) (hs : σ[i]? = some (some (.ref p)))
    (hp : H p = some (.ins (cA K c) dx ((cF c).zip ws))) (h0 : H0 p = none) (hg : G p = none) (r : Reps K G es us) (one : ∀ (j : Nat) (q : Addr) (c' : Nat) (fs : List Dat), δ[j]? = some (some (.slf q c' fs)) → j = i) :
    StOk K da H0 G (upd H p (.ins (cA K c) dx ((cF c).zip us))) σ (δ.set i (some (.slf p c es))) where
  gh := fun b o q => by
    have n : b ≠ p := fun z => by
      rw [z, hg] at q
      cases q
    rw [upd_ne n]
    exact S.gh b o q
  dr := fun a e => ⟨(S.dr a e).1, by
    obtain ⟨⟨o, ho⟩, pos, nb, ns, h1, h2, h3, h4⟩ := S.dr a e
    have n : a ≠ p := fun z => by
      rw [z, h0] at ho
      cases ho
    exact ⟨pos, nb, ns, by rw [upd_ne n]; exact h1, h2, h3, h4⟩⟩
  len := by rw [List.length_set, S.len]
  at_ := fun j sl h => by
    rcases set_at h with ⟨e, e2, hl⟩ | ⟨e, h2⟩
    · rw [← e]
      have e3 : sl = .slf p c es := (Option.some.inj e2).symm
      rw [e3]
      exact ⟨.ref p, hs, dx, us, rfl, upd_same, h0, hg, r⟩
    · obtain ⟨u, h1, h3⟩ := S.at_ j sl h2
      refine ⟨u, h1, ?_⟩
      cases sl with
      | dat d => exact h3
      | own fs =>
        obtain ⟨q, ws2, eu, hq, a0, ag, ar⟩ := h3
        refine ⟨q, ws2, eu, ?_, a0, ag, ar⟩
        have n : q ≠ p := fun z => by
          rw [z, hp] at hq
          cases hq
        rw [upd_ne n]
        exact hq
      | drw => exact h3
      | slf q' c' fs => exact absurd (one j q' c' fs h2) (fun z => e z.symm)
      | dcs mk fs =>
        obtain ⟨q, ws2, eu, hq, od, a0, ag, ar⟩ := h3
        refine ⟨q, ws2, eu, ?_, od, a0, ag, ar⟩
        have n : q ≠ p := fun z => by
          have hq2 := hq
          rw [z, hp] at hq2
          have e3 := Option.some.inj hq2
          rw [← z] at e3
          exact od.2.1 _ _ _ e3.symm
        rw [upd_ne n]
        exact hq
  sep := fun a b d1 d2 q h1 h2 h3 h4 => by
    have f : ∀ (c' : Nat) (d : List Dat), (δ.set i (some (.slf p c es)))[c']? = some (some (.own d)) → δ[c']? = some (some (.own d)) := fun c' d h => by
      rcases set_at h with ⟨e1, x1, l1⟩ | ⟨n1, k1⟩
      · cases x1
      · exact k1
    exact S.sep a b d1 d2 q (f a d1 h1) (f b d2 h2) h3 h4
section
variable {X : Cx} {en : En} {δ : Lv} {a b c e o : Expr} {es : List Expr} {R : Dat → Prop} {pos p1 p2 : Pos} {rest : List Stmt} {P : Po}
/-- a field of one's own instance -/
theorem je_fldS (i : Nat) {y : Str} {q : Addr} {cc : Nat} {fs : List Dat} {f : Str} (j : Nat) {d : Dat} (hδ : δ[i]? = some (some (.slf q cc fs))) (hi : (cF cc)[j]? = some f) (hd : fs[j]? = some d) (cl : Cls X.K (cA X.K cc)) (na : NoAttr X.K (cA X.K cc) f)
    (hN : X.N[i]? = some y := by rfl) (hv : Vis X.env.scope y := by first | exact Or.inl rfl | exact Or.inr (Or.inl rfl) | exact Or.inr (Or.inr rfl)) (hdb : (y == ("__debug__" : Str)) = false := by decide) (hcd : (y == ("__classdict__" : Str)) = false := by decide)
    (hb : attributeBase (.Name y p1) f X.env (eval (.Name y p1) X.env) = eval (.Name y p1) X.env := by rfl) : JE X en (.Attribute (.Name y p1) f pos) δ (Is d) :=
  PE.weak (pe_fld (pe_var hN hv hdb hcd) hb) fun σ H Q ⟨G, S, k⟩ => by
    obtain ⟨v, hs, dx, vs, ev, hp, h0, hg, r⟩ := S.at_ i _ hδ
    obtain ⟨u, hu, ru⟩ := r.get hd
    exact ⟨v, hs, q, _, dx, _, u, ev, hp, cl, na, zip_lookup (cF_nodup cc) hi hu, k u G H d S.fm rfl ru⟩
/-- self.f = e, the next field -/
theorem jb_fldSN (i : Nat) {y : Str} {p : Addr} {cc : Nat} {fs : List Dat} {f : Str} (hδ : δ[i]? = some (some (.slf p cc fs))) (he : JE X en e δ R) (k : ∀ d, R d → JB X en rest (δ.set i (some (.slf p cc (fs ++ [d])))) P) (hi : (cF cc)[fs.length]? = some f) (cl : Cls X.K (cA X.K cc)) (na : NoAttr X.K (cA X.K cc) f)
    (one : ∀ (j : Nat) (q : Addr) (c' : Nat) (gs : List Dat), δ[j]? = some (some (.slf q c' gs)) → j = i)
    (hN : X.N[i]? = some y := by rfl) (hv : Vis X.env.scope y := by first | exact Or.inl rfl | exact Or.inr (Or.inl rfl) | exact Or.inr (Or.inr rfl)) (hdb : (y == ("__debug__" : Str)) = false := by decide) (hcd : (y == ("__classdict__" : Str)) = false := by decide)
    (hsw : swapsWith e (some (.Attribute (.Name y p1) f p2)) pos.line X.env = pure false := by rfl) : JB X en (.Assign [.Attribute (.Name y p1) f p2] e pos :: rest) δ P :=
  jb_cons (M := fun δ' => ∃ d, R d ∧ δ' = δ.set i (some (.slf p cc (fs ++ [d])))) (PS.weak (ps_fld (pe_var hN hv hdb hcd) he hsw) fun D σ H ⟨G, S, k1, _⟩ => ⟨G, S, fun u G1 H1 d' fm rd pd => by
    have S1 := S.step fm
    obtain ⟨v, hs, dx, vs, ev, hp, h0, hg, r⟩ := S1.at_ i _ hδ
    have hl := r.length
    refine ⟨v, hs, p, _, dx, _, ev, hp, cl, na, ?_, ?_⟩
    · have h3 : (cF cc).length ≤ 3 := by
        cases cc with
        | zero => exact Nat.le_refl 3
        | succ n =>
          cases n with
          | zero => exact Nat.le_refl 3
          | succ n => exact (by decide : 2 ≤ 3)
      rw [List.length_zip]
      omega
    · rw [ev] at hs
      rw [putF_zip (cF_nodup cc) (by rw [hl]; exact hi)]
      have S2 := S1.st.slf_put hδ hs hp h0 hg (r.append (Reps.one pd)) one
      refine k1 σ G1 _ _ fm.gg ⟨S2, S1.f0.gg, S2.gh, fun b o e m q => ?_, S1.f0.new, S2.dr⟩ ⟨d', rd, rfl⟩
      rw [upd_ne (ne_of_none q h0)]
      exact S1.f0.hh b o e m q⟩) fun δ' ⟨d, rd, e⟩ => e ▸ k d rd

theorem jb_fldS (i : Nat) {y : Str} {p : Addr} {cc : Nat} {fs : List Dat} {f : Str} {d : Dat} (hδ : δ[i]? = some (some (.slf p cc fs))) (he : JE X en e δ (Is d)) (k : JB X en rest (δ.set i (some (.slf p cc (fs ++ [d])))) P) (hi : (cF cc)[fs.length]? = some f) (cl : Cls X.K (cA X.K cc)) (na : NoAttr X.K (cA X.K cc) f)
    (one : ∀ (j : Nat) (q : Addr) (c' : Nat) (gs : List Dat), δ[j]? = some (some (.slf q c' gs)) → j = i)
    (hN : X.N[i]? = some y := by rfl) (hv : Vis X.env.scope y := by first | exact Or.inl rfl | exact Or.inr (Or.inl rfl) | exact Or.inr (Or.inr rfl)) (hdb : (y == ("__debug__" : Str)) = false := by decide) (hcd : (y == ("__classdict__" : Str)) = false := by decide)
    (hsw : swapsWith e (some (.Attribute (.Name y p1) f p2)) pos.line X.env = pure false := by rfl) : JB X en (.Assign [.Attribute (.Name y p1) f p2] e pos :: rest) δ P :=
  jb_fldSN i hδ he (fun d' r => by rw [show d' = d from r]; exact k) hi cl na one hN hv hdb hcd hsw
theorem je_tupleP {Rl : List Dat → Prop} (ha : JE X en e δ (fun d => ∃ ds, d = .lst ds ∧ Rl ds)) (hm : X.mg "tuple" = none) (hg : Gl X "tuple" := by rfl) (he : starEach [e] X.env = (false, eval e X.env) :: starEach [] X.env := by rfl) :
    JE X en (.Call (.Name "tuple" p1) [e] [] pos) δ (fun d => ∃ ds, d = .tup ds ∧ Rl ds) :=
  PE.weak (pe_callTy call_tuple_of hg hm (by decide +kernel) (ja_cons ha ja_nil he) (by decide) (by decide) he) fun σ H Q ⟨G, S, k⟩ => ⟨G, S, fun vs G1 H1 ss f rs ps => by
    obtain ⟨d, r, e1, ⟨ds, ed, rd⟩, e2⟩ := rs
    have e3 : r = [] := e2
    rw [e1, ed, e3] at ps
    obtain ⟨v, ev, rv⟩ := reps1 (ArgsOk.reps (ds := [.lst ds]) ps)
    obtain ⟨p, us, eu, hp, ru⟩ := rep_lst rv
    exact ⟨p, us, by rw [ev, eu], .inl ⟨sqL (f.gh _ _ hp), fun l hl => k _ _ _ _ (f.trans ((Fm.new_ f.gh hl).lift f.drw)) ⟨ds, rfl, rd⟩ ⟨l, us, rfl, upd_same, ru.mono (Ex.new (none_G f.gh hl))⟩⟩⟩⟩

/-! ### making -/
def SpI (K : PySem.W.Frag) (c : Nat) (W : Wf) : Sp := fun vs H Q E => ∃ (da : Option Addr) (G H1 : Hp) (x dx : Addr) (us : List V) (ss : List Sl) (R : Dat → Prop) (Z : Nat → Int → Prop), vs = .ref x :: us ∧ H = upd (upd H1 dx (.own x)) x (.ins (cA K c) dx []) ∧ H1 x = none ∧ H1 dx = none ∧ dx ≠ x ∧
  Gh G H1 ∧ (∀ a, da = some a → DrwOk G H1 a) ∧ ArgsOk K da G ss us ∧ W ss R Z ∧ (∀ G' H' d, Fm da G H1 G' H' → R d → Rep K G' d (.ref x) → Q .non H')
def MakJ (P : Program) (w : World) (K : PySem.W.Frag) (mg : Str → Option Value) (base : Heap) (c k : Nat) (ps : List Str) (W : Wf) : Prop :=
  ∃ (f : Addr) (fd : FuncData), Mk K (cA K c) f ∧ FnOk P w K mg base (L2.CX P w) k f fd ps (SpI K c W) ∧ Binds K fd ps [] ∧ mg (cN c) = some (.ref (cA K c))
theorem je_make {cc k : Nat} {x : Str} {ps : List Str} {W : Wf} {ss : List Sl} (F : MakJ X.prog X.w X.K X.mg X.base cc k ps W) (hx : x = cN cc) (ha : JA X en (e :: es) δ (Is ss)) (h : W ss R (fun _ _ => False)) (hr : Room (k + 1) X.A) (hg : Gl X x := by rfl) (hdb : (x == ("__debug__" : Str)) = false := by decide)
    (he : starEach (e :: es) X.env = (false, eval e X.env) :: starEach es X.env := by rfl) (hpl : (backTo pos (starEach es X.env)).any (·.1) = false := by rfl) : JE X en (.Call (.Name x p1) (e :: es) [] pos) δ R := by
  obtain ⟨f, fd, M, F1, hb, hm⟩ := F
  refine PE.weak (pe_make M F1 hr hg (by rw [hx]; exact hm) hb .nil passL ha hdb he hpl) fun σ H Q ⟨G, S, q⟩ => ⟨G, S, fun vs G1 H1 ss' f1 rs ps => fun x1 dx hx1 hdx hne => ?_⟩
  rw [show ss' = ss from rs] at ps
  show SpI X.K cc W (.ref x1 :: (vs ++ [])) _ _ E0
  rw [List.append_nil]
  exact ⟨en.da, G1, H1, x1, dx, vs, ss, R, fun _ _ => False, rfl, rfl, hx1, hdx, hne, f1.gh, f1.drw, ps, h, fun G' H' d f2 rd rp => ⟨rfl, q _ G' H' d (f1.trans f2) rd rp⟩⟩
theorem now_startI {K : PySem.W.Frag} {da : Option Addr} {G H1 : Hp} {c : Nat} {x dx : Addr} {ss : List Sl} {us : List V} {N : List Str} (e : Gh G H1) (d : ∀ a, da = some a → DrwOk G H1 a) (h : ArgsOk K da G ss us) (hx : H1 x = none) (hdx : H1 dx = none) :
    Now K ⟨da, G, H1⟩ G (upd (upd H1 dx (.own x)) x (.ins (cA K c) dx [])) (L2.start N (.ref x :: us)) (startL N (.slf x c [] :: ss)) := by
  obtain ⟨l, a, b⟩ := h.start
  have at1 : ∀ (i : Nat) sl, (startL N (.slf x c [] :: ss))[i]? = some (some sl) → (Sl.slf x c [] :: ss)[i]? = some sl := fun i sl q => by
    unfold startL at q
    by_cases hi : i < (Sl.slf x c [] :: ss).length
    · rw [List.getElem?_append_left (by rw [List.length_map]; exact hi), List.getElem?_map] at q
      cases e2 : (Sl.slf x c [] :: ss)[i]? with
      | none =>
        rw [e2] at q
        cases q
      | some s2 =>
        rw [e2] at q
        have e3 : some s2 = some sl := Option.some.inj q
        exact e3
    · rw [List.getElem?_append_right (by rw [List.length_map]; omega), List.getElem?_replicate] at q
      split at q <;> cases q
  have keep : ∀ b o, H1 b = some o → upd (upd H1 dx (.own x)) x (.ins (cA K c) dx []) b = some o := fun b o q => by
    rw [upd_ne (ne_of_none q hx), upd_ne (ne_of_none q hdx)]
    exact q
  have gh : Gh G (upd (upd H1 dx (.own x)) x (.ins (cA K c) dx [])) := fun b o q => by
    have q1 := e b o q
    obtain ⟨u, hu⟩ := q1.ex
    rw [keep b u hu]
    rw [hu] at q1
    exact q1
  have dr : ∀ a, da = some a → (∃ o, H1 a = some o) ∧ DrwOk G (upd (upd H1 dx (.own x)) x (.ins (cA K c) dx [])) a := fun a q => by
    obtain ⟨pos, nb, ns, q1, q2, q3, q4⟩ := d a q
    exact ⟨⟨_, q1⟩, pos, nb, ns, keep _ _ q1, q2, q3, q4⟩
  refine ⟨⟨gh, dr, ?_, fun i sl q => ?_, fun i j ds es p q q2 _ _ => ?_⟩, ⟨Ex.refl G, gh, fun b o _ _ q => keep b o q, fun _ _ _ => rfl, dr⟩⟩
  · unfold L2.start startL
    rw [List.length_append, List.length_append, List.length_map, List.length_map, List.length_replicate, List.length_replicate, List.length_cons, List.length_cons, l]
  · have q1 := at1 i sl q
    have fin : ∀ v, (V.ref x :: us)[i]? = some v → (L2.start N (.ref x :: us))[i]? = some (some v) := fun v hv => by
      unfold L2.start
      rw [List.getElem?_append_left (by rw [List.length_map]; exact (List.getElem?_eq_some_iff.mp hv).1), List.getElem?_map, hv]
      rfl
    cases i with
    | zero =>
      have e1 : Sl.slf x c [] = sl := Option.some.inj q1
      rw [← e1]
      exact ⟨.ref x, fin _ rfl, dx, [], rfl, (by rw [upd_same]; cases cF c <;> rfl), hx, none_G e hx, Reps.nil⟩
    | succ i =>
      obtain ⟨v, hv, ok⟩ := a i sl q1
      exact ⟨v, fin _ hv, ok _ _⟩
  · cases i with
    | zero => cases (at1 0 _ q)
    | succ i => exact absurd (at1 _ _ q) (b i ds)
/-- THE RULE for __init__ -/
theorem makj {P : Program} {w : World} {K : PySem.W.Frag} {mg : Str → Option Value} {base : Heap} {nm qual : Str} {params : Arguments} {body : List Stmt} {scope : Scope} {fd : FuncData} {N ps : List Str} {c k : Nat} {W : Wf} (f : Addr)
    (F : FunD K nm qual params body scope [] [] f fd) (S : FnScope N ps scope) (hl : ∀ ss R Z, W ss R Z → ss.length + 1 = ps.length)
    (hb : ∀ (cdv : Value) (A : Around) (outer : List Env) (s : Shared) (H : Hp) (E : XK) (en : En) (x : Addr) (ss : List Sl) (R : Dat → Prop) (Z : Nat → Int → Prop), Room k (A.deeper (envOfC qual scope s.heap.objs.size f cdv)) → W ss R Z →
      JB (cxOf (L2.CX P w) P w K mg base N qual scope f cdv A outer s H E) en body (startL N (.slf x c [] :: ss)) { nx := fun δ' => ∃ fs, δ'[0]? = some (some (.slf x c fs)) ∧ R (.ins c fs), rt := fun _ => False }) : FnOk P w K mg base (L2.CX P w) (k + 1) f fd ps (SpI K c W) := by
  refine F.ok S (fun vs H Q E ⟨da, G, H1, x, dx, us, ss, R, Z, ev, eH, _, _, _, e, d, ha, hw, _⟩ => by rw [ev, List.length_cons, ← ha.start.1]; exact hl ss R Z hw) (fun cdv A outer s H vs Q E hr ⟨da, G, H1, x, dx, us, ss, R, Z, ev, eH, hx, hdx, hne, e, d, ha, hw, q⟩ => ⟨_, hb cdv A outer s H E ⟨da, G, H1⟩ x ss R Z hr hw, ?_⟩)
  subst ev eH
  refine ⟨G, now_startI e d ha hx hdx, fun σ' G' H' δ' _ S' ⟨fs, hfs, r⟩ => ?_, fun v G' H' d' f r p => r.elim, fun _ _ _ _ _ _ z => z.elim, fun _ _ _ _ _ _ z => z.elim⟩
  obtain ⟨v, hs, dx2, vs, ev, hp, h0, hg, rr⟩ := S'.at_ 0 _ hfs
  exact q _ H' _ (S'.f0.still hp h0 hg) r ⟨x, dx2, vs, rfl, upd_same, rr.mono (Ex.new hg)⟩
end
end PJ
end
section
set_option maxHeartbeats 4000000
/-! Own errors over Exception whose __init__ stores disc: made, raised, read. -/
namespace PEx
open PySem PySem.W PySem.Calls PyProof.Rows PySem.HandSPX
open Builtin Builtin.ObjectAttr

abbrev exTail : List Value := [.type "Exception", .type "BaseException", .type "object"]
abbrev gA (K : Frag) (x : Str) : Addr := He.ga K x
/-- what is asked of such a class -/
def exnB (K : Frag) (x : Str) : Bool := excInitIn K (gA K x) exTail "Exception.__new__" && (hasDictIn K (gA K x) && (He.eqO (findIn K (.ref (gA K x)) "__setattr__") (some (some (.builtin "object.__setattr__"))) &&
  (He.eqO (findIn K (.ref (gA K x)) "__getattribute__") (some (some (.builtin "BaseException.__getattribute__"))) && (He.eqO (findIn K (.ref (gA K x)) "__getattr__") (some none) && (He.eqO (findIn K (.ref (gA K x)) "disc") (some none) &&
  (He.eqO (findIn K (.ref (gA K x)) "__init__") (some (some (.ref (He.ma K (gA K x) "__init__")))) && (decide (typeIn K (.ref (He.ma K (gA K x) "__init__")) = some (.type "function")) && (keepIn K (.ref (gA K x)) &&
  (decide (subIn K (.ref (gA K x)) (.type "BaseException") = some true) && decide (typeIn K (.ref (gA K x)) = some (.type "type")))))))))))
structure ExC (K : Frag) (C fI : Addr) : Prop where
  ini : excInitIn K C exTail "Exception.__new__" = true
  hd : hasDictIn K C = true
  sa : findIn K (.ref C) "__setattr__" = some (some (.builtin "object.__setattr__"))
  ga : findIn K (.ref C) "__getattribute__" = some (some (.builtin "BaseException.__getattribute__"))
  gg : findIn K (.ref C) "__getattr__" = some none
  noD : findIn K (.ref C) "disc" = some none
  iC : findIn K (.ref C) "__init__" = some (some (.ref fI))
  tC : typeIn K (.ref fI) = some (.type "function")
  kC : keepIn K (.ref C) = true
  exC : subIn K (.ref C) (.type "BaseException") = some true
  tyC : typeIn K (.ref C) = some (.type "type")
theorem exnB_ok {K : Frag} {x : Str} (h : exnB K x = true) : ExC K (gA K x) (He.ma K (gA K x) "__init__") := by
  obtain ⟨h1, h⟩ := He.ba h
  obtain ⟨h2, h⟩ := He.ba h
  obtain ⟨h3, h⟩ := He.ba h
  obtain ⟨h4, h⟩ := He.ba h
  obtain ⟨h5, h⟩ := He.ba h
  obtain ⟨h6, h⟩ := He.ba h
  obtain ⟨h7, h⟩ := He.ba h
  obtain ⟨h8, h⟩ := He.ba h
  obtain ⟨h9, h⟩ := He.ba h
  obtain ⟨h10, h11⟩ := He.ba h
  exact ⟨h1, h2, He.eqO_ok h3, He.eqO_ok h4, He.eqO_ok h5, He.eqO_ok h6, He.eqO_ok h7, of_decide_eq_true h8, h9, of_decide_eq_true h10, of_decide_eq_true h11⟩
theorem cls_of {K : Frag} {C : Addr} (q : excInitIn K C exTail "Exception.__new__" = true) : ∃ nm N qn bs bm hdct sn sub ab col dd k0 k1 k2 k3 k5,
    K.lookup C = some (excClassObj nm qn C N bs bm hdct sn sub ab col dd k0 k1 k2 k3 k5 "Exception.__new__") ∧ excTail exTail bm = true := by
  unfold excInitIn at q
  split at q
  · rename_i dd cd sl ho
    split at q
    · rename_i C' bm k0 k1 k2 k3 n k5 hm hs
      simp only [Bool.and_eq_true, beq_iff_eq, Bool.not_eq_true'] at q
      obtain ⟨⟨⟨rfl, rfl⟩, hdel⟩, ht⟩ := q
      obtain ⟨nm, bs, mro, ns, qn, hd, sn, sub, ab, col, del⟩ := cd
      dsimp only at hm hdel
      subst hm hdel
      have hsl : sl = #[k0, k1, k2, k3, some (.builtin "Exception.__new__"), k5] := by
        obtain ⟨l⟩ := sl
        simp only at hs
        rw [hs]
      subst hsl
      exact ⟨nm, ns, qn, bs, bm, hd, sn, sub, ab, col, dd, k0, k1, k2, k3, k5, ho, ht⟩
    · cases q
  · cases q
theorem tail_ne {l : List Value} (e : excTail exTail l = true) : l.isEmpty = false := by
  cases l with
  | nil => exact absurd e (by decide)
  | cons _ _ => rfl
theorem tail_pass (self : Value) (l : List Value) (e : excTail exTail l = true) : refuseLoop self "__setattr__" l = pure () := excTail_pass self (F.store_Exception.passes self) l e
section
variable {prog : Program} {w : World} {A : Around} {R : Result → Shared → Prop} {hp : Heap} {g : Array GenState} {d : Drawn} {t : Nat} {os : OsState}
theorem exc_osaE {K : W.Frag} {name : Str} {tk : Tok} {v : Value} {x C : Addr} {fv : Array Value} {cd : ClassData}
    (X : K.In hp) (hx : hp.get? x = some { cls := .ref C, data := .fields fv }) (hcd : W.clsIn K C = some cd) (hm : excTail exTail cd.mro = true) (hh : cd.hasDict = true) (ha : W.findIn K (.ref C) name = some none)
    (hq : ∀ h' tk' dx, (∀ b o, b ≠ x → hp.get? b = some o → h'.get? b = some o) → hp.objs.size ≤ dx → dx ≠ x → h'.get? x = some { cls := .ref C, dict := some dx, data := .fields fv } →
      h'.Ns1 dx (fun y => if y = name then some v else none) → R (.ok (.ret .none)) ⟨h', g, d, tk', os⟩) :
    codeAny (model prog w) A (.call (.builtin "object.__setattr__") ⟨[.ref x, .str name tk, v], []⟩) R ⟨hp, g, d, t, os⟩ := by
  have I : W.InstAt hp x { cls := .ref C, data := .fields fv } C none := ⟨hx, rfl, rfl, trivial⟩
  have SF := F.store_object
  have ne := tail_ne hm
  have hob : cd.mro.contains (.type "object") = true := (excTail_contains "object" _ hm).trans (by decide +kernel)
  have hxs : x ≠ hp.objs.size := Nat.ne_of_lt (Heap.lt_size hx)
  have sub : W.Looks (model prog w) hp (isInstance (.ref x) (.type "object")) true := I.type.andThen (W.looks_mroIn X (by unfold W.mroIn; rw [hcd, Option.bind_some, if_neg (by rw [ne]; decide), hob]))
  refine codeAny_call_builtin SF.slot.plain SF.entry (@W.check_slot (model prog w) _ _ ⟨hp, g, d, t, os⟩ "object.__setattr__" "object" "__setattr__" (.ref x) [.str name tk, v] [] _ SF.kind SF.split sub (SF.args (.ref x) (.str name tk) v) ?_)
  have hmr : W.Looks (model prog w) hp (mroOf (.ref C)) cd.mro := (W.looks_clsIn X hcd).andThen .now
  have L3 : W.Looks (model prog w) hp (storeTaker? none) none := .now
  have hcls : W.Looks (model prog w) hp (classData C) cd := W.looks_clsIn X hcd
  rw [W.osa_eq, refuse_eq]
  refine wpAny_bind (wpAny_bind (I.type.at (wpAny_bind (hmr.at ?_))))
  rw [tail_pass _ _ hm]
  refine wpAny_pure (wpAny_bind (I.type.at (wpAny_bind ((W.looks_findIn X ha).at (wpAny_bind (L3.at ?_))))))
  show wpAny _ _ (storeInOwnDict (.ref x) (.ref C) (.str name tk) name v false) _ _ _
  obtain ⟨nm, bs, mro, ns, qn, hd, sn, sb, ab, col, del⟩ := cd
  dsimp only at hh
  subst hh
  unfold storeInOwnDict ownDictForStores
  repeat (first | with_reducible refine store_in_new ?_ ?_ | with_reducible refine wpAny_loadPart_at hx ?_ | with_reducible refine hcls.at ?_ | wp_step)
  · exact ⟨_, #[], _, (Heap.get?_update_ne _ _ _ _ hxs.symm).trans (Heap.get?_push_at rfl rfl), rfl, fun e he => absurd he (by simp), fun _ => rfl⟩
  · intro h' tk' hn' hs
    have hx₁ : (hp.push { cls := .type "dict", data := .dict #[] }).get? x = some { cls := .ref C, data := .fields fv } := Heap.get?_push_of_some _ hx
    refine hq h' tk' hp.objs.size (fun b o hb ho => ?_) (Nat.le_refl _) hxs.symm ?_ hn'
    · exact (hs.2 b (Nat.ne_of_lt (Heap.lt_size ho))).trans ((Heap.get?_update_ne _ _ _ _ hb).trans (Heap.get?_push_of_some _ ho))
    · exact (hs.2 x hxs).trans (Heap.get?_update_self _ hx₁ rfl)
end
/-! ### the text of __init__ -/
def iA (p1 p2 : Pos) : Arguments := { posonlyargs := [], args := [{ arg := "self", annotation := none, pos := p1 }, { arg := "disc", annotation := none, pos := p2 }], vararg := none, kwonlyargs := [], kw_defaults := [], kwarg := none, defaults := [] }
def iB (q1 q2 q3 q4 : Pos) : List Stmt := [.Assign [.Attribute (.Name "self" q1) "disc" q2] (.Name "disc" q3) q4]
def iS : Scope := { kind := .function, names := [(PySem.Str.ofString "self", .local), (PySem.Str.ofString "disc", .local)], isGenerator := false, isCoroutine := false, more := [] }
structure ExT (K : Frag) (C fI : Addr) (q : Str) : Prop where
  c : ExC K C fI
  fn : ∃ (p1 p2 q1 q2 q3 q4 : Pos) (fd : FuncData), L2.FunD K "__init__" q (iA p1 p2) (iB q1 q2 q3 q4) iS [] [] fI fd
theorem one_size (v : Value) : [v].length ≤ sizeLine := by
  rw [sizeLine_eq]
  exact (by decide : 1 ≤ 16777216)
theorem ldC {M : Model} {s : Shared} {name : Str} {scope : Scope} {L a : Addr} {cd : Value} {m : Str → Option Value} {x : Str} {pos : Pos} {v : Value} {Q : Value → Shared → Prop} {A : Around} {E : Value → Shared → Prop} (hn : s.heap.Ns L m) (hv : m x = some v) (h : Q v s)
    (hk : scope.kind = .function := by rfl) (hl : (envOfC name scope L a cd).kindOf x = some .local := by rfl) (hd : (x == ("__debug__" : Str)) = false := by decide) :
    wpAny M A (eval (.Name x pos) (envOfC name scope L a cd)) Q E s := wpAny_Name (wpAny_loadName_local hk hl hn hv h) hd
structure InitEnd (h h' : Heap) (x C dx t1 : Addr) (v : Value) : Prop where
  keep : ∀ b o, b ≠ x → h.get? b = some o → h'.get? b = some o
  obj : h'.get? x = some { cls := .ref C, dict := some dx, data := .fields #[.ref t1, .none, .none, .none, .bool false, .none] }
  dbig : h.objs.size ≤ dx
  dne : dx ≠ x
  ns : h'.Ns1 dx (fun y => if y = "disc" then some v else none)
structure OwnMade (h h' : Heap) (e C d : Addr) (v : Value) : Prop where
  keep : ∀ b o, h.get? b = some o → h'.get? b = some o
  new : h.objs.size ≤ e
  obj : ∃ oe vs, h'.get? e = some oe ∧ oe.cls = .ref C ∧ oe.dict = some d ∧ oe.data = .fields vs ∧ vs[1]? = some .none
  dbig : h.objs.size ≤ d
  dne : d ≠ e
  ns : h'.Ns1 d (fun y => if y = "disc" then some v else none)
section
variable {prog : Program} {w : World} {A : Around} {E : Value → Shared → Prop} {R : Result → Shared → Prop} {s : Shared} {K : Frag} {C fI : Addr} {qual : Str}
theorem ex_init (T : ExT K C fI qual) {x t0 : Addr} {v : Value} (X : K.In s.heap) (hlim : s.heap.NoLimit) (hx : s.heap.get? x = some (HandSPX.excO C t0)) (hroom : A.depth < recursionLimit)
    (hq : ∀ h' tk dx, InitEnd s.heap h' x C dx t0 v → R (.ok (.ret .none)) { s with heap := h', toks := tk }) :
    codeAny (model prog w) A (.call (.ref fI) ⟨[.ref x, v], []⟩) R s := by
  obtain ⟨p1, p2, q1, q2, q3, q4, fd, FF⟩ := T.fn
  obtain ⟨oc, od, dV, kV, doc, pm, an, cdv, ct, osl, rfl, ho, hcd, hdv, _⟩ := FF.ex
  obtain ⟨nm, N, qn, bs, bm, hdct, sn, sub, ab, col, dd, k0, k1, k2, k3, k5, hC, hbm⟩ := cls_of T.c.ini
  have hcl : clsIn K C = some { name := nm, bases := bs, mro := .ref C :: bm, ns := N, qualname := qn, hasDict := hdct, slotNames := sn, subclasses := sub, abstract := ab, collection := col, hasDel := false } := by unfold clsIn; rw [hC] <;> rfl
  have hdt : hdct = true := by
    have q := T.c.hd
    unfold hasDictIn at q
    rw [hcl] at q
    exact q
  have hdv0 : dV = .none := by
    rcases hdv with ⟨_, h⟩ | ⟨h, _⟩
    · exact h
    · exact absurd rfl h
  subst hdv0
  refine Att.call_fn (binds := [("self", .ref x), ("disc", v)]) X hlim ho hcd hroom (BindsTo.of_eq (by first | rfl | with_unfolding_all rfl)) (by first | rfl | decide | with_unfolding_all rfl) (fun s₁ IC => ?_) rfl rfl rfl
  obtain ⟨h₁, tk₁, rfl⟩ := IC.toInCall.same
  have k : ∀ b o, s.heap.get? b = some o → h₁.get? b = some o := IC.toInCall.keep
  have hn := IC.toInCall.ns
  have hxL : s.heap.objs.size ≠ x := Nat.ne_of_gt (Heap.lt_size hx)
  have X₁ : K.In h₁ := X.keeps k
  have hx₁ := k _ _ hx
  show wpAny _ _ (execs _ _) _ _ _
  refine wpAny_execs_cons (plainObj_wpAny_Assign_Attribute ?_)
  refine ldC (v := v) hn (by first | rfl | with_unfolding_all rfl | kernel_rfl) (ldC (v := .ref x) hn (by first | rfl | with_unfolding_all rfl | kernel_rfl) ?_)
  refine set_plain X₁ (ox := HandSPX.excO C t0) (od := none) ⟨hx₁, rfl, rfl, trivial⟩ T.c.sa ?_
  refine exc_osaE X₁ hx₁ hcl (show excTail exTail (.ref C :: bm) = true from hbm) hdt T.c.noD (fun h₃ tk₃ dx k₃ dn dne hx₃ hn₃ => ?_)
  show wpAny _ _ (execs _ _) _ _ _
  have z : s.heap.objs.size < h₁.objs.size := hn.lt
  exact wpAny_execs_nil (hq h₃ tk₃ dx ⟨fun b o hb e => k₃ b o hb (k b o e), hx₃, Nat.le_of_lt (Nat.lt_of_lt_of_le z dn), dne, hn₃⟩)
theorem ex_made (T : ExT K C fI qual) {v : Value} (X : K.In s.heap) (hlim : s.heap.NoLimit) (hroom : A.depth + 1 < recursionLimit)
    (hq : ∀ h' tk e d, OwnMade s.heap h' e C d v → R (.ok (.ret (.ref e))) { s with heap := h', toks := tk }) :
    codeAny (model prog w) A (.call (.ref C) ⟨[v], []⟩) R s := by
  obtain ⟨nm, N, qn, bs, bm, hdct, sn, sub, ab, col, dd, k0, k1, k2, k3, k5, hC, hbm⟩ := cls_of T.c.ini
  obtain ⟨hp, g, dr, tk, os⟩ := s
  have k : ∀ b o, hp.get? b = some o → ((hp.push (kdv_tup [v])).push (HandSPX.excO C hp.objs.size)).get? b = some o := fun b o e => Heap.get?_push_of_some _ (Heap.get?_push_of_some _ e)
  have hget : ((hp.push (kdv_tup [v])).push (HandSPX.excO C hp.objs.size)).get? (hp.objs.size + 1) = some (HandSPX.excO C hp.objs.size) := by heap_get
  refine HandSPX.call_own F.excBase_Exception (fun X => excTail_contains X bm hbm) (X _ _ hC) (looks_findIn X T.c.iC) (fun self => PySem.W.bind_fn X self T.c.tC) (one_size v) ?_
  refine ex_init (s := ⟨(hp.push (kdv_tup [v])).push (HandSPX.excO C hp.objs.size), g, dr, tk, os⟩) T (X.keeps k) (hlim.keeps k) hget ?_ fun h' tk' dx ⟨k', hx, dn, dne, hns⟩ => ?_
  · show A.depth + 1 < recursionLimit
    exact hroom
  · have old : ∀ b o, hp.get? b = some o → h'.get? b = some o := fun b o e => k' b o (Nat.ne_of_lt (Nat.lt_succ_of_lt (Heap.lt_size e))) (k b o e)
    have z : hp.objs.size + 1 + 1 ≤ dx := by
      first
        | (simpa only [Heap.size_push] using dn)
        | exact dn
        | (have q := dn; rw [Heap.size_push, Heap.size_push] at q; exact q)
    exact ⟨rfl, hq h' tk' (hp.objs.size + 1) dx ⟨old, Nat.le_succ _, ⟨_, _, hx, rfl, rfl, rfl, rfl⟩, Nat.le_trans (Nat.le_trans (Nat.le_succ _) (Nat.le_succ _)) z, dne, hns⟩⟩
end
end PEx
namespace PJ
open PySem PySem.Spec PyProof.Rows L2
theorem relO_disc {v : V} {v' : Value} (r : RelV v v') (f : Str) : RelO (List.lookup f [(("disc" : Str), v)]) (if f = "disc" then some v' else none) := by
  by_cases hw : f = "disc"
  · subst hw
    rw [if_pos rfl]
    have q : List.lookup ("disc" : Str) [(("disc" : Str), v)] = some v := by simp [List.lookup]
    rw [q]
    exact r
  · rw [if_neg hw]
    have qw : (f == ("disc" : Str)) = false := by simpa using hw
    have q2 : List.lookup f [(("disc" : Str), v)] = none := by simp [List.lookup, qw]
    rw [q2]
    trivial
section
variable {X : Cx} {C fI : Addr} {qual : Str}
def tMkX (C : Addr) (ta : TA) : L2.St → Hp → XK → Prop := fun σ H Q => ta σ H fun vs H1 => ∃ v, vs = [v] ∧ ∀ d, H1 d = none → Q (.ref C) (some d) (upd H1 d (.xd [(("disc" : Str), v)]))
theorem pmk_x {a : Expr} {ta : TA} {x : Str} {p pos : Pos} {k : Nat} (T : PEx.ExT X.K C fI qual) (gC : X.mg x = some (.ref C)) (hr : Room k X.A) (ha : PA X [a] ta) (hg : Gl X x := by rfl) (hdb : (x == ("__debug__" : Str)) = false := by decide)
    (he : starEach (a :: []) X.env = (false, eval a X.env) :: starEach [] X.env := by rfl) (hpl : (backTo pos (starEach [] X.env)).any (·.1) = false := by rfl) :
    PMk X (.Call (.Name x p) [a] [] pos) (tMkX C ta) := by
  intro pins s σ H Q I h
  refine wpAny_Call_Name_kw (ld_glob I hg gC ?_ hdb)
  refine PySem.W.callWith_K (h₀ := X.base) I.ok.mod.kin T.c.kC (thn (ha.run pos pins s σ H _ I h) fun us s1 hh => ?_) he hpl
  obtain ⟨vs, H1, I1, r1, v, ev, q1⟩ := hh
  subst ev
  refine ⟨I1.kIn, ?_⟩
  cases r1 with
  | cons rv rn =>
    rename_i v' us'
    cases rn
    show wpAny _ _ (call (.ref C) [v']) _ _ _
    have hlim := I1.nolimit
    obtain ⟨hp, g, dr, tk, os⟩ := s1
    refine wpAny_call (PEx.ex_made T I1.kIn hlim (by have := hr.dp; omega) fun h' tk' e d M => ?_)
    show MkP X pins σ Q (.ref e) ⟨h', g, dr, tk', os⟩
    obtain ⟨oe, fv, hoe, hc, hd, hdat, h1⟩ := M.obj
    have hns := M.ns
    obtain ⟨G', g1, g2⟩ := restrict h' fun b => decide (b ≠ e)
    have gk : ∀ b, b ≠ e → G'.get? b = h'.get? b := fun b hb => g1 b (decide_eq_true hb)
    have ge : G'.get? e = none := g2 e (by simp)
    have old : ∀ b o, hp.get? b = some o → G'.get? b = some o := fun b o q => (gk b (Nat.ne_of_lt (Nat.lt_of_lt_of_le (Heap.lt_size q) M.new))).trans (M.keep b o q)
    have ob : ObjOk X.prog X.w (upd H1 d (.xd [(("disc" : Str), v)])) G' d (.xd [(("disc" : Str), v)]) :=
      ⟨_, hns.at (fun o q => (gk d M.dne).trans q), fun f => relO_disc rv f⟩
    have J : Inv X pins σ (upd H1 d (.xd [(("disc" : Str), v)])) ⟨G', g, dr, tk', os⟩ := I1.laid (t' := tk') old M.dbig ob
    refine ⟨e, oe, fv, ⟨G', g, dr, tk', os⟩, _, .ref C, some d, rfl, J, fun b o q => ?_, ge, hoe, ⟨hc, hd⟩, hdat, h1, ?_, rfl, I1.bare, raises_own T.c.exC T.c.tyC, q1 d (I1.hok.fresh M.dbig)⟩
    · by_cases hb : b = e
      · have q' : G'.get? b = some o := q
        rw [hb, ge] at q'; cases q'
      · exact (gk b hb).symm.trans q
    · rw [upd_ne (Ne.symm M.dne)]
      exact I1.hok.fresh M.new
/-- x.disc, x the exception that the suite holds (at a; its class cls, its dict d) -/
def tDisc (C : Addr) (a : Addr) (cls : Value) (d : Option Addr) (te : TE) : TE := fun σ H Q => te σ H fun x H1 => x = .ref a ∧ cls = .ref C ∧ ∃ (dd : Addr) (v : V), d = some dd ∧ H1 dd = some (.xd [(("disc" : Str), v)]) ∧ Q v H1
theorem pe_disc {a : Addr} {oe : Obj} {cls : Value} {d : Option Addr} {pn : List (Addr × Obj)} {e : Expr} {te : TE} {pos : Pos} (T : PEx.ExT X.K C fI qual) (hz : Zc cls d oe) (hf : ∃ vs, oe.data = .fields vs) (he : PE (X.suite a ((a, oe) :: pn)) e te)
    (hb : attributeBase e "disc" X.env (eval e X.env) = eval e X.env := by rfl) :
    PE (X.suite a ((a, oe) :: pn)) (.Attribute e "disc" pos) (tDisc C a cls d te) := by
  refine ⟨fun pins s σ H Q I h => ?_⟩
  refine attr_of hb (thn (he.run pins s σ H _ I h) fun u s1 hh => ?_)
  obtain ⟨x, H1, I1, rx, ex, ec, dd, v, ed, ea, q⟩ := hh
  subst ex
  obtain rfl : u = Value.ref a := rx
  subst ec
  subst ed
  obtain ⟨ha, _⟩ := I1.pin (a, oe) (List.mem_append_left _ List.mem_cons_self)
  obtain ⟨vs, hd⟩ := hf
  have hx : ObjOk X.prog X.w H1 s1.heap dd (.xd [(("disc" : Str), v)]) := I1.hok dd _ ea
  obtain ⟨mA, hns, hr⟩ := hx
  obtain ⟨od, ho, hl⟩ := lookIn_ns hns
  have l : List.lookup ("disc" : Str) [(("disc" : Str), v)] = some v := by simp [List.lookup]
  obtain ⟨u, hu, ru⟩ := RelO.some_of (v := v) (o := mA "disc") (by rw [← l]; exact hr "disc")
  have J : PySem.W.InstAt s1.heap a oe C (some od) := ⟨ha, hz.1, by unfold PySem.W.notCls; rw [hd] <;> rfl, by rw [hz.2]; exact ho⟩
  exact HandSPX.exc_get I1.kIn J T.c.ga T.c.gg T.c.exC (PySem.W.findObj_own T.c.hd T.c.noD rfl (by rw [hl, hu])) (handed_of ru) ⟨v, H1, I1.tok _, ru, q⟩
end
end PJ
end
section
set_option maxHeartbeats 4000000
/-! try with several clauses that hold the exception by a name. -/
namespace PJ
open PySem PySem.Spec PyProof.Rows L2
/-- one clause: the slot of its name, its class, its suite -/
abbrev Clause : Type := Nat × Value × (Addr → Value → Option Addr → TS)
def endsAs (D : Ends) (i : Nat) : Ends := { nx := fun σ' H' => D.nx (σ'.set i none) H', rt := D.rt, bk := fun σ' H' => D.bk (σ'.set i none) H', ct := fun σ' H' => D.ct (σ'.set i none) H' }
/-- what the clauses wish of an exception of the body; one of them is to take it -/
def wManyAs (K : PySem.W.Frag) (D : Ends) : List Clause → WX
  | [] => fun _ _ _ _ => False
  | (i, c, ts) :: r => fun cls d σ H => ∃ b, PySem.W.exmOne K cls c = some b ∧ (b = true → ∀ a, H a = none → ts a cls d (endsAs D i) (σ.set i (some (.ref a))) H) ∧ (b = false → wManyAs K D r cls d σ H)
inductive HdsAs (X : Cx) : List ExceptHandler → List Clause → Prop
  | nil {hds : List ExceptHandler} : HdsAs X hds []
  | cons {x n : Str} {i : Nat} {c : Value} {ts : Addr → Value → Option Addr → TS} {b₀ : Stmt} {suite : List Stmt} {np pos' : Pos} {hds : List ExceptHandler} {l : List Clause} (hi : X.N[i]? = some n) (hln : X.env.kindOf n = some .local) (hc : Names X x c)
      (hsu : ∀ (a : Addr) (oe : Obj) (cls : Value) (d : Option Addr) (pn : List (Addr × Obj)), Zc cls d oe → (∃ vs, oe.data = .fields vs) → PSs (X.suite a ((a, oe) :: pn)) (b₀ :: suite) (ts a cls d)) (r : HdsAs X hds l) :
      HdsAs X (.ExceptHandler (some (.Name x np)) (some n) (b₀ :: suite) pos' :: hds) ((i, c, ts) :: l)
section
variable {X : Cx} {body : List Stmt} {h₀ : ExceptHandler} {hds : List ExceptHandler} {l : List Clause} {pos : Pos} {tb : WX → TS}
theorem ps_try_manyAs (hs : X.stack = X.env :: X.outer) (hf : X.env.frame = some X.env.locals) (hN : X.N.Nodup)
    (hb : ∀ (W : WX) (pn : List (Addr × Obj)) (xe : Value → Shared → Prop), Takes (X.tr pn xe) W → PassesOwn (model X.prog X.w) X.A X.env xe → PSs (X.tr pn xe) body (tb W))
    (hh : HdsAs X (h₀ :: hds) l) : PS X (.Try body (h₀ :: hds) [] [] pos) (fun D σ H => tb (wManyAs X.K D l) D σ H) := by
  refine ⟨fun pins s σ H D I h => ?_⟩
  have ok := I.ok
  have hfr : X.A.frames = some (X.env :: X.outer) := by rw [ok.frames, hs]
  refine wpAny_Try_except ?_
  refine wpAny_mono ((hb (wManyAs X.K D l) (X.pn ++ pins) (fun e s₁ => wpAny (model X.prog X.w) X.A (noteFrame e X.env) (fun _ s₂ => wpAny (model X.prog X.w) X.A (setFlight e none) (fun _ s₃ =>
    wpAny (model X.prog X.w) X.A (handleBy e X.env (h₀ :: hds)) (SP X pins D) X.xe s₃) X.xe s₂) X.xe s₁) (fun u s' xx => ?_) PassesOwn.looking).run [] s σ H D (I.toTry _) h) (fun f s1 hsp => ?_) (fun e s1 he => he)
  · obtain ⟨a, B, sI, pins', σ', H', cls, d, rfl, J', nb, up, sky, na, os, ag, w⟩ := xx
    have J : Inv X pins σ' H' sI := J'.ofTry ok
    have sky' : Sky B (X.env :: X.outer) a (Zc cls d) X.env.locals s'.heap := by rw [← hs]; exact sky
    show wpAny (model X.prog X.w) X.A (noteFrame (.ref a) X.env) _ _ _
    refine Sky.land Zc.steady hfr hf sky' fun h3 fl3 up3 => ?_
    have J3 : Inv X pins σ' H' { s' with heap := h3 } := J.landed nb fl3.1 (up.trans up3) os ag
    obtain ⟨oe3, vs3, he3, hz3, hd3⟩ := fl3.there
    have notFr : ∀ {h : Heap} {o : Obj} {vs : Array Value}, h.FunFrames B (X.env :: X.outer) → h.get? a = some o → o.data = .fields vs → a ∉ frs (X.env :: X.outer) := fun {h o vs} ff e dd hm => by
      obtain ⟨_, o', e', hnf⟩ := ff.mem hm
      rw [e] at e'; cases e'
      exact hnf _ dd
    have nfr := notFr fl3.2.2.1 he3 hd3
    have nL : a ≠ X.env.locals := fun z => nfr (List.mem_filterMap.mpr ⟨X.env, List.mem_cons_self, by rw [hf, z]⟩)
    have nF : a ∉ X.fs := fun hm => by
      obtain ⟨e, he, q⟩ := List.mem_filterMap.mp hm
      exact nfr (List.mem_filterMap.mpr ⟨e, List.mem_cons_of_mem _ he, q⟩)
    have S3 := J3.suite he3 hd3 na nL nF
    have go : ∀ {hds' : List ExceptHandler} {l' : List Clause}, HdsAs X hds' l' → wManyAs X.K D l' cls d σ' H' →
        wpAny (model X.prog X.w) X.A (handleBy (.ref a) X.env hds') (SP X pins D) X.xe { s' with heap := h3 } := by
      intro hds' l' hk
      induction hk with
      | nil => exact fun w => False.elim w
      | @cons x n i c ts b₀ suite np pos' hds2 l2 hi hln hc hsu r ih =>
        intro w
        obtain ⟨b, hb1, hyes, hno⟩ := w
        have hloc : Loc X.env.scope n := .inl hln
        refine wpAny_handleBy_cons (codeAny_handlers_test ?_) (by intro q; cases q)
        have LT : PySem.W.Looks (model X.prog X.w) h3 (typeOf (.ref a)) cls := fun A Q E s k q => wpAny_typeOf_ref (k _ _ he3) (by rw [hz3.1]; exact q)
        have LM := PySem.W.exm_one (M := model X.prog X.w) (J3.kIn) LT hb1
        have test : ∀ {Q : Value → Shared → Prop} {E : Value → Shared → Prop}, Q c { s' with heap := h3 } → wpAny (model X.prog X.w) (X.A.mark (some (.ref a))) (eval (.Name x np) X.env) Q E { s' with heap := h3 } := fun {Q E} q => by
          obtain ⟨hg, hdbg, hm | ⟨hm, hv, hnn⟩⟩ := hc
          · exact ld_glob (X := X.suite a ((a, oe3) :: (X.pn ++ pins))) S3 hg hm q hdbg
          · exact ld_blt (X := X.suite a ((a, oe3) :: (X.pn ++ pins))) S3 hg hm hv q hnn hdbg
        refine test (LM.here ?_)
        cases b with
        | true =>
          refine codeAny_handlers_suite_as ?_
          refine HandSPX.lands_againZ fl3 fun h4 fl4 up4 => ?_
          have J4 : Inv X pins σ' H' { s' with heap := h4 } := J.landed nb fl4.1 ((up.trans up3).trans up4) os ag
          obtain ⟨oe4, vs4, he4, hz4, hd4⟩ := fl4.there
          have S4 := J4.suite he4 hd4 na nL nF
          refine store_ok (X := X.suite a ((a, oe4) :: (X.pn ++ pins))) (v := .ref a) S4 hN hi hloc rfl (fun s5 S5 => ?_) (.inr hln)
          refine wpAny_mono ((hsu a oe4 cls d (X.pn ++ pins) hz4 ⟨_, hd4⟩).run [] s5 _ H' _ S5 (hyes rfl a na)) (fun f s6 hsp => ?_) (fun _ _ z => False.elim z)
          have end_ : ∀ {σ6 : L2.St} {H6 : Hp} {Q : Shared → Prop}, Inv (X.suite a ((a, oe4) :: (X.pn ++ pins))) [] σ6 H6 s6 → (∀ s7, Inv X pins (σ6.set i none) H6 s7 → Q s7) →
              wpAny (model X.prog X.w) X.A (do bindName X.env n .none; unbindBehindTheSuite X.env n pos') (fun _ s7 => Q s7) X.xe s6 := fun {σ6 H6 Q} S6 hq => gone_ok (S6.unsuite ok) hN hi hln hq
          cases f with
          | next =>
            obtain ⟨σ6, H6, S6, q6⟩ := hsp
            exact end_ S6 fun s7 J7 => ⟨_, _, J7, q6⟩
          | brk =>
            obtain ⟨σ6, H6, S6, q6⟩ := hsp
            exact end_ S6 fun s7 J7 => ⟨_, _, J7, q6⟩
          | cont =>
            obtain ⟨σ6, H6, S6, q6⟩ := hsp
            exact end_ S6 fun s7 J7 => ⟨_, _, J7, q6⟩
          | ret u =>
            obtain ⟨v6, σ6, H6, S6, r6, q6⟩ := hsp
            exact end_ S6 fun s7 J7 => ⟨_, _, _, J7, r6, q6⟩
        | false =>
          show wpAny _ X.A (handleBy (.ref a) X.env hds2) _ _ _
          exact ih (hno rfl)
    exact go hh w
  · cases f with
    | next =>
      obtain ⟨σ', H', J', q⟩ := hsp
      exact wpAny_execs_nil ⟨σ', H', J'.ofTry ok, q⟩
    | brk =>
      obtain ⟨σ', H', J', q⟩ := hsp
      exact ⟨σ', H', J'.ofTry ok, q⟩
    | cont =>
      obtain ⟨σ', H', J', q⟩ := hsp
      exact ⟨σ', H', J'.ofTry ok, q⟩
    | ret u =>
      obtain ⟨v, σ', H', J', r, q⟩ := hsp
      exact ⟨v, σ', H', J'.ofTry ok, r, q⟩
end
end PJ
end
section
set_option maxHeartbeats 4000000
/-! raise, methods, properties over data. -/
namespace PJ
open PySem PySem.Spec PyProof.Rows L2
section
variable {X : Cx} {en : En} {δ : Lv} {a b c e o : Expr} {es : List Expr} {R : Dat → Prop} {pos p1 p2 pos2 apos : Pos} {rest : List Stmt} {P : Po}
theorem js_raise {E : XK} {x qual : Str} {kx k : Nat} {n : Int} {fI : Addr} (T : PEx.ExT X.K (eA X.K kx) fI qual) (gC : X.mg x = some (.ref (eA X.K kx))) (hr : Room k X.A) (tk : Takes X (fun cls d _ H => E cls d H)) (he : JE X en e δ (Is (.int n)))
    (hE : ∀ dd G' H', Fm en.da en.G0 en.H0 G' H' → en.H0 dd = none → H' dd = some (.xd [(("disc" : Str), .int n)]) → E (.ref (eA X.K kx)) (some dd) H') (hc : X.calm = true := by rfl) (hg : Gl X x := by rfl) (hdb : (x == ("__debug__" : Str)) = false := by decide)
    (hst : starEach (e :: []) X.env = (false, eval e X.env) :: starEach [] X.env := by rfl) (hpl : (backTo pos (starEach [] X.env)).any (·.1) = false := by rfl) :
    JS X en (.Raise (some (.Call (.Name x p1) [e] [] pos)) none pos2) δ P :=
  PS.weak (ps_raise hc tk (pmk_x T gC hr (ja_c he ja_nil hst) hg hdb hst hpl)) fun D σ H ⟨G, S, _⟩ => ⟨G, S, fun vs G1 H1 ss f r ps => by
    rw [show ss = [Sl.dat (.int n)] from r] at ps
    obtain ⟨v, ev, rv⟩ := reps1 (ArgsOk.reps (ds := [.int n]) ps)
    have e1 : v = .int n := rv
    refine ⟨v, ev, fun d hd => ?_⟩
    have f2 := S.f0.trans (f.trans ((Fm.loose (o := .xd [(("disc" : Str), v)]) f.gh hd).lift f.drw))
    refine hE d _ _ f2 ((S.f0.trans f).none_of hd) ?_
    rw [upd_same, e1]⟩
/-- a method or a getter -/
def MetJ (P : Program) (w : World) (K : PySem.W.Frag) (mg : Str → Option Value) (base : Heap) (f : Addr) (k : Nat) (ps : List Str) (W : Wf) : Prop :=
  ∃ fd : FuncData, FnOk P w K mg base (L2.CX P w) k f fd ps (SpJ K W) ∧ Binds K fd ps []
theorem je_meth {pl : Sem Bool} {cc k : Nat} {m : Str} {f : Addr} {fs : List Dat} {ps : List Str} {W : Wf} {ss : List Sl} (F : MetJ X.prog X.w X.K X.mg X.base f k ps W) (ho : JE X en o δ (Is (.ins cc fs))) (cl : Cls X.K (cA X.K cc)) (hm : Meth X.K (cA X.K cc) m f) (hn : m ∉ cF cc)
    (ha : JA X en (e :: es) δ (Is ss)) (h : W (.dat (.ins cc fs) :: ss) R (fun _ _ => False)) (hr : Room k X.A)
    (hst : starEach (e :: es) X.env = (false, eval e X.env) :: starEach es X.env := by rfl) (hpl : (backTo pos (starEach es X.env)).any (·.1) = false := by rfl)
    (ht : eval (.Call (.Attribute o m apos) (e :: es) [] pos) X.env = (do
      let ov ← eval o X.env
      standAt apos.atName
      let (f, first) ← holding [ov] (getMethod ov m pl)
      callWith pos f first (backTo pos (starEach (e :: es) X.env)) (backToKw pos (keywordEach [] X.env))) := by rfl) :
    JE X en (.Call (.Attribute o m apos) (e :: es) [] pos) δ R := by
  obtain ⟨fd, F1, hb⟩ := F
  refine PE.weak (pe_meth (pl := pl) ho cl hm F1 hr hb .nil passL ha hst hpl ht) fun σ H Q ⟨G, S, q⟩ => ⟨G, S, fun v G1 H1 d f1 r p => ?_⟩
  rw [show d = .ins cc fs from r] at p
  obtain ⟨a, dx, vs, ev, hH, rs⟩ := (show ∃ a dx vs, v = .ref a ∧ G1 a = some (.ins (cA X.K cc) dx ((cF cc).zip vs)) ∧ Reps X.K G1 fs vs from p)
  refine ⟨a, dx, _, ev, f1.gh _ _ hH, zip_none hn, G1, S.step f1, fun us G2 H2 ss' f2 rs2 ps2 => ?_⟩
  rw [show ss' = ss from rs2] at ps2
  show SpJ X.K W (v :: (us ++ [])) H2 Q E0
  rw [List.append_nil]
  have ff := f1.trans f2
  exact ⟨en.da, G2, .dat (.ins cc fs) :: ss, R, fun _ _ => False, ff.gh, ff.drw, ⟨v, us, rfl, p.mono f2.gg, ps2⟩, h, fun v3 G3 H3 d3 f3 r3 p3 => q v3 G3 H3 d3 (ff.trans f3) r3 p3, fun _ _ _ _ _ _ z => z.elim⟩
theorem je_prop {cc k : Nat} {m : Str} {p g : Addr} {fs : List Dat} {ps : List Str} {W : Wf} (F : MetJ X.prog X.w X.K X.mg X.base g k ps W) (ho : JE X en o δ (Is (.ins cc fs))) (cl : Cls X.K (cA X.K cc)) (hp : PropOf X.K (cA X.K cc) m p g)
    (h : W [.dat (.ins cc fs)] R (fun _ _ => False)) (hr : Room (k + 1) X.A) (hab : attributeBase o m X.env (eval o X.env) = eval o X.env := by rfl) : JE X en (.Attribute o m pos) δ R := by
  obtain ⟨fd, F1, hb⟩ := F
  refine PE.weak (pe_prop ho cl hp F1 hr hb .nil (passL (X := X.nox)) hab) fun σ H Q ⟨G, S, q⟩ => ⟨G, S, fun v G1 H1 d f1 r p => ?_⟩
  rw [show d = .ins cc fs from r] at p
  obtain ⟨a, dx, vs, ev, hH, rs⟩ := (show ∃ a dx vs, v = .ref a ∧ G1 a = some (.ins (cA X.K cc) dx ((cF cc).zip vs)) ∧ Reps X.K G1 fs vs from p)
  refine ⟨a, dx, _, ev, f1.gh _ _ hH, ?_⟩
  exact ⟨en.da, G1, [.dat (.ins cc fs)], R, fun _ _ => False, f1.gh, f1.drw, ⟨.ref a, [], rfl, by rw [← ev]; exact p, rfl⟩, h, fun v3 G3 H3 d3 f3 r3 p3 => q v3 G3 H3 d3 (f1.trans f3) r3 p3, fun _ _ _ _ _ _ z => z.elim⟩
end
end PJ
end
section
set_option maxHeartbeats 4000000
/-! The text by places; what the written part tells. (written by gen_pf.py) -/
namespace PF
open PySem PySem.Spec PyProof.Rows L2 PJ
def topS (i : Nat) : Stmt := PySem.Challenge.pw_pegwebs_k71_whole_papers_judged.main.body.getD i (.Pass ⟨0, 0, 0, 0⟩)

/-- a property's getter -/
def gtA (K : PySem.W.Frag) (C f : Str) : Addr := match PySem.W.recIn K (He.ma K (gA K C) f) "property" with
  | some (.ref g :: _) => g
  | _ => 0

abbrev s_is_integer : Stmt := topS 16
abbrev N_is_integer : List Str := ["thing"]
theorem sc_is_integer : FnScope N_is_integer ["thing"] (defScope s_is_integer) := ⟨rfl, rfl, rfl, by decide +kernel, rfl, by decide +kernel, by decide +kernel⟩
abbrev s_is_below : Stmt := topS 17
abbrev N_is_below : List Str := ["thing", "limit"]
theorem sc_is_below : FnScope N_is_below ["thing", "limit"] (defScope s_is_below) := ⟨rfl, rfl, rfl, by decide +kernel, rfl, by decide +kernel, by decide +kernel⟩
abbrev s_check_pegs : Stmt := topS 18
abbrev N_check_pegs : List Str := ["pegs"]
theorem sc_check_pegs : FnScope N_check_pegs ["pegs"] (defScope s_check_pegs) := ⟨rfl, rfl, rfl, by decide +kernel, rfl, by decide +kernel, by decide +kernel⟩
abbrev s_set_of : Stmt := topS 20
abbrev N_set_of : List Str := ["thing", "limit", "member"]
theorem sc_set_of : FnScope N_set_of ["thing", "limit"] (defScope s_set_of) := ⟨rfl, rfl, rfl, by decide +kernel, rfl, by decide +kernel, by decide +kernel⟩
abbrev s_mark_of : Stmt := topS 21
abbrev N_mark_of : List Str := ["thing", "pegs", "start", "stop", "guard"]
theorem sc_mark_of : FnScope N_mark_of ["thing", "pegs"] (defScope s_mark_of) := ⟨rfl, rfl, rfl, by decide +kernel, rfl, by decide +kernel, by decide +kernel⟩
abbrev s_arrow_of : Stmt := topS 22
abbrev N_arrow_of : List Str := ["thing", "pegs", "mark", "cost"]
theorem sc_arrow_of : FnScope N_arrow_of ["thing", "pegs"] (defScope s_arrow_of) := ⟨rfl, rfl, rfl, by decide +kernel, rfl, by decide +kernel, by decide +kernel⟩
abbrev s_costs_of : Stmt := topS 26
abbrev N_costs_of : List Str := ["arrows", "pegs", "costs", "place", "thing", "arrow"]
theorem sc_costs_of : FnScope N_costs_of ["arrows", "pegs"] (defScope s_costs_of) := ⟨rfl, rfl, rfl, by decide +kernel, rfl, by decide +kernel, by decide +kernel⟩
abbrev s_check_game : Stmt := topS 36
abbrev N_check_game : List Str := ["game"]
theorem sc_check_game : FnScope N_check_game ["game"] (defScope s_check_game) := ⟨rfl, rfl, rfl, by decide +kernel, rfl, by decide +kernel, by decide +kernel⟩
abbrev s_check_position : Stmt := topS 37
abbrev N_check_position : List Str := ["game", "position", "disc", "peg"]
theorem sc_check_position : FnScope N_check_position ["game", "position"] (defScope s_check_position) := ⟨rfl, rfl, rfl, by decide +kernel, rfl, by decide +kernel, by decide +kernel⟩
abbrev s_check_strict : Stmt := topS 39
abbrev N_check_strict : List Str := ["game", "disc", "web"]
theorem sc_check_strict : FnScope N_check_strict ["game"] (defScope s_check_strict) := ⟨rfl, rfl, rfl, by decide +kernel, rfl, by decide +kernel, by decide +kernel⟩
abbrev s_cost_sum : Stmt := topS 43
abbrev N_cost_sum : List Str := ["one", "other"]
theorem sc_cost_sum : FnScope N_cost_sum ["one", "other"] (defScope s_cost_sum) := ⟨rfl, rfl, rfl, by decide +kernel, rfl, by decide +kernel, by decide +kernel⟩
abbrev s_not_above : Stmt := topS 44
abbrev N_not_above : List Str := ["one", "other"]
theorem sc_not_above : FnScope N_not_above ["one", "other"] (defScope s_not_above) := ⟨rfl, rfl, rfl, by decide +kernel, rfl, by decide +kernel, by decide +kernel⟩
abbrev s_lesser : Stmt := topS 45
abbrev N_lesser : List Str := ["one", "other"]
theorem sc_lesser : FnScope N_lesser ["one", "other"] (defScope s_lesser) := ⟨rfl, rfl, rfl, by decide +kernel, rfl, by decide +kernel, by decide +kernel⟩
abbrev s_begin_on : Stmt := topS 46
abbrev N_begin_on : List Str := ["pegs", "peg", "guard", "x", "g"]
theorem sc_begin_on : FnScope N_begin_on ["pegs", "peg", "guard"] (defScope s_begin_on) := ⟨rfl, rfl, rfl, by decide +kernel, rfl, by decide +kernel, by decide +kernel⟩
abbrev s_shifted : Stmt := topS 47
abbrev N_shifted : List Str := ["row", "table", "costs", "peg", "least_one", "entry", "shifts"]
theorem sc_shifted : FnScope N_shifted ["row", "table"] (defScope s_shifted) := ⟨rfl, rfl, rfl, by decide +kernel, rfl, by decide +kernel, by decide +kernel⟩
abbrev s_walk_costs : Stmt := topS 48
abbrev N_walk_costs : List Str := ["arrows", "table", "start", "best", "row", "_", "changed", "here", "there", "guard", "cost", "near", "shift", "entry", "old"]
theorem sc_walk_costs : FnScope N_walk_costs ["arrows", "table", "start"] (defScope s_walk_costs) := ⟨rfl, rfl, rfl, by decide +kernel, rfl, by decide +kernel, by decide +kernel⟩
abbrev s_table_over : Stmt := topS 49
abbrev N_table_over : List Str := ["arrows", "table", "rows", "peg", "best", "other", "row"]
theorem sc_table_over : FnScope N_table_over ["arrows", "table"] (defScope s_table_over) := ⟨rfl, rfl, rfl, by decide +kernel, rfl, by decide +kernel, by decide +kernel⟩
abbrev s_is_entry : Stmt := topS 50
abbrev N_is_entry : List Str := ["thing"]
theorem sc_is_entry : FnScope N_is_entry ["thing"] (defScope s_is_entry) := ⟨rfl, rfl, rfl, by decide +kernel, rfl, by decide +kernel, by decide +kernel⟩
abbrev s_floor_of : Stmt := topS 52
abbrev N_floor_of : List Str := ["game", "tables", "pegs", "disc", "peg"]
theorem sc_floor_of : FnScope N_floor_of ["game"] (defScope s_floor_of) := ⟨rfl, rfl, rfl, by decide +kernel, rfl, by decide +kernel, by decide +kernel⟩
abbrev s_grid_of : Stmt := topS 53
abbrev N_grid_of : List Str := ["thing", "pegs", "row", "entry"]
theorem sc_grid_of : FnScope N_grid_of ["thing", "pegs"] (defScope s_grid_of) := ⟨rfl, rfl, rfl, by decide +kernel, rfl, by decide +kernel, by decide +kernel⟩
abbrev s_part_of : Stmt := topS 54
abbrev N_part_of : List Str := ["thing", "pegs", "grids", "grid"]
theorem sc_part_of : FnScope N_part_of ["thing", "pegs"] (defScope s_part_of) := ⟨rfl, rfl, rfl, by decide +kernel, rfl, by decide +kernel, by decide +kernel⟩
abbrev s_is_kept : Stmt := topS 55
abbrev N_is_kept : List Str := ["arrows", "shifts", "grid", "start", "stop", "guard", "cost", "row", "one", "entry", "other", "higher"]
theorem sc_is_kept : FnScope N_is_kept ["arrows", "shifts", "grid"] (defScope s_is_kept) := ⟨rfl, rfl, rfl, by decide +kernel, rfl, by decide +kernel, by decide +kernel⟩
abbrev s_check_floor : Stmt := topS 56
abbrev N_check_floor : List Str := ["game", "floor", "parts", "part", "disc", "shifts", "tables", "peg", "grid", "here", "row"]
theorem sc_check_floor : FnScope N_check_floor ["game", "floor"] (defScope s_check_floor) := ⟨rfl, rfl, rfl, by decide +kernel, rfl, by decide +kernel, by decide +kernel⟩
abbrev s_turned_arrows : Stmt := topS 58
abbrev N_turned_arrows : List Str := ["arrows", "start", "stop", "guard", "cost"]
theorem sc_turned_arrows : FnScope N_turned_arrows ["arrows"] (defScope s_turned_arrows) := ⟨rfl, rfl, rfl, by decide +kernel, rfl, by decide +kernel, by decide +kernel⟩
abbrev s_turned_table : Stmt := topS 59
abbrev N_turned_table : List Str := ["table", "peg", "row"]
theorem sc_turned_table : FnScope N_turned_table ["table"] (defScope s_turned_table) := ⟨rfl, rfl, rfl, by decide +kernel, rfl, by decide +kernel, by decide +kernel⟩
abbrev s_sides_of : Stmt := topS 60
abbrev N_sides_of : List Str := ["pegs", "webs", "tables", "onward", "homeward", "arrows", "table"]
theorem sc_sides_of : FnScope N_sides_of ["pegs", "webs", "tables"] (defScope s_sides_of) := ⟨rfl, rfl, rfl, by decide +kernel, rfl, by decide +kernel, by decide +kernel⟩
abbrev s_game_sides : Stmt := topS 61
abbrev N_game_sides : List Str := ["game", "tables", "below", "disc", "web"]
theorem sc_game_sides : FnScope N_game_sides ["game"] (defScope s_game_sides) := ⟨rfl, rfl, rfl, by decide +kernel, rfl, by decide +kernel, by decide +kernel⟩
abbrev s_begun_at : Stmt := topS 62
abbrev N_begun_at : List Str := ["pegs", "at", "row", "peg"]
theorem sc_begun_at : FnScope N_begun_at ["pegs", "at", "row"] (defScope s_begun_at) := ⟨rfl, rfl, rfl, by decide +kernel, rfl, by decide +kernel, by decide +kernel⟩
abbrev s_into_rows : Stmt := topS 63
abbrev N_into_rows : List Str := ["pegs", "side", "box", "rows", "walks", "arrows", "table", "at", "found", "peg"]
theorem sc_into_rows : FnScope N_into_rows ["pegs", "side", "box"] (defScope s_into_rows) := ⟨rfl, rfl, rfl, by decide +kernel, rfl, by decide +kernel, by decide +kernel⟩
abbrev s_least_sum : Stmt := topS 64
abbrev N_least_sum : List Str := ["row", "other", "best", "one", "two"]
theorem sc_least_sum : FnScope N_least_sum ["row", "other"] (defScope s_least_sum) := ⟨rfl, rfl, rfl, by decide +kernel, rfl, by decide +kernel, by decide +kernel⟩
abbrev s_top_unlike : Stmt := topS 65
abbrev N_top_unlike : List Str := ["position", "other", "disc", "peg"]
theorem sc_top_unlike : FnScope N_top_unlike ["position", "other"] (defScope s_top_unlike) := ⟨rfl, rfl, rfl, by decide +kernel, rfl, by decide +kernel, by decide +kernel⟩
abbrev s_unlike_pair : Stmt := topS 67
abbrev N_unlike_pair : List Str := ["game", "position", "other", "start", "stop"]
theorem sc_unlike_pair : FnScope N_unlike_pair ["game", "position", "other"] (defScope s_unlike_pair) := ⟨rfl, rfl, rfl, by decide +kernel, rfl, by decide +kernel, by decide +kernel⟩
abbrev s_tower_row : Stmt := topS 68
abbrev N_tower_row : List Str := ["grid", "peg", "row"]
theorem sc_tower_row : FnScope N_tower_row ["grid"] (defScope s_tower_row) := ⟨rfl, rfl, rfl, by decide +kernel, rfl, by decide +kernel, by decide +kernel⟩
abbrev s_paper_for : Stmt := topS 69
abbrev N_paper_for : List Str := ["game", "position", "other", "start", "stop", "top", "pegs", "onward", "homeward", "_", "into", "peg", "back"]
theorem sc_paper_for : FnScope N_paper_for ["game", "position", "other"] (defScope s_paper_for) := ⟨rfl, rfl, rfl, by decide +kernel, rfl, by decide +kernel, by decide +kernel⟩
abbrev s_check_grids : Stmt := topS 70
abbrev N_check_grids : List Str := ["things", "side", "pegs", "place", "extra", "bounds", "grids", "disc", "thing", "arrows", "shifts", "grid", "entry", "bound"]
theorem sc_check_grids : FnScope N_check_grids ["things", "side", "pegs", "place", "extra"] (defScope s_check_grids) := ⟨rfl, rfl, rfl, by decide +kernel, rfl, by decide +kernel, by decide +kernel⟩
abbrev s_paper_number : Stmt := topS 71
abbrev N_paper_number : List Str := ["game", "position", "other", "paper", "start", "stop", "top", "thing", "parts", "tables", "below", "pegs", "onward", "homeward", "web", "into", "back"]
theorem sc_paper_number : FnScope N_paper_number ["game", "position", "other", "paper"] (defScope s_paper_number) := ⟨rfl, rfl, rfl, by decide +kernel, rfl, by decide +kernel, by decide +kernel⟩
abbrev s__law_draws : Stmt := topS 73
abbrev N__law_draws : List Str := ["_law_script", "_law_numbers", "_law_at", "_law_cell", "_law_flip", "_law_turn", "_law_seed"]
theorem sc__law_draws : FnScope N__law_draws ["_law_script"] (defScope s__law_draws) := ⟨rfl, rfl, rfl, by decide +kernel, rfl, by decide +kernel, by decide +kernel⟩
abbrev s__law_take : Stmt := topS 74
abbrev N__law_take : List Str := ["_law_draws_here", "_law_many", "_law_at"]
theorem sc__law_take : FnScope N__law_take ["_law_draws_here", "_law_many"] (defScope s__law_take) := ⟨rfl, rfl, rfl, by decide +kernel, rfl, by decide +kernel, by decide +kernel⟩
abbrev s__law_is_int : Stmt := topS 75
abbrev N__law_is_int : List Str := ["_law_thing"]
theorem sc__law_is_int : FnScope N__law_is_int ["_law_thing"] (defScope s__law_is_int) := ⟨rfl, rfl, rfl, by decide +kernel, rfl, by decide +kernel, by decide +kernel⟩
abbrev s__law_guards : Stmt := topS 76
abbrev N__law_guards : List Str := ["_law_pegs", "_law_start", "_law_stop", "_law_rows", "_law_peg", "_law_row"]
theorem sc__law_guards : FnScope N__law_guards ["_law_pegs", "_law_start", "_law_stop"] (defScope s__law_guards) := ⟨rfl, rfl, rfl, by decide +kernel, rfl, by decide +kernel, by decide +kernel⟩
abbrev s__law_guard : Stmt := topS 77
abbrev N__law_guard : List Str := ["_law_draws_here", "_law_pegs", "_law_start", "_law_stop", "_law_kind", "_law_rows", "_law_row"]
theorem sc__law_guard : FnScope N__law_guard ["_law_draws_here", "_law_pegs", "_law_start", "_law_stop", "_law_kind"] (defScope s__law_guard) := ⟨rfl, rfl, rfl, by decide +kernel, rfl, by decide +kernel, by decide +kernel⟩
abbrev s__law_cost : Stmt := topS 78
abbrev N__law_cost : List Str := ["_law_draws_here", "_law_cost_here"]
theorem sc__law_cost : FnScope N__law_cost ["_law_draws_here"] (defScope s__law_cost) := ⟨rfl, rfl, rfl, by decide +kernel, rfl, by decide +kernel, by decide +kernel⟩
abbrev s__law_pairs : Stmt := topS 79
abbrev N__law_pairs : List Str := ["_law_draws_here", "_law_pegs", "_law_shape", "_law_pairs_here", "_law_start", "_law_stop", "_law_ring", "_law_row"]
theorem sc__law_pairs : FnScope N__law_pairs ["_law_draws_here", "_law_pegs"] (defScope s__law_pairs) := ⟨rfl, rfl, rfl, by decide +kernel, rfl, by decide +kernel, by decide +kernel⟩
abbrev s__law_web : Stmt := topS 80
abbrev N__law_web : List Str := ["_law_draws_here", "_law_pegs", "_law_kind", "_law_arrows", "_law_marks", "_law_pair", "_law_guard_here"]
theorem sc__law_web : FnScope N__law_web ["_law_draws_here", "_law_pegs", "_law_kind"] (defScope s__law_web) := ⟨rfl, rfl, rfl, by decide +kernel, rfl, by decide +kernel, by decide +kernel⟩
abbrev s__law_webs : Stmt := topS 81
abbrev N__law_webs : List Str := ["_law_draws_here", "_law_pegs", "_law_discs", "_law_kind", "_law_webs_here", "_law_plain", "_law_disc"]
theorem sc__law_webs : FnScope N__law_webs ["_law_draws_here", "_law_pegs", "_law_discs", "_law_kind"] (defScope s__law_webs) := ⟨rfl, rfl, rfl, by decide +kernel, rfl, by decide +kernel, by decide +kernel⟩
abbrev s__law_sizes : Stmt := topS 82
abbrev N__law_sizes : List Str := ["_law_draws_here", "_law_most", "_law_pegs", "_law_discs", "_law_many", "_law_fit", "_law_disc"]
theorem sc__law_sizes : FnScope N__law_sizes ["_law_draws_here", "_law_most"] (defScope s__law_sizes) := ⟨rfl, rfl, rfl, by decide +kernel, rfl, by decide +kernel, by decide +kernel⟩
abbrev s__law_built : Stmt := topS 83
abbrev N__law_built : List Str := ["_law_pegs", "_law_webs_here", "_law_arrows"]
theorem sc__law_built : FnScope N__law_built ["_law_pegs", "_law_webs_here"] (defScope s__law_built) := ⟨rfl, rfl, rfl, by decide +kernel, rfl, by decide +kernel, by decide +kernel⟩
abbrev s__law_position : Stmt := topS 84
abbrev N__law_position : List Str := ["_law_draws_here", "_law_pegs", "_law_discs", "_law_word", "_law_row", "_law_disc"]
theorem sc__law_position : FnScope N__law_position ["_law_draws_here", "_law_pegs", "_law_discs"] (defScope s__law_position) := ⟨rfl, rfl, rfl, by decide +kernel, rfl, by decide +kernel, by decide +kernel⟩
abbrev s__law_sum : Stmt := topS 85
abbrev N__law_sum : List Str := ["_law_one", "_law_other"]
theorem sc__law_sum : FnScope N__law_sum ["_law_one", "_law_other"] (defScope s__law_sum) := ⟨rfl, rfl, rfl, by decide +kernel, rfl, by decide +kernel, by decide +kernel⟩
abbrev s__law_less : Stmt := topS 86
abbrev N__law_less : List Str := ["_law_one", "_law_other"]
theorem sc__law_less : FnScope N__law_less ["_law_one", "_law_other"] (defScope s__law_less) := ⟨rfl, rfl, rfl, by decide +kernel, rfl, by decide +kernel, by decide +kernel⟩
abbrev s__law_least_of : Stmt := topS 87
abbrev N__law_least_of : List Str := ["_law_rows", "_law_best", "_law_one"]
theorem sc__law_least_of : FnScope N__law_least_of ["_law_rows"] (defScope s__law_least_of) := ⟨rfl, rfl, rfl, by decide +kernel, rfl, by decide +kernel, by decide +kernel⟩
abbrev s__law_zero : Stmt := topS 88
abbrev N__law_zero : List Str := ["_law_pegs", "_law_start", "_law_stop"]
theorem sc__law_zero : FnScope N__law_zero ["_law_pegs"] (defScope s__law_zero) := ⟨rfl, rfl, rfl, by decide +kernel, rfl, by decide +kernel, by decide +kernel⟩
abbrev s__law_strict_case : Stmt := topS 89
abbrev N__law_strict_case : List Str := ["_law_draws_here", "_law_most", "_law_size", "_law_webs_here"]
theorem sc__law_strict_case : FnScope N__law_strict_case ["_law_draws_here", "_law_most"] (defScope s__law_strict_case) := ⟨rfl, rfl, rfl, by decide +kernel, rfl, by decide +kernel, by decide +kernel⟩
abbrev s__law_same : Stmt := topS 90
abbrev N__law_same : List Str := ["_law_actual", "_law_due"]
theorem sc__law_same : FnScope N__law_same ["_law_actual", "_law_due"] (defScope s__law_same) := ⟨rfl, rfl, rfl, by decide +kernel, rfl, by decide +kernel, by decide +kernel⟩
abbrev s__law_at_most : Stmt := topS 91
abbrev N__law_at_most : List Str := ["_law_one", "_law_other"]
theorem sc__law_at_most : FnScope N__law_at_most ["_law_one", "_law_other"] (defScope s__law_at_most) := ⟨rfl, rfl, rfl, by decide +kernel, rfl, by decide +kernel, by decide +kernel⟩
abbrev s__law_kept : Stmt := topS 92
abbrev N__law_kept : List Str := ["_law_pegs", "_law_web_here", "_law_table", "_law_grid", "_law_back", "_law_arrow", "_law_guard_here", "_law_one", "_law_other", "_law_row", "_law_shift"]
theorem sc__law_kept : FnScope N__law_kept ["_law_pegs", "_law_web_here", "_law_table", "_law_grid", "_law_back"] (defScope s__law_kept) := ⟨rfl, rfl, rfl, by decide +kernel, rfl, by decide +kernel, by decide +kernel⟩
abbrev s__law_verdict : Stmt := topS 93
abbrev N__law_verdict : List Str := ["_law_pegs", "_law_webs_here", "_law_here", "_law_there", "_law_paper", "_law_tables", "_law_disc", "_law_table", "_law_peg", "_law_grid", "_law_other", "_law_side", "_law_bound", "_law_ends", "_law_fits", "_law_guard_here", "_law_top", "_law_row"]
theorem sc__law_verdict : FnScope N__law_verdict ["_law_pegs", "_law_webs_here", "_law_here", "_law_there", "_law_paper"] (defScope s__law_verdict) := ⟨rfl, rfl, rfl, by decide +kernel, rfl, by decide +kernel, by decide +kernel⟩
abbrev s__law_told : Stmt := topS 94
abbrev N__law_told : List Str := ["_law_game", "_law_here", "_law_there", "_law_paper", "_law_told_here", "raised"]
theorem sc__law_told : FnScope N__law_told ["_law_game", "_law_here", "_law_there", "_law_paper"] (defScope s__law_told) := ⟨rfl, rfl, rfl, by decide +kernel, rfl, by decide +kernel, by decide +kernel⟩
abbrev s__law_copied : Stmt := topS 95
abbrev N__law_copied : List Str := ["_law_thing", "_law_rows", "_law_part", "_law_row", "_law_entry"]
theorem sc__law_copied : FnScope N__law_copied ["_law_thing"] (defScope s__law_copied) := ⟨rfl, rfl, rfl, by decide +kernel, rfl, by decide +kernel, by decide +kernel⟩
abbrev s__law_turned_entry : Stmt := topS 96
abbrev N__law_turned_entry : List Str := ["_law_draws_here", "_law_entry", "_law_word", "_law_extra"]
theorem sc__law_turned_entry : FnScope N__law_turned_entry ["_law_draws_here", "_law_entry", "_law_word", "_law_extra"] (defScope s__law_turned_entry) := ⟨rfl, rfl, rfl, by decide +kernel, rfl, by decide +kernel, by decide +kernel⟩
abbrev s__law_turned_paper : Stmt := topS 97
abbrev N__law_turned_paper : List Str := ["_law_draws_here", "_law_paper", "_law_pegs", "_law_word", "_law_parts", "_law_part", "_law_grids", "_law_extra", "_law_every", "_law_grid", "_law_row", "_law_at", "_law_place"]
theorem sc__law_turned_paper : FnScope N__law_turned_paper ["_law_draws_here", "_law_paper", "_law_pegs", "_law_word"] (defScope s__law_turned_paper) := ⟨rfl, rfl, rfl, by decide +kernel, rfl, by decide +kernel, by decide +kernel⟩
abbrev s__law_case : Stmt := topS 98
abbrev N__law_case : List Str := ["_law_draws_here", "_law_word", "_law_case_here", "_law_here", "_law_row", "_law_webs_here", "_law_disc", "_law_base", "_law_turn"]
theorem sc__law_case : FnScope N__law_case ["_law_draws_here"] (defScope s__law_case) := ⟨rfl, rfl, rfl, by decide +kernel, rfl, by decide +kernel, by decide +kernel⟩
abbrev s__law_papers_fit : Stmt := topS 99
abbrev N__law_papers_fit : List Str := ["_law_draws_here", "_law_game", "_law_pegs", "_law_webs_here", "_law_here", "_law_there", "_law_paper", "_law_first", "_law_word", "_law_turned", "_law_verdict_here", "_law_told_here", "_law_place", "_law_short", "_law_part"]
theorem sc__law_papers_fit : FnScope N__law_papers_fit ["_law_draws_here", "_law_game", "_law_pegs", "_law_webs_here", "_law_here", "_law_there"] (defScope s__law_papers_fit) := ⟨rfl, rfl, rfl, by decide +kernel, rfl, by decide +kernel, by decide +kernel⟩
abbrev s__law_forms_fit : Stmt := topS 100
abbrev N__law_forms_fit : List Str := ["_law_draws_here", "_law_game", "_law_pegs", "_law_here", "_law_there", "_law_paper", "_law_zeros", "_law_bad", "_law_rows", "_law_part", "_law_place", "_law_row"]
theorem sc__law_forms_fit : FnScope N__law_forms_fit ["_law_draws_here", "_law_game", "_law_pegs", "_law_here", "_law_there"] (defScope s__law_forms_fit) := ⟨rfl, rfl, rfl, by decide +kernel, rfl, by decide +kernel, by decide +kernel⟩
abbrev s_law : Stmt := topS 101
abbrev N_law : List Str := ["_law_script", "_law_draws_here", "_law_case_here", "_law_pegs", "_law_webs_here", "_law_here", "_law_there", "_law_game", "_law_told_here", "raised"]
theorem sc_law : FnScope N_law ["_law_script"] (defScope s_law) := ⟨rfl, rfl, rfl, by decide +kernel, rfl, by decide +kernel, by decide +kernel⟩
abbrev s_Web_init : Stmt := inClass (topS 25) 0
abbrev N_Web_init : List Str := ["self", "pegs", "arrows", "mark"]
theorem sc_Web_init : FnScope N_Web_init ["self", "pegs", "arrows"] (defScope s_Web_init) := ⟨rfl, rfl, rfl, by decide +kernel, rfl, by decide +kernel, by decide +kernel⟩
abbrev s_Web_is_strict : Stmt := inClass (topS 25) 4
abbrev N_Web_is_strict : List Str := ["self", "arrow"]
theorem sc_Web_is_strict : FnScope N_Web_is_strict ["self"] (defScope s_Web_is_strict) := ⟨rfl, rfl, rfl, by decide +kernel, rfl, by decide +kernel, by decide +kernel⟩
abbrev s_Game_init : Stmt := inClass (topS 35) 0
abbrev N_Game_init : List Str := ["self", "pegs", "webs", "disc", "web"]
theorem sc_Game_init : FnScope N_Game_init ["self", "pegs", "webs"] (defScope s_Game_init) := ⟨rfl, rfl, rfl, by decide +kernel, rfl, by decide +kernel, by decide +kernel⟩
abbrev s_Game_lower : Stmt := inClass (topS 35) 8
abbrev N_Game_lower : List Str := ["self", "many"]
theorem sc_Game_lower : FnScope N_Game_lower ["self", "many"] (defScope s_Game_lower) := ⟨rfl, rfl, rfl, by decide +kernel, rfl, by decide +kernel, by decide +kernel⟩
abbrev s_Tables_init : Stmt := inClass (topS 42) 0
abbrev N_Tables_init : List Str := ["self", "game", "rows", "disc", "web"]
theorem sc_Tables_init : FnScope N_Tables_init ["self", "game"] (defScope s_Tables_init) := ⟨rfl, rfl, rfl, by decide +kernel, rfl, by decide +kernel, by decide +kernel⟩
abbrev s_Tables_costs : Stmt := inClass (topS 42) 1
abbrev N_Tables_costs : List Str := ["self", "many"]
theorem sc_Tables_costs : FnScope N_Tables_costs ["self", "many"] (defScope s_Tables_costs) := ⟨rfl, rfl, rfl, by decide +kernel, rfl, by decide +kernel, by decide +kernel⟩
abbrev s_Tables_walk_from : Stmt := inClass (topS 42) 3
abbrev N_Tables_walk_from : List Str := ["self", "disc", "start"]
theorem sc_Tables_walk_from : FnScope N_Tables_walk_from ["self", "disc", "start"] (defScope s_Tables_walk_from) := ⟨rfl, rfl, rfl, by decide +kernel, rfl, by decide +kernel, by decide +kernel⟩
abbrev s_BadPosition_init : Stmt := inClass (topS 6) 0
abbrev N_BadPosition_init : List Str := ["self", "disc"]
theorem sc_BadPosition_init : FnScope N_BadPosition_init ["self", "disc"] (defScope s_BadPosition_init) := ⟨rfl, rfl, rfl, by decide +kernel, rfl, by decide +kernel, by decide +kernel⟩
abbrev s_BadFloor_init : Stmt := inClass (topS 11) 0
abbrev N_BadFloor_init : List Str := ["self", "disc"]
theorem sc_BadFloor_init : FnScope N_BadFloor_init ["self", "disc"] (defScope s_BadFloor_init) := ⟨rfl, rfl, rfl, by decide +kernel, rfl, by decide +kernel, by decide +kernel⟩
abbrev s_BadPaper_init : Stmt := inClass (topS 12) 0
abbrev N_BadPaper_init : List Str := ["self", "disc"]
theorem sc_BadPaper_init : FnScope N_BadPaper_init ["self", "disc"] (defScope s_BadPaper_init) := ⟨rfl, rfl, rfl, by decide +kernel, rfl, by decide +kernel, by decide +kernel⟩

/-! ### a def as the head tells it -/
structure DD where
  adr : PySem.W.Frag → Addr
  name : Str
  qual : Str
  params : Arguments
  body : List Stmt
  scope : Scope
def DD.w (d : DD) (K : PySem.W.Frag) : He.FnW := match K.lookup (d.adr K) with
  | some ⟨_, _, .func fd, _⟩ => some (fd.name, fd.qualname, fd.params, fd.body, fd.scope, fd.globals, fd.closure, fd.builtins)
  | _ => none
def DD.val (d : DD) : He.FnW := some (d.name, d.qual, d.params, .stmts d.body, d.scope, mainGlobals, [], builtinsNs)
def DD.ok (d : DD) (K : PySem.W.Frag) : Bool := PySem.W.keepIn K (.ref (d.adr K)) && (match K.lookup (d.adr K) with
  | some ⟨_, _, .func fd, _⟩ => PySem.W.codeIn K fd.code d.qual && He.dflB K fd.defaults []
  | _ => false)
theorem DD.funD {K : PySem.W.Frag} {d : DD} (e : d.w K = d.val) (c : d.ok K = true) : ∃ fd, FunD K d.name d.qual d.params d.body d.scope [] [] (d.adr K) fd := by
  obtain ⟨kp, c2⟩ := He.ba c
  unfold DD.w at e
  cases q : K.lookup (d.adr K) with
  | none =>
    rw [q] at c2
    cases c2
  | some o =>
    obtain ⟨oc, od, dt, osl⟩ := o
    rw [q] at c2 e
    cases dt with
    | func fd =>
      obtain ⟨n1, n2, n3, n4, n5, n6, n7, n8, n9, n10, n11, n12, n13, n14, n15⟩ := fd
      have e2 : (some (n1, n2, n3, n4, n5, n6, n7, n15) : He.FnW) = some (d.name, d.qual, d.params, .stmts d.body, d.scope, mainGlobals, [], builtinsNs) := e
      simp only [Option.some.injEq, Prod.mk.injEq] at e2
      obtain ⟨h1, h2, h3, h4, h5, h6, h7, h8⟩ := e2
      subst h1 h2 h3 h4 h5 h6 h7 h8
      have c3 : (PySem.W.codeIn K n13 d.qual && He.dflB K n8 []) = true := c2
      obtain ⟨k1, k2⟩ := He.ba c3
      exact ⟨_, ⟨oc, od, n8, n9, n10, n11, n12, n13, n14, osl, rfl, q, k1, He.dflB_ok k2, .inl rfl⟩, kp⟩
    | _ => cases c2

def d_is_integer : DD := ⟨fun K => gA K "is_integer", "is_integer", "is_integer", defArgs s_is_integer, defBody s_is_integer, defScope s_is_integer⟩
def d_is_below : DD := ⟨fun K => gA K "is_below", "is_below", "is_below", defArgs s_is_below, defBody s_is_below, defScope s_is_below⟩
def d_check_pegs : DD := ⟨fun K => gA K "check_pegs", "check_pegs", "check_pegs", defArgs s_check_pegs, defBody s_check_pegs, defScope s_check_pegs⟩
def d_set_of : DD := ⟨fun K => gA K "set_of", "set_of", "set_of", defArgs s_set_of, defBody s_set_of, defScope s_set_of⟩
def d_mark_of : DD := ⟨fun K => gA K "mark_of", "mark_of", "mark_of", defArgs s_mark_of, defBody s_mark_of, defScope s_mark_of⟩
def d_arrow_of : DD := ⟨fun K => gA K "arrow_of", "arrow_of", "arrow_of", defArgs s_arrow_of, defBody s_arrow_of, defScope s_arrow_of⟩
def d_costs_of : DD := ⟨fun K => gA K "costs_of", "costs_of", "costs_of", defArgs s_costs_of, defBody s_costs_of, defScope s_costs_of⟩
def d_check_game : DD := ⟨fun K => gA K "check_game", "check_game", "check_game", defArgs s_check_game, defBody s_check_game, defScope s_check_game⟩
def d_check_position : DD := ⟨fun K => gA K "check_position", "check_position", "check_position", defArgs s_check_position, defBody s_check_position, defScope s_check_position⟩
def d_check_strict : DD := ⟨fun K => gA K "check_strict", "check_strict", "check_strict", defArgs s_check_strict, defBody s_check_strict, defScope s_check_strict⟩
def d_cost_sum : DD := ⟨fun K => gA K "cost_sum", "cost_sum", "cost_sum", defArgs s_cost_sum, defBody s_cost_sum, defScope s_cost_sum⟩
def d_not_above : DD := ⟨fun K => gA K "not_above", "not_above", "not_above", defArgs s_not_above, defBody s_not_above, defScope s_not_above⟩
def d_lesser : DD := ⟨fun K => gA K "lesser", "lesser", "lesser", defArgs s_lesser, defBody s_lesser, defScope s_lesser⟩
def d_begin_on : DD := ⟨fun K => gA K "begin_on", "begin_on", "begin_on", defArgs s_begin_on, defBody s_begin_on, defScope s_begin_on⟩
def d_shifted : DD := ⟨fun K => gA K "shifted", "shifted", "shifted", defArgs s_shifted, defBody s_shifted, defScope s_shifted⟩
def d_walk_costs : DD := ⟨fun K => gA K "walk_costs", "walk_costs", "walk_costs", defArgs s_walk_costs, defBody s_walk_costs, defScope s_walk_costs⟩
def d_table_over : DD := ⟨fun K => gA K "table_over", "table_over", "table_over", defArgs s_table_over, defBody s_table_over, defScope s_table_over⟩
def d_is_entry : DD := ⟨fun K => gA K "is_entry", "is_entry", "is_entry", defArgs s_is_entry, defBody s_is_entry, defScope s_is_entry⟩
def d_floor_of : DD := ⟨fun K => gA K "floor_of", "floor_of", "floor_of", defArgs s_floor_of, defBody s_floor_of, defScope s_floor_of⟩
def d_grid_of : DD := ⟨fun K => gA K "grid_of", "grid_of", "grid_of", defArgs s_grid_of, defBody s_grid_of, defScope s_grid_of⟩
def d_part_of : DD := ⟨fun K => gA K "part_of", "part_of", "part_of", defArgs s_part_of, defBody s_part_of, defScope s_part_of⟩
def d_is_kept : DD := ⟨fun K => gA K "is_kept", "is_kept", "is_kept", defArgs s_is_kept, defBody s_is_kept, defScope s_is_kept⟩
def d_check_floor : DD := ⟨fun K => gA K "check_floor", "check_floor", "check_floor", defArgs s_check_floor, defBody s_check_floor, defScope s_check_floor⟩
def d_turned_arrows : DD := ⟨fun K => gA K "turned_arrows", "turned_arrows", "turned_arrows", defArgs s_turned_arrows, defBody s_turned_arrows, defScope s_turned_arrows⟩
def d_turned_table : DD := ⟨fun K => gA K "turned_table", "turned_table", "turned_table", defArgs s_turned_table, defBody s_turned_table, defScope s_turned_table⟩
def d_sides_of : DD := ⟨fun K => gA K "sides_of", "sides_of", "sides_of", defArgs s_sides_of, defBody s_sides_of, defScope s_sides_of⟩
def d_game_sides : DD := ⟨fun K => gA K "game_sides", "game_sides", "game_sides", defArgs s_game_sides, defBody s_game_sides, defScope s_game_sides⟩
def d_begun_at : DD := ⟨fun K => gA K "begun_at", "begun_at", "begun_at", defArgs s_begun_at, defBody s_begun_at, defScope s_begun_at⟩
def d_into_rows : DD := ⟨fun K => gA K "into_rows", "into_rows", "into_rows", defArgs s_into_rows, defBody s_into_rows, defScope s_into_rows⟩
def d_least_sum : DD := ⟨fun K => gA K "least_sum", "least_sum", "least_sum", defArgs s_least_sum, defBody s_least_sum, defScope s_least_sum⟩
def d_top_unlike : DD := ⟨fun K => gA K "top_unlike", "top_unlike", "top_unlike", defArgs s_top_unlike, defBody s_top_unlike, defScope s_top_unlike⟩
def d_unlike_pair : DD := ⟨fun K => gA K "unlike_pair", "unlike_pair", "unlike_pair", defArgs s_unlike_pair, defBody s_unlike_pair, defScope s_unlike_pair⟩
def d_tower_row : DD := ⟨fun K => gA K "tower_row", "tower_row", "tower_row", defArgs s_tower_row, defBody s_tower_row, defScope s_tower_row⟩
def d_paper_for : DD := ⟨fun K => gA K "paper_for", "paper_for", "paper_for", defArgs s_paper_for, defBody s_paper_for, defScope s_paper_for⟩
def d_check_grids : DD := ⟨fun K => gA K "check_grids", "check_grids", "check_grids", defArgs s_check_grids, defBody s_check_grids, defScope s_check_grids⟩
def d_paper_number : DD := ⟨fun K => gA K "paper_number", "paper_number", "paper_number", defArgs s_paper_number, defBody s_paper_number, defScope s_paper_number⟩
def d__law_draws : DD := ⟨fun K => gA K "_law_draws", "_law_draws", "_law_draws", defArgs s__law_draws, defBody s__law_draws, defScope s__law_draws⟩
def d__law_take : DD := ⟨fun K => gA K "_law_take", "_law_take", "_law_take", defArgs s__law_take, defBody s__law_take, defScope s__law_take⟩
def d__law_is_int : DD := ⟨fun K => gA K "_law_is_int", "_law_is_int", "_law_is_int", defArgs s__law_is_int, defBody s__law_is_int, defScope s__law_is_int⟩
def d__law_guards : DD := ⟨fun K => gA K "_law_guards", "_law_guards", "_law_guards", defArgs s__law_guards, defBody s__law_guards, defScope s__law_guards⟩
def d__law_guard : DD := ⟨fun K => gA K "_law_guard", "_law_guard", "_law_guard", defArgs s__law_guard, defBody s__law_guard, defScope s__law_guard⟩
def d__law_cost : DD := ⟨fun K => gA K "_law_cost", "_law_cost", "_law_cost", defArgs s__law_cost, defBody s__law_cost, defScope s__law_cost⟩
def d__law_pairs : DD := ⟨fun K => gA K "_law_pairs", "_law_pairs", "_law_pairs", defArgs s__law_pairs, defBody s__law_pairs, defScope s__law_pairs⟩
def d__law_web : DD := ⟨fun K => gA K "_law_web", "_law_web", "_law_web", defArgs s__law_web, defBody s__law_web, defScope s__law_web⟩
def d__law_webs : DD := ⟨fun K => gA K "_law_webs", "_law_webs", "_law_webs", defArgs s__law_webs, defBody s__law_webs, defScope s__law_webs⟩
def d__law_sizes : DD := ⟨fun K => gA K "_law_sizes", "_law_sizes", "_law_sizes", defArgs s__law_sizes, defBody s__law_sizes, defScope s__law_sizes⟩
def d__law_built : DD := ⟨fun K => gA K "_law_built", "_law_built", "_law_built", defArgs s__law_built, defBody s__law_built, defScope s__law_built⟩
def d__law_position : DD := ⟨fun K => gA K "_law_position", "_law_position", "_law_position", defArgs s__law_position, defBody s__law_position, defScope s__law_position⟩
def d__law_sum : DD := ⟨fun K => gA K "_law_sum", "_law_sum", "_law_sum", defArgs s__law_sum, defBody s__law_sum, defScope s__law_sum⟩
def d__law_less : DD := ⟨fun K => gA K "_law_less", "_law_less", "_law_less", defArgs s__law_less, defBody s__law_less, defScope s__law_less⟩
def d__law_least_of : DD := ⟨fun K => gA K "_law_least_of", "_law_least_of", "_law_least_of", defArgs s__law_least_of, defBody s__law_least_of, defScope s__law_least_of⟩
def d__law_zero : DD := ⟨fun K => gA K "_law_zero", "_law_zero", "_law_zero", defArgs s__law_zero, defBody s__law_zero, defScope s__law_zero⟩
def d__law_strict_case : DD := ⟨fun K => gA K "_law_strict_case", "_law_strict_case", "_law_strict_case", defArgs s__law_strict_case, defBody s__law_strict_case, defScope s__law_strict_case⟩
def d__law_same : DD := ⟨fun K => gA K "_law_same", "_law_same", "_law_same", defArgs s__law_same, defBody s__law_same, defScope s__law_same⟩
def d__law_at_most : DD := ⟨fun K => gA K "_law_at_most", "_law_at_most", "_law_at_most", defArgs s__law_at_most, defBody s__law_at_most, defScope s__law_at_most⟩
def d__law_kept : DD := ⟨fun K => gA K "_law_kept", "_law_kept", "_law_kept", defArgs s__law_kept, defBody s__law_kept, defScope s__law_kept⟩
def d__law_verdict : DD := ⟨fun K => gA K "_law_verdict", "_law_verdict", "_law_verdict", defArgs s__law_verdict, defBody s__law_verdict, defScope s__law_verdict⟩
def d__law_told : DD := ⟨fun K => gA K "_law_told", "_law_told", "_law_told", defArgs s__law_told, defBody s__law_told, defScope s__law_told⟩
def d__law_copied : DD := ⟨fun K => gA K "_law_copied", "_law_copied", "_law_copied", defArgs s__law_copied, defBody s__law_copied, defScope s__law_copied⟩
def d__law_turned_entry : DD := ⟨fun K => gA K "_law_turned_entry", "_law_turned_entry", "_law_turned_entry", defArgs s__law_turned_entry, defBody s__law_turned_entry, defScope s__law_turned_entry⟩
def d__law_turned_paper : DD := ⟨fun K => gA K "_law_turned_paper", "_law_turned_paper", "_law_turned_paper", defArgs s__law_turned_paper, defBody s__law_turned_paper, defScope s__law_turned_paper⟩
def d__law_case : DD := ⟨fun K => gA K "_law_case", "_law_case", "_law_case", defArgs s__law_case, defBody s__law_case, defScope s__law_case⟩
def d__law_papers_fit : DD := ⟨fun K => gA K "_law_papers_fit", "_law_papers_fit", "_law_papers_fit", defArgs s__law_papers_fit, defBody s__law_papers_fit, defScope s__law_papers_fit⟩
def d__law_forms_fit : DD := ⟨fun K => gA K "_law_forms_fit", "_law_forms_fit", "_law_forms_fit", defArgs s__law_forms_fit, defBody s__law_forms_fit, defScope s__law_forms_fit⟩
def d_law : DD := ⟨fun K => gA K "law", "law", "law", defArgs s_law, defBody s_law, defScope s_law⟩
def d_Web_init : DD := ⟨fun K => He.ma K (gA K "Web") "__init__", "__init__", "Web.__init__", defArgs s_Web_init, defBody s_Web_init, defScope s_Web_init⟩
def d_Web_is_strict : DD := ⟨fun K => gtA K "Web" "is_strict", "is_strict", "Web.is_strict", defArgs s_Web_is_strict, defBody s_Web_is_strict, defScope s_Web_is_strict⟩
def d_Game_init : DD := ⟨fun K => He.ma K (gA K "Game") "__init__", "__init__", "Game.__init__", defArgs s_Game_init, defBody s_Game_init, defScope s_Game_init⟩
def d_Game_lower : DD := ⟨fun K => He.ma K (gA K "Game") "lower", "lower", "Game.lower", defArgs s_Game_lower, defBody s_Game_lower, defScope s_Game_lower⟩
def d_Tables_init : DD := ⟨fun K => He.ma K (gA K "Tables") "__init__", "__init__", "Tables.__init__", defArgs s_Tables_init, defBody s_Tables_init, defScope s_Tables_init⟩
def d_Tables_costs : DD := ⟨fun K => He.ma K (gA K "Tables") "costs", "costs", "Tables.costs", defArgs s_Tables_costs, defBody s_Tables_costs, defScope s_Tables_costs⟩
def d_Tables_walk_from : DD := ⟨fun K => He.ma K (gA K "Tables") "walk_from", "walk_from", "Tables.walk_from", defArgs s_Tables_walk_from, defBody s_Tables_walk_from, defScope s_Tables_walk_from⟩
def d_BadPosition_init : DD := ⟨fun K => He.ma K (gA K "BadPosition") "__init__", "__init__", "BadPosition.__init__", defArgs s_BadPosition_init, defBody s_BadPosition_init, defScope s_BadPosition_init⟩
def d_BadFloor_init : DD := ⟨fun K => He.ma K (gA K "BadFloor") "__init__", "__init__", "BadFloor.__init__", defArgs s_BadFloor_init, defBody s_BadFloor_init, defScope s_BadFloor_init⟩
def d_BadPaper_init : DD := ⟨fun K => He.ma K (gA K "BadPaper") "__init__", "__init__", "BadPaper.__init__", defArgs s_BadPaper_init, defBody s_BadPaper_init, defScope s_BadPaper_init⟩
def dds0 : List DD := [d_is_integer, d_is_below, d_check_pegs, d_set_of, d_mark_of, d_arrow_of, d_costs_of, d_check_game, d_check_position, d_check_strict, d_cost_sum, d_not_above]
def dds1 : List DD := [d_lesser, d_begin_on, d_shifted, d_walk_costs, d_table_over, d_is_entry, d_floor_of, d_grid_of, d_part_of, d_is_kept, d_check_floor, d_turned_arrows]
def dds2 : List DD := [d_turned_table, d_sides_of, d_game_sides, d_begun_at, d_into_rows, d_least_sum, d_top_unlike, d_unlike_pair, d_tower_row, d_paper_for, d_check_grids, d_paper_number]
def dds3 : List DD := [d__law_draws, d__law_take, d__law_is_int, d__law_guards, d__law_guard, d__law_cost, d__law_pairs, d__law_web, d__law_webs, d__law_sizes, d__law_built, d__law_position]
def dds4 : List DD := [d__law_sum, d__law_less, d__law_least_of, d__law_zero, d__law_strict_case, d__law_same, d__law_at_most, d__law_kept, d__law_verdict, d__law_told, d__law_copied, d__law_turned_entry]
def dds5 : List DD := [d__law_turned_paper, d__law_case, d__law_papers_fit, d__law_forms_fit, d_law, d_Web_init, d_Web_is_strict, d_Game_init, d_Game_lower, d_Tables_init, d_Tables_costs, d_Tables_walk_from]
def dds6 : List DD := [d_BadPosition_init, d_BadFloor_init, d_BadPaper_init]
def dds : List DD := dds0 ++ (dds1 ++ (dds2 ++ (dds3 ++ (dds4 ++ (dds5 ++ (dds6))))))

/-- is_strict of Web: a property -/
def propB (K : PySem.W.Frag) : Bool := He.eqO (PySem.W.findIn K (.ref (gA K "Web")) "is_strict") (some (some (.ref (He.ma K (gA K "Web") "is_strict")))) &&
  (He.eqO (PySem.W.specialIn K (.ref (He.ma K (gA K "Web") "is_strict")) "__get__") (some (some (.builtin "property.__get__"))) &&
  (decide (PySem.W.takesIn K (.ref (He.ma K (gA K "Web") "is_strict")) = some true) && (match PySem.W.recIn K (He.ma K (gA K "Web") "is_strict") "property" with
  | some (.ref _ :: _) => true
  | _ => false)))
theorem propB_ok {K : PySem.W.Frag} (h : propB K = true) : PropOf K (gA K "Web") "is_strict" (He.ma K (gA K "Web") "is_strict") (gtA K "Web" "is_strict") := by
  obtain ⟨h1, h⟩ := He.ba h
  obtain ⟨h2, h⟩ := He.ba h
  obtain ⟨h3, h4⟩ := He.ba h
  refine ⟨He.eqO_ok h1, He.eqO_ok h2, of_decide_eq_true h3, ?_⟩
  unfold gtA
  cases e : PySem.W.recIn K (He.ma K (gA K "Web") "is_strict") "property" with
  | none =>
    rw [e] at h4
    cases h4
  | some l =>
    rw [e] at h4
    cases l with
    | nil => cases h4
    | cons v r =>
      cases v with
      | ref g => exact ⟨r, rfl⟩
      | _ => cases h4
/-- isinstance of an own class -/
def insB (K : PySem.W.Frag) (x : Str) : Bool := He.eqO (PySem.W.findIn K (.ref (gA K x)) "__class__") (some (some (.builtin "object.__class__"))) &&
  (He.eqO (PySem.W.specialIn K (.builtin "object.__class__") "__get__") (some (some (.builtin "getset_descriptor.__get__"))) && (decide (PySem.W.takesIn K (.builtin "object.__class__") = some true) &&
  (decide (PySem.W.mroIn K (gA K x) (.type "object") = some true) && decide (PySem.W.kitOne K (.ref (gA K x)) (.ref (gA K x)) = some true))))
theorem insB_ok {K : PySem.W.Frag} {x : Str} (h : insB K x = true) (c : Cls K (gA K x)) : C8.InsC K (gA K x) := by
  obtain ⟨h1, h⟩ := He.ba h
  obtain ⟨h2, h⟩ := He.ba h
  obtain ⟨h3, h⟩ := He.ba h
  obtain ⟨h4, h5⟩ := He.ba h
  exact ⟨c, He.eqO_ok h1, He.eqO_ok h2, of_decide_eq_true h3, of_decide_eq_true h4, of_decide_eq_true h5⟩

def fcs0 : List (PySem.W.Frag → Bool) := [fun K => (He.Fa.free "isinstance").ok K, fun K => (He.Fa.free "list").ok K, fun K => (He.Fa.free "tuple").ok K, fun K => (He.Fa.free "int").ok K, fun K => (He.Fa.free "bool").ok K, fun K => (He.Fa.free "len").ok K, fun K => (He.Fa.free "set").ok K, fun K => (He.Fa.free "sorted").ok K, fun K => (He.Fa.free "enumerate").ok K, fun K => (He.Fa.free "zip").ok K, fun K => (He.Fa.free "all").ok K, fun K => (He.Fa.free "max").ok K]
def fcs1 : List (PySem.W.Frag → Bool) := [fun K => (He.Fa.free "abs").ok K, fun K => (He.Fa.free "range").ok K, fun K => (He.Fa.free "min").ok K, fun K => (He.Fa.glo "is_integer").ok K, fun K => (He.Fa.glo "is_below").ok K, fun K => (He.Fa.glo "check_pegs").ok K, fun K => (He.Fa.glo "set_of").ok K, fun K => (He.Fa.glo "mark_of").ok K, fun K => (He.Fa.glo "arrow_of").ok K, fun K => (He.Fa.glo "costs_of").ok K, fun K => (He.Fa.glo "check_game").ok K, fun K => (He.Fa.glo "check_position").ok K]
def fcs2 : List (PySem.W.Frag → Bool) := [fun K => (He.Fa.glo "check_strict").ok K, fun K => (He.Fa.glo "cost_sum").ok K, fun K => (He.Fa.glo "not_above").ok K, fun K => (He.Fa.glo "lesser").ok K, fun K => (He.Fa.glo "begin_on").ok K, fun K => (He.Fa.glo "shifted").ok K, fun K => (He.Fa.glo "walk_costs").ok K, fun K => (He.Fa.glo "table_over").ok K, fun K => (He.Fa.glo "is_entry").ok K, fun K => (He.Fa.glo "floor_of").ok K, fun K => (He.Fa.glo "grid_of").ok K, fun K => (He.Fa.glo "part_of").ok K]
def fcs3 : List (PySem.W.Frag → Bool) := [fun K => (He.Fa.glo "is_kept").ok K, fun K => (He.Fa.glo "check_floor").ok K, fun K => (He.Fa.glo "turned_arrows").ok K, fun K => (He.Fa.glo "turned_table").ok K, fun K => (He.Fa.glo "sides_of").ok K, fun K => (He.Fa.glo "game_sides").ok K, fun K => (He.Fa.glo "begun_at").ok K, fun K => (He.Fa.glo "into_rows").ok K, fun K => (He.Fa.glo "least_sum").ok K, fun K => (He.Fa.glo "top_unlike").ok K, fun K => (He.Fa.glo "unlike_pair").ok K, fun K => (He.Fa.glo "tower_row").ok K]
def fcs4 : List (PySem.W.Frag → Bool) := [fun K => (He.Fa.glo "paper_for").ok K, fun K => (He.Fa.glo "check_grids").ok K, fun K => (He.Fa.glo "paper_number").ok K, fun K => (He.Fa.glo "_law_draws").ok K, fun K => (He.Fa.glo "_law_take").ok K, fun K => (He.Fa.glo "_law_is_int").ok K, fun K => (He.Fa.glo "_law_guards").ok K, fun K => (He.Fa.glo "_law_guard").ok K, fun K => (He.Fa.glo "_law_cost").ok K, fun K => (He.Fa.glo "_law_pairs").ok K, fun K => (He.Fa.glo "_law_web").ok K, fun K => (He.Fa.glo "_law_webs").ok K]
def fcs5 : List (PySem.W.Frag → Bool) := [fun K => (He.Fa.glo "_law_sizes").ok K, fun K => (He.Fa.glo "_law_built").ok K, fun K => (He.Fa.glo "_law_position").ok K, fun K => (He.Fa.glo "_law_sum").ok K, fun K => (He.Fa.glo "_law_less").ok K, fun K => (He.Fa.glo "_law_least_of").ok K, fun K => (He.Fa.glo "_law_zero").ok K, fun K => (He.Fa.glo "_law_strict_case").ok K, fun K => (He.Fa.glo "_law_same").ok K, fun K => (He.Fa.glo "_law_at_most").ok K, fun K => (He.Fa.glo "_law_kept").ok K, fun K => (He.Fa.glo "_law_verdict").ok K]
def fcs6 : List (PySem.W.Frag → Bool) := [fun K => (He.Fa.glo "_law_told").ok K, fun K => (He.Fa.glo "_law_copied").ok K, fun K => (He.Fa.glo "_law_turned_entry").ok K, fun K => (He.Fa.glo "_law_turned_paper").ok K, fun K => (He.Fa.glo "_law_case").ok K, fun K => (He.Fa.glo "_law_papers_fit").ok K, fun K => (He.Fa.glo "_law_forms_fit").ok K, fun K => (He.Fa.glo "law").ok K, fun K => (He.Fa.glo "Web").ok K, fun K => (He.Fa.glo "Game").ok K, fun K => (He.Fa.glo "Tables").ok K, fun K => (He.Fa.glo "BadPosition").ok K]
def fcs7 : List (PySem.W.Frag → Bool) := [fun K => (He.Fa.glo "BadFloor").ok K, fun K => (He.Fa.glo "BadPaper").ok K, fun K => (He.Fa.glo "PegError").ok K, fun K => (He.Fa.glo "NotStrict").ok K, fun K => (He.Fa.glo "BadWeb").ok K, fun K => (He.Fa.glo "BadNumber").ok K, fun K => (He.Fa.glo "OtherGame").ok K, fun K => (He.Fa.glo "BadArrow").ok K, fun K => (He.Fa.int "MOST_COST" (10 ^ 60)).ok K, fun K => (He.Fa.int "MOST_DISCS" 40).ok K, fun K => (He.Fa.int "MOST_ENTRY" (10 ^ 100)).ok K, fun K => (He.Fa.cls "Web").ok K]
def fcs8 : List (PySem.W.Frag → Bool) := [fun K => (He.Fa.mkr "Web").ok K, fun K => (He.Fa.cls "Game").ok K, fun K => (He.Fa.mkr "Game").ok K, fun K => (He.Fa.cls "Tables").ok K, fun K => (He.Fa.mkr "Tables").ok K, fun K => (He.Fa.noat "Web" "pegs").ok K, fun K => (He.Fa.noat "Web" "_costs").ok K, fun K => (He.Fa.noat "Web" "arrows").ok K, fun K => (He.Fa.noat "Game" "pegs").ok K, fun K => (He.Fa.noat "Game" "webs").ok K, fun K => (He.Fa.noat "Game" "discs").ok K, fun K => (He.Fa.noat "Tables" "game").ok K]
def fcs9 : List (PySem.W.Frag → Bool) := [fun K => (He.Fa.noat "Tables" "_costs").ok K, fun K => (He.Fa.meth "Game" "lower").ok K, fun K => (He.Fa.meth "Tables" "costs").ok K, fun K => (He.Fa.meth "Tables" "walk_from").ok K, fun K => propB K, fun K => insB K "Web", fun K => insB K "Game", fun K => PEx.exnB K "BadPosition", fun K => PEx.exnB K "BadFloor", fun K => PEx.exnB K "BadPaper", fun K => (He.Fa.exm "BadFloor" "BadFloor" true).ok K, fun K => (He.Fa.exm "BadPaper" "BadFloor" false).ok K]
def fcs10 : List (PySem.W.Frag → Bool) := [fun K => (He.Fa.exm "BadPaper" "BadPaper" true).ok K, fun K => (He.Fa.exm "BadPosition" "BadFloor" false).ok K, fun K => (He.Fa.exm "BadPosition" "BadPaper" false).ok K, fun K => (He.Fa.exm "BadPosition" "BadPosition" true).ok K]
def fcs : List (PySem.W.Frag → Bool) := fcs0 ++ (fcs1 ++ (fcs2 ++ (fcs3 ++ (fcs4 ++ (fcs5 ++ (fcs6 ++ (fcs7 ++ (fcs8 ++ (fcs9 ++ (fcs10))))))))))

abbrev AlM : Type := Bool × List He.FnW
def obsM (K : PySem.W.Frag) : AlM := ((fcs.all fun f => f K) && dds.all fun d => d.ok K, dds.map fun d => d.w K)
def valM : AlM := (true, dds.map DD.val)
/-- what the written part tells -/
def Says (K : PySem.W.Frag) : Prop := obsM K = valM
theorem Says.fact {K : PySem.W.Frag} (c : Says K) (i : Nat) {f : PySem.W.Frag → Bool} (h : fcs[i]? = some f := by rfl) : f K = true := by
  have c1 := (He.ba (show ((fcs.all fun f => f K) && dds.all fun d => d.ok K) = true from congrArg (fun z : AlM => z.1) c)).1
  exact List.all_eq_true.mp c1 f (List.mem_of_getElem? h)
theorem Says.def_ {K : PySem.W.Frag} (c : Says K) (i : Nat) {d : DD} (h : dds[i]? = some d := by rfl) : ∃ fd, FunD K d.name d.qual d.params d.body d.scope [] [] (d.adr K) fd := by
  have c2 := (He.ba (show ((fcs.all fun f => f K) && dds.all fun d => d.ok K) = true from congrArg (fun z : AlM => z.1) c)).2
  have e : dds.map (fun d => d.w K) = dds.map DD.val := congrArg (fun z : AlM => z.2) c
  have e2 : (dds.map fun d => d.w K)[i]? = (dds.map DD.val)[i]? := by rw [e]
  rw [List.getElem?_map, List.getElem?_map, h] at e2
  exact DD.funD (Option.some.inj e2) (List.all_eq_true.mp c2 d (List.mem_of_getElem? h))
/-- where these objects stand -/
def asl0 : List Addr := [3, 447, 446, 639, 638, 709, 708, 31, 30, 108, 107, 203, 202, 222, 221, 341, 250, 249, 257, 256, 264, 263, 278, 277, 285, 284, 292, 291, 458, 457]
def asl1 : List Addr := [650, 649, 657, 656, 664, 663, 720, 719, 727, 726, 734, 733, 739, 738, 746, 745, 751, 750, 756, 755, 763, 762, 768, 767, 773, 772, 778, 777, 785, 784]
def asl2 : List Addr := [790, 789, 795, 794, 800, 799, 805, 804, 810, 809, 815, 814, 820, 819, 827, 826, 832, 831, 839, 838, 844, 843, 849, 848, 854, 853, 859, 858, 866, 865]
def asl3 : List Addr := [873, 872, 880, 879, 885, 884, 890, 889, 897, 896, 904, 903, 911, 910, 918, 917, 925, 924, 930, 929, 937, 936, 944, 943, 951, 950, 958, 957, 963, 962]
def asl4 : List Addr := [970, 969, 977, 976, 984, 983, 991, 990, 996, 995, 1003, 1002, 1008, 1007, 1015, 1014, 1020, 1019, 1025, 1024, 1030, 1029, 1035, 1034, 1042, 1041, 311, 310, 340, 339]
def asl5 : List Addr := [508, 507, 568, 567, 678, 677, 685, 684, 699, 698, 105, 104, 200, 199, 219, 218]
def asl : List Addr := asl0 ++ (asl1 ++ (asl2 ++ (asl3 ++ (asl4 ++ (asl5)))))
def obsMG (g : Addr → Option Obj) : AlM := obsM (He.frG g asl)
def hookM : PySem.W.Hook where
  α := AlM
  obs := fun s => obsMG s.heap.get?
  val := fun _ => valM
  says := fun _ h => ∃ K : PySem.W.Frag, K.In h ∧ Says K
  of := fun _ _ e => ⟨_, He.frG_in, e⟩
  keeps := fun _ _ _ ⟨K, hK, c⟩ k => ⟨K, PySem.W.Frag.In.keeps hK k, c⟩
theorem obsMG_eq {g : Addr → Option Obj} {s : Shared} (h : ∀ a, g a = s.heap.get? a) : obsMG g = hookM.obs s := by
  have e : g = s.heap.get? := funext h
  rw [e] <;> rfl
/-- all of it, with the module's names -/
structure Fc (K : PySem.W.Frag) (mg : Str → Option Value) : Prop where
  says : Says K
  at_ : ∃ h : Heap, K.In h ∧ h.Ns mainGlobals mg
section
variable {K : PySem.W.Frag} {mg : Str → Option Value}
theorem Fc.glo (c : Fc K mg) {x : Str} (h : (He.Fa.glo x).ok K = true) : mg x = some (.ref (gA K x)) := by
  obtain ⟨hp, X, G⟩ := c.at_
  exact He.glo_ok X G h
theorem Fc.free (c : Fc K mg) {x : Str} (h : (He.Fa.free x).ok K = true) : mg x = none := by
  obtain ⟨hp, X, G⟩ := c.at_
  exact He.free_ok X G h
theorem Fc.int_ (c : Fc K mg) {x : Str} {i : Int} (h : (He.Fa.int x i).ok K = true) : ∃ t, mg x = some (.int i t) := by
  obtain ⟨hp, X, G⟩ := c.at_
  exact He.int_ok X G h

theorem Fc.b_isinstance (c : Fc K mg) : mg "isinstance" = none := c.free (c.says.fact 0)
theorem Fc.b_list (c : Fc K mg) : mg "list" = none := c.free (c.says.fact 1)
theorem Fc.b_tuple (c : Fc K mg) : mg "tuple" = none := c.free (c.says.fact 2)
theorem Fc.b_int (c : Fc K mg) : mg "int" = none := c.free (c.says.fact 3)
theorem Fc.b_bool (c : Fc K mg) : mg "bool" = none := c.free (c.says.fact 4)
theorem Fc.b_len (c : Fc K mg) : mg "len" = none := c.free (c.says.fact 5)
theorem Fc.b_set (c : Fc K mg) : mg "set" = none := c.free (c.says.fact 6)
theorem Fc.b_sorted (c : Fc K mg) : mg "sorted" = none := c.free (c.says.fact 7)
theorem Fc.b_enumerate (c : Fc K mg) : mg "enumerate" = none := c.free (c.says.fact 8)
theorem Fc.b_zip (c : Fc K mg) : mg "zip" = none := c.free (c.says.fact 9)
theorem Fc.b_all (c : Fc K mg) : mg "all" = none := c.free (c.says.fact 10)
theorem Fc.b_max (c : Fc K mg) : mg "max" = none := c.free (c.says.fact 11)
theorem Fc.b_abs (c : Fc K mg) : mg "abs" = none := c.free (c.says.fact 12)
theorem Fc.b_range (c : Fc K mg) : mg "range" = none := c.free (c.says.fact 13)
theorem Fc.b_min (c : Fc K mg) : mg "min" = none := c.free (c.says.fact 14)
theorem Fc.g_is_integer (c : Fc K mg) : mg "is_integer" = some (.ref (gA K "is_integer")) := c.glo (c.says.fact 15)
theorem Fc.g_is_below (c : Fc K mg) : mg "is_below" = some (.ref (gA K "is_below")) := c.glo (c.says.fact 16)
theorem Fc.g_check_pegs (c : Fc K mg) : mg "check_pegs" = some (.ref (gA K "check_pegs")) := c.glo (c.says.fact 17)
theorem Fc.g_set_of (c : Fc K mg) : mg "set_of" = some (.ref (gA K "set_of")) := c.glo (c.says.fact 18)
theorem Fc.g_mark_of (c : Fc K mg) : mg "mark_of" = some (.ref (gA K "mark_of")) := c.glo (c.says.fact 19)
theorem Fc.g_arrow_of (c : Fc K mg) : mg "arrow_of" = some (.ref (gA K "arrow_of")) := c.glo (c.says.fact 20)
theorem Fc.g_costs_of (c : Fc K mg) : mg "costs_of" = some (.ref (gA K "costs_of")) := c.glo (c.says.fact 21)
theorem Fc.g_check_game (c : Fc K mg) : mg "check_game" = some (.ref (gA K "check_game")) := c.glo (c.says.fact 22)
theorem Fc.g_check_position (c : Fc K mg) : mg "check_position" = some (.ref (gA K "check_position")) := c.glo (c.says.fact 23)
theorem Fc.g_check_strict (c : Fc K mg) : mg "check_strict" = some (.ref (gA K "check_strict")) := c.glo (c.says.fact 24)
theorem Fc.g_cost_sum (c : Fc K mg) : mg "cost_sum" = some (.ref (gA K "cost_sum")) := c.glo (c.says.fact 25)
theorem Fc.g_not_above (c : Fc K mg) : mg "not_above" = some (.ref (gA K "not_above")) := c.glo (c.says.fact 26)
theorem Fc.g_lesser (c : Fc K mg) : mg "lesser" = some (.ref (gA K "lesser")) := c.glo (c.says.fact 27)
theorem Fc.g_begin_on (c : Fc K mg) : mg "begin_on" = some (.ref (gA K "begin_on")) := c.glo (c.says.fact 28)
theorem Fc.g_shifted (c : Fc K mg) : mg "shifted" = some (.ref (gA K "shifted")) := c.glo (c.says.fact 29)
theorem Fc.g_walk_costs (c : Fc K mg) : mg "walk_costs" = some (.ref (gA K "walk_costs")) := c.glo (c.says.fact 30)
theorem Fc.g_table_over (c : Fc K mg) : mg "table_over" = some (.ref (gA K "table_over")) := c.glo (c.says.fact 31)
theorem Fc.g_is_entry (c : Fc K mg) : mg "is_entry" = some (.ref (gA K "is_entry")) := c.glo (c.says.fact 32)
theorem Fc.g_floor_of (c : Fc K mg) : mg "floor_of" = some (.ref (gA K "floor_of")) := c.glo (c.says.fact 33)
theorem Fc.g_grid_of (c : Fc K mg) : mg "grid_of" = some (.ref (gA K "grid_of")) := c.glo (c.says.fact 34)
theorem Fc.g_part_of (c : Fc K mg) : mg "part_of" = some (.ref (gA K "part_of")) := c.glo (c.says.fact 35)
theorem Fc.g_is_kept (c : Fc K mg) : mg "is_kept" = some (.ref (gA K "is_kept")) := c.glo (c.says.fact 36)
theorem Fc.g_check_floor (c : Fc K mg) : mg "check_floor" = some (.ref (gA K "check_floor")) := c.glo (c.says.fact 37)
theorem Fc.g_turned_arrows (c : Fc K mg) : mg "turned_arrows" = some (.ref (gA K "turned_arrows")) := c.glo (c.says.fact 38)
theorem Fc.g_turned_table (c : Fc K mg) : mg "turned_table" = some (.ref (gA K "turned_table")) := c.glo (c.says.fact 39)
theorem Fc.g_sides_of (c : Fc K mg) : mg "sides_of" = some (.ref (gA K "sides_of")) := c.glo (c.says.fact 40)
theorem Fc.g_game_sides (c : Fc K mg) : mg "game_sides" = some (.ref (gA K "game_sides")) := c.glo (c.says.fact 41)
theorem Fc.g_begun_at (c : Fc K mg) : mg "begun_at" = some (.ref (gA K "begun_at")) := c.glo (c.says.fact 42)
theorem Fc.g_into_rows (c : Fc K mg) : mg "into_rows" = some (.ref (gA K "into_rows")) := c.glo (c.says.fact 43)
theorem Fc.g_least_sum (c : Fc K mg) : mg "least_sum" = some (.ref (gA K "least_sum")) := c.glo (c.says.fact 44)
theorem Fc.g_top_unlike (c : Fc K mg) : mg "top_unlike" = some (.ref (gA K "top_unlike")) := c.glo (c.says.fact 45)
theorem Fc.g_unlike_pair (c : Fc K mg) : mg "unlike_pair" = some (.ref (gA K "unlike_pair")) := c.glo (c.says.fact 46)
theorem Fc.g_tower_row (c : Fc K mg) : mg "tower_row" = some (.ref (gA K "tower_row")) := c.glo (c.says.fact 47)
theorem Fc.g_paper_for (c : Fc K mg) : mg "paper_for" = some (.ref (gA K "paper_for")) := c.glo (c.says.fact 48)
theorem Fc.g_check_grids (c : Fc K mg) : mg "check_grids" = some (.ref (gA K "check_grids")) := c.glo (c.says.fact 49)
theorem Fc.g_paper_number (c : Fc K mg) : mg "paper_number" = some (.ref (gA K "paper_number")) := c.glo (c.says.fact 50)
theorem Fc.g__law_draws (c : Fc K mg) : mg "_law_draws" = some (.ref (gA K "_law_draws")) := c.glo (c.says.fact 51)
theorem Fc.g__law_take (c : Fc K mg) : mg "_law_take" = some (.ref (gA K "_law_take")) := c.glo (c.says.fact 52)
theorem Fc.g__law_is_int (c : Fc K mg) : mg "_law_is_int" = some (.ref (gA K "_law_is_int")) := c.glo (c.says.fact 53)
theorem Fc.g__law_guards (c : Fc K mg) : mg "_law_guards" = some (.ref (gA K "_law_guards")) := c.glo (c.says.fact 54)
theorem Fc.g__law_guard (c : Fc K mg) : mg "_law_guard" = some (.ref (gA K "_law_guard")) := c.glo (c.says.fact 55)
theorem Fc.g__law_cost (c : Fc K mg) : mg "_law_cost" = some (.ref (gA K "_law_cost")) := c.glo (c.says.fact 56)
theorem Fc.g__law_pairs (c : Fc K mg) : mg "_law_pairs" = some (.ref (gA K "_law_pairs")) := c.glo (c.says.fact 57)
theorem Fc.g__law_web (c : Fc K mg) : mg "_law_web" = some (.ref (gA K "_law_web")) := c.glo (c.says.fact 58)
theorem Fc.g__law_webs (c : Fc K mg) : mg "_law_webs" = some (.ref (gA K "_law_webs")) := c.glo (c.says.fact 59)
theorem Fc.g__law_sizes (c : Fc K mg) : mg "_law_sizes" = some (.ref (gA K "_law_sizes")) := c.glo (c.says.fact 60)
theorem Fc.g__law_built (c : Fc K mg) : mg "_law_built" = some (.ref (gA K "_law_built")) := c.glo (c.says.fact 61)
theorem Fc.g__law_position (c : Fc K mg) : mg "_law_position" = some (.ref (gA K "_law_position")) := c.glo (c.says.fact 62)
theorem Fc.g__law_sum (c : Fc K mg) : mg "_law_sum" = some (.ref (gA K "_law_sum")) := c.glo (c.says.fact 63)
theorem Fc.g__law_less (c : Fc K mg) : mg "_law_less" = some (.ref (gA K "_law_less")) := c.glo (c.says.fact 64)
theorem Fc.g__law_least_of (c : Fc K mg) : mg "_law_least_of" = some (.ref (gA K "_law_least_of")) := c.glo (c.says.fact 65)
theorem Fc.g__law_zero (c : Fc K mg) : mg "_law_zero" = some (.ref (gA K "_law_zero")) := c.glo (c.says.fact 66)
theorem Fc.g__law_strict_case (c : Fc K mg) : mg "_law_strict_case" = some (.ref (gA K "_law_strict_case")) := c.glo (c.says.fact 67)
theorem Fc.g__law_same (c : Fc K mg) : mg "_law_same" = some (.ref (gA K "_law_same")) := c.glo (c.says.fact 68)
theorem Fc.g__law_at_most (c : Fc K mg) : mg "_law_at_most" = some (.ref (gA K "_law_at_most")) := c.glo (c.says.fact 69)
theorem Fc.g__law_kept (c : Fc K mg) : mg "_law_kept" = some (.ref (gA K "_law_kept")) := c.glo (c.says.fact 70)
theorem Fc.g__law_verdict (c : Fc K mg) : mg "_law_verdict" = some (.ref (gA K "_law_verdict")) := c.glo (c.says.fact 71)
theorem Fc.g__law_told (c : Fc K mg) : mg "_law_told" = some (.ref (gA K "_law_told")) := c.glo (c.says.fact 72)
theorem Fc.g__law_copied (c : Fc K mg) : mg "_law_copied" = some (.ref (gA K "_law_copied")) := c.glo (c.says.fact 73)
theorem Fc.g__law_turned_entry (c : Fc K mg) : mg "_law_turned_entry" = some (.ref (gA K "_law_turned_entry")) := c.glo (c.says.fact 74)
theorem Fc.g__law_turned_paper (c : Fc K mg) : mg "_law_turned_paper" = some (.ref (gA K "_law_turned_paper")) := c.glo (c.says.fact 75)
theorem Fc.g__law_case (c : Fc K mg) : mg "_law_case" = some (.ref (gA K "_law_case")) := c.glo (c.says.fact 76)
theorem Fc.g__law_papers_fit (c : Fc K mg) : mg "_law_papers_fit" = some (.ref (gA K "_law_papers_fit")) := c.glo (c.says.fact 77)
theorem Fc.g__law_forms_fit (c : Fc K mg) : mg "_law_forms_fit" = some (.ref (gA K "_law_forms_fit")) := c.glo (c.says.fact 78)
theorem Fc.g_law (c : Fc K mg) : mg "law" = some (.ref (gA K "law")) := c.glo (c.says.fact 79)
theorem Fc.g_Web (c : Fc K mg) : mg "Web" = some (.ref (gA K "Web")) := c.glo (c.says.fact 80)
theorem Fc.g_Game (c : Fc K mg) : mg "Game" = some (.ref (gA K "Game")) := c.glo (c.says.fact 81)
theorem Fc.g_Tables (c : Fc K mg) : mg "Tables" = some (.ref (gA K "Tables")) := c.glo (c.says.fact 82)
theorem Fc.g_BadPosition (c : Fc K mg) : mg "BadPosition" = some (.ref (gA K "BadPosition")) := c.glo (c.says.fact 83)
theorem Fc.g_BadFloor (c : Fc K mg) : mg "BadFloor" = some (.ref (gA K "BadFloor")) := c.glo (c.says.fact 84)
theorem Fc.g_BadPaper (c : Fc K mg) : mg "BadPaper" = some (.ref (gA K "BadPaper")) := c.glo (c.says.fact 85)
theorem Fc.g_PegError (c : Fc K mg) : mg "PegError" = some (.ref (gA K "PegError")) := c.glo (c.says.fact 86)
theorem Fc.g_NotStrict (c : Fc K mg) : mg "NotStrict" = some (.ref (gA K "NotStrict")) := c.glo (c.says.fact 87)
theorem Fc.g_BadWeb (c : Fc K mg) : mg "BadWeb" = some (.ref (gA K "BadWeb")) := c.glo (c.says.fact 88)
theorem Fc.g_BadNumber (c : Fc K mg) : mg "BadNumber" = some (.ref (gA K "BadNumber")) := c.glo (c.says.fact 89)
theorem Fc.g_OtherGame (c : Fc K mg) : mg "OtherGame" = some (.ref (gA K "OtherGame")) := c.glo (c.says.fact 90)
theorem Fc.g_BadArrow (c : Fc K mg) : mg "BadArrow" = some (.ref (gA K "BadArrow")) := c.glo (c.says.fact 91)
theorem Fc.i_MOST_COST (c : Fc K mg) : ∃ t, mg "MOST_COST" = some (.int (10 ^ 60) t) := c.int_ (c.says.fact 92)
theorem Fc.i_MOST_DISCS (c : Fc K mg) : ∃ t, mg "MOST_DISCS" = some (.int (40) t) := c.int_ (c.says.fact 93)
theorem Fc.i_MOST_ENTRY (c : Fc K mg) : ∃ t, mg "MOST_ENTRY" = some (.int (10 ^ 100) t) := c.int_ (c.says.fact 94)
theorem Fc.c_Web (c : Fc K mg) : Cls K (gA K "Web") := He.cls_ok (c.says.fact 95)
theorem Fc.k_Web (c : Fc K mg) : Mk K (gA K "Web") (He.ma K (gA K "Web") "__init__") := He.mkr_ok (c.says.fact 96)
theorem Fc.c_Game (c : Fc K mg) : Cls K (gA K "Game") := He.cls_ok (c.says.fact 97)
theorem Fc.k_Game (c : Fc K mg) : Mk K (gA K "Game") (He.ma K (gA K "Game") "__init__") := He.mkr_ok (c.says.fact 98)
theorem Fc.c_Tables (c : Fc K mg) : Cls K (gA K "Tables") := He.cls_ok (c.says.fact 99)
theorem Fc.k_Tables (c : Fc K mg) : Mk K (gA K "Tables") (He.ma K (gA K "Tables") "__init__") := He.mkr_ok (c.says.fact 100)
theorem Fc.n_Web_pegs (c : Fc K mg) : NoAttr K (gA K "Web") "pegs" := He.noat_ok (c.says.fact 101)
theorem Fc.n_Web_costs (c : Fc K mg) : NoAttr K (gA K "Web") "_costs" := He.noat_ok (c.says.fact 102)
theorem Fc.n_Web_arrows (c : Fc K mg) : NoAttr K (gA K "Web") "arrows" := He.noat_ok (c.says.fact 103)
theorem Fc.n_Game_pegs (c : Fc K mg) : NoAttr K (gA K "Game") "pegs" := He.noat_ok (c.says.fact 104)
theorem Fc.n_Game_webs (c : Fc K mg) : NoAttr K (gA K "Game") "webs" := He.noat_ok (c.says.fact 105)
theorem Fc.n_Game_discs (c : Fc K mg) : NoAttr K (gA K "Game") "discs" := He.noat_ok (c.says.fact 106)
theorem Fc.n_Tables_game (c : Fc K mg) : NoAttr K (gA K "Tables") "game" := He.noat_ok (c.says.fact 107)
theorem Fc.n_Tables_costs (c : Fc K mg) : NoAttr K (gA K "Tables") "_costs" := He.noat_ok (c.says.fact 108)
theorem Fc.m_Game_lower (c : Fc K mg) : Meth K (gA K "Game") "lower" (He.ma K (gA K "Game") "lower") := He.meth_ok (c.says.fact 109)
theorem Fc.m_Tables_costs (c : Fc K mg) : Meth K (gA K "Tables") "costs" (He.ma K (gA K "Tables") "costs") := He.meth_ok (c.says.fact 110)
theorem Fc.m_Tables_walk_from (c : Fc K mg) : Meth K (gA K "Tables") "walk_from" (He.ma K (gA K "Tables") "walk_from") := He.meth_ok (c.says.fact 111)
theorem Fc.p_strict (c : Fc K mg) : PropOf K (gA K "Web") "is_strict" (He.ma K (gA K "Web") "is_strict") (gtA K "Web" "is_strict") := propB_ok (c.says.fact 112)
theorem Fc.s_Web (c : Fc K mg) : C8.InsC K (gA K "Web") := insB_ok (c.says.fact 113) c.c_Web
theorem Fc.s_Game (c : Fc K mg) : C8.InsC K (gA K "Game") := insB_ok (c.says.fact 114) c.c_Game
theorem Fc.x_BadPosition (c : Fc K mg) : PEx.ExC K (gA K "BadPosition") (He.ma K (gA K "BadPosition") "__init__") := PEx.exnB_ok (c.says.fact 115)
theorem Fc.x_BadFloor (c : Fc K mg) : PEx.ExC K (gA K "BadFloor") (He.ma K (gA K "BadFloor") "__init__") := PEx.exnB_ok (c.says.fact 116)
theorem Fc.x_BadPaper (c : Fc K mg) : PEx.ExC K (gA K "BadPaper") (He.ma K (gA K "BadPaper") "__init__") := PEx.exnB_ok (c.says.fact 117)
theorem Fc.exm_BadFloor_BadFloor (c : Fc K mg) : PySem.W.exmOne K (.ref (gA K "BadFloor")) (.ref (gA K "BadFloor")) = some true := of_decide_eq_true (c.says.fact 118)
theorem Fc.exm_BadPaper_BadFloor (c : Fc K mg) : PySem.W.exmOne K (.ref (gA K "BadPaper")) (.ref (gA K "BadFloor")) = some false := of_decide_eq_true (c.says.fact 119)
theorem Fc.exm_BadPaper_BadPaper (c : Fc K mg) : PySem.W.exmOne K (.ref (gA K "BadPaper")) (.ref (gA K "BadPaper")) = some true := of_decide_eq_true (c.says.fact 120)
theorem Fc.exm_BadPosition_BadFloor (c : Fc K mg) : PySem.W.exmOne K (.ref (gA K "BadPosition")) (.ref (gA K "BadFloor")) = some false := of_decide_eq_true (c.says.fact 121)
theorem Fc.exm_BadPosition_BadPaper (c : Fc K mg) : PySem.W.exmOne K (.ref (gA K "BadPosition")) (.ref (gA K "BadPaper")) = some false := of_decide_eq_true (c.says.fact 122)
theorem Fc.exm_BadPosition_BadPosition (c : Fc K mg) : PySem.W.exmOne K (.ref (gA K "BadPosition")) (.ref (gA K "BadPosition")) = some true := of_decide_eq_true (c.says.fact 123)
theorem Fc.f_is_integer (c : Fc K mg) : ∃ fd, FunD K "is_integer" "is_integer" (defArgs s_is_integer) (defBody s_is_integer) (defScope s_is_integer) [] [] (gA K "is_integer") fd := c.says.def_ 0 (d := d_is_integer)
theorem Fc.f_is_below (c : Fc K mg) : ∃ fd, FunD K "is_below" "is_below" (defArgs s_is_below) (defBody s_is_below) (defScope s_is_below) [] [] (gA K "is_below") fd := c.says.def_ 1 (d := d_is_below)
theorem Fc.f_check_pegs (c : Fc K mg) : ∃ fd, FunD K "check_pegs" "check_pegs" (defArgs s_check_pegs) (defBody s_check_pegs) (defScope s_check_pegs) [] [] (gA K "check_pegs") fd := c.says.def_ 2 (d := d_check_pegs)
theorem Fc.f_set_of (c : Fc K mg) : ∃ fd, FunD K "set_of" "set_of" (defArgs s_set_of) (defBody s_set_of) (defScope s_set_of) [] [] (gA K "set_of") fd := c.says.def_ 3 (d := d_set_of)
theorem Fc.f_mark_of (c : Fc K mg) : ∃ fd, FunD K "mark_of" "mark_of" (defArgs s_mark_of) (defBody s_mark_of) (defScope s_mark_of) [] [] (gA K "mark_of") fd := c.says.def_ 4 (d := d_mark_of)
theorem Fc.f_arrow_of (c : Fc K mg) : ∃ fd, FunD K "arrow_of" "arrow_of" (defArgs s_arrow_of) (defBody s_arrow_of) (defScope s_arrow_of) [] [] (gA K "arrow_of") fd := c.says.def_ 5 (d := d_arrow_of)
theorem Fc.f_costs_of (c : Fc K mg) : ∃ fd, FunD K "costs_of" "costs_of" (defArgs s_costs_of) (defBody s_costs_of) (defScope s_costs_of) [] [] (gA K "costs_of") fd := c.says.def_ 6 (d := d_costs_of)
theorem Fc.f_check_game (c : Fc K mg) : ∃ fd, FunD K "check_game" "check_game" (defArgs s_check_game) (defBody s_check_game) (defScope s_check_game) [] [] (gA K "check_game") fd := c.says.def_ 7 (d := d_check_game)
theorem Fc.f_check_position (c : Fc K mg) : ∃ fd, FunD K "check_position" "check_position" (defArgs s_check_position) (defBody s_check_position) (defScope s_check_position) [] [] (gA K "check_position") fd := c.says.def_ 8 (d := d_check_position)
theorem Fc.f_check_strict (c : Fc K mg) : ∃ fd, FunD K "check_strict" "check_strict" (defArgs s_check_strict) (defBody s_check_strict) (defScope s_check_strict) [] [] (gA K "check_strict") fd := c.says.def_ 9 (d := d_check_strict)
theorem Fc.f_cost_sum (c : Fc K mg) : ∃ fd, FunD K "cost_sum" "cost_sum" (defArgs s_cost_sum) (defBody s_cost_sum) (defScope s_cost_sum) [] [] (gA K "cost_sum") fd := c.says.def_ 10 (d := d_cost_sum)
theorem Fc.f_not_above (c : Fc K mg) : ∃ fd, FunD K "not_above" "not_above" (defArgs s_not_above) (defBody s_not_above) (defScope s_not_above) [] [] (gA K "not_above") fd := c.says.def_ 11 (d := d_not_above)
theorem Fc.f_lesser (c : Fc K mg) : ∃ fd, FunD K "lesser" "lesser" (defArgs s_lesser) (defBody s_lesser) (defScope s_lesser) [] [] (gA K "lesser") fd := c.says.def_ 12 (d := d_lesser)
theorem Fc.f_begin_on (c : Fc K mg) : ∃ fd, FunD K "begin_on" "begin_on" (defArgs s_begin_on) (defBody s_begin_on) (defScope s_begin_on) [] [] (gA K "begin_on") fd := c.says.def_ 13 (d := d_begin_on)
theorem Fc.f_shifted (c : Fc K mg) : ∃ fd, FunD K "shifted" "shifted" (defArgs s_shifted) (defBody s_shifted) (defScope s_shifted) [] [] (gA K "shifted") fd := c.says.def_ 14 (d := d_shifted)
theorem Fc.f_walk_costs (c : Fc K mg) : ∃ fd, FunD K "walk_costs" "walk_costs" (defArgs s_walk_costs) (defBody s_walk_costs) (defScope s_walk_costs) [] [] (gA K "walk_costs") fd := c.says.def_ 15 (d := d_walk_costs)
theorem Fc.f_table_over (c : Fc K mg) : ∃ fd, FunD K "table_over" "table_over" (defArgs s_table_over) (defBody s_table_over) (defScope s_table_over) [] [] (gA K "table_over") fd := c.says.def_ 16 (d := d_table_over)
theorem Fc.f_is_entry (c : Fc K mg) : ∃ fd, FunD K "is_entry" "is_entry" (defArgs s_is_entry) (defBody s_is_entry) (defScope s_is_entry) [] [] (gA K "is_entry") fd := c.says.def_ 17 (d := d_is_entry)
theorem Fc.f_floor_of (c : Fc K mg) : ∃ fd, FunD K "floor_of" "floor_of" (defArgs s_floor_of) (defBody s_floor_of) (defScope s_floor_of) [] [] (gA K "floor_of") fd := c.says.def_ 18 (d := d_floor_of)
theorem Fc.f_grid_of (c : Fc K mg) : ∃ fd, FunD K "grid_of" "grid_of" (defArgs s_grid_of) (defBody s_grid_of) (defScope s_grid_of) [] [] (gA K "grid_of") fd := c.says.def_ 19 (d := d_grid_of)
theorem Fc.f_part_of (c : Fc K mg) : ∃ fd, FunD K "part_of" "part_of" (defArgs s_part_of) (defBody s_part_of) (defScope s_part_of) [] [] (gA K "part_of") fd := c.says.def_ 20 (d := d_part_of)
theorem Fc.f_is_kept (c : Fc K mg) : ∃ fd, FunD K "is_kept" "is_kept" (defArgs s_is_kept) (defBody s_is_kept) (defScope s_is_kept) [] [] (gA K "is_kept") fd := c.says.def_ 21 (d := d_is_kept)
theorem Fc.f_check_floor (c : Fc K mg) : ∃ fd, FunD K "check_floor" "check_floor" (defArgs s_check_floor) (defBody s_check_floor) (defScope s_check_floor) [] [] (gA K "check_floor") fd := c.says.def_ 22 (d := d_check_floor)
theorem Fc.f_turned_arrows (c : Fc K mg) : ∃ fd, FunD K "turned_arrows" "turned_arrows" (defArgs s_turned_arrows) (defBody s_turned_arrows) (defScope s_turned_arrows) [] [] (gA K "turned_arrows") fd := c.says.def_ 23 (d := d_turned_arrows)
theorem Fc.f_turned_table (c : Fc K mg) : ∃ fd, FunD K "turned_table" "turned_table" (defArgs s_turned_table) (defBody s_turned_table) (defScope s_turned_table) [] [] (gA K "turned_table") fd := c.says.def_ 24 (d := d_turned_table)
theorem Fc.f_sides_of (c : Fc K mg) : ∃ fd, FunD K "sides_of" "sides_of" (defArgs s_sides_of) (defBody s_sides_of) (defScope s_sides_of) [] [] (gA K "sides_of") fd := c.says.def_ 25 (d := d_sides_of)
theorem Fc.f_game_sides (c : Fc K mg) : ∃ fd, FunD K "game_sides" "game_sides" (defArgs s_game_sides) (defBody s_game_sides) (defScope s_game_sides) [] [] (gA K "game_sides") fd := c.says.def_ 26 (d := d_game_sides)
theorem Fc.f_begun_at (c : Fc K mg) : ∃ fd, FunD K "begun_at" "begun_at" (defArgs s_begun_at) (defBody s_begun_at) (defScope s_begun_at) [] [] (gA K "begun_at") fd := c.says.def_ 27 (d := d_begun_at)
theorem Fc.f_into_rows (c : Fc K mg) : ∃ fd, FunD K "into_rows" "into_rows" (defArgs s_into_rows) (defBody s_into_rows) (defScope s_into_rows) [] [] (gA K "into_rows") fd := c.says.def_ 28 (d := d_into_rows)
theorem Fc.f_least_sum (c : Fc K mg) : ∃ fd, FunD K "least_sum" "least_sum" (defArgs s_least_sum) (defBody s_least_sum) (defScope s_least_sum) [] [] (gA K "least_sum") fd := c.says.def_ 29 (d := d_least_sum)
theorem Fc.f_top_unlike (c : Fc K mg) : ∃ fd, FunD K "top_unlike" "top_unlike" (defArgs s_top_unlike) (defBody s_top_unlike) (defScope s_top_unlike) [] [] (gA K "top_unlike") fd := c.says.def_ 30 (d := d_top_unlike)
theorem Fc.f_unlike_pair (c : Fc K mg) : ∃ fd, FunD K "unlike_pair" "unlike_pair" (defArgs s_unlike_pair) (defBody s_unlike_pair) (defScope s_unlike_pair) [] [] (gA K "unlike_pair") fd := c.says.def_ 31 (d := d_unlike_pair)
theorem Fc.f_tower_row (c : Fc K mg) : ∃ fd, FunD K "tower_row" "tower_row" (defArgs s_tower_row) (defBody s_tower_row) (defScope s_tower_row) [] [] (gA K "tower_row") fd := c.says.def_ 32 (d := d_tower_row)
theorem Fc.f_paper_for (c : Fc K mg) : ∃ fd, FunD K "paper_for" "paper_for" (defArgs s_paper_for) (defBody s_paper_for) (defScope s_paper_for) [] [] (gA K "paper_for") fd := c.says.def_ 33 (d := d_paper_for)
theorem Fc.f_check_grids (c : Fc K mg) : ∃ fd, FunD K "check_grids" "check_grids" (defArgs s_check_grids) (defBody s_check_grids) (defScope s_check_grids) [] [] (gA K "check_grids") fd := c.says.def_ 34 (d := d_check_grids)
theorem Fc.f_paper_number (c : Fc K mg) : ∃ fd, FunD K "paper_number" "paper_number" (defArgs s_paper_number) (defBody s_paper_number) (defScope s_paper_number) [] [] (gA K "paper_number") fd := c.says.def_ 35 (d := d_paper_number)
theorem Fc.f__law_draws (c : Fc K mg) : ∃ fd, FunD K "_law_draws" "_law_draws" (defArgs s__law_draws) (defBody s__law_draws) (defScope s__law_draws) [] [] (gA K "_law_draws") fd := c.says.def_ 36 (d := d__law_draws)
theorem Fc.f__law_take (c : Fc K mg) : ∃ fd, FunD K "_law_take" "_law_take" (defArgs s__law_take) (defBody s__law_take) (defScope s__law_take) [] [] (gA K "_law_take") fd := c.says.def_ 37 (d := d__law_take)
theorem Fc.f__law_is_int (c : Fc K mg) : ∃ fd, FunD K "_law_is_int" "_law_is_int" (defArgs s__law_is_int) (defBody s__law_is_int) (defScope s__law_is_int) [] [] (gA K "_law_is_int") fd := c.says.def_ 38 (d := d__law_is_int)
theorem Fc.f__law_guards (c : Fc K mg) : ∃ fd, FunD K "_law_guards" "_law_guards" (defArgs s__law_guards) (defBody s__law_guards) (defScope s__law_guards) [] [] (gA K "_law_guards") fd := c.says.def_ 39 (d := d__law_guards)
theorem Fc.f__law_guard (c : Fc K mg) : ∃ fd, FunD K "_law_guard" "_law_guard" (defArgs s__law_guard) (defBody s__law_guard) (defScope s__law_guard) [] [] (gA K "_law_guard") fd := c.says.def_ 40 (d := d__law_guard)
theorem Fc.f__law_cost (c : Fc K mg) : ∃ fd, FunD K "_law_cost" "_law_cost" (defArgs s__law_cost) (defBody s__law_cost) (defScope s__law_cost) [] [] (gA K "_law_cost") fd := c.says.def_ 41 (d := d__law_cost)
theorem Fc.f__law_pairs (c : Fc K mg) : ∃ fd, FunD K "_law_pairs" "_law_pairs" (defArgs s__law_pairs) (defBody s__law_pairs) (defScope s__law_pairs) [] [] (gA K "_law_pairs") fd := c.says.def_ 42 (d := d__law_pairs)
theorem Fc.f__law_web (c : Fc K mg) : ∃ fd, FunD K "_law_web" "_law_web" (defArgs s__law_web) (defBody s__law_web) (defScope s__law_web) [] [] (gA K "_law_web") fd := c.says.def_ 43 (d := d__law_web)
theorem Fc.f__law_webs (c : Fc K mg) : ∃ fd, FunD K "_law_webs" "_law_webs" (defArgs s__law_webs) (defBody s__law_webs) (defScope s__law_webs) [] [] (gA K "_law_webs") fd := c.says.def_ 44 (d := d__law_webs)
theorem Fc.f__law_sizes (c : Fc K mg) : ∃ fd, FunD K "_law_sizes" "_law_sizes" (defArgs s__law_sizes) (defBody s__law_sizes) (defScope s__law_sizes) [] [] (gA K "_law_sizes") fd := c.says.def_ 45 (d := d__law_sizes)
theorem Fc.f__law_built (c : Fc K mg) : ∃ fd, FunD K "_law_built" "_law_built" (defArgs s__law_built) (defBody s__law_built) (defScope s__law_built) [] [] (gA K "_law_built") fd := c.says.def_ 46 (d := d__law_built)
theorem Fc.f__law_position (c : Fc K mg) : ∃ fd, FunD K "_law_position" "_law_position" (defArgs s__law_position) (defBody s__law_position) (defScope s__law_position) [] [] (gA K "_law_position") fd := c.says.def_ 47 (d := d__law_position)
theorem Fc.f__law_sum (c : Fc K mg) : ∃ fd, FunD K "_law_sum" "_law_sum" (defArgs s__law_sum) (defBody s__law_sum) (defScope s__law_sum) [] [] (gA K "_law_sum") fd := c.says.def_ 48 (d := d__law_sum)
theorem Fc.f__law_less (c : Fc K mg) : ∃ fd, FunD K "_law_less" "_law_less" (defArgs s__law_less) (defBody s__law_less) (defScope s__law_less) [] [] (gA K "_law_less") fd := c.says.def_ 49 (d := d__law_less)
theorem Fc.f__law_least_of (c : Fc K mg) : ∃ fd, FunD K "_law_least_of" "_law_least_of" (defArgs s__law_least_of) (defBody s__law_least_of) (defScope s__law_least_of) [] [] (gA K "_law_least_of") fd := c.says.def_ 50 (d := d__law_least_of)
theorem Fc.f__law_zero (c : Fc K mg) : ∃ fd, FunD K "_law_zero" "_law_zero" (defArgs s__law_zero) (defBody s__law_zero) (defScope s__law_zero) [] [] (gA K "_law_zero") fd := c.says.def_ 51 (d := d__law_zero)
theorem Fc.f__law_strict_case (c : Fc K mg) : ∃ fd, FunD K "_law_strict_case" "_law_strict_case" (defArgs s__law_strict_case) (defBody s__law_strict_case) (defScope s__law_strict_case) [] [] (gA K "_law_strict_case") fd := c.says.def_ 52 (d := d__law_strict_case)
theorem Fc.f__law_same (c : Fc K mg) : ∃ fd, FunD K "_law_same" "_law_same" (defArgs s__law_same) (defBody s__law_same) (defScope s__law_same) [] [] (gA K "_law_same") fd := c.says.def_ 53 (d := d__law_same)
theorem Fc.f__law_at_most (c : Fc K mg) : ∃ fd, FunD K "_law_at_most" "_law_at_most" (defArgs s__law_at_most) (defBody s__law_at_most) (defScope s__law_at_most) [] [] (gA K "_law_at_most") fd := c.says.def_ 54 (d := d__law_at_most)
theorem Fc.f__law_kept (c : Fc K mg) : ∃ fd, FunD K "_law_kept" "_law_kept" (defArgs s__law_kept) (defBody s__law_kept) (defScope s__law_kept) [] [] (gA K "_law_kept") fd := c.says.def_ 55 (d := d__law_kept)
theorem Fc.f__law_verdict (c : Fc K mg) : ∃ fd, FunD K "_law_verdict" "_law_verdict" (defArgs s__law_verdict) (defBody s__law_verdict) (defScope s__law_verdict) [] [] (gA K "_law_verdict") fd := c.says.def_ 56 (d := d__law_verdict)
theorem Fc.f__law_told (c : Fc K mg) : ∃ fd, FunD K "_law_told" "_law_told" (defArgs s__law_told) (defBody s__law_told) (defScope s__law_told) [] [] (gA K "_law_told") fd := c.says.def_ 57 (d := d__law_told)
theorem Fc.f__law_copied (c : Fc K mg) : ∃ fd, FunD K "_law_copied" "_law_copied" (defArgs s__law_copied) (defBody s__law_copied) (defScope s__law_copied) [] [] (gA K "_law_copied") fd := c.says.def_ 58 (d := d__law_copied)
theorem Fc.f__law_turned_entry (c : Fc K mg) : ∃ fd, FunD K "_law_turned_entry" "_law_turned_entry" (defArgs s__law_turned_entry) (defBody s__law_turned_entry) (defScope s__law_turned_entry) [] [] (gA K "_law_turned_entry") fd := c.says.def_ 59 (d := d__law_turned_entry)
theorem Fc.f__law_turned_paper (c : Fc K mg) : ∃ fd, FunD K "_law_turned_paper" "_law_turned_paper" (defArgs s__law_turned_paper) (defBody s__law_turned_paper) (defScope s__law_turned_paper) [] [] (gA K "_law_turned_paper") fd := c.says.def_ 60 (d := d__law_turned_paper)
theorem Fc.f__law_case (c : Fc K mg) : ∃ fd, FunD K "_law_case" "_law_case" (defArgs s__law_case) (defBody s__law_case) (defScope s__law_case) [] [] (gA K "_law_case") fd := c.says.def_ 61 (d := d__law_case)
theorem Fc.f__law_papers_fit (c : Fc K mg) : ∃ fd, FunD K "_law_papers_fit" "_law_papers_fit" (defArgs s__law_papers_fit) (defBody s__law_papers_fit) (defScope s__law_papers_fit) [] [] (gA K "_law_papers_fit") fd := c.says.def_ 62 (d := d__law_papers_fit)
theorem Fc.f__law_forms_fit (c : Fc K mg) : ∃ fd, FunD K "_law_forms_fit" "_law_forms_fit" (defArgs s__law_forms_fit) (defBody s__law_forms_fit) (defScope s__law_forms_fit) [] [] (gA K "_law_forms_fit") fd := c.says.def_ 63 (d := d__law_forms_fit)
theorem Fc.f_law (c : Fc K mg) : ∃ fd, FunD K "law" "law" (defArgs s_law) (defBody s_law) (defScope s_law) [] [] (gA K "law") fd := c.says.def_ 64 (d := d_law)
theorem Fc.f_Web_init (c : Fc K mg) : ∃ fd, FunD K "__init__" "Web.__init__" (defArgs s_Web_init) (defBody s_Web_init) (defScope s_Web_init) [] [] (He.ma K (gA K "Web") "__init__") fd := c.says.def_ 65 (d := d_Web_init)
theorem Fc.f_Web_is_strict (c : Fc K mg) : ∃ fd, FunD K "is_strict" "Web.is_strict" (defArgs s_Web_is_strict) (defBody s_Web_is_strict) (defScope s_Web_is_strict) [] [] (gtA K "Web" "is_strict") fd := c.says.def_ 66 (d := d_Web_is_strict)
theorem Fc.f_Game_init (c : Fc K mg) : ∃ fd, FunD K "__init__" "Game.__init__" (defArgs s_Game_init) (defBody s_Game_init) (defScope s_Game_init) [] [] (He.ma K (gA K "Game") "__init__") fd := c.says.def_ 67 (d := d_Game_init)
theorem Fc.f_Game_lower (c : Fc K mg) : ∃ fd, FunD K "lower" "Game.lower" (defArgs s_Game_lower) (defBody s_Game_lower) (defScope s_Game_lower) [] [] (He.ma K (gA K "Game") "lower") fd := c.says.def_ 68 (d := d_Game_lower)
theorem Fc.f_Tables_init (c : Fc K mg) : ∃ fd, FunD K "__init__" "Tables.__init__" (defArgs s_Tables_init) (defBody s_Tables_init) (defScope s_Tables_init) [] [] (He.ma K (gA K "Tables") "__init__") fd := c.says.def_ 69 (d := d_Tables_init)
theorem Fc.f_Tables_costs (c : Fc K mg) : ∃ fd, FunD K "costs" "Tables.costs" (defArgs s_Tables_costs) (defBody s_Tables_costs) (defScope s_Tables_costs) [] [] (He.ma K (gA K "Tables") "costs") fd := c.says.def_ 70 (d := d_Tables_costs)
theorem Fc.f_Tables_walk_from (c : Fc K mg) : ∃ fd, FunD K "walk_from" "Tables.walk_from" (defArgs s_Tables_walk_from) (defBody s_Tables_walk_from) (defScope s_Tables_walk_from) [] [] (He.ma K (gA K "Tables") "walk_from") fd := c.says.def_ 71 (d := d_Tables_walk_from)
theorem Fc.f_BadPosition_init (c : Fc K mg) : ∃ fd, FunD K "__init__" "BadPosition.__init__" (defArgs s_BadPosition_init) (defBody s_BadPosition_init) (defScope s_BadPosition_init) [] [] (He.ma K (gA K "BadPosition") "__init__") fd := c.says.def_ 72 (d := d_BadPosition_init)
theorem Fc.f_BadFloor_init (c : Fc K mg) : ∃ fd, FunD K "__init__" "BadFloor.__init__" (defArgs s_BadFloor_init) (defBody s_BadFloor_init) (defScope s_BadFloor_init) [] [] (He.ma K (gA K "BadFloor") "__init__") fd := c.says.def_ 73 (d := d_BadFloor_init)
theorem Fc.f_BadPaper_init (c : Fc K mg) : ∃ fd, FunD K "__init__" "BadPaper.__init__" (defArgs s_BadPaper_init) (defBody s_BadPaper_init) (defScope s_BadPaper_init) [] [] (He.ma K (gA K "BadPaper") "__init__") fd := c.says.def_ 74 (d := d_BadPaper_init)
end
end PF
end
section
set_option maxHeartbeats 0
namespace PH
open PySem PySem.W PySem.Calls PyProof.Rows
abbrev R : OpenRow := OpenLaw.row PySem.Challenge.rw_pegwebs_k71_whole_papers_judged
abbrev qv : Program := view R.prog [101]
def names0 : List PySem.Str := ["_wall", "PegError", "BadNumber", "BadArrow", "BadWeb", "BadPosition", "NoArrow", "OtherPegs", "OtherGame", "NotStrict", "BadFloor", "BadPaper"]
def names1 : List PySem.Str := ["BadText", "MOST_COST", "is_integer", "is_below", "check_pegs", "check_cost", "set_of", "mark_of", "arrow_of", "number_in", "Web", "costs_of"]
def names2 : List PySem.Str := ["least_of", "pair_of", "rows_of", "pegs_in", "arrow_in", "row_of", "MOST_DISCS", "Game", "check_game", "check_position", "check_strict", "MOST_ENTRY"]
def names3 : List PySem.Str := ["Tables", "cost_sum", "not_above", "lesser", "begin_on", "shifted", "walk_costs", "table_over", "is_entry", "floor_of", "grid_of", "part_of"]
def names4 : List PySem.Str := ["is_kept", "check_floor", "turned_arrows", "turned_table", "sides_of", "game_sides", "begun_at", "into_rows", "least_sum", "top_unlike", "unlike_pair", "tower_row"]
def names5 : List PySem.Str := ["paper_for", "check_grids", "paper_number", "_law_draws", "_law_take", "_law_is_int", "_law_guards", "_law_guard", "_law_cost", "_law_pairs", "_law_web", "_law_webs"]
def names6 : List PySem.Str := ["_law_sizes", "_law_built", "_law_position", "_law_sum", "_law_less", "_law_least_of", "_law_zero", "_law_strict_case", "_law_same", "_law_at_most", "_law_kept", "_law_verdict"]
def names7 : List PySem.Str := ["_law_told", "_law_copied", "_law_turned_entry", "_law_turned_paper", "_law_case", "_law_papers_fit", "_law_forms_fit"]
def names : List PySem.Str := names0 ++ (names1 ++ (names2 ++ (names3 ++ (names4 ++ (names5 ++ (names6 ++ (names7)))))))
def ob (s : PySem.W.SharedT) : PF.AlM := PF.obsMG (HandSHeadRun.getT s)
theorem ob_eq (s : PySem.W.SharedT) : ob s = PF.hookM.obs s.abs := PF.obsMG_eq (HandSHeadRun.getT_eq s)
theorem run (w : World) : HandSHeadRun.RunEq R qv PF.hookM ob 9000 names w := by
  intro os
  kernel_rfl
end PH
end
section
set_option maxHeartbeats 4000000
namespace PW
open PySem PySem.Spec PyProof.Rows L2 PJ PF

/-! ### values -/
def oD : Option Int → Dat
  | none => .non
  | some i => .int i
def cSum : Option Int → Option Int → Option Int
  | some a, some b => some (a + b)
  | _, _ => none
def notAb : Option Int → Option Int → Bool
  | _, none => true
  | none, some _ => false
  | some a, some b => decide (a ≤ b)
def lesr (a b : Option Int) : Option Int := if notAb a b then a else b
def isIntD : Dat → Bool
  | .int _ => true
  | _ => false
theorem told_oD (a : Option Int) : Told (oD a) := by cases a <;> trivial
theorem isNon_oD (a : Option Int) : isNon (oD a) = a.isNone := by cases a <;> rfl

section
variable {P : Program} {w : World} {K : PySem.W.Frag} {mg : Str → Option Value} {base : Heap}

def W_is_integer : Wf := fun ss R _ => ∃ d, ss = [.dat d] ∧ (tyN d).isSome = true ∧ R (.bl (isIntD d))
theorem ok_is_integer (c : Fc K mg) : DefJ P w K mg base "is_integer" 1 ["thing"] W_is_integer := by
  obtain ⟨fd, F⟩ := c.f_is_integer
  refine ⟨fd, defj _ F sc_is_integer (fun ss R Z ⟨d, e, _⟩ => by rw [e]; rfl) (fun cdv A outer s H E en ss R Z hr ⟨d, e, hn, q⟩ hZ => ?_), F.bindsN (fun _ _ _ _ _ _ us hl => match us, hl with | [_], _ => rfl), c.g_is_integer, F.kp⟩
  subst e
  have h1 : ∀ {b : Bool} {n : String}, tyN d = some n → kitB n "int" = some b → ∀ {b2 : Bool}, kitB n "bool" = some b2 → (b && !b2) = isIntD d →
      JB (cxOf (L2.CX P w) P w K mg base N_is_integer "is_integer" (defScope s_is_integer) (gA K "is_integer") cdv A outer s H E) en (defBody s_is_integer) (startL N_is_integer [.dat d]) { nx := fun _ => R .non, rt := R } := fun {b n} e1 e2 {b2} e3 e4 => by
    refine jb_one (js_retI (je_andI (je_isi (je_var 0 rfl) e1 e2 (by decide +kernel) c.b_isinstance c.b_int) fun _ => je_one (je_notV (je_isi (je_var 0 rfl) e1 e3 (by decide +kernel) c.b_isinstance c.b_bool))) ?_)
    rw [e4]
    exact q
  cases d with
  | non => exact h1 (b := false) (b2 := false) rfl (by decide +kernel) (by decide +kernel) rfl
  | bl x => exact h1 (b := true) (b2 := true) rfl (by decide +kernel) (by decide +kernel) rfl
  | int x => exact h1 (b := true) (b2 := false) rfl (by decide +kernel) (by decide +kernel) rfl
  | str x => exact h1 (b := false) (b2 := false) rfl (by decide +kernel) (by decide +kernel) rfl
  | lst x => exact h1 (b := false) (b2 := false) rfl (by decide +kernel) (by decide +kernel) rfl
  | tup x => exact h1 (b := false) (b2 := false) rfl (by decide +kernel) (by decide +kernel) rfl
  | any => cases hn
  | rng _ _ => cases hn
  | ins _ _ => cases hn
  | mrow _ _ _ => cases hn
  | obj _ _ => cases hn

def W_cost_sum : Wf := fun ss R _ => ∃ a b, ss = [.dat (oD a), .dat (oD b)] ∧ R (oD (cSum a b))
theorem ok_cost_sum (c : Fc K mg) : DefJ P w K mg base "cost_sum" 1 ["one", "other"] W_cost_sum := by
  obtain ⟨fd, F⟩ := c.f_cost_sum
  refine ⟨fd, defj _ F sc_cost_sum (fun ss R Z ⟨a, b, e, _⟩ => by rw [e]; rfl) (fun cdv A outer s H E en ss R Z hr ⟨a, b, e, q⟩ hZ => ?_), F.bindsN (fun _ _ _ _ _ _ us hl => match us, hl with | [_, _], _ => rfl), c.g_cost_sum, F.kp⟩
  subst e
  cases a with
  | none => exact jb_one (js_retI (je_ifExp (JW.jt (jw_orI (jt_isN (je_var 0 rfl)) fun _ => jw_or1 (jt_isN (je_var 1 rfl) (told_oD b)))) (fun _ => je_non) (fun z => nomatch (show false = true from z))) q)
  | some i =>
    cases b with
    | none => exact jb_one (js_retI (je_ifExp (JW.jt (jw_orI (jt_isN (je_var 0 rfl)) fun _ => jw_or1 (jt_isN (je_var 1 rfl)))) (fun _ => je_non) (fun z => nomatch (show false = true from z))) q)
    | some j => exact jb_one (js_retI (je_ifExp (JW.jt (jw_orI (jt_isN (je_var 0 rfl)) fun _ => jw_or1 (jt_isN (je_var 1 rfl)))) (fun z => nomatch (show true = false from z)) (fun _ => je_add (je_var 0 rfl) (je_var 1 rfl))) q)

def W_not_above : Wf := fun ss R _ => ∃ a b, ss = [.dat (oD a), .dat (oD b)] ∧ R (.bl (notAb a b))
theorem ok_not_above (c : Fc K mg) : DefJ P w K mg base "not_above" 1 ["one", "other"] W_not_above := by
  obtain ⟨fd, F⟩ := c.f_not_above
  refine ⟨fd, defj _ F sc_not_above (fun ss R Z ⟨a, b, e, _⟩ => by rw [e]; rfl) (fun cdv A outer s H E en ss R Z hr ⟨a, b, e, q⟩ hZ => ?_), F.bindsN (fun _ _ _ _ _ _ us hl => match us, hl with | [_, _], _ => rfl), c.g_not_above, F.kp⟩
  subst e
  cases b with
  | none =>
    have q' : R (.bl (true || false)) := by cases a <;> exact q
    exact jb_one (js_retI (je_orI (je_isN (je_var 1 rfl)) fun z => nomatch (show true = false from z)) q')
  | some j =>
    cases a with
    | none => exact jb_one (js_retI (je_orI (je_isN (je_var 1 rfl)) fun _ => je_one (je_andI (je_notN (je_var 0 rfl)) fun z => nomatch (show false = true from z))) (show R (.bl (false || (false && false))) from q))
    | some i => exact jb_one (js_retI (je_orI (je_isN (je_var 1 rfl)) fun _ => je_one (je_andI (je_notN (je_var 0 rfl)) fun _ => je_one (je_le (je_var 0 rfl) (je_var 1 rfl)))) (show R (.bl (false || (true && decide (i ≤ j)))) from q))

def W_lesser : Wf := fun ss R _ => ∃ a b, ss = [.dat (oD a), .dat (oD b)] ∧ R (oD (lesr a b))
theorem ok_lesser (c : Fc K mg) : DefJ P w K mg base "lesser" 2 ["one", "other"] W_lesser := by
  obtain ⟨fd, F⟩ := c.f_lesser
  refine ⟨fd, defj _ F sc_lesser (fun ss R Z ⟨a, b, e, _⟩ => by rw [e]; rfl) (fun cdv A outer s H E en ss R Z hr ⟨a, b, e, q⟩ hZ => ?_), F.bindsN (fun _ _ _ _ _ _ us hl => match us, hl with | [_, _], _ => rfl), c.g_lesser, F.kp⟩
  subst e
  refine jb_one (js_retI (je_ifExp (jt_v (je_callI (ok_not_above c) (ja_c (je_var 0 rfl) (ja_c (je_var 1 rfl) ja_nil)) ⟨a, b, rfl, Is.self⟩ hr)) (fun z => ?_) (fun z => ?_)) q)
  · have e : lesr a b = a := if_pos (Eq.symm z)
    rw [e]
    exact je_var 0 rfl
  · have e : lesr a b = b := if_neg (by rw [← (show false = notAb a b from z)]; exact Bool.false_ne_true)
    rw [e]
    exact je_var 1 rfl
end
end PW
end
section
set_option maxHeartbeats 4000000
namespace PW
open PySem PySem.Spec PyProof.Rows L2 PJ PF PX

/-! ### rows and grids -/
def rowD (k : Nat) (f : Nat → Option Int) : List Dat := (List.range k).map fun i => oD (f i)
theorem rowD_len (k : Nat) (f : Nat → Option Int) : (rowD k f).length = k := by unfold rowD; rw [List.length_map, List.length_range]
theorem map_range_get {α : Type} {k i : Nat} {f : Nat → α} (h : i < k) : ((List.range k).map f)[i]? = some (f i) := by
  rw [List.getElem?_map, List.getElem?_range h]; rfl
theorem rowD_get {k i : Nat} {f : Nat → Option Int} (h : i < k) : (rowD k f)[i]? = some (oD (f i)) := map_range_get h
theorem rowD_back {k i : Nat} {f : Nat → Option Int} {d : Dat} (h : (rowD k f)[i]? = some d) : i < k ∧ d = oD (f i) := by
  have hi := (List.getElem?_eq_some_iff.mp h).1
  rw [rowD_len] at hi
  rw [rowD_get hi] at h
  exact ⟨hi, (Option.some.inj h).symm⟩
theorem rowD_succ (k : Nat) (f : Nat → Option Int) : rowD (k + 1) f = rowD k f ++ [oD (f k)] := by
  unfold rowD
  rw [List.range_succ, List.map_append]
  rfl
def IsRow (k : Nat) (f : Nat → Option Int) (d : Dat) : Prop := Seqd d (rowD k f)
def IsGrid (k : Nat) (g : Nat → Nat → Option Int) (d : Dat) : Prop := ∃ rows, Seqd d rows ∧ rows.length = k ∧ ∀ x, x < k → ∃ r, rows[x]? = some r ∧ IsRow k (g x) r
theorem isRow_l {k : Nat} {f : Nat → Option Int} : IsRow k f (.lst (rowD k f)) := .inl rfl
theorem isRow_t {k : Nat} {f : Nat → Option Int} : IsRow k f (.tup (rowD k f)) := .inr rfl
theorem IsRow.told {k : Nat} {f : Nat → Option Int} {d : Dat} (h : IsRow k f d) : Told d := by
  rcases h with h | h <;> (rw [h]; trivial)

section
variable {P : Program} {w : World} {K : PySem.W.Frag} {mg : Str → Option Value} {base : Heap}

/-! ### shifted -/
def shAcc (row : Nat → Option Int) (T : Nat → Nat → Option Int) (p : Nat) : Nat → Option Int
  | 0 => none
  | n + 1 => lesr (shAcc row T p n) (cSum (row n) (T n p))
def shiftM (k : Nat) (row : Nat → Option Int) (T : Nat → Nat → Option Int) (p : Nat) : Option Int := shAcc row T p k
def W_shifted : Wf := fun ss R _ => ∃ k row T rd td, ss = [.dat rd, .dat td] ∧ k ≤ 1000 ∧ IsRow k row rd ∧ IsGrid k T td ∧ R (.lst (rowD k (shiftM k row T)))
theorem ok_shifted (c : Fc K mg) : DefJ P w K mg base "shifted" 3 ["row", "table"] W_shifted := by
  obtain ⟨fd, F⟩ := c.f_shifted
  refine ⟨fd, defj _ F sc_shifted (fun ss R Z ⟨k, row, T, rd, td, e, _⟩ => by rw [e]; rfl) (fun cdv A outer s H E en ss R Z hr ⟨k, row, T, rd, td, e, hk, hrow, hgrid, q⟩ hZ => ?_), F.bindsN (fun _ _ _ _ _ _ us hl => match us, hl with | [_, _], _ => rfl), c.g_shifted, F.kp⟩
  subst e
  have nd := sc_shifted.nd
  obtain ⟨rows, hS, hl, hrows⟩ := hgrid
  have hr1 : Room 1 _ := hr.mono (by decide)
  refine jb_own 2 nd (jf_lstI (ds := []) ja_nil (Nat.zero_le _)) ?_
  refine jb_cons (M := fun δ' => ∃ z3 z4 z5 z6, δ' = [some (.dat rd), some (.dat td), some (.own (rowD k (shiftM k row T))), z3, z4, z5, z6])
    (js_forI (fun i δ' => ∃ z3 z4 z5 z6, δ' = [some (.dat rd), some (.dat td), some (.own (rowD i (shiftM k row T))), z3, z4, z5, z6]) (ji_range (je_len hS (je_var 1 rfl) c.b_len) (by omega) c.b_range) (jg_nm 3 nd) ⟨none, none, none, none, rfl⟩ (fun i d δ' hd ⟨z3, z4, z5, z6, e⟩ => ?_) (fun δ' ⟨z3, z4, z5, z6, e⟩ => ?_)) ?_
  · have hi : i < k := by
      have h1 := (List.getElem?_eq_some_iff.mp hd).1
      rw [List.length_map, List.length_range] at h1
      omega
    rw [map_range_get (by omega)] at hd
    have ed : d = .int (i : Int) := (Option.some.inj hd).symm
    subst e ed
    refine ⟨_, rfl, jb_set 4 nd je_non ?_⟩
    refine jb_cons (M := fun δ' => ∃ z5 z6, δ' = [some (.dat rd), some (.dat td), some (.own (rowD i (shiftM k row T))), some (.dat (.int (i : Int))), some (.dat (oD (shAcc row T i k))), z5, z6])
      (js_forI (fun j δ' => ∃ z5 z6, δ' = [some (.dat rd), some (.dat td), some (.own (rowD i (shiftM k row T))), some (.dat (.int (i : Int))), some (.dat (oD (shAcc row T i j))), z5, z6]) (ji_zip hrow hS (je_var 0 rfl) (je_var 1 rfl) c.b_zip) (jg_tp (jgs_cons (jg_nm 5 nd) (jgs_cons (jg_nm 6 nd) jgs_nil)))
        ⟨z5, z6, rfl⟩ (fun j d δ' hd ⟨z5, z6, e⟩ => ?_) (fun δ' ⟨z5, z6, e⟩ => ?_)) ?_
    · obtain ⟨x, y, hx, hy, ed⟩ := zipD_get hd
      obtain ⟨hj, ex⟩ := rowD_back hx
      obtain ⟨r, hr2, hrr⟩ := hrows j hj
      rw [hy] at hr2
      have er : y = r := Option.some.inj hr2
      subst e ed ex er
      refine ⟨_, rfl, jb_one (js_set 4 nd (je_callI (ok_lesser c) (ja_c (je_var 4 rfl) (ja_c (je_callI (ok_cost_sum c) (ja_c (je_var 5 rfl) (ja_c (je_ixS hrr (je_var 6 rfl) (je_var 3 rfl) (rowD_get hi)) ja_nil)) ⟨_, _, rfl, Is.self⟩ hr1) ja_nil)) ⟨_, _, rfl, Is.self⟩ hr) fun d2 e2 => ?_)⟩
      rw [show d2 = _ from e2]
      exact ⟨_, _, rfl⟩
    · rw [zipD_len, rowD_len, hl, Nat.min_self] at e
      exact ⟨z5, z6, e⟩
    · rintro δ' ⟨z5, z6, e⟩
      subst e
      refine jb_one (js_app 2 rfl (je_var 4 rfl) (by rw [rowD_len, sizeLine_eq]; omega) fun d2 e2 => ?_)
      rw [show d2 = _ from e2, show oD (shAcc row T i k) = oD (shiftM k row T i) from rfl, ← rowD_succ]
      exact ⟨_, _, _, _, rfl⟩
  · rw [List.length_map, List.length_range, hl] at e
    exact ⟨z3, z4, z5, z6, e⟩
  · rintro δ' ⟨z3, z4, z5, z6, e⟩
    subst e
    exact jb_freeze 2 rfl (jb_one (js_retI (je_var 2 rfl) q))
end
end PW
end
section
set_option maxHeartbeats 4000000
namespace PW
open PySem PySem.Spec PyProof.Rows L2 PJ PF PX

def gridL (k : Nat) (g : Nat → Nat → Option Int) : List Dat := (List.range k).map fun x => .lst (rowD k (g x))
theorem isGrid_l {k : Nat} {g : Nat → Nat → Option Int} : IsGrid k g (.lst (gridL k g)) := ⟨_, .inl rfl, by unfold gridL; rw [List.length_map, List.length_range], fun x hx => ⟨_, map_range_get hx, isRow_l⟩⟩
def beginF (p q : Nat) (x g : Nat) : Option Int := if x = p ∧ g = q then some 0 else none
section
variable {P : Program} {w : World} {K : PySem.W.Frag} {mg : Str → Option Value} {base : Heap}
def W_begin_on : Wf := fun ss R _ => ∃ k p g : Nat, ss = [.dat (.int (k : Int)), .dat (.int (p : Int)), .dat (.int (g : Int))] ∧ k ≤ 1000 ∧ R (.lst (gridL k (beginF p g)))
theorem ok_begin_on (c : Fc K mg) : DefJ P w K mg base "begin_on" 1 ["pegs", "peg", "guard"] W_begin_on := by
  obtain ⟨fd, F⟩ := c.f_begin_on
  refine ⟨fd, defj _ F sc_begin_on (fun ss R Z ⟨k, p, g, e, _⟩ => by rw [e]; rfl) (fun cdv A outer s H E en ss R Z hr ⟨k, p, g, e, hk, q⟩ hZ => ?_), F.bindsN (fun _ _ _ _ _ _ us hl => match us, hl with | [_, _, _], _ => rfl), c.g_begin_on, F.kp⟩
  subst e
  have nd := sc_begin_on.nd
  refine jb_one (js_retI (((lc_rng 3 (fun x => .lst (rowD k (beginF p g x))) (je_var 0 rfl) hk c.b_range (blkOk_by (by kernel_rfl)) (fun s H C cl fp => jg_nm 3 nd) (fun x hx s H C cl fp => ?_)).jf nd).je1) q)
  refine ((lc_rng 4 (fun y => oD (beginF p g x y)) (je_var 0 rfl) hk c.b_range (blkOk_by (by kernel_rfl)) (fun s H C cl fp => jg_nm 4 nd) (fun y hy s H C cl fp => ?_)).jf nd).je1
  have ee : PyData.eqv (pyD (.tup [.int (x : Int), .int (y : Int)])) (pyD (.tup [.int (p : Int), .int (g : Int)])) = decide (x = p ∧ y = g) := by
    refine (eqv_tints [(x : Int), (y : Int)] [(p : Int), (g : Int)]).trans ?_
    by_cases h1 : x = p
    · by_cases h2 : y = g
      · simp [h1, h2]
      · simp [h1, h2, Int.ofNat_inj]
    · simp [h1, Int.ofNat_inj]
  refine je_ifExp (jt_eqD hr.units (je_tupI (ds := [.int (x : Int), .int (y : Int)]) (ja_c (je_var 3 rfl) (ja_c (je_var 4 rfl) ja_nil)) (szl rfl)) (je_tupI (ds := [.int (p : Int), .int (g : Int)]) (ja_c (je_var 1 rfl) (ja_c (je_var 2 rfl) ja_nil)) (szl rfl)) (ok_tup_ints [(x : Int), (y : Int)]) (ok_tup_ints [(p : Int), (g : Int)])) (fun z => ?_) (fun z => ?_)
  · have z' := (show true = _ from z).trans ee
    have z2 := of_decide_eq_true z'.symm
    rw [show beginF p g x y = some 0 from if_pos z2]
    exact je_int
  · have z' := (show false = _ from z).trans ee
    have z2 := of_decide_eq_false z'.symm
    rw [show beginF p g x y = none from if_neg z2]
    exact je_non

/-! ### walk_costs -/
/-- an arrow: start, stop, guard, cost -/
structure Arr where
  s : Nat
  t : Nat
  g : Nat
  c : Int
def arrD (a : Arr) : Dat := .tup [.int (a.s : Int), .int (a.t : Int), .tup [.int (a.g : Int)], .int a.c]
structure Arr.In (k : Nat) (a : Arr) : Prop where
  s : a.s < k
  t : a.t < k
  g : a.g < k
abbrev Gr := Nat → Nat → Option Int
def nearM (B : Gr) (a : Arr) : Option Int := cSum (B a.s a.g) (some a.c)
def relax (T : Gr) (a : Arr) (B : Gr) : Gr := if notAb (B a.t a.g) (nearM B a) then B else fun x p => if x = a.t then lesr (cSum (nearM B a) (T a.g p)) (B a.t p) else B x p
def stepM (T : Gr) (p : Gr × Bool) (a : Arr) : Gr × Bool := (relax T a p.1, p.2 || !notAb (p.1 a.t a.g) (nearM p.1 a))
def passM (T : Gr) (as : List Arr) (B : Gr) : Gr × Bool := as.foldl (stepM T) (B, false)
def itM (T : Gr) (as : List Arr) (B : Gr) : Nat → Gr
  | 0 => B
  | n + 1 => (passM T as (itM T as B n)).1
def shG (k : Nat) (T S : Gr) : Gr := fun x => shiftM k (S x) T
def walkM (k : Nat) (as : List Arr) (T S : Gr) : Gr := itM T as (shG k T S) k
theorem fold_same (T : Gr) : ∀ (as : List Arr) (B : Gr) (b : Bool), (as.foldl (stepM T) (B, b)).2 = false → (as.foldl (stepM T) (B, b)).1 = B ∧ b = false ∧ ∀ a ∈ as, notAb (B a.t a.g) (nearM B a) = true
  | [], B, b, h => ⟨rfl, h, fun a ha => nomatch ha⟩
  | a :: as, B, b, h => by
    rw [List.foldl_cons] at h ⊢
    have q := fold_same T as (stepM T (B, b) a).1 (stepM T (B, b) a).2 h
    obtain ⟨q1, q2, q3⟩ := q
    have q2' : (b || !notAb (B a.t a.g) (nearM B a)) = false := q2
    rw [Bool.or_eq_false_iff] at q2'
    obtain ⟨r1, r2⟩ := q2'
    have r3 : notAb (B a.t a.g) (nearM B a) = true := by
      cases e : notAb (B a.t a.g) (nearM B a) with
      | true => rfl
      | false => rw [e] at r2; cases r2
    have e1 : (stepM T (B, b) a).1 = B := if_pos r3
    rw [e1] at q1 q3
    have e2 : stepM T (B, b) a = (B, (stepM T (B, b) a).2) := Prod.ext e1 rfl
    refine ⟨by rw [e2]; exact q1, r1, fun x hx => ?_⟩
    rcases List.mem_cons.mp hx with e | e
    · rw [e]
      exact r3
    · exact q3 x e
theorem itM_stop {T : Gr} {as : List Arr} {B : Gr} {i : Nat} (h : (passM T as (itM T as B i)).2 = false) : ∀ n, itM T as B (i + n) = itM T as B i
  | 0 => rfl
  | n + 1 => by
    show (passM T as (itM T as B (i + n))).1 = _
    rw [itM_stop h n]
    exact (fold_same T as _ _ h).1
theorem gridL_get {k i : Nat} {g : Gr} (h : i < k) : (gridL k g)[i]? = some (.lst (rowD k (g i))) := map_range_get h
theorem gridL_len (k : Nat) (g : Gr) : (gridL k g).length = k := by unfold gridL; rw [List.length_map, List.length_range]
theorem gridL_set {k i : Nat} {g : Gr} {f : Nat → Option Int} (h : i < k) : (gridL k g).set i (.lst (rowD k f)) = gridL k (fun x p => if x = i then f p else g x p) := by
  refine List.ext_getElem? fun j => ?_
  by_cases hj : j < k
  · rw [gridL_get hj]
    by_cases e : i = j
    · subst e
      rw [List.getElem?_set_self (by rw [gridL_len]; exact h)]
      simp
    · rw [List.getElem?_set_ne e, gridL_get hj]
      have e' : ¬ j = i := fun z => e z.symm
      simp [e']
  · rw [List.getElem?_eq_none (by rw [List.length_set, gridL_len]; omega), List.getElem?_eq_none (by rw [gridL_len]; omega)]
def gridT (k : Nat) (g : Gr) : List Dat := (List.range k).map fun x => .tup (rowD k (g x))
theorem gridT_get {k i : Nat} {g : Gr} (h : i < k) : (gridT k g)[i]? = some (.tup (rowD k (g i))) := map_range_get h
theorem gridT_len (k : Nat) (g : Gr) : (gridT k g).length = k := by unfold gridT; rw [List.length_map, List.length_range]
theorem isGrid_t {k : Nat} {g : Gr} : IsGrid k g (.tup (gridT k g)) := ⟨_, .inr rfl, gridT_len k g, fun x hx => ⟨_, gridT_get hx, isRow_t⟩⟩
theorem arr_get {as : List Arr} {i : Nat} {d : Dat} (h : (as.map arrD)[i]? = some d) : ∃ a, as[i]? = some a ∧ d = arrD a := by
  rw [List.getElem?_map] at h
  cases e : as[i]? with
  | none => rw [e] at h; cases h
  | some a => rw [e] at h; exact ⟨a, rfl, (Option.some.inj h).symm⟩
theorem fold_take {β : Type} (f : β → Arr → β) (b : β) {as : List Arr} {i : Nat} {a : Arr} (h : as[i]? = some a) : (as.take (i + 1)).foldl f b = f ((as.take i).foldl f b) a := by
  rw [List.take_add_one, h, List.foldl_append]
  rfl
def W_walk_costs : Wf := fun ss R _ => ∃ k as T S ad td sd, ss = [.dat ad, .dat td, .dat sd] ∧ k ≤ 1000 ∧ Seqd ad (as.map arrD) ∧ (∀ a ∈ as, a.In k) ∧ IsGrid k T td ∧ IsGrid k S sd ∧ R (.tup (gridT k (walkM k as T S)))
theorem ok_walk_costs (c : Fc K mg) : DefJ P w K mg base "walk_costs" 4 ["arrows", "table", "start"] W_walk_costs := by
  obtain ⟨fd, F⟩ := c.f_walk_costs
  refine ⟨fd, defj _ F sc_walk_costs (fun ss R Z ⟨k, as, T, S, ad, td, sd, e, _⟩ => by rw [e]; rfl) (fun cdv A outer s H E en ss R Z hr ⟨k, as, T, S, ad, td, sd, e, hk, hA, hin, hT, hS, q⟩ hZ => ?_), F.bindsN (fun _ _ _ _ _ _ us hl => match us, hl with | [_, _, _], _ => rfl), c.g_walk_costs, F.kp⟩
  subst e
  have nd := sc_walk_costs.nd
  have hr3 : Room 3 _ := hr
  have hr1 : Room 1 _ := hr.mono (by decide)
  have hr2 : Room 2 _ := hr.mono (by decide)
  obtain ⟨srows, hSS, hSl, hSr⟩ := hS
  have hT0 := hT
  obtain ⟨trows, hTT, hTl, hTr⟩ := hT
  refine jb_ownLc 3 nd (lc_sq 4 (fun j => .lst (rowD k (shG k T S j))) hSS (je_var 2 rfl) (by omega) (blkOk_by (by kernel_rfl)) (fun s H C cl fp => jg_nm 4 nd) (fun j d hd s H C cl fp => ?_)) ?_
  · have hj : j < k := by rw [← hSl]; exact (List.getElem?_eq_some_iff.mp hd).1
    obtain ⟨r, hr', hrr⟩ := hSr j hj
    rw [hd] at hr'
    have er : d = r := Option.some.inj hr'
    subst er
    exact je_callI (ok_shifted c) (ja_c (je_var 4 rfl) (ja_c (je_var 1 rfl) ja_nil)) ⟨k, S j, T, d, td, rfl, hk, hrr, hT0, Is.self⟩ hr3
  rw [hSl]
  refine jb_cons (M := fun δ' => ∃ z4 z5 z6 z7 z8 z9 z10 z11 z12 z13 z14, δ' = [some (.dat ad), some (.dat td), some (.dat sd), some (.own (gridL k (walkM k as T S))), z4, z5, z6, z7, z8, z9, z10, z11, z12, z13, z14])
    (js_forI (fun i δ' => ∃ z4 z5 z6 z7 z8 z9 z10 z11 z12 z13 z14, δ' = [some (.dat ad), some (.dat td), some (.dat sd), some (.own (gridL k (itM T as (shG k T S) i))), z4, z5, z6, z7, z8, z9, z10, z11, z12, z13, z14])
      (ji_range (je_len hTT (je_var 1 rfl) c.b_len) (by omega) c.b_range) (jg_nm 5 nd) ⟨none, none, none, none, none, none, none, none, none, none, none, rfl⟩ (fun i d δ' hd ⟨z4, z5, z6, z7, z8, z9, z10, z11, z12, z13, z14, e⟩ => ?_) (fun δ' ⟨z4, z5, z6, z7, z8, z9, z10, z11, z12, z13, z14, e⟩ => ?_)) ?_
  · obtain ⟨hi, ed⟩ := intsD_back hd
    rw [hTl] at hi
    subst e ed
    refine ⟨_, rfl, jb_set 6 nd je_bl ?_⟩
    refine jb_cons (M := fun δ' => ∃ z4 z5 z7 z8 z9 z10 z11 z12 z13 z14, δ' = [some (.dat ad), some (.dat td), some (.dat sd), some (.own (gridL k (itM T as (shG k T S) (i + 1)))), z4, z5, some (.dat (.bl (passM T as (itM T as (shG k T S) i)).2)), z7, z8, z9, z10, z11, z12, z13, z14])
      (js_forI (fun j δ' => ∃ z4 z5 z7 z8 z9 z10 z11 z12 z13 z14, δ' = [some (.dat ad), some (.dat td), some (.dat sd), some (.own (gridL k (passM T (as.take j) (itM T as (shG k T S) i)).1)), z4, z5, some (.dat (.bl (passM T (as.take j) (itM T as (shG k T S) i)).2)), z7, z8, z9, z10, z11, z12, z13, z14])
        (ji_seq hA (je_var 0 rfl)) (jg_tp (jgs_cons (jg_nm 7 nd) (jgs_cons (jg_nm 8 nd) (jgs_cons (jg_nm 9 nd) (jgs_cons (jg_nm 10 nd) jgs_nil))))) ⟨z4, _, z7, z8, z9, z10, z11, z12, z13, z14, rfl⟩ (fun j d δ' hd ⟨z4, z5, z7, z8, z9, z10, z11, z12, z13, z14, e⟩ => ?_) (fun δ' ⟨z4, z5, z7, z8, z9, z10, z11, z12, z13, z14, e⟩ => ?_)) ?_
    · obtain ⟨a, ha, ed⟩ := arr_get hd
      obtain ⟨h1, h2, h3⟩ := hin a (List.mem_of_getElem? ha)
      subst e ed
      generalize eB : (passM T (as.take j) (itM T as (shG k T S) i)) = B
      have eB2 : passM T (as.take (j + 1)) (itM T as (shG k T S) i) = stepM T B a := by
        rw [← eB]
        exact fold_take _ _ ha
      rw [eB2]
      obtain ⟨B, ch⟩ := B
      refine ⟨_, rfl, ?_⟩
      refine jb_set 11 nd (je_callI (ok_cost_sum c) (ja_c (je_ixL (je_ixO 3 rfl (je_var 7 rfl) (gridL_get h1)) (je_ixT (je_var 9 rfl) je_int (j := 0) rfl) (rowD_get h3)) (ja_c (je_var 10 rfl) ja_nil)) ⟨_, some a.c, rfl, Is.self⟩ hr1) ?_
      refine jb_one (js_if (jt_not (jt_v (je_callI (ok_not_above c) (ja_c (je_ixL (je_ixO 3 rfl (je_var 8 rfl) (gridL_get h2)) (je_ixT (je_var 9 rfl) je_int (j := 0) rfl) (rowD_get h3)) (ja_c (je_var 11 rfl) ja_nil)) ⟨_, _, rfl, Is.self⟩ hr1))) (fun z => ?_) (fun z => ?_))
      · have z' : notAb (B a.t a.g) (nearM B a) = false := by
          have z2 : true = !notAb (B a.t a.g) (nearM B a) := z
          cases e : notAb (B a.t a.g) (nearM B a) with
          | true => rw [e] at z2; cases z2
          | false => rfl
        obtain ⟨gr, hgr, hgrr⟩ := hTr a.g h3
        refine jb_ownLc 4 nd (lc_sq 12 (fun p => oD (cSum (nearM B a) (T a.g p))) hgrr (je_ixS hTT (je_var 1 rfl) (je_ixT (je_var 9 rfl) je_int (j := 0) rfl) hgr) (by rw [rowD_len]; omega) (blkOk_by (by kernel_rfl)) (fun s H C cl fp => jg_nm 12 nd) (fun p d hd s H C cl fp => ?_)) ?_
        · obtain ⟨hp, ed⟩ := rowD_back hd
          subst ed
          exact je_callI (ok_cost_sum c) (ja_c (je_var 11 rfl) (ja_c (je_var 12 rfl) ja_nil)) ⟨nearM B a, T a.g p, rfl, Is.self⟩ hr1
        rw [rowD_len]
        refine jb_freeze 4 rfl ?_
        refine jb_cons (M := fun δ' => ∃ z4 z5 z7 z8 z9 z10 z11 z12 z13 z14, δ' = [some (.dat ad), some (.dat td), some (.dat sd), some (.own (gridL k (relax T a B))), z4, z5, some (.dat (.bl ch)), z7, z8, z9, z10, z11, z12, z13, z14])
          (js_put 3 (j := a.t) rfl ((lc_zip 13 14 (n := k) (fun p => oD (lesr (cSum (nearM B a) (T a.g p)) (B a.t p))) (.inl rfl) (.inl rfl) (je_var 4 rfl) (je_ixO 3 rfl (je_var 8 rfl) (gridL_get h2)) (by rw [rowD_len, List.length_map, List.length_range, Nat.min_self]) (by omega) c.b_zip (blkOk_by (by kernel_rfl)) (fun s H C cl fp => jg_tp (jgs_cons (jg_nm 13 nd) (jgs_cons (jg_nm 14 nd) jgs_nil))) (fun p d d2 hd hd2 s H C cl fp => ?_)).jf nd).je1 (je_var 8 rfl) (by rw [gridL_len]; exact h2) (fun d ed => ?_)) ?_
        · have hd' : (rowD k (fun p => cSum (nearM B a) (T a.g p)))[p]? = some d := hd
          obtain ⟨hp, ed⟩ := rowD_back hd'
          obtain ⟨_, ed2⟩ := rowD_back hd2
          subst ed ed2
          exact je_callI (ok_lesser c) (ja_c (je_var 13 rfl) (ja_c (je_var 14 rfl) ja_nil)) ⟨_, _, rfl, Is.self⟩ hr2
        · rw [show d = Dat.lst (rowD k fun p => lesr (cSum (nearM B a) (T a.g p)) (B a.t p)) from ed]
          have eG : (gridL k (B, ch).1).set a.t (.lst (rowD k fun p => lesr (cSum (nearM B a) (T a.g p)) (B a.t p))) = gridL k (relax T a B) := by
            rw [gridL_set h2, show relax T a B = fun x p => if x = a.t then lesr (cSum (nearM B a) (T a.g p)) (B a.t p) else B x p from if_neg (by rw [z']; exact Bool.false_ne_true)]
          rw [eG]
          exact ⟨_, _, _, _, _, _, _, _, _, _, rfl⟩
        · rintro δ' ⟨z4, z5, z7, z8, z9, z10, z11, z12, z13, z14, e⟩
          subst e
          refine jb_one (js_set 6 nd je_bl fun d ed => ?_)
          rw [show d = .bl true from ed]
          rw [show (stepM T (B, ch) a).2 = true from by show (ch || !notAb (B a.t a.g) (nearM B a)) = true; rw [z']; simp]
          exact ⟨_, _, _, _, _, _, _, _, _, _, rfl⟩
      · have z' : notAb (B a.t a.g) (nearM B a) = true := by
          have z2 : false = !notAb (B a.t a.g) (nearM B a) := z
          cases e : notAb (B a.t a.g) (nearM B a) with
          | true => rfl
          | false => rw [e] at z2; cases z2
        rw [show (stepM T (B, ch) a).2 = ch from by show (ch || !notAb (B a.t a.g) (nearM B a)) = ch; rw [z']; simp, show (stepM T (B, ch) a).1 = B from if_pos z']
        exact jb_nil ⟨_, _, _, _, _, _, _, _, _, _, rfl⟩
    · rw [List.length_map, List.take_length] at e
      exact ⟨z4, z5, z7, z8, z9, z10, z11, z12, z13, z14, e⟩
    · rintro δ' ⟨z4, z5, z7, z8, z9, z10, z11, z12, z13, z14, e⟩
      subst e
      refine jb_one (js_if (jt_not (jt_v (je_var 6 rfl))) (fun z => ?_) (fun z => ?_))
      · have z' : (passM T as (itM T as (shG k T S) i)).2 = false := by
          have z2 : true = !(passM T as (itM T as (shG k T S) i)).2 := z
          cases e : (passM T as (itM T as (shG k T S) i)).2 with
          | true => rw [e] at z2; cases z2
          | false => rfl
        refine jb_one (js_break ?_)
        have e1 : itM T as (shG k T S) (i + 1) = walkM k as T S := by
          have q1 := itM_stop z' 1
          have q2 := itM_stop z' (k - i)
          rw [show i + (k - i) = k by omega] at q2
          rw [q1, ← q2]
          rfl
        rw [e1]
        exact ⟨_, _, _, _, _, _, _, _, _, _, _, rfl⟩
      · exact jb_nil ⟨_, _, _, _, _, _, _, _, _, _, _, rfl⟩
  · rw [intsD_len, hTl] at e
    exact ⟨z4, z5, z6, z7, z8, z9, z10, z11, z12, z13, z14, e⟩
  · rintro δ' ⟨z4, z5, z6, z7, z8, z9, z10, z11, z12, z13, z14, e⟩
    subst e
    refine jb_freeze 3 rfl (jb_one (js_retI (je_tuple (.inl rfl) ((lc_sq 4 (fun x => .tup (rowD k (walkM k as T S x))) (.inl rfl) (je_var 3 rfl) (by rw [gridL_len]; omega) (blkOk_by (by kernel_rfl)) (fun s H C cl fp => jg_nm 4 nd) (fun x d hd s H C cl fp => ?_)).jf nd).je1 c.b_tuple) ?_))
    · have hx : x < k := by
        have h1 := (List.getElem?_eq_some_iff.mp hd).1
        rw [gridL_len] at h1
        exact h1
      rw [gridL_get hx] at hd
      have ed : d = _ := (Option.some.inj hd).symm
      subst ed
      exact je_tuple (.inl rfl) (je_var 4 rfl) c.b_tuple
    · rw [gridL_len]
      exact q
end
end PW
end
section
set_option maxHeartbeats 4000000
namespace PW
open PySem PySem.Spec PyProof.Rows L2 PJ PF PX

theorem nottrue {b : Bool} (h : true = !b) : b = false := by cases b <;> first | rfl | cases h
theorem notfalse {b : Bool} (h : false = !b) : b = true := by cases b <;> first | rfl | cases h
theorem map_snoc {α : Type} (f : Nat → α) (i : Nat) : (List.range i).map f ++ [f i] = (List.range (i + 1)).map f := by
  rw [List.range_succ, List.map_append]
  rfl
/-! ### what a grid is, for any data -/
def entB : Dat → Bool
  | .non => true
  | .int i => decide ((if i < 0 then -i else i) < 10 ^ 100)
  | _ => false
def seqs : Dat → List Dat
  | .lst ds => ds
  | .tup ds => ds
  | _ => []
theorem seqs_of {d : Dat} (h : isSeq d = true) : Seqd d (seqs d) := by
  cases d with
  | lst x => exact .inl rfl
  | tup x => exact .inr rfl
  | _ => cases h
theorem seqd_seqs {d : Dat} {ds : List Dat} (h : Seqd d ds) : isSeq d = true ∧ seqs d = ds := by
  rcases h with h | h <;> (rw [h]; exact ⟨rfl, rfl⟩)
def rowB (k : Nat) (d : Dat) : Bool := isSeq d && (decide ((seqs d).length = k) && (seqs d).all entB)
def gridB (k : Nat) (d : Dat) : Bool := isSeq d && (decide ((seqs d).length = k) && (seqs d).all (rowB k))
def gridOf (k : Nat) (d : Dat) : Dat := if gridB k d then .tup ((seqs d).map fun r => .tup (seqs r)) else .non
def partB (k : Nat) (d : Dat) : Bool := isSeq d && (decide ((seqs d).length = k) && (seqs d).all (gridB k))
def partOf (k : Nat) (d : Dat) : Dat := if partB k d then .tup ((seqs d).map (gridOf k)) else .non
/-- told kinds, n deep -/
def tyOk : Nat → Dat → Bool
  | 0, d => (tyN d).isSome
  | n + 1, d => (tyN d).isSome && (seqs d).all (tyOk n)
theorem tyOk_ty {n : Nat} {d : Dat} (h : tyOk n d = true) : (tyN d).isSome = true := by
  cases n with
  | zero => exact h
  | succ n => exact (Bool.and_eq_true_iff.mp h).1
theorem tyOk_in {n : Nat} {d x : Dat} {i : Nat} (h : tyOk (n + 1) d = true) (hx : (seqs d)[i]? = some x) : tyOk n x = true :=
  List.all_eq_true.mp (Bool.and_eq_true_iff.mp h).2 x (List.mem_of_getElem? hx)

section
variable {P : Program} {w : World} {K : PySem.W.Frag} {mg : Str → Option Value} {base : Heap}
/-! ### table_over -/
def tabM (k : Nat) (as : List Arr) (T : Gr) : Gr := fun p q => walkM k as T (beginF p p) q q
def W_table_over : Wf := fun ss R _ => ∃ k as T ad td, ss = [.dat ad, .dat td] ∧ k ≤ 1000 ∧ Seqd ad (as.map arrD) ∧ (∀ a ∈ as, a.In k) ∧ IsGrid k T td ∧ R (.tup (gridT k (tabM k as T)))
theorem ok_table_over (c : Fc K mg) : DefJ P w K mg base "table_over" 5 ["arrows", "table"] W_table_over := by
  obtain ⟨fd, F⟩ := c.f_table_over
  refine ⟨fd, defj _ F sc_table_over (fun ss R Z ⟨k, as, T, ad, td, e, _⟩ => by rw [e]; rfl) (fun cdv A outer s H E en ss R Z hr ⟨k, as, T, ad, td, e, hk, hA, hin, hT, q⟩ hZ => ?_), F.bindsN (fun _ _ _ _ _ _ us hl => match us, hl with | [_, _], _ => rfl), c.g_table_over, F.kp⟩
  subst e
  have nd := sc_table_over.nd
  have hr4 : Room 4 _ := hr.mono (by decide)
  have hr1 : Room 1 _ := hr.mono (by decide)
  have hT0 := hT
  obtain ⟨trows, hTT, hTl, hTr⟩ := hT
  refine jb_own 2 nd (jf_lstI (ds := []) ja_nil (Nat.zero_le _)) ?_
  refine jb_cons (M := fun δ' => ∃ z3 z4 z5 z6, δ' = [some (.dat ad), some (.dat td), some (.own (gridT k (tabM k as T))), z3, z4, z5, z6])
    (js_forI (fun i δ' => ∃ z3 z4 z5 z6, δ' = [some (.dat ad), some (.dat td), some (.own ((List.range i).map fun p => .tup (rowD k (tabM k as T p)))), z3, z4, z5, z6]) (ji_range (je_len hTT (je_var 1 rfl) c.b_len) (by omega) c.b_range) (jg_nm 3 nd) ⟨none, none, none, none, rfl⟩ (fun i d δ' hd ⟨z3, z4, z5, z6, e⟩ => ?_) (fun δ' ⟨z3, z4, z5, z6, e⟩ => ?_)) ?_
  · obtain ⟨hi, ed⟩ := intsD_back hd
    rw [hTl] at hi
    subst e ed
    refine ⟨_, rfl, jb_set 4 nd (je_callI (ok_walk_costs c) (ja_c (je_var 0 rfl) (ja_c (je_var 1 rfl) (ja_c (je_callI (ok_begin_on c) (ja_c (je_len hTT (je_var 1 rfl) c.b_len) (ja_c (je_var 3 rfl) (ja_c (je_var 3 rfl) ja_nil))) ⟨trows.length, i, i, rfl, by omega, Is.self⟩ hr1) ja_nil))) ⟨k, as, T, beginF i i, ad, td, _, rfl, hk, hA, hin, hT0, by rw [hTl]; exact isGrid_l, Is.self⟩ hr4) ?_⟩
    refine jb_one (js_app 2 rfl (je_tuple (.inl rfl) ((lc_enum 5 6 (fun y => oD (tabM k as T i y)) (.inr rfl) (je_var 4 rfl) (by rw [gridT_len]; omega) c.b_enumerate (blkOk_by (by kernel_rfl)) (fun s H C cl fp => jg_tp (jgs_cons (jg_nm 5 nd) (jgs_cons (jg_nm 6 nd) jgs_nil))) (fun y d hd s H C cl fp => ?_)).jf nd).je1 c.b_tuple) (by rw [List.length_map, List.length_range, sizeLine_eq]; omega) fun d2 e2 => ?_)
    · have hy : y < k := by
        have h1 := (List.getElem?_eq_some_iff.mp hd).1
        rw [gridT_len] at h1
        exact h1
      rw [gridT_get hy] at hd
      have ed : d = _ := (Option.some.inj hd).symm
      subst ed
      exact je_ixT (je_var 6 rfl) (je_var 5 rfl) (rowD_get hy)
    · rw [gridT_len] at e2
      rw [show d2 = .tup (rowD k (tabM k as T i)) from e2]
      have e3 : (List.range i).map (fun p => Dat.tup (rowD k (tabM k as T p))) ++ [.tup (rowD k (tabM k as T i))] = (List.range (i + 1)).map fun p => Dat.tup (rowD k (tabM k as T p)) := map_snoc _ i
      rw [e3]
      exact ⟨_, _, _, _, rfl⟩
  · rw [intsD_len, hTl] at e
    exact ⟨z3, z4, z5, z6, e⟩
  · rintro δ' ⟨z3, z4, z5, z6, e⟩
    subst e
    exact jb_freeze 2 rfl (jb_one (js_retI (je_tuple (.inl rfl) (je_var 2 rfl) c.b_tuple) q))
/-! ### marks -/
def belowB (d : Dat) (k : Nat) : Bool := match d with
  | .int i => decide (0 ≤ i) && decide (i < (k : Int))
  | _ => false
def W_is_below : Wf := fun ss R _ => ∃ d k, ss = [.dat d, .dat (.int ((k : Nat) : Int))] ∧ (tyN d).isSome = true ∧ R (.bl (belowB d k))
theorem ok_is_below (c : Fc K mg) : DefJ P w K mg base "is_below" 2 ["thing", "limit"] W_is_below := by
  obtain ⟨fd, F⟩ := c.f_is_below
  refine ⟨fd, defj _ F sc_is_below (fun ss R Z ⟨d, k, e, _⟩ => by rw [e]; rfl) (fun cdv A outer s H E en ss R Z hr ⟨d, k, e, ht, q⟩ hZ => ?_), F.bindsN (fun _ _ _ _ _ _ us hl => match us, hl with | [_, _], _ => rfl), c.g_is_below, F.kp⟩
  subst e
  have nd := sc_is_below.nd
  have hr1 : Room 1 _ := hr
  have q' : R (.bl (isIntD d && belowB d k)) := by
    rw [show (isIntD d && belowB d k) = belowB d k from by cases d <;> rfl]
    exact q
  refine jb_one (js_retI (je_andI (je_callI (ok_is_integer c) (ja_c (je_var 0 rfl) ja_nil) ⟨d, rfl, ht, Is.self⟩ hr1) fun z => ?_) q')
  cases d with
  | int i =>
    exact je_one (je_chain op_le op_lt je_int (je_var 0 rfl) (je_var 1 rfl) r2_leI r2_ltI)
  | _ => cases z
def W_check_pegs : Wf := fun ss R _ => ∃ k : Nat, ss = [.dat (.int (k : Int))] ∧ 3 ≤ k ∧ k ≤ 5 ∧ R (.int (k : Int))
theorem ok_check_pegs (c : Fc K mg) : DefJ P w K mg base "check_pegs" 2 ["pegs"] W_check_pegs := by
  obtain ⟨fd, F⟩ := c.f_check_pegs
  refine ⟨fd, defj _ F sc_check_pegs (fun ss R Z ⟨k, e, _⟩ => by rw [e]; rfl) (fun cdv A outer s H E en ss R Z hr ⟨k, e, h3, h5, q⟩ hZ => ?_), F.bindsN (fun _ _ _ _ _ _ us hl => match us, hl with | [_], _ => rfl), c.g_check_pegs, F.kp⟩
  subst e
  have nd := sc_check_pegs.nd
  have hr1 : Room 1 _ := hr
  refine jb_ifX (Rt := Is false) ((JW.jt (jw_orI (x := false) (y := false) (jt_not (k := true) (jt_v (je_callI (ok_is_integer c) (ja_c (je_var 0 rfl) ja_nil) ⟨.int (k : Int), rfl, rfl, Is.self⟩ hr1))) fun _ => jw_or1 ((jt_not (jt_chain op_le op_le je_int (je_var 0 rfl) je_int r2_leI r2_leI)).is ?_)))) (fun z => nomatch (show true = false from z)) fun _ => jb_one (js_retI (je_var 0 rfl) q)
  rw [decide_eq_true (show (3 : Int) ≤ (k : Int) by omega), decide_eq_true (show (k : Int) ≤ 5 by omega)]
  rfl
def W_is_entry : Wf := fun ss R _ => ∃ d, ss = [.dat d] ∧ (tyN d).isSome = true ∧ R (.bl (entB d))
theorem ok_is_entry (c : Fc K mg) : DefJ P w K mg base "is_entry" 2 ["thing"] W_is_entry := by
  obtain ⟨fd, F⟩ := c.f_is_entry
  refine ⟨fd, defj _ F sc_is_entry (fun ss R Z ⟨d, e, _⟩ => by rw [e]; rfl) (fun cdv A outer s H E en ss R Z hr ⟨d, e, ht, q⟩ hZ => ?_), F.bindsN (fun _ _ _ _ _ _ us hl => match us, hl with | [_], _ => rfl), c.g_is_entry, F.kp⟩
  subst e
  have nd := sc_is_entry.nd
  have hr1 : Room 1 _ := hr
  have told : Told d := by cases d <;> first | trivial | cases ht
  have q' : R (.bl (isNon d || (isIntD d && entB d))) := by
    rw [show (isNon d || (isIntD d && entB d)) = entB d from by cases d <;> rfl]
    exact q
  refine jb_one (js_retI (je_orI (je_isN (je_var 0 rfl) told) fun z => je_one (je_andI (je_callI (ok_is_integer c) (ja_c (je_var 0 rfl) ja_nil) ⟨d, rfl, ht, Is.self⟩ hr1) fun z2 => je_one ?_)) q')
  cases d with
  | int i => exact je_lt (je_abs (je_var 0 rfl) c.b_abs) (je_glob rfl c.i_MOST_ENTRY)
  | _ => cases z2
end
end PW
end
section
set_option maxHeartbeats 4000000
namespace PW
open PySem PySem.Spec PyProof.Rows L2 PJ PF PX

theorem all_of_get {α : Type} {p : α → Bool} : ∀ {l : List α}, (∀ (j : Nat) x, l[j]? = some x → p x = true) → l.all p = true
  | [], _ => rfl
  | a :: l, h => by
    rw [List.all_cons, h 0 a rfl, all_of_get (l := l) fun j x hx => h (j + 1) x hx]
    rfl
theorem not_all {α : Type} {p : α → Bool} {l : List α} {j : Nat} {x : α} (h : l[j]? = some x) (hp : p x = false) : l.all p = false := by
  cases e : l.all p with
  | false => rfl
  | true =>
    rw [List.all_eq_true.mp e x (List.mem_of_getElem? h)] at hp
    cases hp
theorem map_bl {α : Type} (l : List α) (f : α → Bool) : l.map (fun d => Dat.bl (f d)) = (l.map f).map Dat.bl := by rw [List.map_map]; rfl
theorem all_map {α : Type} (l : List α) (f : α → Bool) : ((l.map f).all fun b => b) = l.all f := by rw [List.all_map]; rfl
theorem natI (m k : Nat) : decide ((m : Int) = (k : Int)) = decide (m = k) := by
  by_cases h : m = k
  · simp [h]
  · simp [h, Int.ofNat_inj]
section
variable {P : Program} {w : World} {K : PySem.W.Frag} {mg : Str → Option Value} {base : Heap}
def W_grid_of : Wf := fun ss R _ => ∃ k d, ss = [.dat d, .dat (.int ((k : Nat) : Int))] ∧ k ≤ 1000 ∧ tyOk 2 d = true ∧ R (gridOf k d)
theorem ok_grid_of (c : Fc K mg) : DefJ P w K mg base "grid_of" 3 ["thing", "pegs"] W_grid_of := by
  obtain ⟨fd, F⟩ := c.f_grid_of
  refine ⟨fd, defj _ F sc_grid_of (fun ss R Z ⟨k, d, e, _⟩ => by rw [e]; rfl) (fun cdv A outer s H E en ss R Z hr ⟨k, d, e, hk, ht, q⟩ hZ => ?_), F.bindsN (fun _ _ _ _ _ _ us hl => match us, hl with | [_, _], _ => rfl), c.g_grid_of, F.kp⟩
  subst e
  have nd := sc_grid_of.nd
  have hr2 : Room 2 _ := hr
  refine jb_ifX (JW.jt (jw_orI (jt_not (jt_v (je_isSeq (je_var 0 rfl) (tyOk_ty ht) c.b_isinstance c.b_list c.b_tuple))) fun z => jw_or1 (jt_ne (je_len (seqs_of (notfalse z.symm)) (je_var 0 rfl) c.b_len) (je_var 1 rfl)))) (fun z => ?_) (fun z => ?_)
  · have eg : gridOf k d = .non := by
      have z2 : true = (!isSeq d || !decide (((seqs d).length : Int) = (k : Int))) := z
      rw [natI] at z2
      unfold gridOf gridB
      cases h1 : isSeq d with
      | false => rfl
      | true =>
        rw [h1] at z2
        rw [nottrue (b := decide ((seqs d).length = k)) z2]
        rfl
    rw [eg] at q
    exact jb_one (js_retI je_non q)
  · have z2 : false = (!isSeq d || !decide (((seqs d).length : Int) = (k : Int))) := z
    rw [natI] at z2
    have z3 := Bool.or_eq_false_iff.mp z2.symm
    have hq := notfalse z3.1.symm
    have hl := of_decide_eq_true (notfalse z3.2.symm)
    have hS := seqs_of hq
    refine jb_cons (M := fun δ' => (∀ (j : Nat) r, (seqs d)[j]? = some r → rowB k r = true) ∧ ∃ z2 z3, δ' = [some (.dat d), some (.dat (.int (k : Int))), z2, z3])
      (js_forI (fun i δ' => (∀ (j : Nat) r, j < i → (seqs d)[j]? = some r → rowB k r = true) ∧ ∃ z2 z3, δ' = [some (.dat d), some (.dat (.int (k : Int))), z2, z3]) (ji_seq hS (je_var 0 rfl)) (jg_nm 2 nd) ⟨fun j r hj => absurd hj (Nat.not_lt_zero j), none, none, rfl⟩ (fun i r δ' hd ⟨hp, y2, y3, e⟩ => ?_) (fun δ' ⟨hp, y2, y3, e⟩ => ?_)) ?_
    · subst e
      have hti := tyOk_in ht hd
      refine ⟨_, rfl, ?_⟩
      have el : ∀ z : (!isSeq r) = false, Seqd r (seqs r) := fun z => seqs_of (notfalse z.symm)
      refine jb_one (js_if (Rt := Is (!rowB k r)) ((JW.jt (jw_orI (jt_not (jt_v (je_isSeq (je_var 2 rfl) (tyOk_ty hti) c.b_isinstance c.b_list c.b_tuple))) fun z => jw_orI (jt_ne (je_len (el z) (je_var 2 rfl) c.b_len) (je_var 1 rfl)) fun zl => jw_or1 (jt_not (jt_v (je_all (bs := (seqs r).map entB) rfl (((lc_sqm 3 (fun d => .bl (entB d)) (el z) (je_var 2 rfl) ?_ (blkOk_by (by kernel_rfl)) (fun s H C cl fp => jg_nm 3 nd) (fun j x hx s H C cl fp => je_callI (ok_is_entry c) (ja_c (je_var 3 rfl) ja_nil) ⟨x, rfl, tyOk_ty (tyOk_in hti hx), Is.self⟩ hr2)).jf nd).je1.is (by rw [map_bl])) c.b_all))))).is ?_) (fun z => ?_) (fun z => ?_))
      · rw [natI] at zl
        have := of_decide_eq_true (notfalse zl.symm)
        omega
      · rw [natI, all_map]
        unfold rowB
        cases isSeq r <;> cases decide ((seqs r).length = k) <;> rfl
      · have eb : rowB k r = false := nottrue z
        have eg : gridOf k d = .non := by
          unfold gridOf gridB
          rw [not_all hd eb, Bool.and_false, Bool.and_false]
          rfl
        rw [eg] at q
        exact jb_one (js_retI je_non q)
      · have eb : rowB k r = true := notfalse z
        refine jb_nil ⟨fun j r2 hj hr2 => ?_, _, _, rfl⟩
        by_cases e : j = i
        · rw [e, hd] at hr2
          rw [← Option.some.inj hr2]
          exact eb
        · exact hp j r2 (by omega) hr2
    · exact ⟨fun j r hr2 => hp j r (List.getElem?_eq_some_iff.mp hr2).1 hr2, y2, y3, e⟩
    · rintro δ' ⟨hp, y2, y3, e⟩
      subst e
      have eg : gridOf k d = .tup ((seqs d).map fun r => .tup (seqs r)) := by
        unfold gridOf gridB
        rw [hq, hl, decide_eq_true rfl, all_of_get hp]
        rfl
      rw [eg] at q
      refine jb_one (js_retI (je_tuple (.inl rfl) ((lc_sqm 2 (fun r => .tup (seqs r)) hS (je_var 0 rfl) (by omega) (blkOk_by (by kernel_rfl)) (fun s H C cl fp => jg_nm 2 nd) (fun j r hr2 s H C cl fp => ?_)).jf nd).je1 c.b_tuple) q)
      have hb := hp j r hr2
      exact je_tuple (seqs_of (Bool.and_eq_true_iff.mp hb).1) (je_var 2 rfl) c.b_tuple
/-! ### part_of -/
theorem ent_ok {d : Dat} (n : Nat) (h : entB d = true) : okD n d = true := by
  cases d <;> first | (cases n <;> rfl) | cases h
theorem okDs_all {n : Nat} : ∀ {ds : List Dat}, (∀ d ∈ ds, okD n d = true) → okDs n ds = true
  | [], _ => by simp [okDs]
  | d :: ds, h => by
    show (okD n d && okDs n ds) = true
    rw [h d List.mem_cons_self, okDs_all fun x hx => h x (List.mem_cons_of_mem _ hx)]
    rfl
theorem okD_grid (k : Nat) (d : Dat) : okD 60 (gridOf k d) = true := by
  unfold gridOf
  cases h : gridB k d with
  | false => rfl
  | true =>
    show okDs 59 _ = true
    refine okDs_all fun x hx => ?_
    obtain ⟨r, hr, e⟩ := List.mem_map.mp hx
    rw [← e]
    show okDs 58 _ = true
    have h1 := List.all_eq_true.mp (Bool.and_eq_true_iff.mp (Bool.and_eq_true_iff.mp h).2).2 r hr
    have h2 := List.all_eq_true.mp (Bool.and_eq_true_iff.mp (Bool.and_eq_true_iff.mp h1).2).2
    exact okDs_all fun y hy => ent_ok 58 (h2 y hy)
theorem eqv_grid (k : Nat) (d : Dat) : PyData.eqv (pyD (gridOf k d)) (pyD .non) = !gridB k d := by
  unfold gridOf
  cases h : gridB k d with
  | false => simp [pyD, PyData.eqv]
  | true => simp [pyD, PyData.eqv]
theorem any_grids (k : Nat) : ∀ ds : List Dat, (pyDs (ds.map (gridOf k))).any (fun z => PyData.eqv z (pyD .non)) = !ds.all (gridB k)
  | [] => by simp [pyDs]
  | d :: ds => by
    have ih := any_grids k ds
    rw [List.map_cons, List.all_cons]
    show (PyData.eqv (pyD (gridOf k d)) (pyD .non) || (pyDs (ds.map (gridOf k))).any fun z => PyData.eqv z (pyD .non)) = _
    rw [ih, eqv_grid]
    cases gridB k d <;> rfl
def W_part_of : Wf := fun ss R _ => ∃ k d, ss = [.dat d, .dat (.int ((k : Nat) : Int))] ∧ k ≤ 1000 ∧ tyOk 3 d = true ∧ R (partOf k d)
theorem ok_part_of (c : Fc K mg) : DefJ P w K mg base "part_of" 4 ["thing", "pegs"] W_part_of := by
  obtain ⟨fd, F⟩ := c.f_part_of
  refine ⟨fd, defj _ F sc_part_of (fun ss R Z ⟨k, d, e, _⟩ => by rw [e]; rfl) (fun cdv A outer s H E en ss R Z hr ⟨k, d, e, hk, ht, q⟩ hZ => ?_), F.bindsN (fun _ _ _ _ _ _ us hl => match us, hl with | [_, _], _ => rfl), c.g_part_of, F.kp⟩
  subst e
  have nd := sc_part_of.nd
  have hr3 : Room 3 _ := hr
  refine jb_ifX (JW.jt (jw_orI (jt_not (jt_v (je_isSeq (je_var 0 rfl) (tyOk_ty ht) c.b_isinstance c.b_list c.b_tuple))) fun z => jw_or1 (jt_ne (je_len (seqs_of (notfalse z.symm)) (je_var 0 rfl) c.b_len) (je_var 1 rfl)))) (fun z => ?_) (fun z => ?_)
  · have eg : partOf k d = .non := by
      have z2 : true = (!isSeq d || !decide (((seqs d).length : Int) = (k : Int))) := z
      rw [natI] at z2
      unfold partOf partB
      cases h1 : isSeq d with
      | false => rfl
      | true =>
        rw [h1] at z2
        rw [nottrue (b := decide ((seqs d).length = k)) z2]
        rfl
    rw [eg] at q
    exact jb_one (js_retI je_non q)
  · have z2 : false = (!isSeq d || !decide (((seqs d).length : Int) = (k : Int))) := z
    rw [natI] at z2
    have z3 := Bool.or_eq_false_iff.mp z2.symm
    have hq := notfalse z3.1.symm
    have hl := of_decide_eq_true (notfalse z3.2.symm)
    have hS := seqs_of hq
    refine jb_ownLc 2 nd (lc_sqm 3 (gridOf k) hS (je_var 0 rfl) (by omega) (blkOk_by (by kernel_rfl)) (fun s H C cl fp => jg_nm 3 nd) (fun j x hx s H C cl fp => je_callI (ok_grid_of c) (ja_c (je_var 3 rfl) (ja_c (je_var 1 rfl) ja_nil)) ⟨k, x, rfl, hk, tyOk_in ht hx, Is.self⟩ hr3)) ?_
    refine jb_freeze 2 rfl (jb_one (js_retI (je_ifExp (jt_inD (d := .non) (Room.u65 hr) je_non (je_var 2 rfl) rfl (okDs_all fun x hx => ?_)) (fun z => ?_) (fun z => ?_)) q))
    · obtain ⟨r, _, e⟩ := List.mem_map.mp hx
      rw [← e]
      exact okD_grid k r
    · have z2 := z
      rw [any_grids] at z2
      have z4 : (seqs d).all (gridB k) = false := nottrue z2
      rw [show partOf k d = .non from by unfold partOf partB; rw [z4, Bool.and_false, Bool.and_false]; rfl]
      exact je_non
    · have z2 := z
      rw [any_grids] at z2
      have z4 : (seqs d).all (gridB k) = true := notfalse z2
      rw [show partOf k d = .tup ((seqs d).map (gridOf k)) from by unfold partOf partB; rw [z4, hq, hl, decide_eq_true rfl]; rfl]
      exact je_tuple (.inl rfl) (je_var 2 rfl) c.b_tuple
/-! ### is_kept -/
def okA (g : Gr) (a : Arr) : Bool := notAb (g a.t a.g) (cSum (g a.s a.g) (some a.c))
def okS (T g : Gr) (x o o2 : Nat) : Bool := decide (o = o2) || notAb (g x o2) (cSum (g x o) (T o o2))
def okRow (k : Nat) (T g : Gr) (x : Nat) : Bool := (List.range k).all fun o => (List.range k).all fun o2 => okS T g x o o2
def keptB (k : Nat) (as : List Arr) (T g : Gr) : Bool := as.all (okA g) && (List.range k).all (okRow k T g)
theorem range_all {k : Nat} {p : Nat → Bool} (h : ∀ i, i < k → p i = true) : (List.range k).all p = true := List.all_eq_true.mpr fun x hx => h x (List.mem_range.mp hx)
theorem range_not {k : Nat} {p : Nat → Bool} {i : Nat} (hi : i < k) (h : p i = false) : (List.range k).all p = false := by
  cases e : (List.range k).all p with
  | false => rfl
  | true =>
    rw [List.all_eq_true.mp e i (List.mem_range.mpr hi)] at h
    cases h
theorem range_get {k : Nat} {p : Nat → Bool} (h : (List.range k).all p = true) {i : Nat} (hi : i < k) : p i = true := List.all_eq_true.mp h i (List.mem_range.mpr hi)
def W_is_kept : Wf := fun ss R _ => ∃ k as T g ad td gd, ss = [.dat ad, .dat td, .dat gd] ∧ k ≤ 1000 ∧ Seqd ad (as.map arrD) ∧ (∀ a ∈ as, a.In k) ∧ IsGrid k T td ∧ IsGrid k g gd ∧ R (.bl (keptB k as T g))
theorem ok_is_kept (c : Fc K mg) : DefJ P w K mg base "is_kept" 2 ["arrows", "shifts", "grid"] W_is_kept := by
  obtain ⟨fd, F⟩ := c.f_is_kept
  refine ⟨fd, defj _ F sc_is_kept (fun ss R Z ⟨k, as, T, g, ad, td, gd, e, _⟩ => by rw [e]; rfl) (fun cdv A outer s H E en ss R Z hr ⟨k, as, T, g, ad, td, gd, e, hk, hA, hin, hT, hG, q⟩ hZ => ?_), F.bindsN (fun _ _ _ _ _ _ us hl => match us, hl with | [_, _, _], _ => rfl), c.g_is_kept, F.kp⟩
  subst e
  have nd := sc_is_kept.nd
  have hr1 : Room 1 _ := hr
  obtain ⟨trows, hTT, hTl, hTr⟩ := hT
  obtain ⟨grows, hGG, hGl, hGr⟩ := hG
  refine jb_cons (M := fun δ' => as.all (okA g) = true ∧ ∃ z3 z4 z5 z6 z7 z8 z9 z10 z11, δ' = [some (.dat ad), some (.dat td), some (.dat gd), z3, z4, z5, z6, z7, z8, z9, z10, z11])
    (js_forI (fun i δ' => (∀ (j : Nat) a, j < i → as[j]? = some a → okA g a = true) ∧ ∃ z3 z4 z5 z6 z7 z8 z9 z10 z11, δ' = [some (.dat ad), some (.dat td), some (.dat gd), z3, z4, z5, z6, z7, z8, z9, z10, z11])
      (ji_seq hA (je_var 0 rfl)) (jg_tp (jgs_cons (jg_nm 3 nd) (jgs_cons (jg_nm 4 nd) (jgs_cons (jg_nm 5 nd) (jgs_cons (jg_nm 6 nd) jgs_nil))))) ⟨fun j a hj => absurd hj (Nat.not_lt_zero j), none, none, none, none, none, none, none, none, none, rfl⟩ (fun i d δ' hd ⟨hp, z3, z4, z5, z6, z7, z8, z9, z10, z11, e⟩ => ?_) (fun δ' ⟨hp, z3, z4, z5, z6, z7, z8, z9, z10, z11, e⟩ => ?_)) ?_
  · obtain ⟨a, ha, ed⟩ := arr_get hd
    obtain ⟨h1, h2, h3⟩ := hin a (List.mem_of_getElem? ha)
    obtain ⟨rs, hrs, hrsr⟩ := hGr a.s h1
    obtain ⟨rt, hrt, hrtr⟩ := hGr a.t h2
    subst e ed
    refine ⟨_, rfl, jb_one (js_if (Rt := Is (!okA g a)) (jt_not (jt_v (je_callI (ok_not_above c) (ja_c (je_ixS hrtr (je_ixS hGG (je_var 2 rfl) (je_var 4 rfl) hrt) (je_ixT (je_var 5 rfl) je_int (j := 0) rfl) (rowD_get h3)) (ja_c (je_callI (ok_cost_sum c) (ja_c (je_ixS hrsr (je_ixS hGG (je_var 2 rfl) (je_var 3 rfl) hrs) (je_ixT (je_var 5 rfl) je_int (j := 0) rfl) (rowD_get h3)) (ja_c (je_var 6 rfl) ja_nil)) ⟨_, some a.c, rfl, Is.self⟩ hr1) ja_nil)) ⟨_, _, rfl, Is.self⟩ hr1))) (fun z => ?_) (fun z => ?_))⟩
    · have eb : okA g a = false := nottrue z
      rw [show keptB k as T g = false from by unfold keptB; rw [not_all ha eb]; rfl] at q
      exact jb_one (js_retI je_bl q)
    · have eb : okA g a = true := notfalse z
      refine jb_nil ⟨fun j x hj hx => ?_, _, _, _, _, _, _, _, _, _, rfl⟩
      by_cases e : j = i
      · rw [e, ha] at hx
        rw [← Option.some.inj hx]
        exact eb
      · exact hp j x (by omega) hx
  · rw [List.length_map] at hp
    exact ⟨all_of_get fun j x hx => hp j x (List.getElem?_eq_some_iff.mp hx).1 hx, z3, z4, z5, z6, z7, z8, z9, z10, z11, e⟩
  · rintro δ' ⟨hka, z3, z4, z5, z6, z7, z8, z9, z10, z11, e⟩
    subst e
    refine jb_cons (M := fun δ' => (List.range k).all (okRow k T g) = true)
      (js_forI (fun i δ' => (∀ x, x < i → x < k → okRow k T g x = true) ∧ ∃ z7 z8 z9 z10 z11, δ' = [some (.dat ad), some (.dat td), some (.dat gd), z3, z4, z5, z6, z7, z8, z9, z10, z11])
        (ji_seq hGG (je_var 2 rfl)) (jg_nm 7 nd) ⟨fun x hx => absurd hx (Nat.not_lt_zero x), z7, z8, z9, z10, z11, rfl⟩ (fun x r δ' hd ⟨hp, z7, z8, z9, z10, z11, e⟩ => ?_) (fun δ' ⟨hp, _⟩ => ?_)) ?_
    · have hx : x < k := by rw [← hGl]; exact (List.getElem?_eq_some_iff.mp hd).1
      obtain ⟨r', hr', hrr⟩ := hGr x hx
      rw [hd] at hr'
      have er : r = r' := Option.some.inj hr'
      subst e er
      refine ⟨_, rfl, ?_⟩
      refine jb_one (js_forI (fun i δ' => (∀ o, o < i → o < k → ((List.range k).all fun o2 => okS T g x o o2) = true) ∧ ∃ z8 z9 z10 z11, δ' = [some (.dat ad), some (.dat td), some (.dat gd), z3, z4, z5, z6, some (.dat r), z8, z9, z10, z11])
        (ji_enum hrr (je_var 7 rfl) c.b_enumerate) (jg_tp (jgs_cons (jg_nm 8 nd) (jgs_cons (jg_nm 9 nd) jgs_nil))) ⟨fun o ho => absurd ho (Nat.not_lt_zero o), z8, z9, z10, z11, rfl⟩ (fun o d δ' hd ⟨hp2, z8, z9, z10, z11, e⟩ => ?_) (fun δ' ⟨hp2, z8, z9, z10, z11, e⟩ => ?_))
      · obtain ⟨d1, hd1, ed⟩ := enumD_get hd
        obtain ⟨ho, ed1⟩ := rowD_back hd1
        obtain ⟨tr, htr, htrr⟩ := hTr o ho
        subst e ed ed1
        refine ⟨_, rfl, ?_⟩
        refine jb_one (js_forI (fun i δ' => (∀ o2, o2 < i → o2 < k → okS T g x o o2 = true) ∧ ∃ z10 z11, δ' = [some (.dat ad), some (.dat td), some (.dat gd), z3, z4, z5, z6, some (.dat r), some (.dat (.int (o : Int))), some (.dat (oD (g x o))), z10, z11])
          (ji_enum hrr (je_var 7 rfl) c.b_enumerate) (jg_tp (jgs_cons (jg_nm 10 nd) (jgs_cons (jg_nm 11 nd) jgs_nil))) ⟨fun o2 ho => absurd ho (Nat.not_lt_zero o2), z10, z11, rfl⟩ (fun o2 d δ' hd ⟨hp3, z10, z11, e⟩ => ?_) (fun δ' ⟨hp3, z10, z11, e⟩ => ?_))
        · obtain ⟨d2, hd2, ed⟩ := enumD_get hd
          obtain ⟨ho2, ed2⟩ := rowD_back hd2
          subst e ed ed2
          refine ⟨_, rfl, ?_⟩
          refine jb_one (js_if (Rt := Is (!okS T g x o o2)) ((JW.jt (jw_andI (jt_ne (je_var 8 rfl) (je_var 10 rfl)) fun _ => jw_and1 (jt_not (jt_v (je_callI (ok_not_above c) (ja_c (je_var 11 rfl) (ja_c (je_callI (ok_cost_sum c) (ja_c (je_var 9 rfl) (ja_c (je_ixS htrr (je_ixS hTT (je_var 1 rfl) (je_var 8 rfl) htr) (je_var 10 rfl) (rowD_get ho2)) ja_nil)) ⟨_, _, rfl, Is.self⟩ hr1) ja_nil)) ⟨_, _, rfl, Is.self⟩ hr1))))).is ?_) (fun z => ?_) (fun z => ?_))
          · rw [natI]
            unfold okS
            cases decide (o = o2) <;> cases notAb (g x o2) (cSum (g x o) (T o o2)) <;> rfl
          · have eb : okS T g x o o2 = false := nottrue z
            have e1 : okRow k T g x = false := range_not ho (range_not ho2 eb)
            rw [show keptB k as T g = false from by unfold keptB; rw [range_not hx e1]; exact Bool.and_false _] at q
            exact jb_one (js_retI je_bl q)
          · have eb : okS T g x o o2 = true := notfalse z
            refine jb_nil ⟨fun j hj hjk => ?_, _, _, rfl⟩
            by_cases e : j = o2
            · rw [e]
              exact eb
            · exact hp3 j (by omega) hjk
        · rw [enumD_len, rowD_len] at hp3
          refine ⟨fun j hj hjk => ?_, _, _, _, _, e⟩
          by_cases e : j = o
          · rw [e]
            exact range_all fun o2 h => hp3 o2 h h
          · exact hp2 j (by omega) hjk
      · rw [enumD_len, rowD_len] at hp2
        refine ⟨fun j hj hjk => ?_, _, _, _, _, _, e⟩
        by_cases e : j = x
        · rw [e]
          exact range_all fun o h => hp2 o h h
        · exact hp j (by omega) hjk
    · rw [hGl] at hp
      exact range_all fun x h => hp x h h
    · intro δ' hkr
      rw [show keptB k as T g = true from by unfold keptB; rw [hka, hkr]; rfl] at q
      exact jb_one (js_retI je_bl q)
end
end PW
end
section
set_option maxHeartbeats 4000000
namespace PW
open PySem PySem.Spec PyProof.Rows L2 PJ PF PX

def turnA (a : Arr) : Arr := ⟨a.t, a.s, a.g, a.c⟩
section
variable {P : Program} {w : World} {K : PySem.W.Frag} {mg : Str → Option Value} {base : Heap}
def W_turned_arrows : Wf := fun ss R _ => ∃ (as : List Arr) (ad : Dat), ss = [.dat ad] ∧ Seqd ad (as.map arrD) ∧ as.length ≤ 10000 ∧ R (.lst ((as.map turnA).map arrD))
theorem ok_turned_arrows (c : Fc K mg) : DefJ P w K mg base "turned_arrows" 1 ["arrows"] W_turned_arrows := by
  obtain ⟨fd, F⟩ := c.f_turned_arrows
  refine ⟨fd, defj _ F sc_turned_arrows (fun ss R Z ⟨as, ad, e, _⟩ => by rw [e]; rfl) (fun cdv A outer s H E en ss R Z hr ⟨as, ad, e, hA, hl, q⟩ hZ => ?_), F.bindsN (fun _ _ _ _ _ _ us hl => match us, hl with | [_], _ => rfl), c.g_turned_arrows, F.kp⟩
  subst e
  have nd := sc_turned_arrows.nd
  refine jb_one (js_retI (((lc_map (own := [("start", 1), ("stop", 2), ("guard", 3), ("cost", 4)]) (t := .tp [.nm 1, .nm 2, .nm 3, .nm 4]) (fun i => arrD (turnA (as.getD i ⟨0, 0, 0, 0⟩))) (ji_seq hA (je_var 0 rfl)) (blkOk_by (by kernel_rfl)) (fun s H C cl fp => jg_tp (jgs_cons (jg_nm 1 nd) (jgs_cons (jg_nm 2 nd) (jgs_cons (jg_nm 3 nd) (jgs_cons (jg_nm 4 nd) jgs_nil))))) (by decide) (by rw [List.length_map, sizeLine_eq]; omega) (fun i d hd => ?_)).jf nd).je1) ?_)
  · obtain ⟨a, ha, ed⟩ := arr_get hd
    subst ed
    refine ⟨_, rfl, fun s H C cl fp => ?_⟩
    rw [List.getD_eq_getElem?_getD, ha]
    exact je_tupI (ds := [.int (a.t : Int), .int (a.s : Int), .tup [.int (a.g : Int)], .int a.c]) (ja_c (je_var 2 rfl) (ja_c (je_var 1 rfl) (ja_c (je_var 3 rfl) (ja_c (je_var 4 rfl) ja_nil)))) (szl rfl)
  · rw [List.length_map, map_getD as (fun a => arrD (turnA a))]
    rw [List.map_map] at q
    exact q
def W_turned_table : Wf := fun ss R _ => ∃ k T td, ss = [.dat td] ∧ k ≤ 1000 ∧ IsGrid k T td ∧ R (.lst (gridL k fun p q => T q p))
theorem ok_turned_table (c : Fc K mg) : DefJ P w K mg base "turned_table" 1 ["table"] W_turned_table := by
  obtain ⟨fd, F⟩ := c.f_turned_table
  refine ⟨fd, defj _ F sc_turned_table (fun ss R Z ⟨k, T, td, e, _⟩ => by rw [e]; rfl) (fun cdv A outer s H E en ss R Z hr ⟨k, T, td, e, hk, hT, q⟩ hZ => ?_), F.bindsN (fun _ _ _ _ _ _ us hl => match us, hl with | [_], _ => rfl), c.g_turned_table, F.kp⟩
  subst e
  have nd := sc_turned_table.nd
  obtain ⟨trows, hTT, hTl, hTr⟩ := hT
  refine jb_one (js_retI (((lc_rng 1 (fun p => .lst (rowD k fun q => T q p)) (je_len hTT (je_var 0 rfl) c.b_len) (by omega) c.b_range (blkOk_by (by kernel_rfl)) (fun s H C cl fp => jg_nm 1 nd) (fun p hp s H C cl fp => ?_)).jf nd).je1) ?_)
  · refine ((lc_sq 2 (fun j => oD (T j p)) hTT (je_var 0 rfl) (by omega) (blkOk_by (by kernel_rfl)) (fun s H C cl fp => jg_nm 2 nd) (fun j d hd s H C cl fp => ?_)).jf nd).je1.is (by rw [hTl]; rfl)
    have hj : j < k := by rw [← hTl]; exact (List.getElem?_eq_some_iff.mp hd).1
    obtain ⟨r, hr', hrr⟩ := hTr j hj
    rw [hd] at hr'
    have er : d = r := Option.some.inj hr'
    subst er
    exact je_ixS hrr (je_var 2 rfl) (je_var 1 rfl) (rowD_get (by omega))
  · rw [hTl]
    exact q
def W_tower_row : Wf := fun ss R _ => ∃ k g gd, ss = [.dat gd] ∧ k ≤ 1000 ∧ IsGrid k g gd ∧ R (.lst (rowD k fun p => g p p))
theorem ok_tower_row (c : Fc K mg) : DefJ P w K mg base "tower_row" 1 ["grid"] W_tower_row := by
  obtain ⟨fd, F⟩ := c.f_tower_row
  refine ⟨fd, defj _ F sc_tower_row (fun ss R Z ⟨k, g, gd, e, _⟩ => by rw [e]; rfl) (fun cdv A outer s H E en ss R Z hr ⟨k, g, gd, e, hk, hG, q⟩ hZ => ?_), F.bindsN (fun _ _ _ _ _ _ us hl => match us, hl with | [_], _ => rfl), c.g_tower_row, F.kp⟩
  subst e
  have nd := sc_tower_row.nd
  obtain ⟨rows, hGG, hGl, hGr⟩ := hG
  refine jb_one (js_retI (((lc_enum 1 2 (fun p => oD (g p p)) hGG (je_var 0 rfl) (by omega) c.b_enumerate (blkOk_by (by kernel_rfl)) (fun s H C cl fp => jg_tp (jgs_cons (jg_nm 1 nd) (jgs_cons (jg_nm 2 nd) jgs_nil))) (fun j d hd s H C cl fp => ?_)).jf nd).je1) ?_)
  · have hj : j < k := by rw [← hGl]; exact (List.getElem?_eq_some_iff.mp hd).1
    obtain ⟨r, hr', hrr⟩ := hGr j hj
    rw [hd] at hr'
    have er : d = r := Option.some.inj hr'
    subst er
    exact je_ixS hrr (je_var 2 rfl) (je_var 1 rfl) (rowD_get hj)
  · rw [hGl]
    exact q
def lsM (f g : Nat → Option Int) : Nat → Option Int
  | 0 => none
  | n + 1 => lesr (lsM f g n) (cSum (f n) (g n))
def W_least_sum : Wf := fun ss R _ => ∃ k f g fd gd, ss = [.dat fd, .dat gd] ∧ k ≤ 1000 ∧ IsRow k f fd ∧ IsRow k g gd ∧ R (oD (lsM f g k))
theorem ok_least_sum (c : Fc K mg) : DefJ P w K mg base "least_sum" 3 ["row", "other"] W_least_sum := by
  obtain ⟨fd, F⟩ := c.f_least_sum
  refine ⟨fd, defj _ F sc_least_sum (fun ss R Z ⟨k, f, g, fd', gd, e, _⟩ => by rw [e]; rfl) (fun cdv A outer s H E en ss R Z hr ⟨k, f, g, fd', gd, e, hk, hf, hg, q⟩ hZ => ?_), F.bindsN (fun _ _ _ _ _ _ us hl => match us, hl with | [_, _], _ => rfl), c.g_least_sum, F.kp⟩
  subst e
  have nd := sc_least_sum.nd
  have hr1 : Room 1 _ := hr.mono (by decide)
  refine jb_set 2 nd je_non ?_
  refine jb_cons (M := fun δ' => ∃ z3 z4, δ' = [some (.dat fd'), some (.dat gd), some (.dat (oD (lsM f g k))), z3, z4])
    (js_forI (fun i δ' => ∃ z3 z4, δ' = [some (.dat fd'), some (.dat gd), some (.dat (oD (lsM f g i))), z3, z4]) (ji_zip hf hg (je_var 0 rfl) (je_var 1 rfl) c.b_zip) (jg_tp (jgs_cons (jg_nm 3 nd) (jgs_cons (jg_nm 4 nd) jgs_nil))) ⟨none, none, rfl⟩ (fun i d δ' hd ⟨z3, z4, e⟩ => ?_) (fun δ' ⟨z3, z4, e⟩ => ?_)) ?_
  · obtain ⟨x, y, hx, hy, ed⟩ := zipD_get hd
    obtain ⟨hi, ex⟩ := rowD_back hx
    obtain ⟨_, ey⟩ := rowD_back hy
    subst e ed ex ey
    refine ⟨_, rfl, jb_one (js_set 2 nd (je_callI (ok_lesser c) (ja_c (je_var 2 rfl) (ja_c (je_callI (ok_cost_sum c) (ja_c (je_var 3 rfl) (ja_c (je_var 4 rfl) ja_nil)) ⟨_, _, rfl, Is.self⟩ hr1) ja_nil)) ⟨_, _, rfl, Is.self⟩ hr) fun d2 e2 => ?_)⟩
    rw [show d2 = _ from e2]
    exact ⟨_, _, rfl⟩
  · rw [zipD_len, rowD_len, rowD_len, Nat.min_self] at e
    exact ⟨z3, z4, e⟩
  · rintro δ' ⟨z3, z4, e⟩
    subst e
    exact jb_one (js_retI (je_var 2 rfl) q)
def begunF (p : Nat) (f : Nat → Option Int) : Gr := fun x g => if x = p then f g else none
def W_begun_at : Wf := fun ss R _ => ∃ (k p : Nat) (f : Nat → Option Int) (fd : Dat), ss = [.dat (.int (k : Int)), .dat (.tup [.int (p : Int)]), .dat fd] ∧ k ≤ 1000 ∧ IsRow k f fd ∧ R (.lst (gridL k (begunF p f)))
theorem ok_begun_at (c : Fc K mg) : DefJ P w K mg base "begun_at" 1 ["pegs", "at", "row"] W_begun_at := by
  obtain ⟨fd, F⟩ := c.f_begun_at
  refine ⟨fd, defj _ F sc_begun_at (fun ss R Z ⟨k, p, f, fd', e, _⟩ => by rw [e]; rfl) (fun cdv A outer s H E en ss R Z hr ⟨k, p, f, fd', e, hk, hf, q⟩ hZ => ?_), F.bindsN (fun _ _ _ _ _ _ us hl => match us, hl with | [_, _, _], _ => rfl), c.g_begun_at, F.kp⟩
  subst e
  have nd := sc_begun_at.nd
  refine jb_one (js_retI (((lc_rng 3 (fun x => .lst (rowD k (begunF p f x))) (je_var 0 rfl) hk c.b_range (blkOk_by (by kernel_rfl)) (fun s H C cl fp => jg_nm 3 nd) (fun x hx s H C cl fp => ?_)).jf nd).je1) q)
  have ee : decide ((x : Int) ∈ [(p : Int)]) = decide (x = p) := by simp [Int.ofNat_inj]
  refine je_ifExp ((jt_inI (ns := [(p : Int)]) (.inr rfl) (je_var 3 rfl) (je_var 1 rfl)).is ee) (fun z => ?_) (fun z => ?_)
  · have e : x = p := of_decide_eq_true (show true = decide (x = p) from z).symm
    rw [show begunF p f x = f from funext fun g => if_pos e]
    exact (jf_list hf (je_var 2 rfl) c.b_list).je1
  · have e : ¬ x = p := of_decide_eq_false (show false = decide (x = p) from z).symm
    have er : rowD k (begunF p f x) = List.replicate k .non := by
      rw [show begunF p f x = fun _ => none from funext fun g => if_neg e]
      refine List.eq_replicate_iff.mpr ⟨rowD_len _ _, fun b hb => ?_⟩
      obtain ⟨i, _, e⟩ := List.mem_map.mp hb
      exact e.symm
    rw [er]
    exact (jf_rep1 ((jf_lstI (ds := [.non]) (ja_c je_non ja_nil) (szl rfl)).je1) (je_var 0 rfl) hk).je1
end
end PW
end
section
set_option maxHeartbeats 4000000
namespace PW
open PySem PySem.Spec PyProof.Rows L2 PJ PF PX

abbrev SideM := List (List Arr × Gr)
structure SideAt (k : Nat) (p : List Arr × Gr) (w t : Dat) : Prop where
  arr : Seqd w (p.1.map arrD)
  len : p.1.length ≤ 10000
  inn : ∀ a ∈ p.1, a.In k
  tab : IsGrid k p.2 t
/-- a side: pairs of arrows and a table -/
structure SideL (k : Nat) (L : SideM) (ds : List Dat) : Prop where
  len : ds.length = L.length
  at_ : ∀ (i : Nat) p, L[i]? = some p → ∃ w t, ds[i]? = some (.tup [w, t]) ∧ SideAt k p w t
def turnS (p : List Arr × Gr) : List Arr × Gr := (p.1.map turnA, fun a b => p.2 b a)
theorem turnA_in {k : Nat} {a : Arr} (h : a.In k) : (turnA a).In k := ⟨h.t, h.s, h.g⟩
section
variable {P : Program} {w : World} {K : PySem.W.Frag} {mg : Str → Option Value} {base : Heap}
def W_sides_of : Wf := fun ss R _ => ∃ (k : Nat) (L : SideM) (wds tds : List Dat), ss = [.dat (.int (k : Int)), .dat (.lst wds), .dat (.lst tds)] ∧ k ≤ 1000 ∧ L.length ≤ 1000 ∧ wds.length = L.length ∧ tds.length = L.length ∧
  (∀ (i : Nat) p, L[i]? = some p → ∃ w t, wds[i]? = some w ∧ tds[i]? = some t ∧ SideAt k p w t) ∧ ∀ on ho, SideL k L on → SideL k (L.map turnS) ho → R (.tup [.int (k : Int), .lst on, .lst ho])
theorem ok_sides_of (c : Fc K mg) : DefJ P w K mg base "sides_of" 2 ["pegs", "webs", "tables"] W_sides_of := by
  obtain ⟨fd, F⟩ := c.f_sides_of
  refine ⟨fd, defj _ F sc_sides_of (fun ss R Z ⟨k, L, wds, tds, e, _⟩ => by rw [e]; rfl) (fun cdv A outer s H E en ss R Z hr ⟨k, L, wds, tds, e, hk, hL, hw, ht, hs, q⟩ hZ => ?_), F.bindsN (fun _ _ _ _ _ _ us hl => match us, hl with | [_, _, _], _ => rfl), c.g_sides_of, F.kp⟩
  subst e
  have nd := sc_sides_of.nd
  have hr1 : Room 1 _ := hr
  have on : SideL k L (zipD wds tds) := ⟨by rw [zipD_len, hw, ht, Nat.min_self], fun i p hp => by
    obtain ⟨w, t, h1, h2, h3⟩ := hs i p hp
    refine ⟨w, t, ?_, h3⟩
    unfold zipD
    rw [List.getElem?_zipWith, h1, h2]⟩
  refine jb_own 3 nd (jf_listZip (je_var 1 rfl) (je_var 2 rfl) (by omega) c.b_list c.b_zip) ?_
  refine jb_freeze 3 rfl ?_
  have ho : SideL k (L.map turnS) ((List.range L.length).map fun i => .tup [.lst (((L.getD i ([], fun _ _ => none)).1.map turnA).map arrD), .lst (gridL k fun p q => (L.getD i ([], fun _ _ => none)).2 q p)]) := ⟨by simp, fun i p hp => by
    rw [List.getElem?_map] at hp
    cases e : L[i]? with
    | none =>
      rw [e] at hp
      cases hp
    | some p0 =>
      rw [e] at hp
      have ep : turnS p0 = p := Option.some.inj hp
      have hi := (List.getElem?_eq_some_iff.mp e).1
      obtain ⟨w, t, h1, h2, h3⟩ := hs i p0 e
      refine ⟨_, _, map_range_get hi, ?_⟩
      rw [List.getD_eq_getElem?_getD, e, ← ep]
      exact ⟨.inl rfl, by show (p0.1.map turnA).length ≤ _; rw [List.length_map]; exact h3.len, fun a ha => by
        obtain ⟨b, hb, e2⟩ := List.mem_map.mp ha
        rw [← e2]
        exact turnA_in (h3.inn b hb), isGrid_l⟩⟩
  refine jb_ownLc 4 nd (lc_map (own := [("arrows", 5), ("table", 6)]) (t := .tp [.nm 5, .nm 6]) (fun i => .tup [.lst (((L.getD i ([], fun _ _ => none)).1.map turnA).map arrD), .lst (gridL k fun p q => (L.getD i ([], fun _ _ => none)).2 q p)]) (ji_list (je_var 3 rfl)) (blkOk_by (by kernel_rfl)) (fun s H C cl fp => jg_tp (jgs_cons (jg_nm 5 nd) (jgs_cons (jg_nm 6 nd) jgs_nil))) (by decide) (by rw [on.len, sizeLine_eq]; omega) (fun i d hd => ?_)) ?_
  · have hi : i < L.length := by rw [← on.len]; exact (List.getElem?_eq_some_iff.mp hd).1
    have e : L[i]? = some L[i] := List.getElem?_eq_getElem hi
    obtain ⟨w, t, h1, h2⟩ := on.at_ i _ e
    rw [hd] at h1
    have ed : d = _ := Option.some.inj h1
    subst ed
    refine ⟨_, rfl, fun s H C cl fp => ?_⟩
    rw [List.getD_eq_getElem?_getD, e]
    refine je_tupI (ds := [.lst ((L[i].1.map turnA).map arrD), .lst (gridL k fun p q => L[i].2 q p)]) (ja_c ?_ (ja_c ?_ ja_nil)) (szl rfl)
    · exact je_callI (ok_turned_arrows c) (ja_c (je_var 5 rfl) ja_nil) ⟨_, _, rfl, h2.arr, h2.len, Is.self⟩ hr1
    · exact je_callI (ok_turned_table c) (ja_c (je_var 6 rfl) ja_nil) ⟨k, _, _, rfl, hk, h2.tab, Is.self⟩ hr1
  · rw [on.len]
    refine jb_freeze 4 rfl (jb_one (js_retI (je_tupI (ds := [.int (k : Int), .lst (zipD wds tds), .lst _]) (ja_c (je_var 0 rfl) (ja_c (je_var 3 rfl) (ja_c (je_var 4 rfl) ja_nil))) (szl rfl)) (q _ _ on ho)))
/-! ### into_rows -/
def intoR (k : Nat) (L : SideM) (ps : List Nat) : Nat → Nat → Option Int
  | 0 => fun _ => some 0
  | i + 1 => fun p => walkM k (L.getD i ([], fun _ _ => none)).1 (L.getD i ([], fun _ _ => none)).2 (begunF (ps.getD i 0) (intoR k L ps i)) p p
def intoW (k : Nat) (L : SideM) (ps : List Nat) (i : Nat) : Gr := walkM k (L.getD i ([], fun _ _ => none)).1 (L.getD i ([], fun _ _ => none)).2 (begunF (ps.getD i 0) (intoR k L ps i))
def posD (ps : List Nat) : List Dat := ps.map fun (p : Nat) => .tup [.int (p : Int)]
def walksD (k : Nat) (L : SideM) (ps : List Nat) (n : Nat) : List Dat := (List.range n).map fun i => .tup (gridT k (intoW k L ps i))
def rowsD (k : Nat) (L : SideM) (ps : List Nat) (n : Nat) : List Dat := (List.range n).map fun i => .lst (rowD k (intoR k L ps i))
theorem rowsD_last (k : Nat) (L : SideM) (ps : List Nat) (n : Nat) : (rowsD k L ps (n + 1)).getLast? = some (.lst (rowD k (intoR k L ps n))) := by
  unfold rowsD
  rw [← map_snoc, List.getLast?_append]
  rfl
theorem rep_row (k : Nat) : List.replicate k (.int 0) = rowD k (fun _ => some 0) := by
  refine (List.eq_replicate_iff.mpr ⟨rowD_len _ _, fun b hb => ?_⟩).symm
  obtain ⟨i, _, e⟩ := List.mem_map.mp hb
  exact e.symm
def W_into_rows : Wf := fun ss R _ => ∃ (k : Nat) (L : SideM) (ps : List Nat) (sd bd : List Dat) (n : Nat), ss = [.dat (.int (k : Int)), .dat (.lst sd), .dat (.lst bd)] ∧ k ≤ 1000 ∧ L.length ≤ 1000 ∧ SideL k L sd ∧ bd = posD ps ∧ n = min L.length ps.length ∧
  R (.tup [.lst (rowsD k L ps (n + 1)), .lst (walksD k L ps n)])
theorem ok_into_rows (c : Fc K mg) : DefJ P w K mg base "into_rows" 5 ["pegs", "side", "box"] W_into_rows := by
  obtain ⟨fd, F⟩ := c.f_into_rows
  refine ⟨fd, defj _ F sc_into_rows (fun ss R Z ⟨k, L, ps, sd, bd, n, e, _⟩ => by rw [e]; rfl) (fun cdv A outer s H E en ss R Z hr ⟨k, L, ps, sd, bd, n, e, hk, hL, hs, hb, hn, q⟩ hZ => ?_), F.bindsN (fun _ _ _ _ _ _ us hl => match us, hl with | [_, _, _], _ => rfl), c.g_into_rows, F.kp⟩
  subst e
  have nd := sc_into_rows.nd
  have hr1 : Room 1 _ := hr.mono (by decide)
  have hr4 : Room 4 _ := hr
  subst hb
  have hp : (posD ps).length = ps.length := List.length_map ..
  refine jb_own 3 nd (jf_lstI (ds := [.lst (rowD k (fun _ => some 0))]) (ja_c (((jf_rep1 ((jf_lstI (ds := [.int 0]) (ja_c je_int ja_nil) (szl rfl)).je1) (je_var 0 rfl) hk).is (rep_row k)).je1) ja_nil) (szl rfl)) ?_
  refine jb_own 4 nd (jf_lstI (ds := []) ja_nil (Nat.zero_le _)) ?_
  refine jb_cons (M := fun δ' => ∃ z5 z6 z7 z8 z9, δ' = [some (.dat (.int (k : Int))), some (.dat (.lst sd)), some (.dat (.lst (posD ps))), some (.own (rowsD k L ps (n + 1))), some (.own (walksD k L ps n)), z5, z6, z7, z8, z9])
    (js_forI (fun i δ' => ∃ z5 z6 z7 z8 z9, δ' = [some (.dat (.int (k : Int))), some (.dat (.lst sd)), some (.dat (.lst (posD ps))), some (.own (rowsD k L ps (i + 1))), some (.own (walksD k L ps i)), z5, z6, z7, z8, z9])
      (ji_zip (.inl rfl) (.inl rfl) (je_var 1 rfl) (je_var 2 rfl) c.b_zip) (jg_tp (ts := [.tp [.nm 5, .nm 6], .nm 7]) (jgs_cons (jg_tp (jgs_cons (jg_nm 5 nd) (jgs_cons (jg_nm 6 nd) jgs_nil))) (jgs_cons (jg_nm 7 nd) jgs_nil))) ⟨none, none, none, none, none, rfl⟩ (fun i d δ' hd ⟨z5, z6, z7, z8, z9, e⟩ => ?_) (fun δ' ⟨z5, z6, z7, z8, z9, e⟩ => ?_)) ?_
  · obtain ⟨x, y, hx, hy, ed⟩ := zipD_get hd
    have hi : i < L.length := by rw [← hs.len]; exact (List.getElem?_eq_some_iff.mp hx).1
    have hi2 : i < ps.length := by rw [← hp]; exact (List.getElem?_eq_some_iff.mp hy).1
    have eL : L[i]? = some L[i] := List.getElem?_eq_getElem hi
    have eP : ps[i]? = some ps[i] := List.getElem?_eq_getElem hi2
    obtain ⟨wd, td, h1, h2⟩ := hs.at_ i _ eL
    rw [hx] at h1
    have ex : x = _ := Option.some.inj h1
    have ey : y = .tup [.int ((ps[i] : Nat) : Int)] := by
      unfold posD at hy
      rw [List.getElem?_map, eP] at hy
      exact (Option.some.inj hy).symm
    subst e ed ex ey
    refine ⟨_, rfl, ?_⟩
    have eW : walkM k L[i].1 L[i].2 (begunF ps[i] (intoR k L ps i)) = intoW k L ps i := by
      unfold intoW
      rw [List.getD_eq_getElem?_getD, List.getD_eq_getElem?_getD, eL, eP]
      rfl
    refine jb_set 8 nd (d := .tup (gridT k (intoW k L ps i))) (je_callI (ok_walk_costs c) (ja_c (je_var 5 rfl) (ja_c (je_var 6 rfl) (ja_c (je_callI (ok_begun_at c) (ja_c (je_var 0 rfl) (ja_c (je_var 7 rfl) (ja_c (je_lastO 3 rfl (je_neg je_int) (rowsD_last k L ps i)) ja_nil))) ⟨k, ps[i], intoR k L ps i, _, rfl, hk, isRow_l, Is.self⟩ hr1) ja_nil))) ⟨k, L[i].1, L[i].2, begunF ps[i] (intoR k L ps i), _, _, _, rfl, hk, h2.arr, h2.inn, h2.tab, isGrid_l, by rw [eW]; exact Is.self⟩ hr4) ?_
    refine jb_cons (M := fun δ' => ∃ z5 z6 z7 z9, δ' = [some (.dat (.int (k : Int))), some (.dat (.lst sd)), some (.dat (.lst (posD ps))), some (.own (rowsD k L ps (i + 1))), some (.own (walksD k L ps (i + 1))), z5, z6, z7, some (.dat (.tup (gridT k (intoW k L ps i)))), z9])
      (js_app 4 rfl (je_var 8 rfl) (by unfold walksD; rw [List.length_map, List.length_range, sizeLine_eq]; omega) fun d ed => ?_) ?_
    · rw [show d = .tup (gridT k (intoW k L ps i)) from ed, show walksD k L ps i ++ [.tup (gridT k (intoW k L ps i))] = walksD k L ps (i + 1) from map_snoc _ i]
      exact ⟨_, _, _, _, rfl⟩
    · rintro δ' ⟨z5, z6, z7, z9, e⟩
      subst e
      refine jb_one (js_app 3 rfl (((lc_rng 9 (fun p => oD (intoR k L ps (i + 1) p)) (je_var 0 rfl) hk c.b_range (blkOk_by (by kernel_rfl)) (fun s H C cl fp => jg_nm 9 nd) (fun p hpk s H C cl fp => ?_)).jf nd).je1) (by unfold rowsD; rw [List.length_map, List.length_range, sizeLine_eq]; omega) fun d ed => ?_)
      · refine (je_ixT (je_ixT (je_var 8 rfl) (je_var 9 rfl) (gridT_get hpk)) (je_var 9 rfl) (rowD_get hpk)).is ?_
        rfl
      · rw [show d = .lst (rowD k (intoR k L ps (i + 1))) from ed, show rowsD k L ps (i + 1) ++ [.lst (rowD k (intoR k L ps (i + 1)))] = rowsD k L ps (i + 1 + 1) from map_snoc _ (i + 1)]
        exact ⟨_, _, _, _, _, rfl⟩
  · rw [zipD_len, hp, hs.len, ← hn] at e
    exact ⟨z5, z6, z7, z8, z9, e⟩
  · rintro δ' ⟨z5, z6, z7, z8, z9, e⟩
    subst e
    exact jb_freeze 3 rfl (jb_freeze 4 rfl (jb_one (js_retI (je_tupI (ds := [.lst (rowsD k L ps (n + 1)), .lst (walksD k L ps n)]) (ja_c (je_var 3 rfl) (ja_c (je_var 4 rfl) ja_nil)) (szl rfl)) q)))
/-! ### top_unlike -/
def IsTop (ps qs : List Nat) (n : Nat) : Prop := n < ps.length ∧ ps[n]? ≠ qs[n]? ∧ ∀ j, n < j → j < ps.length → ps[j]? = qs[j]?
theorem IsTop.uniq {ps qs : List Nat} {n m : Nat} (h : IsTop ps qs n) (h2 : IsTop ps qs m) : n = m := by
  rcases Nat.lt_trichotomy n m with e | e | e
  · exact absurd (h.2.2 m e h2.1) h2.2.1
  · exact e
  · exact absurd (h2.2.2 n e h.1) h.2.1
theorem isTop_ex : ∀ {ps qs : List Nat}, ps.length = qs.length → ps ≠ qs → ∃ n, IsTop ps qs n
  | [], [], _, h => absurd rfl h
  | [], _ :: _, h, _ => nomatch h
  | _ :: _, [], h, _ => nomatch h
  | p :: ps, q :: qs, hl, h => by
    by_cases e : ps = qs
    · refine ⟨0, Nat.zero_lt_succ _, fun z => h ?_, fun j hj _ => ?_⟩
      · have z' : p = q := Option.some.inj z
        rw [e, z']
      · cases j with
        | zero => exact absurd hj (Nat.lt_irrefl 0)
        | succ j =>
          show ps[j]? = qs[j]?
          rw [e]
    · obtain ⟨n, h1, h2, h3⟩ := isTop_ex (by simpa using hl) e
      refine ⟨n + 1, Nat.succ_lt_succ h1, h2, fun j hj hl => ?_⟩
      cases j with
      | zero => exact absurd hj (Nat.not_lt_zero _)
      | succ j => exact h3 j (Nat.lt_of_succ_lt_succ hj) (Nat.lt_of_succ_lt_succ hl)
def natsD (ps : List Nat) : List Dat := ps.map fun (p : Nat) => .int (p : Int)
theorem natsD_get {ps : List Nat} {i : Nat} {d : Dat} (h : (natsD ps)[i]? = some d) : ∃ p, ps[i]? = some p ∧ d = .int (p : Int) := by
  unfold natsD at h
  rw [List.getElem?_map] at h
  cases e : ps[i]? with
  | none => rw [e] at h; cases h
  | some p => rw [e] at h; exact ⟨p, rfl, (Option.some.inj h).symm⟩
theorem natsD_at {ps : List Nat} {i p : Nat} (h : ps[i]? = some p) : (natsD ps)[i]? = some (.int (p : Int)) := by
  unfold natsD
  rw [List.getElem?_map, h]
  rfl
def unlike (ps qs : List Nat) (i : Nat) : Bool := !decide (ps[i]? = qs[i]?)
def unl (ps qs : List Nat) (i : Nat) : List Int := ((List.range i).filter (unlike ps qs)).map fun (j : Nat) => (j : Int)
def W_top_unlike : Wf := fun ss R _ => ∃ (ps qs : List Nat) (n : Nat) (pd qd : Dat), ss = [.dat pd, .dat qd] ∧ Seqd pd (natsD ps) ∧ Seqd qd (natsD qs) ∧ ps.length ≤ 1000 ∧ ps.length = qs.length ∧ IsTop ps qs n ∧ R (.int (n : Int))
theorem ok_top_unlike (c : Fc K mg) : DefJ P w K mg base "top_unlike" 1 ["position", "other"] W_top_unlike := by
  obtain ⟨fd, F⟩ := c.f_top_unlike
  refine ⟨fd, defj _ F sc_top_unlike (fun ss R Z ⟨ps, qs, n, pd, qd, e, _⟩ => by rw [e]; rfl) (fun cdv A outer s H E en ss R Z hr ⟨ps, qs, n, pd, qd, e, hp, hq, hl, he, ht, q⟩ hZ => ?_), F.bindsN (fun _ _ _ _ _ _ us hl => match us, hl with | [_, _], _ => rfl), c.g_top_unlike, F.kp⟩
  subst e
  have nd := sc_top_unlike.nd
  have hpl : (natsD ps).length = ps.length := List.length_map ..
  have key : unl ps qs ps.length ≠ [] ∧ (n : Int) ∈ unl ps qs ps.length := by
    have : (n : Int) ∈ unl ps qs ps.length := by
      refine List.mem_map.mpr ⟨n, List.mem_filter.mpr ⟨List.mem_range.mpr ht.1, ?_⟩, rfl⟩
      unfold unlike
      rw [decide_eq_false ht.2.1]
      rfl
    exact ⟨fun z => by rw [z] at this; exact absurd this (by simp), this⟩
  refine jb_one (js_ret (je_maxDf (ns := unl ps qs ps.length) (((lc_T (own := [("disc", 2), ("peg", 3)]) (t := .tp [.nm 2, .nm 3]) (Rl := Is ((unl ps qs ps.length).map Dat.int)) (fun its i acc => its = enumD (natsD ps) → acc = (unl ps qs i).map Dat.int) (ji_enum hp (je_var 0 rfl) c.b_enumerate) (blkOk_by (by kernel_rfl)) (fun s H C cl fp => jg_tp (jgs_cons (jg_nm 2 nd) (jgs_cons (jg_nm 3 nd) jgs_nil))) (by decide)
    (fun its r => ⟨by rw [show its = _ from r, enumD_len, hpl, sizeLine_eq]; omega, fun _ => rfl⟩) (fun its i d acc r hd ha => ?_) (fun its acc r ha => ?_)).jf nd).je1) (je_neg je_int) (fun z => absurd z key.1) (fun m hm hmax => ?_) c.b_max))
  · have e : its = enumD (natsD ps) := r
    rw [e] at hd
    obtain ⟨d1, hd1, ed⟩ := enumD_get hd
    obtain ⟨p, hp1, ed1⟩ := natsD_get hd1
    have hi : i < ps.length := (List.getElem?_eq_some_iff.mp hp1).1
    have eq1 : qs[i]? = some qs[i] := List.getElem?_eq_getElem (by omega)
    subst ed ed1
    have eu : unlike ps qs i = !decide ((p : Int) = ((qs[i] : Nat) : Int)) := by
      unfold unlike
      rw [hp1, eq1, natI]
      simp
    refine ⟨_, Is (unlike ps qs i), Is (.int (i : Int)), rfl, fun s H C cl fp => pts_one' ?_, fun s H C cl fp => je_var 2 rfl, fun z y ry => ?_, fun z => ?_⟩
    · rw [eu]
      exact jt_ne (je_var 3 rfl) (je_ixS hq (je_var 1 rfl) (je_var 2 rfl) (natsD_at eq1))
    · intro _
      rw [ha e, show y = .int (i : Int) from ry]
      unfold unl
      rw [List.range_succ, List.filter_append, List.filter_cons_of_pos (show unlike ps qs i = true from Eq.symm z), List.map_append, List.map_append]
      rfl
    · intro _
      rw [ha e]
      unfold unl
      rw [List.range_succ, List.filter_append, List.filter_cons_of_neg (by rw [← show false = unlike ps qs i from z]; exact Bool.false_ne_true), List.filter_nil, List.append_nil]
  · have e : its = enumD (natsD ps) := r
    have := ha e
    rw [e, enumD_len, hpl] at this
    exact this
  · obtain ⟨j, hj, ej⟩ := List.mem_map.mp hm
    obtain ⟨hj1, hj2⟩ := List.mem_filter.mp hj
    have hjl := List.mem_range.mp hj1
    have h1 := hmax _ key.2
    have h2 : j ≤ n := by
      rcases Nat.lt_or_ge n j with z | z
      · have := ht.2.2 j z hjl
        unfold unlike at hj2
        rw [decide_eq_true this] at hj2
        cases hj2
      · exact z
    have e : m = (n : Int) := by omega
    rw [e]
    exact q
end
end PW
end
section
set_option maxHeartbeats 4000000
/-! sorted(x) of anything that is collected, its items alike data. -/
namespace PX
open PySem PySem.Spec PyProof.Rows L2 PJ
open PySem.Calls
open PySem.W (AllAlike Sortable list_sort_data)
theorem each_zip {h : Heap} : ∀ {xs : List V} {its : List Value}, Vals xs its → ∀ {ds : List PyData}, ds.length = xs.length → PySem.W.EachIs (fun (u : Value) (b : V × PyData) => RelV b.1 u) its (xs.zip ds)
  | _, _, .nil, ds, hl => by
    cases ds with
    | nil => exact .nil
    | cons _ _ => cases hl
  | _, _, .cons r t, ds, hl => by
    cases ds with
    | nil => cases hl
    | cons d ds => exact .cons r (each_zip (h := h) t (by simpa using hl))
theorem each_reads {h : Heap} {q : Addr} (hq : ∀ o, h.get? q = some o → False) : ∀ {xs : List V} {its : List Value} {ds : List PyData} {as : List Addr}, ds.length = xs.length → ReadsAll h its ds as → PySem.W.EachIs (fun (u : Value) (b : V × PyData) => ∃ as, Reads h u b.2 as ∧ q ∉ as) its (xs.zip ds)
  | [], _, [], _, _, .nil => .nil
  | x :: xs, _, d :: ds, _, hl, .cons r t => .cons ⟨_, r, fun hm => by
      obtain ⟨o, ho⟩ := PyProof.On.reads_mem_get r q hm
      exact hq o ho⟩ (each_reads hq (by simpa using hl) t)
  | [], _, _ :: _, _, hl, _ => by cases hl
  | _ :: _, _, [], _, hl, _ => by cases hl
theorem vals_each : ∀ {bs : List (V × PyData)} {out : List Value}, PySem.W.EachIs (fun (u : Value) (b : V × PyData) => RelV b.1 u) out bs → Vals (bs.map (·.1)) out
  | _, _, .nil => .nil
  | _, _, .cons r t => .cons r (vals_each t)
theorem zip_fst {α β : Type} : ∀ {xs : List α} {ds : List β}, ds.length = xs.length → (xs.zip ds).map (·.1) = xs
  | [], [], _ => rfl
  | x :: xs, d :: ds, h => by rw [List.zip_cons_cons, List.map_cons, zip_fst (by simpa using h)]
  | [], _ :: _, h => by cases h
  | _ :: _, [], h => by cases h
theorem zip_snd {α β : Type} : ∀ {xs : List α} {ds : List β}, ds.length = xs.length → (xs.zip ds).map (·.2) = ds
  | [], [], _ => rfl
  | x :: xs, d :: ds, h => by rw [List.zip_cons_cons, List.map_cons, zip_snd (by simpa using h)]
  | [], _ :: _, h => by cases h
  | _ :: _, [], h => by cases h
theorem dpall_len {K : PySem.W.Frag} {H : Hp} : ∀ {ds : List PyData} {vs : List V}, DpAll K H vs ds → ds.length = vs.length
  | _, _, .nil => rfl
  | _, _, .cons _ t => by rw [List.length_cons, List.length_cons, dpall_len t]
section
variable {X : Cx} {pins : List (Addr × Obj)} {σ : L2.St} {H : Hp} {s : Shared}
theorem call_sorted_gen {x : Value} {xs : List V} {ds : List PyData} {Q : VK} (I : Inv X pins σ H s) (hd : DpAll X.K H xs ds) (hal : AllAlike ds) (hk : Sortable ds) (hL : xs.length ≤ 10000) (hdep : ∀ d ∈ ds, d.depth ≤ 20) (hu : X.A.units + 64 < cLine)
    (hc : ∀ (Q' : List Value → Shared → Prop), (∀ h' tk its, (∀ b o, s.heap.get? b = some o → h'.get? b = some o) → Vals xs its → Q' its { s with heap := h', toks := tk }) → wpAny (model X.prog X.w) X.A.in1 (collect x) Q' X.xe s)
    (q : ∀ ys p, ys.Perm xs → H p = none → Q (.ref p) (upd H p (.lst ys))) : wpAny (model X.prog X.w) X.A (call (.builtin "sorted") [x]) (EP X pins σ Q) X.xe s := by
  refine call_function_entry kind_sorted plain_sorted entry_sorted (args_sorted1 _) ?_
  unfold Builtin.«sorted»
  refine wpAny_bind (m := checkCount "sorted" 1 1 _) (wpAny_pure ?_)
  refine wpAny_bind (hc _ fun h' tk its hk' rv => ?_)
  have hl := rv.length
  refine wpAny_bind (wpAny_newList ?_ (by rw [← hl, sizeLine_eq]; omega))
  have I1 : Inv X pins σ H { s with heap := h', toks := tk } := I.kept (t' := tk) hk'
  obtain ⟨as, rr⟩ := Dp.readsAll I1 ds xs its hd rv
  have hdl := dpall_len hd
  have hnq : ∀ o, h'.get? h'.objs.size = some o → False := fun o e => absurd (Heap.lt_size e) (Nat.lt_irrefl _)
  have kp : ∀ b o, h'.get? b = some o → (h'.push { cls := .type "list", data := .seq its.toArray }).get? b = some o := fun b o e => Heap.get?_push_of_some _ e
  have er : PySem.W.EachIs (fun (u : Value) (b : V × PyData) => ∃ as, Reads (h'.push { cls := .type "list", data := .seq its.toArray }) u b.2 as ∧ h'.objs.size ∉ as) its (xs.zip ds) :=
    (each_reads hnq hdl rr).mono fun _ _ ⟨as, r, n⟩ => ⟨as, PyProof.Rows.Reads.keeps kp r, n⟩
  have ho : (h'.push { cls := .type "list", data := .seq its.toArray }).get? h'.objs.size = some (seqObj "list" its.toArray 0) := Heap.get?_push_size _ rfl
  refine wpAny_bind (wpAny_holding (list_sort_data (enc := fun b : V × PyData => b.2) ho (each_zip (h := h') rv hdl) er (by rw [zip_snd hdl]; exact hal) (by rw [zip_snd hdl]; exact hk) (by rw [List.length_zip, sizeLine_eq]; omega) (fun b hb => ?_) fun out hol eo => ?_))
  · have hm : b.2 ∈ ds := by
      have : b.2 ∈ (xs.zip ds).map (·.2) := List.mem_map.mpr ⟨b, hb, rfl⟩
      rw [zip_snd hdl] at this
      exact this
    have h20 := hdep _ hm
    rw [Around.in1_units]
    omega
  · refine wpAny_pure ⟨_, rfl, ?_⟩
    have rvo := vals_each eo
    obtain ⟨e, he⟩ := sortedHeap_at (out := out.toArray) ho
    have pm : ((xs.zip ds).mergeSort (PySem.W.dataLe false fun b : V × PyData => b.2)).map (·.1) |>.Perm xs := by
      have p1 := (List.mergeSort_perm (xs.zip ds) (PySem.W.dataLe false fun b : V × PyData => b.2)).map (·.1)
      rw [zip_fst hdl] at p1
      exact p1
    have kp2 : ∀ b o, h'.get? b = some o → (sortedHeap (h'.push { cls := .type "list", data := .seq its.toArray }) h'.objs.size its out.toArray).get? b = some o := fun b o e => by
      have lt1 := Heap.lt_size e
      rw [sortedHeap_old (Nat.ne_of_lt lt1) (by rw [Heap.size_push]; exact Nat.lt_succ_of_lt lt1)]
      exact kp b o e
    refine ⟨.ref h'.objs.size, upd H h'.objs.size (.lst _), I1.laid (t' := tk) kp2 (Nat.le_refl _) (show ObjOk X.prog X.w _ _ _ (.lst _) from ⟨?_, out, e, rvo, he⟩), rfl, q _ _ pm (I1.hok.fresh (Nat.le_refl _))⟩
    rw [pm.length_eq, sizeLine_eq]
    omega
/-- sorted(xs), xs a list or a tuple of alike data -/
def rSortD (X : Cx) : List V → Hp → VK → Prop := fun vs H Q => ∃ p xs ds, vs = [.ref p] ∧ (SqL X.K H p xs ∨ SqT X.K H p xs) ∧ DpAll X.K H xs ds ∧ AllAlike ds ∧ Sortable ds ∧ xs.length ≤ 10000 ∧ (∀ d ∈ ds, d.depth ≤ 20) ∧ ∀ ys l, ys.Perm xs → H l = none → Q (.ref l) (upd H l (.lst ys))
theorem cr_sortD (hu : X.A.units + 64 < cLine) : CallR X (.builtin "sorted") (rSortD X) := by
  intro pins s σ H vs us Q I r h
  obtain ⟨p, xs, ds, rfl, hq, hd, hal, hk, hL, hdep, q⟩ := h
  rw [Vals.ref1 r]
  have hz := sizeLine_eq
  rcases hq with hq | hq
  · obtain ⟨its, rv, pl, _⟩ := I.list hq
    obtain ⟨o, ho, hc, n, hdat⟩ := pl.isList
    have hl := rv.length
    exact call_sorted_gen I hd hal hk hL hdep hu (fun Q' k => wpAny_collect_seq p (.inl rfl) ho hc hdat (fun h' hk' => by
      have := k h' s.toks its hk' rv
      simpa using this) (by rw [List.size_toArray]; omega)) q
  · obtain ⟨its, rv, ⟨o, ho, hc, n, hdat⟩, _⟩ := I.tuple hq
    have hl := rv.length
    exact call_sorted_gen I hd hal hk hL hdep hu (fun Q' k => wpAny_collect_seq p (.inr rfl) ho hc hdat (fun h' hk' => by
      have := k h' s.toks its hk' rv
      simpa using this) (by rw [List.size_toArray]; omega)) q
end
theorem reps_perm {K : PySem.W.Frag} {G : Hp} {vs ys : List V} (p : ys.Perm vs) : ∀ {ds : List Dat}, Reps K G ds vs → ∃ es : List Dat, es.Perm ds ∧ Reps K G es ys := by
  induction p with
  | nil => exact fun h => ⟨_, List.Perm.refl _, h⟩
  | cons x _ ih =>
    intro ds h
    cases ds with
    | nil =>
      have e : _ = [] := h
      cases e
    | cons d ds =>
      obtain ⟨v, r, e, h1, h2⟩ := id h
      obtain ⟨e1, e2⟩ := List.cons.inj e
      subst e1 e2
      obtain ⟨es, p1, r1⟩ := ih h2
      exact ⟨d :: es, p1.cons d, Reps.cons h1 r1⟩
  | swap x y l =>
    intro ds h
    cases ds with
    | nil =>
      have e : _ = [] := h
      cases e
    | cons d ds =>
      obtain ⟨v, r, e, h1, h2⟩ := id h
      obtain ⟨e1, e2⟩ := List.cons.inj e
      subst e1 e2
      cases ds with
      | nil =>
        have e : _ = [] := h2
        cases e
      | cons d2 ds =>
        obtain ⟨v, r, e, h3, h4⟩ := id h2
        obtain ⟨e1, e2⟩ := List.cons.inj e
        subst e1 e2
        exact ⟨d2 :: d :: ds, List.Perm.swap d d2 ds, Reps.cons h3 (Reps.cons h1 h4)⟩
  | trans _ _ ih1 ih2 =>
    intro ds h
    obtain ⟨es, p1, r1⟩ := ih2 h
    obtain ⟨fs, p2, r2⟩ := ih1 r1
    exact ⟨fs, p2.trans p1, r2⟩
section
variable {X : Cx} {en : En} {δ : Lv} {e : Expr} {pos p1 : Pos}
/-- sorted(D): the same items in some order -/
theorem jf_sorted {D : Dat} {ds : List Dat} (hD : Seqd D ds) (ha : JE X en e δ (Is D)) (hok : okDs 15 ds = true) (hal : AllAlike (pyDs ds)) (hk : Sortable (pyDs ds)) (hL : ds.length ≤ 10000) (hu : X.A.units + 64 < cLine) (hm : X.mg "sorted" = none) (hg : Gl X "sorted" := by rfl)
    (he : starEach [e] X.env = (false, eval e X.env) :: starEach [] X.env := by rfl) : JF X en (.Call (.Name "sorted" p1) [e] [] pos) δ (fun es => es.Perm ds) :=
  jf_B (ds := [D]) (cr_sortD hu) (ja_c ha ja_nil he) (fun G H vs Q ex rs k => by
    obtain ⟨v, ev, r⟩ := reps1 rs
    have dep : ∀ d ∈ pyDs ds, d.depth ≤ 20 := by
      have h1 := (ok_lays 15 ds hok).2
      have key : ∀ (l : List PyData) (n : Nat), PyData.depthAll l ≤ n → ∀ d ∈ l, d.depth ≤ n := fun l => by
        induction l with
        | nil => exact fun n _ d hd => nomatch hd
        | cons a l ih =>
          intro n h d hd
          have h2 : max a.depth (PyData.depthAll l) ≤ n := by simpa [PyData.depthAll] using h
          rcases List.mem_cons.mp hd with z | z
          · rw [z]; omega
          · exact ih n (by omega) d z
      intro d hd
      exact Nat.le_trans (key _ _ h1 d hd) (by decide)
    have key2 : ∀ (q : Addr) (us : List V), Reps X.K G ds us → (SqL X.K H q us ∨ SqT X.K H q us) → v = .ref q → rSortD X vs H Q := fun q us ru hs eq => by
      have hl := ru.length
      refine ⟨q, us, pyDs ds, by rw [ev, eq], hs, reps_dp ex 15 ds us hok ru, hal, hk, by omega, dep, fun ys l pm hl2 => ?_⟩
      obtain ⟨es, p1, r1⟩ := reps_perm pm ru
      exact k l ys G _ es (Fm.loose ex hl2) p1 upd_same hl2 (none_G ex hl2) r1
    rcases hD with z | z
    · rw [z] at r
      obtain ⟨q, us, eu, hq, ru⟩ := rep_lst r
      exact key2 q us ru (.inl (sqL (ex _ _ hq))) eu
    · rw [z] at r
      obtain ⟨q, us, eu, hq, ru⟩ := rep_tup r
      exact key2 q us ru (.inr (sqT (ex _ _ hq))) eu) hm (by decide +kernel) hg (by decide) (by decide) he
end
end PX
end
section
set_option maxHeartbeats 4000000
/-! a, b = x, y; len(set((i,))). -/
namespace PJ
open PySem PySem.Spec PyProof.Rows L2 PX
section
variable {X : Cx} {en : En} {δ : Lv} {a b c e o : Expr} {es : List Expr} {R : Dat → Prop} {pos p1 p2 pos2 pt pt2 px py : Pos} {kt k2 : Nat} {rest : List Stmt} {P : Po}
theorem jb_par (i j : Nat) {x y : Str} {d1 d2 : Dat} (hN : X.N.Nodup) (ha : JE X en a δ (Is d1)) (hb : JE X en b δ (Is d2)) (k : JB X en rest ((δ.set i (some (.dat d1))).set j (some (.dat d2))) P) (hij : i ≠ j := by decide)
    (hi : X.N[i]? = some x := by rfl) (hj : X.N[j]? = some y := by rfl) (hx : X.env.scope.names.lookup x = some .local := by rfl) (hy : X.env.scope.names.lookup y = some .local := by rfl)
    (hw : swappedStores [.Tuple [.Name x px, .Name y py] kt pt] (.Tuple [a, b] k2 pt2) X.env = pure (some [x, y]) := by kernel_rfl) (hs : swapsWithSole [.Tuple [.Name x px, .Name y py] kt pt] (.Tuple [a, b] k2 pt2) pos.line X.env = pure false := by rfl) (hc : X.calm = true := by rfl)
    (hs1 : starEach [a, b] X.env = (false, eval a X.env) :: starEach [b] X.env := by rfl) (hs2 : starEach [b] X.env = (false, eval b X.env) :: starEach [] X.env := by rfl) :
    JB X en (.Assign [.Tuple [.Name x px, .Name y py] kt pt] (.Tuple [a, b] k2 pt2) pos :: rest) δ P :=
  jb_cons (M := Is ((δ.set i (some (.dat d1))).set j (some (.dat d2)))) (PS.weak (ps_par hc hN hi hj hij hx hy (ja_c ha (ja_c hb ja_nil hs2) hs1) hw hs) fun D σ H ⟨G, S, k1, _⟩ => ⟨G, S, fun vs G1 H1 ss f r ps => by
    rw [show ss = [Sl.dat d1, Sl.dat d2] from r] at ps
    obtain ⟨v, v2, ev, rv, rv2⟩ := reps2 (ArgsOk.reps (ds := [d1, d2]) ps)
    refine ⟨v, v2, ev, ?_⟩
    exact k1 _ G1 H1 _ f.gg ⟨((S.step f).st.set rv i).set rv2 j, (S.step f).f0⟩ rfl⟩) fun δ' q => by rw [show δ' = _ from q]; exact k
/-- the second a new list, one's own -/
theorem jb_parO (i j : Nat) {x y : Str} {d1 : Dat} {ds : List Dat} (hN : X.N.Nodup) (ha : JE X en a δ (Is d1)) (hb : JF X en b δ (Is ds)) (k : JB X en rest ((δ.set i (some (.dat d1))).set j (some (.own ds))) P) (hij : i ≠ j := by decide)
    (hi : X.N[i]? = some x := by rfl) (hj : X.N[j]? = some y := by rfl) (hx : X.env.scope.names.lookup x = some .local := by rfl) (hy : X.env.scope.names.lookup y = some .local := by rfl)
    (hw : swappedStores [.Tuple [.Name x px, .Name y py] kt pt] (.Tuple [a, b] k2 pt2) X.env = pure (some [x, y]) := by kernel_rfl) (hs : swapsWithSole [.Tuple [.Name x px, .Name y py] kt pt] (.Tuple [a, b] k2 pt2) pos.line X.env = pure false := by rfl) (hc : X.calm = true := by rfl)
    (hs1 : starEach [a, b] X.env = (false, eval a X.env) :: starEach [b] X.env := by rfl) (hs2 : starEach [b] X.env = (false, eval b X.env) :: starEach [] X.env := by rfl) :
    JB X en (.Assign [.Tuple [.Name x px, .Name y py] kt pt] (.Tuple [a, b] k2 pt2) pos :: rest) δ P :=
  jb_cons (M := Is ((δ.set i (some (.dat d1))).set j (some (.own ds)))) (PS.weak (ps_par hc hN hi hj hij hx hy (pa_cons ha (pa_cons hb pa_nil hs2) hs1) hw hs) fun D σ H ⟨G, S, k1, _⟩ => ⟨G, S, fun v G1 H1 d f r p => ⟨G1, S.step f, fun q vs G2 H2 es f2 r2 hq h0 hg rs => by
    rw [show d = d1 from r] at p
    rw [show es = ds from r2] at rs
    refine ⟨v, .ref q, rfl, ?_⟩
    have S2 := (S.step f).step f2
    have S3 := S2.st.set (p.mono f2.gg) i
    have ff := f.trans f2
    refine k1 _ G2 H2 _ ff.gg ⟨S3.setOwn hq ((S.f0.trans f).none_of h0) hg rs j (fun jj fs hne hjj => ?_), S2.f0⟩ rfl
    rcases set_at hjj with ⟨_, e2, _⟩ | ⟨n1, k1'⟩
    · cases e2
    · rw [List.getElem?_set_ne n1]
      exact own_apart (G' := G1) (H' := H1) (S.step f) h0 jj fs k1'⟩⟩) fun δ' q => by rw [show δ' = _ from q]; exact k
/-- len(set((i,))) -/
theorem je_lenSet1 {n : Int} (ha : JE X en a δ (Is (.tup [.int n]))) (hm : X.mg "len" = none) (hm2 : X.mg "set" = none) (hc : X.calm = true := by rfl) (hg : Gl X "len" := by rfl) (hg2 : Gl X "set" := by rfl) (na : starEach [a] X.env = (false, eval a X.env) :: starEach [] X.env := by rfl) :
    JE X en (.Call (.Name "len" p1) [.Call (.Name "set" p2) [a] [] pos2] [] pos) δ (Is (.int 1)) := ⟨fun pins s σ H Q I ⟨G, S, k⟩ => by
  refine Call_ (ld_blt I hg hm PySem.boot_len ?_)
  refine PyProof.Rows.callWith_builtin1 (PyProof.Rows.args_cons ?_ rfl) rfl rfl
  refine Call_ (ld_blt I hg2 hm2 PyProof.Rows.boot_set ?_)
  refine PyProof.Rows.callWith_type1 (PyProof.Rows.args_cons (thn (ha.run pins s σ H (fun v H' => ∃ G', Fm en.da G H G' H' ∧ Rep X.K G' (.tup [.int n]) v) I ⟨G, S, fun v G' H' d f r p => ⟨G', f, by rw [show d = _ from r] at p; exact p⟩⟩) fun v s1 ⟨x, H1, I1, r1, G1, f1, p1⟩ => PyProof.Rows.args_nil ?_) na) na rfl
  obtain ⟨q, vs, eq, hq, rs⟩ := rep_tup p1
  obtain ⟨u, eu, ru⟩ := reps1 rs
  have eu2 : u = .int n := ru
  subst eq eu eu2
  cases r1
  obtain ⟨its, rv, pt, hz⟩ := I1.tuple (sqT (K := X.K) (f1.gh _ _ hq))
  have hi : IntsAre its.toArray.toList [n] := by
    have := Vals.ints (ns := [n]) rv
    simpa using this
  refine call_set_tupI [n] (I1.ok.hd hc) pt hi (by show 2 < scanBound; unfold scanBound; omega) fun h' tk cc R1 hcn kp => ?_
  obtain ⟨oo, es, ep, t, ho, hex, hdt, g, nd, hm3, hb, hf, hn, hr, hl2⟩ := R1
  refine PyProof.Rows.args_nil ?_
  have I2 : Inv X pins σ H1 { s1 with heap := h', toks := tk } := I1.kept (t' := tk) kp
  have e1 : es.size = 1 := by
    have hmem := (hm3 n).mp (by simp)
    have hpos : 0 < es.size := by
      rcases Nat.eq_zero_or_pos es.size with z | z
      · have : es.toList = [] := List.length_eq_zero_iff.mp (by rw [Array.length_toList]; exact z)
        rw [this] at hmem
        simp at hmem
      · exact z
    have hc1 : cc ≤ 1 := hcn
    omega
  exact call_len_set ho hex hdt hf (by rw [e1]; decide) ⟨.int 1, H1, I2.tok _, ⟨_, by rw [e1]; rfl⟩, k _ G1 H1 _ f1 rfl rfl⟩⟩
end
end PJ
end
section
set_option maxHeartbeats 4000000
/-! The dict of costs: keys (start, stop, (guard,)). -/
namespace PW
open PySem PySem.Spec PyProof.Rows L2 PJ PF PX
open PySem.W (AllAlike Sortable kdu_collect)

def key3 (a : Arr) : NestedKey := .tup [.num (a.s : Int), .num (a.t : Int), .tup [.num (a.g : Int)]]
def keyD (a : Arr) : Dat := .tup [.int (a.s : Int), .int (a.t : Int), .tup [.int (a.g : Int)]]
def sameM (a b : Arr) : Prop := a.s = b.s ∧ a.t = b.t ∧ a.g = b.g
theorem key3_inj {a b : Arr} (h : key3 a = key3 b) : sameM a b := by
  unfold key3 at h
  injection h with h
  injection h with h1 h
  injection h with h2 h
  injection h with h3 _
  injection h1 with h1
  injection h2 with h2
  injection h3 with h3
  injection h3 with h3 _
  injection h3 with h3
  exact ⟨by omega, by omega, by omega⟩
theorem key3_of {a b : Arr} (h : sameM a b) : key3 a = key3 b := by
  unfold key3
  rw [h.1, h.2.1, h.2.2]
abbrev YE := NestedKey × Addr × Value
def yOk (y : YE) (a : Arr) (v : V) : Prop := y.1 = key3 a ∧ v = .ref y.2.1 ∧ ∃ t, y.2.2 = .int a.c t
inductive YS : List YE → List Arr → List V → Prop
  | nil : YS [] [] []
  | cons {y : YE} {a : Arr} {v : V} {ys : List YE} {as : List Arr} {vs : List V} : yOk y a v → YS ys as vs → YS (y :: ys) (a :: as) (v :: vs)
theorem YS.snoc {y : YE} {a : Arr} {v : V} : ∀ {ys : List YE} {as : List Arr} {vs : List V}, YS ys as vs → yOk y a v → YS (ys ++ [y]) (as ++ [a]) (vs ++ [v])
  | _, _, _, .nil, h => .cons h .nil
  | _, _, _, .cons h1 r, h => .cons h1 (r.snoc h)
theorem YS.len : ∀ {ys : List YE} {as : List Arr} {vs : List V}, YS ys as vs → ys.length = as.length ∧ vs.length = as.length
  | _, _, _, .nil => ⟨rfl, rfl⟩
  | _, _, _, .cons _ r => ⟨by rw [List.length_cons, List.length_cons, r.len.1], by rw [List.length_cons, List.length_cons, r.len.2]⟩
theorem YS.find : ∀ {ys : List YE} {as : List Arr} {vs : List V} (k : NestedKey), YS ys as vs → ((∃ a ∈ as, key3 a = k) ∧ ∃ p, atKey ys k = some p) ∨ ((∀ a ∈ as, key3 a ≠ k) ∧ atKey ys k = none)
  | _, _, _, k, .nil => .inr ⟨fun a h => (by cases h), rfl⟩
  | _, _, _, k, @YS.cons y a v ys as vs h1 r => by
    by_cases e : y.1 = k
    · refine .inl ⟨⟨a, List.mem_cons_self, by rw [← h1.1]; exact e⟩, y.2, ?_⟩
      unfold atKey
      rw [List.find?_cons_of_pos (by simp [e])]
      rfl
    · have q : atKey (y :: ys) k = atKey ys k := by
        unfold atKey
        rw [List.find?_cons_of_neg (by simp [e])]
      rcases YS.find k r with ⟨⟨b, hb, eb⟩, p, hp⟩ | ⟨n1, n2⟩
      · exact .inl ⟨⟨b, List.mem_cons_of_mem _ hb, eb⟩, p, by rw [q]; exact hp⟩
      · refine .inr ⟨fun b hb => ?_, by rw [q]; exact n2⟩
        rcases List.mem_cons.mp hb with z | z
        · rw [z, ← h1.1]
          exact e
        · exact n1 b z
theorem YS.at_ : ∀ {ys : List YE} {as : List Arr} {vs : List V} {a : Arr}, YS ys as vs → (ys.map (·.1)).Nodup → a ∈ as → ∃ p t, atKey ys (key3 a) = some (p, .int a.c t)
  | _, _, _, a, .nil, _, h => by cases h
  | _, _, _, a, @YS.cons y b v ys as vs h1 r, hn, h => by
    rw [List.map_cons, List.nodup_cons] at hn
    rcases List.mem_cons.mp h with z | z
    · obtain ⟨t, ht⟩ := h1.2.2
      refine ⟨y.2.1, t, ?_⟩
      unfold atKey
      rw [List.find?_cons_of_pos (by simp [h1.1, z])]
      show some y.2 = _
      rw [z, ← ht]
    · obtain ⟨p, t, hp⟩ := YS.at_ r hn.2 z
      have ne : ¬ y.1 = key3 a := fun e => by
        apply hn.1
        have : key3 a ∈ ys.map (·.1) := by
          unfold atKey at hp
          obtain ⟨q, hq, _⟩ := Option.map_eq_some_iff.mp hp
          have h1 := List.mem_of_find?_eq_some hq
          have h2 := List.find?_some hq
          simp only [decide_eq_true_eq] at h2
          exact List.mem_map.mpr ⟨q, h1, h2⟩
        rw [e]
        exact this
      refine ⟨p, t, ?_⟩
      unfold atKey at hp ⊢
      rw [List.find?_cons_of_neg (by simp [ne])]
      exact hp
theorem YS.keys : ∀ {ys : List YE} {as : List Arr} {vs : List V}, YS ys as vs → ys.map (·.1) = as.map key3
  | _, _, _, .nil => rfl
  | _, _, _, .cons h1 r => by rw [List.map_cons, List.map_cons, h1.1, r.keys]
/-- what the dict's object tells -/
def DicP (P : Program) (w : World) (as : List Arr) (p : Addr) (vs : List V) (h : Heap) : Prop :=
  (p == sysModules) = false ∧ (as.map key3).Nodup ∧ ∃ o es ep ys, h.get? p = some o ∧ o.ExactDict ∧ o.data = .dict es ep ∧ es.toList = ys.map (entryOfKey (nestedKind P w)) ∧ YS ys as vs
def mkDic (P : Program) (w : World) (as : List Arr) (p : Addr) (vs : List V) : HO := .ext (DicP P w as p vs)
theorem odd_dic {P : Program} {w : World} {as : List Arr} {p : Addr} {vs : List V} : Odd (mkDic P w as p vs) := ⟨fun _ e => (by cases e), fun _ _ _ e => (by cases e), fun _ e => (by cases e)⟩
theorem dic_ok {P : Program} {w : World} {as : List Arr} {p : Addr} {vs : List V} {H : Hp} {h : Heap} (d : DicP P w as p vs h) : ObjOk P w H h p (mkDic P w as p vs) := by
  have d' := d
  obtain ⟨h1, h2, o, es, ep, ys, ho, r⟩ := d'
  exact ⟨d, ⟨o, ho⟩, fun g1 g2 ⟨q1, q2, o', es', ep', ys', ho', r'⟩ k => ⟨q1, q2, o', es', ep', ys', k _ ho', r'⟩⟩
section
variable {X : Cx} {pins : List (Addr × Obj)} {σ : L2.St} {H G : Hp} {s : Shared}
theorem tup_at (I : Inv X pins σ H s) {p : Addr} {vs : List V} (h : H p = some (.tup vs)) : ∃ (o : Obj) (its : List Value) (n : Nat), s.heap.get? p = some o ∧ o.cls = .type "tuple" ∧ o.data = .seq its.toArray n ∧ Vals vs its := by
  obtain ⟨its, r, ⟨o, ho, hc, n, hd⟩, hz⟩ := I.tuple (sqT (K := X.K) h)
  exact ⟨o, its, n, ho, hc, hd, r⟩
theorem nested_at (I : Inv X pins σ H s) (gh : Gh G H) {a : Arr} {v : V} (r : Rep X.K G (keyD a) v) : ∃ q, v = .ref q ∧ (nestedKind X.prog X.w).is s.heap (key3 a) q := by
  obtain ⟨p, vs, ev, hp, rs⟩ := rep_tup r
  obtain ⟨v1, r1, e1, q1, rs⟩ := (show ∃ v r, vs = v :: r ∧ Rep X.K G (.int (a.s : Int)) v ∧ Reps X.K G [.int (a.t : Int), .tup [.int (a.g : Int)]] r from rs)
  obtain ⟨v2, r2, e2, q2, rs⟩ := (show ∃ v r, r1 = v :: r ∧ Rep X.K G (.int (a.t : Int)) v ∧ Reps X.K G [.tup [.int (a.g : Int)]] r from rs)
  obtain ⟨v3, e3, q3⟩ := reps1 rs
  obtain ⟨p3, vs3, ev3, hp3, rs3⟩ := rep_tup q3
  obtain ⟨v4, e4, q4⟩ := reps1 rs3
  have f1 : v1 = .int (a.s : Int) := q1
  have f2 : v2 = .int (a.t : Int) := q2
  have f4 : v4 = .int (a.g : Int) := q4
  subst e1 e2 e3 e4 f1 f2 f4 ev3
  obtain ⟨o, its, n, ho, hc, hd, rv⟩ := tup_at I (gh _ _ hp)
  obtain ⟨o3, its3, n3, ho3, hc3, hd3, rv3⟩ := tup_at I (gh _ _ hp3)
  cases rv with
  | cons x1 rv =>
    cases rv with
    | cons x2 rv =>
      cases rv with
      | cons x3 rv =>
        cases rv
        cases rv3 with
        | cons x4 rv3 =>
          cases rv3
          obtain ⟨t1, rfl⟩ := x1
          obtain ⟨t2, rfl⟩ := x2
          obtain ⟨t4, rfl⟩ := x4
          cases x3
          refine ⟨p, ev, .tup ho hc hd (.cons (.int _ _) (.cons (.int _ _) (.cons (.tup ho3 hc3 hd3 (.cons (.int _ _) .nil)) .nil))), ?_⟩
          first
            | decide
            | (show NestedKey.depth _ ≤ 8; simp [key3, NestedKey.depth, NestedKey.depthAll])
theorem all_nested (I : Inv X pins σ H s) (gh : Gh G H) : ∀ {ys : List YE} {as : List Arr} {vs : List V}, YS ys as vs → Reps X.K G (as.map keyD) vs → ∀ y ∈ ys, (nestedKind X.prog X.w).is s.heap y.1 y.2.1
  | _, _, _, .nil, _, y, h => by cases h
  | _, _, _, @YS.cons y0 a v ys as vs h1 r, rs, y, h => by
    obtain ⟨v', r', e, q, rs'⟩ := (show ∃ v' r', v :: vs = v' :: r' ∧ Rep X.K G (keyD a) v' ∧ Reps X.K G (as.map keyD) r' from rs)
    obtain ⟨e1, e2⟩ := List.cons.inj e
    subst e1 e2
    rcases List.mem_cons.mp h with z | z
    · obtain ⟨p, ev, k⟩ := nested_at I gh q
      rw [z, h1.1]
      have : v = .ref y0.2.1 := h1.2.1
      rw [this] at ev
      injection ev with ev
      rw [ev]
      exact k
    · exact all_nested I gh r rs' y z
theorem dict_at (I : Inv X pins σ H s) (gh : Gh G H) {as : List Arr} {p : Addr} {vs : List V} (h : H p = some (mkDic X.prog X.w as p vs)) (rs : Reps X.K G (as.map keyD) vs) :
    (p == sysModules) = false ∧ (as.map key3).Nodup ∧ ∃ ys, YS ys as vs ∧ s.heap.DictOfH (nestedKind X.prog X.w) p ys := by
  obtain ⟨⟨h1, h2, o, es, ep, ys, ho, hx, hd, he, hy⟩, _⟩ := I.hok p _ h
  exact ⟨h1, h2, ys, hy, o, es, ep, ho, hx, hd, he, all_nested I gh hy rs, by rw [hy.keys]; exact h2⟩
end
/-! ### the rules by values -/
/-- H p is the dict of as, whose keys stand for them -/
def DicAt (X : Cx) (G H : Hp) (as : List Arr) (p : Addr) (vs : List V) : Prop := Gh G H ∧ H p = some (mkDic X.prog X.w as p vs) ∧ Reps X.K G (as.map keyD) vs ∧ as.length ≤ 1000
def rInDic (X : Cx) : R2 := fun x y H Q => ∃ G as p vs a, y = .ref p ∧ DicAt X G H as p vs ∧ Rep X.K G (keyD a) x ∧ ((∃ b ∈ as, sameM b a) → Q (.bl true) H) ∧ ((∀ b ∈ as, ¬ sameM b a) → Q (.bl false) H)
theorem op_inDic {X : Cx} (hu : X.A.units + 64 < cLine) : OpR X (compareOp .In) (rInDic X) := by
  intro pins s σ H x y v u Q I rx ry h
  obtain ⟨G, as, p, vs, a, rfl, ⟨gh, hp, rs, _⟩, ra, q1, q2⟩ := h
  cases ry
  obtain ⟨h1, h2, ys, hy, D⟩ := dict_at I gh hp rs
  obtain ⟨q, rfl, k⟩ := nested_at I gh ra
  cases rx
  refine wpAny_in_heap (show X.A.in1.units + 8 < cLine from by rw [Around.in1_units]; omega) k h1 D ?_
  rcases hy.find (key3 a) with ⟨⟨b, hb, eb⟩, z, hz⟩ | ⟨n1, n2⟩
  · rw [hz]
    exact ⟨.bl true, H, I.tok _, rfl, q1 ⟨b, hb, key3_inj eb⟩⟩
  · rw [n2]
    exact ⟨.bl false, H, I.tok _, rfl, q2 fun b hb e => n1 b hb (key3_of e)⟩
def rIxDic (X : Cx) : R2 := fun x y H Q => ∃ G as p vs a, x = .ref p ∧ DicAt X G H as p vs ∧ Rep X.K G (keyD a) y ∧ a ∈ as ∧ Q (.int a.c) H
theorem ix_dic {X : Cx} (hu : X.A.units + 64 < cLine) : IxR X (rIxDic X) := by
  intro value slice pins s σ H x y v u Q I rx ry h hsub
  obtain ⟨G, as, p, vs, a, rfl, ⟨gh, hp, rs, _⟩, ra, hm, q⟩ := h
  cases rx
  obtain ⟨h1, h2, ys, hy, D⟩ := dict_at I gh hp rs
  obtain ⟨k0, rfl, k⟩ := nested_at I gh ra
  cases ry
  obtain ⟨z, t, hz⟩ := hy.at_ (by rw [hy.keys]; exact h2) hm
  exact subscriptTail_builtinR (x := .int a.c t) D.typeIs PySem.F.slot_dict_getitem.lookup
    (wpAny_getItem_heap (Q := fun r s' => r = .int a.c t ∧ EP X pins σ Q r s') (show X.A.in1.units + 8 < cLine from by rw [Around.in1_units]; omega) k D hz ⟨rfl, .int a.c, H, I.tok _, ⟨t, rfl⟩, q⟩) hsub
theorem stored_new {ys : List YE} {k : NestedKey} (h : atKey ys k = none) (q : Addr) (u : Value) : storedH ys k q u = ys ++ [(k, q, u)] := storedH_new h q u
def rSetDic (X : Cx) : V → V → V → Hp → (Hp → Prop) → Prop := fun o i v H Q => ∃ G as p vs a, o = .ref p ∧ DicAt X G H as p vs ∧ Rep X.K G (keyD a) i ∧ v = .int a.c ∧ (∀ b ∈ as, ¬ sameM b a) ∧ Q (upd H p (mkDic X.prog X.w (as ++ [a]) p (vs ++ [i])))
theorem set_dic {X : Cx} (hu : X.A.units + 64 < cLine) : PSet X (rSetDic X) := by
  intro pins s σ H o i v ov iv u Q I ro ri rv h
  obtain ⟨G, as, p, vs, a, rfl, ⟨gh, hp, rs, hl⟩, ra, rfl, hno, q⟩ := h
  cases ro
  obtain ⟨t, rfl⟩ := rv
  obtain ⟨h1, h2, ys, hy, D⟩ := dict_at I gh hp rs
  obtain ⟨k0, rfl, k⟩ := nested_at I gh ra
  cases ri
  rcases hy.find (key3 a) with ⟨⟨b, hb, eb⟩, _⟩ | ⟨n1, n2⟩
  · exact absurd (key3_inj eb) (hno b hb)
  · refine wpAny_setItem_heap (hsz := by have := hy.len.1; rw [sizeLine_eq]; omega) (show X.A.in1.units + 8 < cLine from by rw [Around.in1_units]; omega) k D fun h' D' sb => ?_
    rw [stored_new n2] at D'
    obtain ⟨oo, es, ep, ho, hx, hd, he, hn1, hn2⟩ := D'
    have new : ObjOk X.prog X.w (upd H p (mkDic X.prog X.w (as ++ [a]) p (vs ++ [.ref k0]))) h' p (mkDic X.prog X.w (as ++ [a]) p (vs ++ [.ref k0])) := by
      refine dic_ok ⟨h1, ?_, oo, es, ep, _, ho, hx, hd, he, hy.snoc ⟨rfl, rfl, t, rfl⟩⟩
      rw [List.map_append, ← hy.keys]
      rw [List.map_append] at hn2
      exact hn2
    exact ⟨_, I.write (t' := _) (x := p) (e := p) (by rw [hp]; exact trivial) (.inl rfl) (fun b o hb e => (sb.2 b hb).trans e) ⟨oo, ho⟩ new, q⟩
def tNewDic (X : Cx) : TE := fun _ H Q => ∀ p, H p = none → Q (.ref p) (upd H p (mkDic X.prog X.w [] p []))
theorem pe_newDic {X : Cx} {pos : Pos} : PE X (.Dict [] [] pos) (tNewDic X) := ⟨fun pins s σ H Q I h =>
  wpAny_Dict_empty ⟨.ref s.heap.objs.size, _, I.laid (a := s.heap.objs.size) (t' := s.toks) (fun _ _ q => Heap.get?_push_of_some _ q) (Nat.le_refl _)
    (dic_ok ⟨beq_eq_false_iff_ne.mpr (Ne.symm (Nat.ne_of_lt I.big)), by simp, _, #[], 0, [], Heap.get?_push_size _ rfl, ⟨rfl, rfl, rfl⟩, rfl, rfl, .nil⟩), rfl, h _ (I.hok.fresh (Nat.le_refl _))⟩⟩
theorem YS.val_at : ∀ {ys : List YE} {as : List Arr} {vs : List V}, YS ys as vs → Vals vs (ys.map fun y => Value.ref y.2.1)
  | _, _, _, .nil => .nil
  | _, _, _, @YS.cons y a v ys as vs h1 r => by
    have e : v = .ref y.2.1 := h1.2.1
    rw [e]
    exact .cons rfl r.val_at
theorem okDs_keys : ∀ as : List Arr, okDs 15 (as.map keyD) = true
  | [] => by simp [okDs]
  | a :: as => by
    show (okD 15 (keyD a) && okDs 15 (as.map keyD)) = true
    rw [okDs_keys as]
    rfl
theorem alike_keys (as : List Arr) : AllAlike (pyDs (as.map keyD)) := by
  have e : pyDs (as.map keyD) = as.map fun a => pyD (keyD a) := by
    induction as with
    | nil => rfl
    | cons a as ih => rw [List.map_cons, List.map_cons, ← ih]; rfl
  rw [e]
  exact PySem.W.AllAlike.of (enc := fun a => pyD (keyD a)) fun b b' => by simp [keyD, pyD, pyDs, PySem.W.alike, PySem.W.alikeAll]
theorem sortable_keys (as : List Arr) : Sortable (pyDs (as.map keyD)) := by
  have e : pyDs (as.map keyD) = as.map fun a => pyD (keyD a) := by
    induction as with
    | nil => rfl
    | cons a as ih => rw [List.map_cons, List.map_cons, ← ih]; rfl
  rw [e]
  exact PySem.W.Sortable.tuples (enc := fun a => pyD (keyD a)) fun b => ⟨_, _, rfl⟩
def rSortDic (X : Cx) : List V → Hp → VK → Prop := fun xs H Q => ∃ G as p vs, xs = [.ref p] ∧ DicAt X G H as p vs ∧ ∀ ys l, ys.Perm vs → H l = none → Q (.ref l) (upd H l (.lst ys))
theorem cr_sortDic {X : Cx} (hc : X.calm = true) (hu : X.A.units + 64 < cLine) : CallR X (.builtin "sorted") (rSortDic X) := by
  intro pins s σ H xs us Q I r h
  obtain ⟨G, as, p, vs, rfl, ⟨gh, hp, rs, hl⟩, q⟩ := h
  rw [Vals.ref1 r]
  obtain ⟨h1, h2, ys, hy, D⟩ := dict_at I gh hp rs
  obtain ⟨o, es, ep, ho, hx, hd, he, _, _⟩ := D
  have raw : s.heap.DictRaw p es ep := ⟨o, ho, hx, hd⟩
  have hls : es.size = as.length := by rw [← Array.length_toList, he, List.length_map, hy.len.1]
  refine call_sorted_gen I (reps_dp gh 15 (as.map keyD) vs (okDs_keys as) rs) (alike_keys as) (sortable_keys as) (by have := hy.len.2; omega) (fun d hd => ?_) hu (fun Q' k => ?_) q
  · have h1 := (ok_lays 15 (as.map keyD) (okDs_keys as)).2
    have key : ∀ (l : List PyData) (n : Nat), PyData.depthAll l ≤ n → ∀ d ∈ l, d.depth ≤ n := fun l => by
      induction l with
      | nil => exact fun n _ d hd => nomatch hd
      | cons a l ih =>
        intro n h d hd
        have h2 : max a.depth (PyData.depthAll l) ≤ n := by simpa [PyData.depthAll] using h
        rcases List.mem_cons.mp hd with z | z
        · rw [z]; omega
        · exact ih n (by omega) d z
    exact Nat.le_trans (key _ _ h1 d hd) (by decide)
  · refine kdu_collect (PySem.KdlSrc.rawDict h1) (show X.A.in1.handled = none from I.ok.hd hc) raw (by rw [hls, sizeLine_eq]; omega) fun h' tk acc hk' hacc => k h' tk acc.toList hk' ?_
    have e : acc.toList = ys.map fun y => Value.ref y.2.1 := by
      refine List.ext_getElem? fun j => ?_
      have hsz : acc.size = es.size := hacc.1
      by_cases hj : j < es.size
      · have hj2 : j < ys.length := by rw [hy.len.1, ← hls]; exact hj
        have hj3 : j < acc.toList.length := by rw [Array.length_toList, hsz]; exact hj
        obtain ⟨hi, ek⟩ := hacc.2 j acc.toList[j] (by rw [← Array.getElem?_toList]; exact List.getElem?_eq_getElem hj3)
        rw [List.getElem?_eq_getElem hj3, ek, List.getElem?_map, List.getElem?_eq_getElem hj2]
        have e2 : es.toList[j]? = (ys.map (entryOfKey (nestedKind X.prog X.w)))[j]? := by rw [he]
        rw [Array.getElem?_toList, Array.getElem?_eq_getElem hi, List.getElem?_map, List.getElem?_eq_getElem hj2] at e2
        have e3 := Option.some.inj e2
        rw [e3]
        rfl
      · rw [List.getElem?_eq_none (by rw [Array.length_toList, hsz]; omega), List.getElem?_eq_none (by rw [List.length_map, hy.len.1, ← hls]; omega)]
    rw [e]
    exact hy.val_at
end PW
end
section
set_option maxHeartbeats 4000000
/-! The dict of costs over data. -/
namespace PW
open PySem PySem.Spec PyProof.Rows L2 PJ PF PX

theorem perm_map_ex {α β : Type} (f : α → β) {es l : List β} (p : es.Perm l) : ∀ as : List α, l = as.map f → ∃ bs : List α, bs.Perm as ∧ es = bs.map f := by
  induction p with
  | nil =>
    intro as h
    cases as with
    | nil => exact ⟨[], List.Perm.refl _, rfl⟩
    | cons _ _ => cases h
  | cons x _ ih =>
    intro as h
    cases as with
    | nil => cases h
    | cons a as =>
      rw [List.map_cons] at h
      obtain ⟨e1, e2⟩ := List.cons.inj h
      obtain ⟨bs, p1, e3⟩ := ih as e2
      exact ⟨a :: bs, p1.cons a, by rw [List.map_cons, e1, e3]⟩
  | swap x y l =>
    intro as h
    cases as with
    | nil => cases h
    | cons a as =>
      rw [List.map_cons] at h
      obtain ⟨e1, e2⟩ := List.cons.inj h
      cases as with
      | nil => cases e2
      | cons b as =>
        rw [List.map_cons] at e2
        obtain ⟨e3, e4⟩ := List.cons.inj e2
        exact ⟨b :: a :: as, List.Perm.swap a b as, by rw [List.map_cons, List.map_cons, e1, e3, e4]⟩
  | trans _ _ ih1 ih2 =>
    intro as h
    obtain ⟨bs, p1, e1⟩ := ih2 as h
    obtain ⟨cs, p2, e2⟩ := ih1 bs e1
    exact ⟨cs, p2.trans p1, e2⟩
theorem setDcs {K : PySem.W.Frag} {da : Option Addr} {H0 G H : Hp} {σ : L2.St} {δ : Lv} (S : StOk K da H0 G H σ δ) {mk : Addr → List V → HO} {ks : List Dat} {vs : List V} {p : Addr} (hp : H p = some (mk p vs)) (od : Odd (mk p vs)) (h0 : H0 p = none) (hg : G p = none) (r : Reps K G ks vs) (i : Nat) :
    StOk K da H0 G H (σ.set i (some (.ref p))) (δ.set i (some (.dcs mk ks))) where
  gh := S.gh
  dr := S.dr
  len := by rw [List.length_set, List.length_set, S.len]
  at_ := fun j sl h => by
    rcases set_at h with ⟨e, e2, hl⟩ | ⟨e, h2⟩
    · rw [← e]
      have e3 : sl = .dcs mk ks := (Option.some.inj e2).symm
      rw [e3]
      exact ⟨.ref p, set_eq (by rw [S.len]; exact hl), p, vs, rfl, hp, od, h0, hg, r⟩
    · obtain ⟨u, h1, h3⟩ := S.at_ j sl h2
      exact ⟨u, by rw [List.getElem?_set_ne e]; exact h1, h3⟩
  sep := fun a b ds es p h1 h2 h3 h4 => by
    rcases set_at h1 with ⟨_, e2, _⟩ | ⟨n1, k1⟩
    · cases e2
    · rcases set_at h2 with ⟨_, e2, _⟩ | ⟨n2, k2⟩
      · cases e2
      · rw [List.getElem?_set_ne n1] at h3
        rw [List.getElem?_set_ne n2] at h4
        exact S.sep a b ds es p k1 k2 h3 h4
/-- the one odd object at i is written -/
theorem putDcs {K : PySem.W.Frag} {da : Option Addr} {H0 G H : Hp} {σ : L2.St} {δ : Lv} (S : StOk K da H0 G H σ δ) {mk mk' : Addr → List V → HO} {ks es : List Dat} {vs us : List V} {p : Addr} {i : Nat} (hi : δ[i]? = some (some (.dcs mk ks))) (hs : σ[i]? = some (some (.ref p)))
    (hp : H p = some (mk p vs)) (od : Odd (mk p vs)) (od' : Odd (mk' p us)) (h0 : H0 p = none) (hg : G p = none) (r : Reps K G es us) (one : ∀ (j : Nat) (m : Addr → List V → HO) (fs : List Dat), δ[j]? = some (some (.dcs m fs)) → j = i) :
    StOk K da H0 G (upd H p (mk' p us)) σ (δ.set i (some (.dcs mk' es))) where
  gh := fun b o q => by
    have n : b ≠ p := fun z => by
      rw [z, hg] at q
      cases q
    rw [upd_ne n]
    exact S.gh b o q
  dr := fun a e => ⟨(S.dr a e).1, by
    obtain ⟨⟨o, ho⟩, pos, nb, ns, h1, h2, h3, h4⟩ := S.dr a e
    have n : a ≠ p := fun z => by
      rw [z, h0] at ho
      cases ho
    exact ⟨pos, nb, ns, by rw [upd_ne n]; exact h1, h2, h3, h4⟩⟩
  len := by rw [List.length_set, S.len]
  at_ := fun j sl h => by
    rcases set_at h with ⟨e, e2, hl⟩ | ⟨e, h2⟩
    · rw [← e]
      have e3 : sl = .dcs mk' es := (Option.some.inj e2).symm
      rw [e3]
      exact ⟨.ref p, hs, p, us, rfl, upd_same, od', h0, hg, r⟩
    · obtain ⟨u, h1, h3⟩ := S.at_ j sl h2
      refine ⟨u, h1, ?_⟩
      cases sl with
      | dat d => exact h3
      | own fs =>
        obtain ⟨q, ws2, eu, hq, a0, ag, ar⟩ := h3
        refine ⟨q, ws2, eu, ?_, a0, ag, ar⟩
        have n : q ≠ p := fun z => by
          rw [z, hp] at hq
          exact od.1 _ (Option.some.inj hq)
        rw [upd_ne n]
        exact hq
      | drw => exact h3
      | slf q c fs =>
        obtain ⟨dx, ws2, eu, hq, a0, ag, ar⟩ := h3
        refine ⟨dx, ws2, eu, ?_, a0, ag, ar⟩
        have n : q ≠ p := fun z => by
          rw [z, hp] at hq
          exact od.2.1 _ _ _ (Option.some.inj hq)
        rw [upd_ne n]
        exact hq
      | dcs m fs => exact absurd (one j m fs h2) (fun z => e z.symm)
  sep := fun a b d1 d2 q h1 h2 h3 h4 => by
    have f : ∀ (c' : Nat) (d : List Dat), (δ.set i (some (.dcs mk' es)))[c']? = some (some (.own d)) → δ[c']? = some (some (.own d)) := fun c' d h => by
      rcases set_at h with ⟨e1, x1, l1⟩ | ⟨n1, k1⟩
      · cases x1
      · exact k1
    exact S.sep a b d1 d2 q (f a d1 h1) (f b d2 h2) h3 h4
theorem freezeD {K : PySem.W.Frag} {da : Option Addr} {H0 G H : Hp} {σ : L2.St} {δ : Lv} (S : StOk K da H0 G H σ δ) {mk : Addr → List V → HO} {ks : List Dat} {i : Nat} (hi : δ[i]? = some (some (.dcs mk ks))) (one : ∀ (j : Nat) (m : Addr → List V → HO) (fs : List Dat), δ[j]? = some (some (.dcs m fs)) → j = i) :
    ∃ G', Ex G G' ∧ (∀ b o, H0 b = some o → G' b = G b) ∧ StOk K da H0 G' H σ (δ.set i (some (.dat (.obj mk ks)))) := by
  obtain ⟨v, hs, p, vs, ev, hp, od, h0, hg, r⟩ := S.at_ i _ hi
  rw [ev] at hs
  have gg : Ex G (upd G p (mk p vs)) := Ex.new hg
  refine ⟨upd G p (mk p vs), gg, fun b o q => upd_ne (fun z => by rw [z, h0] at q; cases q), ?_, fun a e => ⟨(S.dr a e).1, ?_⟩, by rw [List.length_set, S.len], fun j sl h => ?_, fun a b d1 d2 q h1 h2 h3 h4 => ?_⟩
  · intro b o q
    by_cases hb : b = p
    · rw [hb, upd_same] at q
      rw [hb, hp, ← Option.some.inj q]
      exact HoOk.same od.2.2
    · rw [upd_ne hb] at q
      exact S.gh b o q
  · obtain ⟨⟨o, ho⟩, pos, nb, ns, h1, h2, h3, h4⟩ := S.dr a e
    have n : a ≠ p := fun z => by
      rw [z, h0] at ho
      cases ho
    exact ⟨pos, nb, ns, h1, h2, by rw [upd_ne n]; exact h3, gg _ _ h4⟩
  · rcases set_at h with ⟨e, e2, hl⟩ | ⟨e, h2⟩
    · rw [← e]
      have e3 : sl = .dat (.obj mk ks) := (Option.some.inj e2).symm
      rw [e3]
      exact ⟨.ref p, hs, p, vs, rfl, upd_same, r.mono gg⟩
    · obtain ⟨u, h1, h3⟩ := S.at_ j sl h2
      refine ⟨u, h1, ?_⟩
      cases sl with
      | dat d => exact Rep.mono gg h3
      | own fs =>
        obtain ⟨q, ws, eu, hq, a0, ag, ar⟩ := h3
        refine ⟨q, ws, eu, hq, a0, ?_, ar.mono gg⟩
        have n : q ≠ p := fun z => by
          rw [z, hp] at hq
          exact od.1 _ (Option.some.inj hq)
        rw [upd_ne n]
        exact ag
      | drw => exact h3
      | slf q c fs =>
        obtain ⟨dx, ws, eu, hq, a0, ag, ar⟩ := h3
        refine ⟨dx, ws, eu, hq, a0, ?_, ar.mono gg⟩
        have n : q ≠ p := fun z => by
          rw [z, hp] at hq
          exact od.2.1 _ _ _ (Option.some.inj hq)
        rw [upd_ne n]
        exact ag
      | dcs m fs => exact absurd (one j m fs h2) (fun z => e z.symm)
  · rcases set_at h1 with ⟨_, e2, _⟩ | ⟨n1, k1⟩
    · cases e2
    · rcases set_at h2 with ⟨_, e2, _⟩ | ⟨n2, k2⟩
      · cases e2
      · exact S.sep a b d1 d2 q k1 k2 h3 h4
section
variable {X : Cx} {en : En} {δ : Lv} {a b c e o : Expr} {es : List Expr} {R : Dat → Prop} {pos p1 p2 p3 : Pos} {rest : List Stmt} {P : Po}
/-- the dict of costs of as -/
abbrev dicM (X : Cx) (as : List Arr) : Addr → List V → HO := mkDic X.prog X.w as
abbrev dicSl (X : Cx) (as : List Arr) : Sl := .dcs (dicM X as) (as.map keyD)
abbrev dicD (P : Program) (w : World) (as : List Arr) : Dat := .obj (mkDic P w as) (as.map keyD)
theorem jb_newDic (i : Nat) {y : Str} {p' : Pos} (hN : X.N.Nodup) (k : JB X en rest (δ.set i (some (dicSl X []))) P) (hi : X.N[i]? = some y := by rfl) (hx : Loc X.env.scope y := by first | exact .inl rfl | exact .inr rfl)
    (hs : swapsWith (.Dict [] [] p1) (some (.Name y p')) pos.line X.env = pure false := by rfl) (hf : X.fn y = true ∨ X.env.scope.names.lookup y = some .local := by first | exact .inl rfl | exact .inr rfl) : JB X en (.Assign [.Name y p'] (.Dict [] [] p1) pos :: rest) δ P :=
  jb_cons (M := Is (δ.set i (some (dicSl X [])))) (PS.weak (ps_set hN hi hx pe_newDic hs hf) fun D σ H ⟨G, S, k1, _⟩ => fun p hp =>
    k1 _ G _ _ (Ex.refl G) (by
      have f := (Fm.loose (o := mkDic X.prog X.w [] p []) S.gh hp).lift S.drw
      have S1 := S.step f
      exact ⟨setDcs (mk := dicM X []) S1.st upd_same odd_dic (S.f0.none_of hp) (none_G S.gh hp) Reps.nil i, S1.f0⟩) rfl) fun δ' q => by rw [show δ' = _ from q]; exact k
theorem jt_inDic (i : Nat) {y : Str} {as : List Arr} {m : Arr} {bb : Bool} (hδ : δ[i]? = some (some (dicSl X as))) (ha : JE X en a δ (Is (keyD m))) (hl : as.length ≤ 1000) (h1 : (∃ b ∈ as, sameM b m) → bb = true) (h2 : (∀ b ∈ as, ¬ sameM b m) → bb = false) (hu : X.A.units + 64 < cLine)
    (hN : X.N[i]? = some y := by rfl) (hv : Vis X.env.scope y := by first | exact Or.inl rfl | exact Or.inr (Or.inl rfl) | exact Or.inr (Or.inr rfl)) (hdb : (y == ("__debug__" : Str)) = false := by decide) (hcd : (y == ("__classdict__" : Str)) = false := by decide)
    (hm : behindInMarks .In (.Name y p1) = false := by rfl) : JT X en (.Compare a [.In] [.Name y p1] pos) δ (Is bb) :=
  PT.weak (pt_cmpR (op_inDic hu) ha (pe_var hN hv hdb hcd) hm) fun σ H Q ⟨G, S, k⟩ => ⟨G, S, fun v G1 H1 d f r pd => by
    rw [show d = keyD m from r] at pd
    have S1 := S.step f
    obtain ⟨v', h1', p, vs, ev, hp, od, h0, hg, rs⟩ := S1.at_ i _ hδ
    refine ⟨v', h1', G1, as, p, vs, m, ev, ⟨S1.gh, hp, rs, hl⟩, pd, fun z => ⟨true, rfl, ?_⟩, fun z => ⟨false, rfl, ?_⟩⟩
    · exact k true G1 H1 f (show true = bb from (h1 z).symm)
    · exact k false G1 H1 f (show false = bb from (h2 z).symm)⟩
theorem js_putDic (i : Nat) {y : Str} {ix : Expr} {as : List Arr} {m : Arr} (hδ : δ[i]? = some (some (dicSl X as))) (he : JE X en e δ (Is (.int m.c))) (hx : JE X en ix δ (Is (keyD m))) (hl : as.length ≤ 1000) (hno : ∀ b ∈ as, ¬ sameM b m) (hu : X.A.units + 64 < cLine) (k : P.nx (δ.set i (some (dicSl X (as ++ [m])))))
    (one : ∀ (j : Nat) (mm : Addr → List V → HO) (fs : List Dat), δ[j]? = some (some (.dcs mm fs)) → j = i)
    (hN : X.N[i]? = some y := by rfl) (hv : Vis X.env.scope y := by first | exact Or.inl rfl | exact Or.inr (Or.inl rfl) | exact Or.inr (Or.inr rfl)) (hdb : (y == ("__debug__" : Str)) = false := by decide) (hcd : (y == ("__classdict__" : Str)) = false := by decide)
    (ha : ∀ v, assign (.Subscript (.Name y p1) ix p2) X.env v = (do
      let ov ← holding [v] (eval (.Name y p1) X.env)
      let iv ← holding [v, ov] (eval ix X.env)
      standAt p2
      holding [v, ov, iv] (setItem ov iv v)
      release [v, ov, iv] []) := by intro _; rfl)
    (hs : swapsWithSole [.Subscript (.Name y p1) ix p2] e pos.line X.env = pure false := by rfl) (hw : swappedStores [.Subscript (.Name y p1) ix p2] e X.env = pure none := by rfl) (h1 : (assignEach [.Subscript (.Name y p1) ix p2] X.env).map (·.2) = [assign (.Subscript (.Name y p1) ix p2) X.env] := by rfl) :
    JS X en (.Assign [.Subscript (.Name y p1) ix p2] e pos) δ P :=
  PS.weak (ps_asg he (pg_sub (pe_var hN hv hdb hcd) hx (set_dic hu) ha) hs hw h1) fun D σ H ⟨G, S, k1, _⟩ => ⟨G, S, fun u G1 H1 d f rd pd => by
    rw [show d = .int m.c from rd] at pd
    have eu : u = .int m.c := pd
    have S1 := S.step f
    obtain ⟨v, h1, _⟩ := S1.at_ i _ hδ
    refine ⟨v, h1, G1, S1, fun w2 G2 H2 d2 f2 rd2 pd2 => ?_⟩
    rw [show d2 = keyD m from rd2] at pd2
    have S2 := S1.step f2
    obtain ⟨v', h1', p, vs, ev, hp, od, h0, hg, rs⟩ := S2.at_ i _ hδ
    rw [h1] at h1'
    have e1 : v = v' := Option.some.inj (Option.some.inj h1')
    rw [ev] at e1
    refine ⟨G2, as, p, vs, m, e1, ⟨S2.gh, hp, rs, hl⟩, pd2, eu, hno, ?_⟩
    rw [e1] at h1
    have r3 : Reps X.K G2 ((as ++ [m]).map keyD) (vs ++ [w2]) := by
      rw [List.map_append]
      exact rs.append (Reps.one pd2)
    have S3 := putDcs (mk' := dicM X (as ++ [m])) S2.st hδ h1 hp od odd_dic h0 hg r3 one
    refine k1 σ G2 _ _ (f.gg.trans f2.gg) ⟨S3, S2.f0.gg, S3.gh, fun b o e mm q => ?_, S2.f0.new, S3.dr⟩ k
    rw [upd_ne (ne_of_none q h0)]
    exact S2.f0.hh b o e mm q⟩
theorem jb_freezeD (i : Nat) {mk : Addr → List V → HO} {ks : List Dat} (h : δ[i]? = some (some (.dcs mk ks))) (one : ∀ (j : Nat) (m : Addr → List V → HO) (fs : List Dat), δ[j]? = some (some (.dcs m fs)) → j = i) (k : JB X en rest (δ.set i (some (.dat (.obj mk ks)))) P) : JB X en rest δ P :=
  PSs.weak k fun D σ H ⟨G, S, k1, k2, k3, k4⟩ => by
    obtain ⟨G', gg, new, S'⟩ := freezeD S.st h one
    have f' : Fm en.da en.G0 en.H0 G' H := ⟨S.f0.gg.trans gg, S'.gh, S.f0.hh, fun b o q => (new b o q).trans (S.f0.new b o q), S'.dr⟩
    exact ⟨G', ⟨S', f'⟩, fun s2 G2 H2 d2 e2 => k1 s2 G2 H2 d2 (gg.trans e2), k2, fun s2 G2 H2 d2 e2 => k3 s2 G2 H2 d2 (gg.trans e2), fun s2 G2 H2 d2 e2 => k4 s2 G2 H2 d2 (gg.trans e2)⟩
theorem je_ixDic {as : List Arr} {m : Arr} (ha : JE X en a δ (Is (dicD X.prog X.w as))) (hb : JE X en b δ (Is (keyD m))) (hm : m ∈ as) (hl : as.length ≤ 1000) (hu : X.A.units + 64 < cLine) (hs : PlainIx b := by exact fun _ _ => rfl) : JE X en (.Subscript a b pos) δ (Is (.int m.c)) :=
  je_ix (ix_dic hu) ha hb (one2 (fun G H vx vy Q gh rx ry k => by
    obtain ⟨p, vs, ev, hp, rs⟩ := (show ∃ p vs, vx = .ref p ∧ G p = some (mkDic X.prog X.w as p vs) ∧ Reps X.K G (as.map keyD) vs from rx)
    exact ⟨G, as, p, vs, m, ev, ⟨gh, gh _ _ hp, rs, hl⟩, ry, hm, k _ G H _ (Fm.same gh) rfl rfl⟩)) hs
theorem jf_sortedDic {as : List Arr} (ha : JE X en e δ (Is (dicD X.prog X.w as))) (hl : as.length ≤ 1000) (hu : X.A.units + 64 < cLine) (hm : X.mg "sorted" = none) (hc : X.calm = true := by rfl) (hg : Gl X "sorted" := by rfl)
    (he : starEach [e] X.env = (false, eval e X.env) :: starEach [] X.env := by rfl) : JF X en (.Call (.Name "sorted" p1) [e] [] pos) δ (fun es => ∃ bs : List Arr, bs.Perm as ∧ es = bs.map keyD) :=
  jf_B (ds := [dicD X.prog X.w as]) (cr_sortDic hc hu) (ja_c ha ja_nil he) (fun G H vs Q gh rs k => by
    obtain ⟨v, ev, r⟩ := reps1 rs
    obtain ⟨p, us, eu, hp, ru⟩ := (show ∃ p vs, v = .ref p ∧ G p = some (mkDic X.prog X.w as p vs) ∧ Reps X.K G (as.map keyD) vs from r)
    refine ⟨G, as, p, us, by rw [ev, eu], ⟨gh, gh _ _ hp, ru, hl⟩, fun ys l pm hl2 => ?_⟩
    obtain ⟨es, p1, r1⟩ := reps_perm pm ru
    obtain ⟨bs, p2, e2⟩ := perm_map_ex keyD p1 as rfl
    exact k l ys G _ es (Fm.loose gh hl2) ⟨bs, p2, e2⟩ upd_same hl2 (none_G gh hl2) r1) hm (by decide +kernel) hg (by decide) (by decide) he
end
end PW
end
section
set_option maxHeartbeats 4000000
namespace PW
open PySem PySem.Spec PyProof.Rows L2 PJ PF PX

/-- a good arrow -/
structure Arr.Ok (k : Nat) (a : Arr) : Prop where
  s : a.s < k
  t : a.t < k
  g : a.g < k
  st : a.s ≠ a.t
  gs : a.g ≠ a.s
  gt : a.g ≠ a.t
  c1 : 1 ≤ a.c
  c2 : a.c ≤ 10 ^ 60
theorem Arr.Ok.in_ {k : Nat} {a : Arr} (h : a.Ok k) : a.In k := ⟨h.s, h.t, h.g⟩
theorem belowN {i k : Nat} (h : i < k) : belowB (.int (i : Int)) k = true := by
  show (decide (0 ≤ (i : Int)) && decide ((i : Int) < (k : Int))) = true
  rw [decide_eq_true (by omega), decide_eq_true (by omega)]
  rfl
section
variable {P : Program} {w : World} {K : PySem.W.Frag} {mg : Str → Option Value} {base : Heap}
def W_set_of : Wf := fun ss R _ => ∃ (g k : Nat), ss = [.dat (.tup [.int (g : Int)]), .dat (.int (k : Int))] ∧ g < k ∧ R (.tup [.int (g : Int)])
theorem ok_set_of (c : Fc K mg) : DefJ P w K mg base "set_of" 3 ["thing", "limit"] W_set_of := by
  obtain ⟨fd, F⟩ := c.f_set_of
  refine ⟨fd, defj _ F sc_set_of (fun ss R Z ⟨g, k, e, _⟩ => by rw [e]; rfl) (fun cdv A outer s H E en ss R Z hr ⟨g, k, e, hg, q⟩ hZ => ?_), F.bindsN (fun _ _ _ _ _ _ us hl => match us, hl with | [_, _], _ => rfl), c.g_set_of, F.kp⟩
  subst e
  have nd := sc_set_of.nd
  have hr2 : Room 2 _ := hr
  refine jb_ifX (jt_not (jt_v (je_isSeq (je_var 0 rfl) rfl c.b_isinstance c.b_list c.b_tuple))) (fun z => nomatch (show true = false from z)) fun _ => ?_
  refine jb_cons (M := fun δ' => ∃ z2, δ' = [some (.dat (.tup [.int (g : Int)])), some (.dat (.int (k : Int))), z2])
    (js_forI (fun i δ' => ∃ z2, δ' = [some (.dat (.tup [.int (g : Int)])), some (.dat (.int (k : Int))), z2]) (ji_tup (je_var 0 rfl)) (jg_nm 2 nd) ⟨none, rfl⟩ (fun i d δ' hd ⟨z2, e⟩ => ?_) (fun δ' h => h)) ?_
  · have ed : d = .int (g : Int) := by
      cases i with
      | zero => exact (Option.some.inj hd).symm
      | succ i => cases i <;> cases hd
    subst e ed
    refine ⟨_, rfl, jb_one (js_if (jt_not (jt_v ((je_callI (ok_is_below c) (ja_c (je_var 2 rfl) (ja_c (je_var 1 rfl) ja_nil)) ⟨.int (g : Int), k, rfl, rfl, Is.self⟩ hr2).is (d' := .bl true) (by rw [belowN hg])))) (fun z => nomatch (show true = false from z)) fun _ => jb_nil ⟨_, rfl⟩)⟩
  · rintro δ' ⟨z2, e⟩
    subst e
    refine jb_ifX (jt_lt (je_lenSet1 (je_var 0 rfl) c.b_len c.b_set) (je_len (.inr rfl) (je_var 0 rfl) c.b_len)) (fun z => nomatch (show true = false from z)) fun _ => ?_
    refine jb_one (js_retI (je_tuple (ds := [.int (g : Int)]) (.inl rfl) ((jf_sorted (ds := [.int (g : Int)]) (.inr rfl) (je_var 0 rfl) rfl ?_ ?_ (by show 1 ≤ 10000; decide) hr.units c.b_sorted).imp fun es p => List.perm_singleton.mp p).je1 c.b_tuple) q)
    · intro d hd d' hd'
      rw [List.mem_singleton.mp hd, List.mem_singleton.mp hd']
      rfl
    · refine .inr fun d hd => ?_
      rw [List.mem_singleton.mp hd]
      exact ⟨(fun e => nomatch e), (fun _ e => nomatch e)⟩
def W_mark_of : Wf := fun ss R _ => ∃ (a : Arr) (k : Nat), ss = [.dat (keyD a), .dat (.int (k : Int))] ∧ a.Ok k ∧ R (keyD a)
theorem ok_mark_of (c : Fc K mg) : DefJ P w K mg base "mark_of" 4 ["thing", "pegs"] W_mark_of := by
  obtain ⟨fd, F⟩ := c.f_mark_of
  refine ⟨fd, defj _ F sc_mark_of (fun ss R Z ⟨a, k, e, _⟩ => by rw [e]; rfl) (fun cdv A outer s H E en ss R Z hr ⟨a, k, e, hok, q⟩ hZ => ?_), F.bindsN (fun _ _ _ _ _ _ us hl => match us, hl with | [_, _], _ => rfl), c.g_mark_of, F.kp⟩
  subst e
  have nd := sc_mark_of.nd
  have hr2 : Room 2 _ := hr.mono (by decide)
  have hr3 : Room 3 _ := hr
  refine jb_ifX ((JW.jt (jw_orI (jt_not (jt_v (je_isSeq (je_var 0 rfl) rfl c.b_isinstance c.b_list c.b_tuple))) fun _ => jw_or1 (jt_ne (je_len (.inr rfl) (je_var 0 rfl) c.b_len) je_int)))) (fun z => nomatch (show true = false from z)) fun _ => ?_
  refine jb_unpack (t := .tp [.nm 2, .nm 3, .nm 4]) (je_var 0 rfl) (jg_tp (jgs_cons (jg_nm 2 nd) (jgs_cons (jg_nm 3 nd) (jgs_cons (jg_nm 4 nd) jgs_nil)))) rfl ?_
  refine jb_ifX ((JW.jt (jw_orI (jt_not (jt_v ((je_callI (ok_is_below c) (ja_c (je_var 2 rfl) (ja_c (je_var 1 rfl) ja_nil)) ⟨.int (a.s : Int), k, rfl, rfl, Is.self⟩ hr2).is (d' := .bl true) (by rw [belowN hok.s])))) fun _ =>
    jw_orI (jt_not (jt_v ((je_callI (ok_is_below c) (ja_c (je_var 3 rfl) (ja_c (je_var 1 rfl) ja_nil)) ⟨.int (a.t : Int), k, rfl, rfl, Is.self⟩ hr2).is (d' := .bl true) (by rw [belowN hok.t])))) fun _ => jw_or1 (jt_eq (je_var 2 rfl) (je_var 3 rfl))))) (fun z => ?_) fun _ => ?_
  · have z2 : true = decide ((a.s : Int) = (a.t : Int)) := z
    have := of_decide_eq_true z2.symm
    exact absurd (Int.ofNat_inj.mp this) hok.st
  refine jb_set 4 nd (d := .tup [.int (a.g : Int)]) (je_callI (ok_set_of c) (ja_c (je_var 4 rfl) (ja_c (je_var 1 rfl) ja_nil)) ⟨a.g, k, rfl, hok.g, Is.self⟩ hr3) ?_
  refine jb_ifX ((JW.jt (jw_orI (jt_isN (je_var 4 rfl)) fun _ => jw_orI (jt_eq (je_len (.inr rfl) (je_var 4 rfl) c.b_len) je_int) fun _ => jw_orI ((jt_inI (ns := [(a.g : Int)]) (.inr rfl) (je_var 2 rfl) (je_var 4 rfl)).is (d' := false) ?_) fun _ => jw_or1 ((jt_inI (ns := [(a.g : Int)]) (.inr rfl) (je_var 3 rfl) (je_var 4 rfl)).is (d' := false) ?_)))) (fun z => nomatch (show true = false from z)) fun _ => ?_
  · refine decide_eq_false fun h => ?_
    have := List.mem_singleton.mp h
    exact hok.gs (Int.ofNat_inj.mp this.symm)
  · refine decide_eq_false fun h => ?_
    have := List.mem_singleton.mp h
    exact hok.gt (Int.ofNat_inj.mp this.symm)
  · exact jb_one (js_retI (je_tupI (ds := [.int (a.s : Int), .int (a.t : Int), .tup [.int (a.g : Int)]]) (ja_c (je_var 2 rfl) (ja_c (je_var 3 rfl) (ja_c (je_var 4 rfl) ja_nil))) (szl rfl)) q)
def W_arrow_of : Wf := fun ss R _ => ∃ (a : Arr) (k : Nat), ss = [.dat (arrD a), .dat (.int (k : Int))] ∧ a.Ok k ∧ R (arrD a)
theorem ok_arrow_of (c : Fc K mg) : DefJ P w K mg base "arrow_of" 5 ["thing", "pegs"] W_arrow_of := by
  obtain ⟨fd, F⟩ := c.f_arrow_of
  refine ⟨fd, defj _ F sc_arrow_of (fun ss R Z ⟨a, k, e, _⟩ => by rw [e]; rfl) (fun cdv A outer s H E en ss R Z hr ⟨a, k, e, hok, q⟩ hZ => ?_), F.bindsN (fun _ _ _ _ _ _ us hl => match us, hl with | [_, _], _ => rfl), c.g_arrow_of, F.kp⟩
  subst e
  have nd := sc_arrow_of.nd
  have hr1 : Room 1 _ := hr.mono (by decide)
  have hr4 : Room 4 _ := hr
  refine jb_ifX ((JW.jt (jw_orI (jt_not (jt_v (je_isSeq (je_var 0 rfl) rfl c.b_isinstance c.b_list c.b_tuple))) fun _ => jw_or1 (jt_ne (je_len (.inr rfl) (je_var 0 rfl) c.b_len) je_int)))) (fun z => nomatch (show true = false from z)) fun _ => ?_
  refine jb_par 2 3 (d1 := keyD a) (d2 := .int a.c) nd (je_callI (ok_mark_of c) (ja_c ((je_slT (l := none) (h := some 3) (je_var 0 rfl) jo_none (jo_some je_int)).is (d' := keyD a) rfl) (ja_c (je_var 1 rfl) ja_nil)) ⟨a, k, rfl, hok, Is.self⟩ hr4) (je_ixT (je_var 0 rfl) je_int (j := 3) rfl) ?_
  refine jb_ifX ((JW.jt (jw_orI (jt_isN (je_var 2 rfl)) fun _ => jw_orI (jt_not (jt_v (je_callI (ok_is_integer c) (ja_c (je_var 3 rfl) ja_nil) ⟨.int a.c, rfl, rfl, Is.self⟩ hr1))) fun _ => jw_or1 (jt_not (jt_chain op_le op_le je_int (je_var 3 rfl) (je_glob rfl c.i_MOST_COST) r2_leI r2_leI))))) (fun z => ?_) fun _ => ?_
  · have z2 : true = !(decide ((1 : Int) ≤ a.c) && decide (a.c ≤ 10 ^ 60)) := z
    rw [decide_eq_true hok.c1, decide_eq_true hok.c2] at z2
    cases z2
  · exact jb_one (js_retI (je_catT (je_var 2 rfl) (je_tupI (ds := [.int a.c]) (ja_c (je_var 3 rfl) ja_nil) (szl rfl)) (szl rfl)) q)
end
end PW
end
section
set_option maxHeartbeats 4000000
namespace PX
open PySem PySem.Spec PyProof.Rows L2 PJ
section
variable {X : Cx} {en : En} {δ : Lv} {e tg iter : Expr}
/-- a list told by a word -/
theorem ji_listP {RI : List Dat → Prop} (h : JE X en iter δ (fun d => ∃ ds, d = .lst ds ∧ RI ds)) : JI X en tg iter δ RI :=
  PI.weak (pi_list h) fun σ H R' ⟨G, S, k⟩ => ⟨G, S, fun v G1 H1 d f r p => by
    obtain ⟨ds, ed, ri⟩ := r
    rw [ed] at p
    obtain ⟨q, vs, ev, hq, rs⟩ := rep_lst p
    have hl := rs.length
    refine ⟨q, ev, ⟨vs, sqL (f.gh _ _ hq)⟩, k (Itl X.K q) G1 H1 ds f ri ⟨fun i H2 e hi => ?_, fun i G2 H2 x H3 d2 e1 e2 hd hy => ?_, fun H2 e => ⟨vs, sqL (e _ _ hq), by omega⟩⟩⟩
    · exact ⟨vs, vs[i]'(by omega), sqL (e _ _ hq), List.getElem?_eq_getElem (by omega)⟩
    · obtain ⟨e3, hx⟩ := hy
      have e4 := hx vs (sqL (e2 _ _ (e1 _ _ hq)))
      obtain ⟨u, hu, ru⟩ := rs.get hd
      rw [e4] at hu
      have e5 := Option.some.inj hu
      rw [e3, e5]
      exact ⟨G2, Fm.same e2, ru.mono e1⟩⟩
end
end PX
namespace PW
open PySem PySem.Spec PyProof.Rows L2 PJ PF PX

theorem nodup_take {as : List Arr} (h : (as.map key3).Nodup) {j : Nat} {a : Arr} (ha : as[j]? = some a) : ∀ b ∈ as.take j, ¬ sameM b a := fun b hb e => by
  obtain ⟨i, hi⟩ := List.getElem?_of_mem hb
  rw [List.getElem?_take] at hi
  by_cases hij : i < j
  · rw [if_pos hij] at hi
    have h1 : (as.map key3)[i]? = some (key3 b) := by rw [List.getElem?_map, hi]; rfl
    have h2 : (as.map key3)[j]? = some (key3 a) := by rw [List.getElem?_map, ha]; rfl
    rw [key3_of e] at h1
    have := (List.getElem?_inj (List.getElem?_eq_some_iff.mp h1).1 h).mp (h1.trans h2.symm)
    omega
  · rw [if_neg hij] at hi
    cases hi
def IsWeb (k : Nat) (as : List Arr) (d : Dat) : Prop := ∃ x, d = .ins 0 [.int (k : Int), x, .tup (as.map arrD)]
section
variable {P : Program} {w : World} {K : PySem.W.Frag} {mg : Str → Option Value} {base : Heap}
def W_costs_of (P : Program) (w : World) : Wf := fun ss R _ => ∃ (as : List Arr) (k : Nat) (ad : Dat), ss = [.dat ad, .dat (.int (k : Int))] ∧ Seqd ad (as.map arrD) ∧ (∀ a ∈ as, a.Ok k) ∧ (as.map key3).Nodup ∧ as.length ≤ 1000 ∧ R (dicD P w as)
theorem ok_costs_of (c : Fc K mg) : DefJ P w K mg base "costs_of" 6 ["arrows", "pegs"] (W_costs_of P w) := by
  obtain ⟨fd, F⟩ := c.f_costs_of
  refine ⟨fd, defj _ F sc_costs_of (fun ss R Z ⟨as, k, ad, e, _⟩ => by rw [e]; rfl) (fun cdv A outer s H E en ss R Z hr ⟨as, k, ad, e, hA, hok, hnd, hl, q⟩ hZ => ?_), F.bindsN (fun _ _ _ _ _ _ us hl => match us, hl with | [_, _], _ => rfl), c.g_costs_of, F.kp⟩
  subst e
  have nd := sc_costs_of.nd
  have hr5 : Room 5 _ := hr
  have hsd : isSeq ad = true ∧ (tyN ad).isSome = true := by rcases hA with h | h <;> (rw [h]; exact ⟨rfl, rfl⟩)
  refine jb_ifX (jt_not (jt_v (je_isSeq (je_var 0 rfl) hsd.2 c.b_isinstance c.b_list c.b_tuple))) (fun z => ?_) fun _ => ?_
  · have z2 : true = !isSeq ad := z
    rw [hsd.1] at z2
    cases z2
  refine jb_newDic 2 nd ?_
  refine jb_cons (M := fun δ' => ∃ z3 z4 z5, δ' = [some (.dat ad), some (.dat (.int (k : Int))), some (.dcs (mkDic P w as) (as.map keyD)), z3, z4, z5])
    (js_forI (fun i δ' => ∃ z3 z4 z5, δ' = [some (.dat ad), some (.dat (.int (k : Int))), some (.dcs (mkDic P w (as.take i)) ((as.take i).map keyD)), z3, z4, z5])
      (ji_enum hA (je_var 0 rfl) c.b_enumerate) (jg_tp (jgs_cons (jg_nm 3 nd) (jgs_cons (jg_nm 4 nd) jgs_nil))) ⟨none, none, none, rfl⟩ (fun j d δ' hd ⟨z3, z4, z5, e⟩ => ?_) (fun δ' ⟨z3, z4, z5, e⟩ => ?_)) ?_
  · obtain ⟨d1, hd1, ed⟩ := enumD_get hd
    obtain ⟨a, ha, ea⟩ := arr_get hd1
    have hj : j < as.length := (List.getElem?_eq_some_iff.mp ha).1
    have hlt : (as.take j).length ≤ 1000 := by rw [List.length_take]; omega
    have hak := hok a (List.mem_of_getElem? ha)
    subst e ed ea
    refine ⟨_, rfl, ?_⟩
    refine jb_set 5 nd (d := arrD a) (je_callI (ok_arrow_of c) (ja_c (je_var 4 rfl) (ja_c (je_var 1 rfl) ja_nil)) ⟨a, k, rfl, hak, Is.self⟩ hr5) ?_
    have hk3 : ∀ {X : Cx} {en : En} {δ : Lv} {p q r : Pos}, True := trivial
    refine jb_ifX ((JW.jt (jw_orI (jt_isN (je_var 5 rfl)) fun _ => jw_or1 (jt_inDic 2 (as := as.take j) (m := a) (bb := false) rfl ((je_slT (l := none) (h := some 3) (je_var 5 rfl) jo_none (jo_some je_int)).is (d' := keyD a) rfl) hlt (fun ⟨b, hb, e⟩ => absurd e (nodup_take hnd ha b hb)) (fun _ => rfl) hr.units)))) (fun z => nomatch (show true = false from z)) fun _ => ?_
    refine jb_one (js_putDic 2 (as := as.take j) (m := a) rfl (je_ixT (je_var 5 rfl) je_int (j := 3) rfl) ((je_slT (l := none) (h := some 3) (je_var 5 rfl) jo_none (jo_some je_int)).is (d' := keyD a) rfl) hlt (nodup_take hnd ha) hr.units ?_ (fun i m fs h => ?_))
    · rw [show as.take j ++ [a] = as.take (j + 1) from by rw [List.take_add_one, ha]; rfl]
      exact ⟨_, _, _, rfl⟩
    · match i, h with
      | 0, h => cases h
      | 1, h => cases h
      | 2, _ => rfl
      | 3, h => cases h
      | 4, h => cases h
      | 5, h => cases h
      | n + 6, h => cases h
  · rw [enumD_len, List.length_map, List.take_length] at e
    exact ⟨z3, z4, z5, e⟩
  · rintro δ' ⟨z3, z4, z5, e⟩
    subst e
    refine jb_lose 3 (jb_lose 4 (jb_lose 5 (jb_freezeD 2 rfl (fun i m fs h => ?_) (jb_one (js_retI (je_var 2 rfl) q)))))
    match i, h with
    | 0, h => cases h
    | 1, h => cases h
    | 2, _ => rfl
    | 3, h => cases h
    | 4, h => cases h
    | 5, h => cases h
    | n + 6, h => cases h
def W_Web : Wf := fun ss R _ => ∃ (as : List Arr) (k : Nat) (ad : Dat), ss = [.dat (.int (k : Int)), .dat ad] ∧ 3 ≤ k ∧ k ≤ 5 ∧ Seqd ad (as.map arrD) ∧ (∀ a ∈ as, a.Ok k) ∧ (as.map key3).Nodup ∧ as.length ≤ 1000 ∧ ∀ bs d, bs.Perm as → IsWeb k bs d → R d
theorem ok_Web (c : Fc K mg) : MakJ P w K mg base 0 7 ["self", "pegs", "arrows"] W_Web := by
  obtain ⟨fd, F⟩ := c.f_Web_init
  refine ⟨_, fd, c.k_Web, makj _ F sc_Web_init (fun ss R Z ⟨as, k, ad, e, _⟩ => by rw [e]; rfl) (fun cdv A outer s H E en x ss R Z hr ⟨as, k, ad, e, h3, h5, hA, hok, hnd, hl, q⟩ => ?_), F.bindsN (fun _ _ _ _ _ _ us hl => match us, hl with | [_, _, _], _ => rfl), c.g_Web⟩
  subst e
  have nd := sc_Web_init.nd
  have hr6 : Room 6 _ := hr
  have hr2 : Room 2 _ := hr.mono (by decide)
  refine jb_fldS 0 (f := "pegs") (d := .int (k : Int)) rfl (je_callI (ok_check_pegs c) (ja_c (je_var 1 rfl) ja_nil) ⟨k, rfl, h3, h5, Is.self⟩ hr2) ?_ rfl c.c_Web c.n_Web_pegs (fun j q' c' gs h => ?_)
  · refine jb_fldS 0 (f := "_costs") (d := dicD P w as) rfl (je_callI (ok_costs_of c) (ja_c (je_var 2 rfl) (ja_c (je_fldS 0 0 rfl rfl rfl c.c_Web c.n_Web_pegs) ja_nil)) ⟨as, k, ad, rfl, hA, hok, hnd, hl, Is.self⟩ hr6) ?_ rfl c.c_Web c.n_Web_costs (fun j q' c' gs h => ?_)
    · have hl3 : ∀ {i : Nat} {L : List (Option Sl)}, True := trivial
      refine jb_fldSN 0 (f := "arrows") (R := fun d => ∃ ds, d = .tup ds ∧ ∃ bs : List Arr, bs.Perm as ∧ ds = bs.map arrD) rfl (je_tupleP (Rl := fun ds => ∃ bs : List Arr, bs.Perm as ∧ ds = bs.map arrD) (((lc_T (own := [("mark", 3)]) (t := .nm 3) (RI := fun its => ∃ bs : List Arr, bs.Perm as ∧ its = bs.map keyD) (Rl := fun ds => ∃ bs : List Arr, bs.Perm as ∧ ds = bs.map arrD)
        (fun its i acc => ∃ bs : List Arr, bs.Perm as ∧ its = bs.map keyD ∧ acc = (bs.take i).map arrD) (ji_listP ((jf_sortedDic (je_fldS 0 1 rfl rfl rfl c.c_Web c.n_Web_costs) hl hr.units c.b_sorted).je fun ds q => ⟨ds, rfl, q⟩)) (blkOk_by (by kernel_rfl)) (fun s H C cl fp => jg_nm 3 nd) (by decide)
        (fun its ⟨bs, pm, e⟩ => ⟨by rw [e, List.length_map, pm.length_eq, sizeLine_eq]; omega, bs, pm, e, rfl⟩) (fun its i d acc ri hd ⟨bs, pm, e, ea⟩ => ?_) (fun its acc ri ⟨bs, pm, e, ea⟩ => ⟨bs, pm, by rw [ea, e, List.length_map, List.take_length]⟩)).jf nd).je fun ds q => ⟨ds, rfl, q⟩) c.b_tuple) (fun d ⟨ds, ed, bs, pm, e⟩ => ?_) rfl c.c_Web c.n_Web_arrows (fun j q' c' gs h => ?_)
      · rw [e, List.getElem?_map] at hd
        cases hb : bs[i]? with
        | none =>
          rw [hb] at hd
          cases hd
        | some b =>
          rw [hb] at hd
          have ed : d = keyD b := (Option.some.inj hd).symm
          subst ed
          have hmem : b ∈ as := pm.mem_iff.mp (List.mem_of_getElem? hb)
          refine ⟨_, Is true, Is (arrD b), rfl, fun s H C cl fp => pts_yes, fun s H C cl fp => ?_, fun _ y ry => ⟨bs, pm, e, ?_⟩, fun q => nomatch (show false = true from q)⟩
          · exact (je_catT (ds := [.int (b.s : Int), .int (b.t : Int), .tup [.int (b.g : Int)]]) (je_var 3 rfl) (je_tupI (ds := [.int b.c]) (ja_c (je_ixDic (as := as) (m := b) (je_fldS 0 1 rfl rfl rfl c.c_Web c.n_Web_costs) (je_var 3 rfl) hmem hl hr.units) ja_nil) (szl rfl)) (szl rfl))
          · rw [ea, show y = arrD b from ry, List.take_add_one, hb, List.map_append]
            rfl
      · refine jb_nil ⟨_, rfl, q bs _ pm ?_⟩
        rw [ed, e]
        exact ⟨_, rfl⟩
      · match j, h with
        | 0, _ => rfl
        | 1, h => cases h
        | 2, h => cases h
        | 3, h => cases h
        | n + 4, h => cases h
    · match j, h with
      | 0, _ => rfl
      | 1, h => cases h
      | 2, h => cases h
      | 3, h => cases h
      | n + 4, h => cases h
  · match j, h with
    | 0, _ => rfl
    | 1, h => cases h
    | 2, h => cases h
    | 3, h => cases h
    | n + 4, h => cases h
end
end PW
end
section
set_option maxHeartbeats 4000000
namespace PJ
open PySem PySem.Spec PyProof.Rows L2
section
variable {X : Cx} {en : En} {δ : Lv} {e : Expr} {pos p1 p2 : Pos}
/-- isinstance(x, C), x an instance of C -/
theorem je_isC {cc : Nat} {y : Str} {fs : List Dat} (ha : JE X en e δ (Is (.ins cc fs))) (hy : y = cN cc) (ic : C8.InsC X.K (cA X.K cc)) (hc : X.mg (cN cc) = some (.ref (cA X.K cc))) (hm : X.mg "isinstance" = none)
    (hg : Gl X "isinstance" := by rfl) (hgy : Gl X y := by rfl) (hdb : (y == ("__debug__" : Str)) = false := by decide)
    (he : starEach [e, .Name y p2] X.env = (false, eval e X.env) :: starEach [.Name y p2] X.env := by rfl) (he2 : starEach [.Name y p2] X.env = (false, eval (.Name y p2) X.env) :: starEach [] X.env := by rfl)
    (hpl : (backTo pos (starEach [.Name y p2] X.env)).any (·.1) = false := by rfl) :
    JE X en (.Call (.Name "isinstance" p1) [e, .Name y p2] [] pos) δ (Is (.bl true)) :=
  PE.weak (pe_callB (C8.call_isC ic) hg hm (by decide +kernel) (pa_cons ha (pa_cons (pe_glob (v := V.ref (cA X.K cc)) hgy (by rw [hy]; exact hc) rfl hdb) pa_nil he2) he) (by decide) (by decide) he hpl) fun σ H Q ⟨G, S, k⟩ =>
    ⟨G, S, fun v G1 H1 d' f r p => by
      rw [show d' = .ins cc fs from r] at p
      obtain ⟨a, dx, vs, ev, hH, rs⟩ := (show ∃ a dx vs, v = .ref a ∧ G1 a = some (.ins (cA X.K cc) dx ((cF cc).zip vs)) ∧ Reps X.K G1 fs vs from p)
      exact ⟨a, dx, _, by rw [ev], f.gh _ _ hH, k _ G1 H1 _ f rfl rfl⟩⟩
end
end PJ
namespace PW
open PySem PySem.Spec PyProof.Rows L2 PJ PF PX

structure WebsL (k : Nat) (L : List (List Arr)) (ws : List Dat) : Prop where
  len : ws.length = L.length
  at_ : ∀ (i : Nat) as, L[i]? = some as → ∃ d, ws[i]? = some d ∧ IsWeb k as d ∧ as.length ≤ 1000 ∧ ∀ a ∈ as, a.Ok k
theorem WebsL.back {k : Nat} {L : List (List Arr)} {ws : List Dat} (h : WebsL k L ws) {i : Nat} {d : Dat} (hd : ws[i]? = some d) : ∃ as, L[i]? = some as ∧ IsWeb k as d ∧ as.length ≤ 1000 ∧ ∀ a ∈ as, a.Ok k := by
  have hi : i < L.length := by rw [← h.len]; exact (List.getElem?_eq_some_iff.mp hd).1
  obtain ⟨d', h1, h2⟩ := h.at_ i _ (List.getElem?_eq_getElem hi)
  rw [hd] at h1
  rw [Option.some.inj h1]
  exact ⟨_, List.getElem?_eq_getElem hi, h2⟩
theorem WebsL.take {k : Nat} {L : List (List Arr)} {ws : List Dat} (h : WebsL k L ws) (m : Nat) : WebsL k (L.take m) (ws.take m) := ⟨by rw [List.length_take, List.length_take, h.len], fun i as hi => by
  rw [List.getElem?_take] at hi ⊢
  by_cases hm : i < m
  · rw [if_pos hm] at hi ⊢
    exact h.at_ i as hi
  · rw [if_neg hm] at hi
    cases hi⟩
def gameD (k : Nat) (ws : List Dat) : Dat := .ins 1 [.int (k : Int), .tup ws, .int (ws.length : Int)]
def IsGame (k : Nat) (L : List (List Arr)) (d : Dat) : Prop := ∃ ws, d = gameD k ws ∧ WebsL k L ws ∧ 3 ≤ k ∧ k ≤ 5 ∧ L.length ≤ 40
section
variable {P : Program} {w : World} {K : PySem.W.Frag} {mg : Str → Option Value} {base : Heap}
theorem ext_0 (c : Fc K mg) : PEx.ExT K (eA K 0) (He.ma K (gA K "BadPosition") "__init__") "BadPosition.__init__" := ⟨c.x_BadPosition, by
  obtain ⟨fd, F⟩ := c.f_BadPosition_init
  exact ⟨_, _, _, _, _, _, fd, F⟩⟩
theorem ext_1 (c : Fc K mg) : PEx.ExT K (eA K 1) (He.ma K (gA K "BadFloor") "__init__") "BadFloor.__init__" := ⟨c.x_BadFloor, by
  obtain ⟨fd, F⟩ := c.f_BadFloor_init
  exact ⟨_, _, _, _, _, _, fd, F⟩⟩
theorem ext_2 (c : Fc K mg) : PEx.ExT K (eA K 2) (He.ma K (gA K "BadPaper") "__init__") "BadPaper.__init__" := ⟨c.x_BadPaper, by
  obtain ⟨fd, F⟩ := c.f_BadPaper_init
  exact ⟨_, _, _, _, _, _, fd, F⟩⟩
def W_is_strict : Wf := fun ss R _ => ∃ (k : Nat) (as : List Arr) (d : Dat), ss = [.dat d] ∧ IsWeb k as d ∧ as.length ≤ 1000 ∧ R (.bl true)
theorem ok_is_strict (c : Fc K mg) : MetJ P w K mg base (gtA K "Web" "is_strict") 1 ["self"] W_is_strict := by
  obtain ⟨fd, F⟩ := c.f_Web_is_strict
  refine ⟨fd, defj _ F sc_Web_is_strict (fun ss R Z ⟨k, as, d, e, _⟩ => by rw [e]; rfl) (fun cdv A outer s H E en ss R Z hr ⟨k, as, d, e, ⟨x, hx⟩, hl, q⟩ hZ => ?_), F.bindsN (fun _ _ _ _ _ _ us hl => match us, hl with | [_], _ => rfl)⟩
  subst e hx
  have nd := sc_Web_is_strict.nd
  have q' : R (.bl (((as.map arrD).map fun _ => true).all fun b => b)) := by
    rw [show ((as.map arrD).map fun _ => true).all (fun b => b) = true from by simp]
    exact q
  refine jb_one (js_retI (je_all (bs := (as.map arrD).map fun _ => true) rfl (((lc_sqm 1 (fun _ => .bl true) (.inr rfl) (je_fld 2 (je_var 0 rfl) rfl rfl c.c_Web c.n_Web_arrows) (by rw [List.length_map]; omega) (blkOk_by (by kernel_rfl)) (fun s H C cl fp => jg_nm 1 nd) (fun j d hd s H C cl fp => ?_)).jf nd).je1.is ?_) c.b_all) q')
  · obtain ⟨a, ha, ed⟩ := arr_get hd
    subst ed
    exact (je_eq (je_len (ds := [.int (a.g : Int)]) (.inr rfl) (je_ixT (je_var 1 rfl) je_int (j := 2) rfl) c.b_len) je_int).is rfl
  · rw [map_bl]
def W_Game : Wf := fun ss R _ => ∃ (k : Nat) (L : List (List Arr)) (wd : Dat) (ws : List Dat), ss = [.dat (.int (k : Int)), .dat wd] ∧ 3 ≤ k ∧ k ≤ 5 ∧ L.length ≤ 40 ∧ Seqd wd ws ∧ WebsL k L ws ∧ ∀ d, IsGame k L d → R d
theorem ok_Game (c : Fc K mg) : MakJ P w K mg base 1 3 ["self", "pegs", "webs"] W_Game := by
  obtain ⟨fd, F⟩ := c.f_Game_init
  refine ⟨_, fd, c.k_Game, makj _ F sc_Game_init (fun ss R Z ⟨k, L, wd, ws, e, _⟩ => by rw [e]; rfl) (fun cdv A outer s H E en x ss R Z hr ⟨k, L, wd, ws, e, h3, h5, hL, hS, hW, q⟩ => ?_), F.bindsN (fun _ _ _ _ _ _ us hl => match us, hl with | [_, _, _], _ => rfl), c.g_Game⟩
  subst e
  have nd := sc_Game_init.nd
  have hr2 : Room 2 _ := hr
  have hsd : isSeq wd = true ∧ (tyN wd).isSome = true := by rcases hS with h | h <;> (rw [h]; exact ⟨rfl, rfl⟩)
  refine jb_fldS 0 (f := "pegs") (d := .int (k : Int)) rfl (je_callI (ok_check_pegs c) (ja_c (je_var 1 rfl) ja_nil) ⟨k, rfl, h3, h5, Is.self⟩ hr2) ?_ rfl c.c_Game c.n_Game_pegs (fun j q' c' gs h => ?_)
  · refine jb_ifX ((JW.jt (jw_orI (jt_not (jt_v (je_isSeq (je_var 2 rfl) hsd.2 c.b_isinstance c.b_list c.b_tuple))) fun _ => jw_or1 (jt_gt (je_len hS (je_var 2 rfl) c.b_len) (je_glob rfl c.i_MOST_DISCS))))) (fun z => ?_) fun _ => ?_
    · have z2 : true = (!isSeq wd || decide ((40 : Int) < (ws.length : Int))) := z
      rw [hsd.1, decide_eq_false (by rw [hW.len]; omega)] at z2
      cases z2
    refine jb_cons (M := fun δ' => ∃ z3 z4, δ' = [some (.slf x 1 [.int (k : Int)]), some (.dat (.int (k : Int))), some (.dat wd), z3, z4])
      (js_forI (fun i δ' => ∃ z3 z4, δ' = [some (.slf x 1 [.int (k : Int)]), some (.dat (.int (k : Int))), some (.dat wd), z3, z4]) (ji_enum hS (je_var 2 rfl) c.b_enumerate) (jg_tp (jgs_cons (jg_nm 3 nd) (jgs_cons (jg_nm 4 nd) jgs_nil))) ⟨none, none, rfl⟩ (fun i d δ' hd ⟨z3, z4, e⟩ => ?_) (fun δ' h => h)) ?_
    · obtain ⟨d1, hd1, ed⟩ := enumD_get hd
      obtain ⟨as, has, ⟨y, hy⟩, _, _⟩ := hW.back hd1
      subst e ed hy
      refine ⟨_, rfl, jb_one (js_if ((JW.jt (jw_orI (jt_not (jt_v (je_isC (je_var 4 rfl) rfl c.s_Web c.g_Web c.b_isinstance))) fun _ => jw_or1 (jt_ne (je_fld 0 (je_var 4 rfl) rfl rfl c.c_Web c.n_Web_pegs) (je_fldS 0 0 rfl rfl rfl c.c_Game c.n_Game_pegs))))) (fun z => ?_) fun _ => jb_nil ⟨_, _, rfl⟩)⟩
      have z2 : true = !decide ((k : Int) = (k : Int)) := z
      rw [decide_eq_true rfl] at z2
      cases z2
    · rintro δ' ⟨z3, z4, e⟩
      subst e
      refine jb_lose 3 (jb_lose 4 ?_)
      refine jb_fldS 0 (f := "webs") (d := .tup ws) rfl (je_tuple hS (je_var 2 rfl) c.b_tuple) ?_ rfl c.c_Game c.n_Game_webs (fun j q' c' gs h => ?_)
      · refine jb_fldS 0 (f := "discs") (d := .int (ws.length : Int)) rfl (je_len (.inr rfl) (je_fldS 0 1 rfl rfl rfl c.c_Game c.n_Game_webs) c.b_len) (jb_nil ⟨_, rfl, q _ ⟨ws, rfl, hW, h3, h5, hL⟩⟩) rfl c.c_Game c.n_Game_discs (fun j q' c' gs h => ?_)
        match j, h with
        | 0, _ => rfl
        | 1, h => cases h
        | 2, h => cases h
        | 3, h => cases h
        | 4, h => cases h
        | n + 5, h => cases h
      · match j, h with
        | 0, _ => rfl
        | 1, h => cases h
        | 2, h => cases h
        | 3, h => cases h
        | 4, h => cases h
        | n + 5, h => cases h
  · match j, h with
    | 0, _ => rfl
    | 1, h => cases h
    | 2, h => cases h
    | 3, h => cases h
    | 4, h => cases h
    | n + 5, h => cases h
def W_lower : Wf := fun ss R _ => ∃ (k m : Nat) (L : List (List Arr)) (gd : Dat), ss = [.dat gd, .dat (.int (m : Int))] ∧ IsGame k L gd ∧ m ≤ L.length ∧ ∀ d, IsGame k (L.take m) d → R d
theorem ok_lower (c : Fc K mg) : MetJ P w K mg base (He.ma K (gA K "Game") "lower") 5 ["self", "many"] W_lower := by
  obtain ⟨fd, F⟩ := c.f_Game_lower
  refine ⟨fd, defj _ F sc_Game_lower (fun ss R Z ⟨k, m, L, gd, e, _⟩ => by rw [e]; rfl) (fun cdv A outer s H E en ss R Z hr ⟨k, m, L, gd, e, ⟨ws, hg, hW, h3, h5, hL⟩, hm, q⟩ hZ => ?_), F.bindsN (fun _ _ _ _ _ _ us hl => match us, hl with | [_, _], _ => rfl)⟩
  subst e hg
  have nd := sc_Game_lower.nd
  have hr2 : Room 2 _ := hr.mono (by decide)
  have hr4 : Room 4 _ := hr
  refine jb_ifX (jt_not (jt_v ((je_callI (ok_is_below c) (ja_c (je_var 1 rfl) (ja_c ((je_add (je_fld 2 (je_var 0 rfl) rfl rfl c.c_Game c.n_Game_discs) je_int).is (d' := .int ((ws.length + 1 : Nat) : Int)) rfl) ja_nil)) ⟨.int (m : Int), ws.length + 1, rfl, rfl, Is.self⟩ hr2).is (d' := .bl true) (by rw [belowN (by rw [hW.len]; omega)])))) (fun z => nomatch (show true = false from z)) fun _ => ?_
  refine jb_one (js_ret (je_make (ok_Game c) rfl (ja_c (je_fld 0 (je_var 0 rfl) rfl rfl c.c_Game c.n_Game_pegs) (ja_c ((je_slT (l := none) (h := some (m : Int)) (je_fld 1 (je_var 0 rfl) rfl rfl c.c_Game c.n_Game_webs) jo_none (jo_some (je_var 1 rfl))).is (d' := .tup (ws.take m)) (by rw [cut_to])) ja_nil)) ⟨k, L.take m, _, ws.take m, rfl, h3, h5, by rw [List.length_take]; omega, .inr rfl, hW.take m, fun d hd => q d hd⟩ hr4))
def W_check_game : Wf := fun ss R _ => ∃ (k : Nat) (L : List (List Arr)) (gd : Dat), ss = [.dat gd] ∧ IsGame k L gd ∧ R gd
theorem ok_check_game (c : Fc K mg) : DefJ P w K mg base "check_game" 1 ["game"] W_check_game := by
  obtain ⟨fd, F⟩ := c.f_check_game
  refine ⟨fd, defj _ F sc_check_game (fun ss R Z ⟨k, L, gd, e, _⟩ => by rw [e]; rfl) (fun cdv A outer s H E en ss R Z hr ⟨k, L, gd, e, hG, q⟩ hZ => ?_), F.bindsN (fun _ _ _ _ _ _ us hl => match us, hl with | [_], _ => rfl), c.g_check_game, F.kp⟩
  subst e
  have nd := sc_check_game.nd
  obtain ⟨ws, hg, hW, h3, h5, hL⟩ := hG
  subst hg
  exact jb_ifX (jt_not (jt_v (je_isC (je_var 0 rfl) rfl c.s_Game c.g_Game c.b_isinstance))) (fun z => nomatch (show true = false from z)) fun _ => jb_one (js_retI (je_var 0 rfl) q)
def W_check_strict : Wf := fun ss R _ => ∃ (k : Nat) (L : List (List Arr)) (gd : Dat), ss = [.dat gd] ∧ IsGame k L gd ∧ R gd
theorem ok_check_strict (c : Fc K mg) : DefJ P w K mg base "check_strict" 3 ["game"] W_check_strict := by
  obtain ⟨fd, F⟩ := c.f_check_strict
  refine ⟨fd, defj _ F sc_check_strict (fun ss R Z ⟨k, L, gd, e, _⟩ => by rw [e]; rfl) (fun cdv A outer s H E en ss R Z hr ⟨k, L, gd, e, hG, q⟩ hZ => ?_), F.bindsN (fun _ _ _ _ _ _ us hl => match us, hl with | [_], _ => rfl), c.g_check_strict, F.kp⟩
  subst e
  have nd := sc_check_strict.nd
  have hr1 : Room 1 _ := hr.mono (by decide)
  have hr2 : Room 2 _ := hr
  have hG' := hG
  obtain ⟨ws, hg, hW, h3, h5, hL⟩ := hG
  subst hg
  refine jb_cons (M := Is [some (.dat (gameD k ws)), none, none]) (js_expr (R := Is (gameD k ws)) (je_callI (ok_check_game c) (ja_c (je_var 0 rfl) ja_nil) ⟨k, L, _, rfl, hG', Is.self⟩ hr1) (fun _ _ => rfl)) (fun δ' e => ?_)
  rw [show δ' = _ from e]
  refine jb_cons (M := fun δ' => ∃ z1 z2, δ' = [some (.dat (gameD k ws)), z1, z2])
    (js_forI (fun i δ' => ∃ z1 z2, δ' = [some (.dat (gameD k ws)), z1, z2]) (ji_enum (.inr rfl) (je_fld 1 (je_var 0 rfl) rfl rfl c.c_Game c.n_Game_webs) c.b_enumerate) (jg_tp (jgs_cons (jg_nm 1 nd) (jgs_cons (jg_nm 2 nd) jgs_nil))) ⟨none, none, rfl⟩ (fun i d δ' hd ⟨z1, z2, e⟩ => ?_) (fun δ' h => h)) ?_
  · obtain ⟨d1, hd1, ed⟩ := enumD_get hd
    obtain ⟨as, has, hw, hal, _⟩ := hW.back hd1
    have hw' := hw
    obtain ⟨y, hy⟩ := hw
    subst e ed hy
    exact ⟨_, rfl, jb_one (js_if (jt_not (jt_v (je_prop (ok_is_strict c) (je_var 2 rfl) c.c_Web c.p_strict ⟨k, as, _, rfl, hw', hal, Is.self⟩ hr2))) (fun z => nomatch (show true = false from z)) fun _ => jb_nil ⟨_, _, rfl⟩)⟩
  · rintro δ' ⟨z1, z2, e⟩
    subst e
    exact jb_one (js_retI (je_var 0 rfl) q)
end
end PW
end
section
set_option maxHeartbeats 4000000
namespace L2
open PySem PySem.Spec PyProof.Rows
variable {X : Cx} {tg : Expr}
theorem cr_range1 : CallR X (.type "range") (fun vs H Q => ∃ j, vs = [V.int j] ∧ ∀ p, H p = none → Q (.ref p) (upd H p (.rng 0 j))) := by
  intro pins s σ H vs us Q I r h
  obtain ⟨j, rfl, q⟩ := h
  cases r with
  | cons rj rr =>
    cases rr
    obtain ⟨u, rfl⟩ := rj
    refine call_range_1 ⟨.ref s.heap.objs.size, upd H s.heap.objs.size (.rng 0 j), I.laid (t' := s.toks + 1 + 1) (fun b o e => Heap.get?_push_of_some _ e) (Nat.le_refl _) ?_, rfl, q _ (I.hok.fresh (Nat.le_refl _))⟩
    exact ⟨_, u, _, Heap.get?_push_size _ rfl⟩
def iRngV (tl : TE) : TI := fun σ H R => tl σ H fun x H1 => ∃ a lo hi, x = .ref a ∧ H1 a = some (.rng lo hi) ∧ (-(2 ^ 62) ≤ lo ∧ lo < 2 ^ 62 ∧ -(2 ^ 62) ≤ hi ∧ hi < 2 ^ 62) ∧ R (Itr lo (hi - lo).toNat) H1
theorem pi_rngV {l : Expr} {tl : TE} (hl : PE X l tl) : PI X tg l (iRngV tl) := by
  refine ⟨fun pins s σ H R I h => ?_⟩
  refine thn (hl.run pins s σ H _ I h) fun v s1 ⟨x, H1, I1, r1, q1⟩ => ?_
  obtain ⟨a, lo, hi, e, hq, ⟨b1, b2, b3, b4⟩, q⟩ := q1
  subst e
  cases r1
  obtain ⟨t, u, v, ho⟩ := I1.hok a _ hq
  refine wpAny_pyIter_range (show IsRange s1.heap a lo hi 1 t u v from ho) (small_one b1 b2 b3 b4) (pi_one (tk := s1.toks) I1 _ (turn_range _ lo (hi - lo).toNat) ?_ q)
  have e1 : lo + ((0 : Nat) : Int) * 1 = lo := by simp
  have e2 : (((hi - lo).toNat : Nat) : Int) - ((0 : Nat) : Int) = Builtin.Range.rangeSize lo hi 1 := by rw [rangeSize_one]; split <;> omega
  show IsRangeIter _ _ (lo + ((0 : Nat) : Int) * 1) ((((hi - lo).toNat : Nat) : Int) - ((0 : Nat) : Int)) 1
  rw [e1, e2]
  exact Heap.get?_push_size _ rfl
end L2
namespace PJ
open PySem PySem.Spec PyProof.Rows L2
section
variable {X : Cx} {en : En} {δ : Lv} {e tg : Expr} {pos p1 : Pos}
theorem ji_rngV {n : Nat} (h : JE X en e δ (Is (.rng 0 (n : Int)))) (hn : n ≤ 1000000) : JI X en tg e δ (Is ((List.range n).map fun (i : Nat) => Dat.int (i : Int))) :=
  PI.weak (pi_rngV h) fun σ H R' ⟨G, S, k⟩ => ⟨G, S, fun v G1 H1 d f r p => by
    rw [show d = .rng 0 (n : Int) from r] at p
    obtain ⟨a, ev, hG⟩ := (show ∃ a, v = .ref a ∧ G1 a = some (.rng 0 (n : Int)) from p)
    refine ⟨a, 0, (n : Int), ev, f.gh _ _ hG, ⟨by omega, by omega, by omega, by omega⟩, ?_⟩
    refine k _ G1 H1 _ f (range_int n) ?_
    have := sq_range (K := X.K) (G := G1) (lo := 0) (n := n)
    simpa using this⟩
theorem je_range {n : Nat} (h : JE X en e δ (Is (.int (n : Int)))) (hm : X.mg "range" = none) (hg : Gl X "range" := by rfl) (hs : starEach [e] X.env = (false, eval e X.env) :: starEach [] X.env := by rfl) (hpl : (backTo pos (starEach [] X.env)).any (·.1) = false := by rfl) :
    JE X en (.Call (.Name "range" p1) [e] [] pos) δ (Is (.rng 0 (n : Int))) :=
  je_Ty (ds := [.int (n : Int)]) cr_range1 (ja_c h ja_nil hs) (fun G H vs Q e rs k => by
    obtain ⟨v, ev, r⟩ := reps1 rs
    have e1 : v = .int (n : Int) := r
    exact ⟨(n : Int), by rw [ev, e1], fun p hp => k _ _ _ _ (Fm.new_ e hp) rfl ⟨p, rfl, upd_same⟩⟩) hm (by decide +kernel) hg (by decide) (by decide) hs
end
end PJ
end
section
set_option maxHeartbeats 4000000
namespace PJ
open PySem PySem.Spec PyProof.Rows L2 PX
section
variable {X : Cx} {en : En} {δ : Lv} {a b c e o elt : Expr} {es : List Expr} {R R1 R2 : Dat → Prop} {pos p1 p2 pos2 pt pt2 px py : Pos} {kt k2 : Nat} {rest : List Stmt} {P : Po}
theorem jb_parN (i j : Nat) {x y : Str} (hN : X.N.Nodup) (ha : JE X en a δ R1) (hb : JE X en b δ R2) (k : ∀ d1 d2, R1 d1 → R2 d2 → JB X en rest ((δ.set i (some (.dat d1))).set j (some (.dat d2))) P) (hij : i ≠ j := by decide)
    (hi : X.N[i]? = some x := by rfl) (hj : X.N[j]? = some y := by rfl) (hx : X.env.scope.names.lookup x = some .local := by rfl) (hy : X.env.scope.names.lookup y = some .local := by rfl)
    (hw : swappedStores [.Tuple [.Name x px, .Name y py] kt pt] (.Tuple [a, b] k2 pt2) X.env = pure (some [x, y]) := by kernel_rfl) (hs : swapsWithSole [.Tuple [.Name x px, .Name y py] kt pt] (.Tuple [a, b] k2 pt2) pos.line X.env = pure false := by rfl) (hc : X.calm = true := by rfl)
    (hs1 : starEach [a, b] X.env = (false, eval a X.env) :: starEach [b] X.env := by rfl) (hs2 : starEach [b] X.env = (false, eval b X.env) :: starEach [] X.env := by rfl) :
    JB X en (.Assign [.Tuple [.Name x px, .Name y py] kt pt] (.Tuple [a, b] k2 pt2) pos :: rest) δ P :=
  jb_cons (M := fun δ' => ∃ d1 d2, R1 d1 ∧ R2 d2 ∧ δ' = (δ.set i (some (.dat d1))).set j (some (.dat d2))) (PS.weak (ps_par hc hN hi hj hij hx hy (ja_cons ha (ja_cons hb ja_nil hs2) hs1) hw hs) fun D σ H ⟨G, S, k1, _⟩ => ⟨G, S, fun vs G1 H1 ss f r ps => by
    obtain ⟨d1, r1, e1, q1, d2, r2, e2, q2, e3⟩ := r
    have e3' : r2 = [] := e3
    rw [e1, e2, e3'] at ps
    obtain ⟨v, v2, ev, rv, rv2⟩ := reps2 (ArgsOk.reps (ds := [d1, d2]) ps)
    refine ⟨v, v2, ev, ?_⟩
    exact k1 _ G1 H1 _ f.gg ⟨((S.step f).st.set rv i).set rv2 j, (S.step f).f0⟩ ⟨d1, d2, q1, q2, rfl⟩⟩) fun δ' ⟨d1, d2, q1, q2, e⟩ => e ▸ k d1 d2 q1 q2
/-- [.. for y in r], r a range -/
theorem lc_rngV {scope : Scope} {y : Str} (i : Nat) {n : Nat} (f : Nat → Dat) (h : JE X en e δ (Is (.rng 0 (n : Int)))) (hn : n ≤ 1000) (ok : BlkOk X.N X.env.scope scope [(y, i)])
    (hg : ∀ (s : Shared) (H : Hp) (C : Addr) (cl : List (Str × Addr)) (fp : List Addr), JG (X.blk s H scope (compEnvC scope cl C X.env) fp) (.Name y p2) (.nm i))
    (he : ∀ j, j < n → ∀ (s : Shared) (H : Hp) (C : Addr) (cl : List (Str × Addr)) (fp : List Addr), JE (X.blk s H scope (compEnvC scope cl C X.env) fp) en elt ((δ.set i none).set i (some (.dat (.int (j : Int))))) (Is (f j)))
    (hs : ∀ x, foldedSetIterable e X.env x = pure x := by intro _; rfl) :
    LcOk X en δ elt (.Name y p2) e [] scope (Is ((List.range n).map f)) := by
  have q := lc_map (own := [(y, i)]) (t := .nm i) (elt := elt) f (ji_rngV (tg := .Name y p2) h (by omega)) ok hg (fun j hj => hj) (by rw [intsD_len, sizeLine_eq]; omega) (fun j d hd => by
    obtain ⟨hj, ed⟩ := intsD_back hd
    refine ⟨_, rfl, fun s H C cl fp => ?_⟩
    rw [ed]
    exact he j hj s H C cl fp) hs
  rw [intsD_len] at q
  exact q
end
end PJ
end
section
set_option maxHeartbeats 4000000
namespace PW
open PySem PySem.Spec PyProof.Rows L2 PJ PF PX

theorem natsD_len (ps : List Nat) : (natsD ps).length = ps.length := List.length_map ..
def tabsM (k : Nat) (L : List (List Arr)) : Nat → Gr
  | 0 => fun _ _ => some 0
  | i + 1 => tabM k (L.getD i []) (tabsM k L i)
def tabsD (k : Nat) (L : List (List Arr)) (n : Nat) : List Dat := (List.range n).map fun i => .tup (gridT k (tabsM k L i))
theorem tabsD_len (k : Nat) (L : List (List Arr)) (n : Nat) : (tabsD k L n).length = n := by unfold tabsD; rw [List.length_map, List.length_range]
theorem tabsD_get {k : Nat} {L : List (List Arr)} {n i : Nat} (h : i < n) : (tabsD k L n)[i]? = some (.tup (gridT k (tabsM k L i))) := map_range_get h
theorem tabsD_one (k : Nat) (L : List (List Arr)) : [Dat.tup (List.replicate k (.tup (List.replicate k (.int 0))))] = tabsD k L 1 := by
  unfold tabsD
  show _ = [Dat.tup (gridT k fun _ _ => some 0)]
  congr 2
  refine (List.eq_replicate_iff.mpr ⟨gridT_len _ _, fun b hb => ?_⟩).symm
  obtain ⟨i, _, e⟩ := List.mem_map.mp hb
  rw [← e, rep_row]
def IsTables (k : Nat) (L : List (List Arr)) (d : Dat) : Prop := ∃ gd, d = .ins 2 [gd, .tup (tabsD k L (L.length + 1))] ∧ IsGame k L gd
theorem arr_in {k : Nat} {as : List Arr} (h : ∀ a ∈ as, a.Ok k) : ∀ a ∈ as, a.In k := fun a ha => ⟨(h a ha).s, (h a ha).t, (h a ha).g⟩
section
variable {P : Program} {w : World} {K : PySem.W.Frag} {mg : Str → Option Value} {base : Heap}
def W_check_position : Wf := fun ss R Z => ∃ (k : Nat) (L : List (List Arr)) (gd pd : Dat) (ps : List Nat), ss = [.dat gd, .dat pd] ∧ IsGame k L gd ∧ Seqd pd (natsD ps) ∧ (∀ p ∈ ps, p < k) ∧ (ps.length = L.length → R (.tup (natsD ps))) ∧ (ps.length ≠ L.length → Z 0 (-1))
theorem ok_check_position (c : Fc K mg) : DefJ P w K mg base "check_position" 3 ["game", "position"] W_check_position := by
  obtain ⟨fd, F⟩ := c.f_check_position
  refine ⟨fd, defj _ F sc_check_position (fun ss R Z ⟨k, L, gd, pd, ps, e, _⟩ => by rw [e]; rfl) (fun cdv A outer s H E en ss R Z hr ⟨k, L, gd, pd, ps, e, hG, hP, hk, q, z⟩ hZ => ?_), F.bindsN (fun _ _ _ _ _ _ us hl => match us, hl with | [_, _], _ => rfl), c.g_check_position, F.kp⟩
  subst e
  have nd := sc_check_position.nd
  have hr2 : Room 2 _ := hr
  have hr1 : Room 1 _ := hr.mono (by decide)
  have hG' := hG
  obtain ⟨ws, hg, hW, h3, h5, hL⟩ := hG
  subst hg
  have hsd : isSeq pd = true ∧ (tyN pd).isSome = true := by rcases hP with h | h <;> (rw [h]; exact ⟨rfl, rfl⟩)
  refine jb_cons (M := Is [some (.dat (gameD k ws)), some (.dat pd), none, none]) (js_expr (R := Is (gameD k ws)) (je_callI (ok_check_game c) (ja_c (je_var 0 rfl) ja_nil) ⟨k, L, _, rfl, hG', Is.self⟩ hr1) (fun _ _ => rfl)) (fun δ' e => ?_)
  rw [show δ' = _ from e]
  refine jb_ifX ((JW.jt (jw_orI (jt_not (jt_v (je_isSeq (je_var 1 rfl) hsd.2 c.b_isinstance c.b_list c.b_tuple))) fun _ => jw_or1 (jt_ne (je_len hP (je_var 1 rfl) c.b_len) (je_fld 2 (je_var 0 rfl) rfl rfl c.c_Game c.n_Game_discs))))) (fun z' => ?_) fun z' => ?_
  · have z2 : true = (!isSeq pd || !decide (((natsD ps).length : Int) = (ws.length : Int))) := z'
    rw [hsd.1, natsD_len, hW.len] at z2
    have z3 : ps.length ≠ L.length := fun e => by
      rw [e, decide_eq_true rfl] at z2
      cases z2
    exact jb_one (js_raise (ext_0 c) c.g_BadPosition hr (takes_of rfl rfl rfl rfl : Takes _ (fun cls d _ H => E cls d H)) (je_neg je_int) (fun dd G' H' f h0 hd => hZ 0 (-1) dd G' H' (z z3) f h0 hd))
  · have z2 : false = (!isSeq pd || !decide (((natsD ps).length : Int) = (ws.length : Int))) := z'
    rw [hsd.1, natsD_len, hW.len] at z2
    have z3 : ps.length = L.length := by
      have z4 : (ps.length : Int) = (L.length : Int) := by simpa using z2
      omega
    refine jb_cons (M := fun δ' => ∃ z1 z2, δ' = [some (.dat (gameD k ws)), some (.dat pd), z1, z2])
      (js_forI (fun i δ' => ∃ z1 z2, δ' = [some (.dat (gameD k ws)), some (.dat pd), z1, z2]) (ji_enum hP (je_var 1 rfl) c.b_enumerate) (jg_tp (jgs_cons (jg_nm 2 nd) (jgs_cons (jg_nm 3 nd) jgs_nil))) ⟨none, none, rfl⟩ (fun i d δ' hd ⟨z1, z2, e⟩ => ?_) (fun δ' h => h)) ?_
    · obtain ⟨d1, hd1, ed⟩ := enumD_get hd
      obtain ⟨p, hp, ep⟩ := natsD_get hd1
      subst e ed ep
      refine ⟨_, rfl, jb_one (js_if (jt_not (jt_v ((je_callI (ok_is_below c) (ja_c (je_var 3 rfl) (ja_c (je_fld 0 (je_var 0 rfl) rfl rfl c.c_Game c.n_Game_pegs) ja_nil)) ⟨.int (p : Int), k, rfl, rfl, Is.self⟩ hr2).is (d' := .bl true) (by rw [belowN (hk p (List.mem_of_getElem? hp))])))) (fun z => nomatch (show true = false from z)) fun _ => jb_nil ⟨_, _, rfl⟩)⟩
    · rintro δ' ⟨z1, z2, e⟩
      subst e
      exact jb_one (js_retI (je_tuple hP (je_var 1 rfl) c.b_tuple) (q z3))
def W_Tables : Wf := fun ss R _ => ∃ (k : Nat) (L : List (List Arr)) (gd : Dat), ss = [.dat gd] ∧ IsGame k L gd ∧ ∀ d, IsTables k L d → R d
theorem ok_Tables (c : Fc K mg) : MakJ P w K mg base 2 6 ["self", "game"] W_Tables := by
  obtain ⟨fd, F⟩ := c.f_Tables_init
  refine ⟨_, fd, c.k_Tables, makj _ F sc_Tables_init (fun ss R Z ⟨k, L, gd, e, _⟩ => by rw [e]; rfl) (fun cdv A outer s H E en x ss R Z hr ⟨k, L, gd, e, hG, q⟩ => ?_), F.bindsN (fun _ _ _ _ _ _ us hl => match us, hl with | [_, _], _ => rfl), c.g_Tables⟩
  subst e
  have nd := sc_Tables_init.nd
  have hr5 : Room 5 _ := hr
  have hr3 : Room 3 _ := hr.mono (by decide)
  have hG' := hG
  obtain ⟨ws, hg, hW, h3, h5, hL⟩ := hG
  subst hg
  refine jb_fldS 0 (f := "game") (d := gameD k ws) rfl (je_callI (ok_check_strict c) (ja_c (je_var 1 rfl) ja_nil) ⟨k, L, _, rfl, hG', Is.self⟩ hr3) ?_ rfl c.c_Tables c.n_Tables_game (fun j q' c' gs h => ?_)
  · refine jb_own 2 nd ((jf_lstI (ds := [.tup (List.replicate k (.tup (List.replicate k (.int 0))))]) (ja_c (je_repT1 (je_tupI (ds := [.tup (List.replicate k (.int 0))]) (ja_c (je_repT1 (je_tupI (ds := [.int 0]) (ja_c je_int ja_nil) (szl rfl)) (je_fld 0 (je_var 1 rfl) rfl rfl c.c_Game c.n_Game_pegs) ⟨by omega, by omega⟩) ja_nil) (szl rfl)) (je_fld 0 (je_var 1 rfl) rfl rfl c.c_Game c.n_Game_pegs) ⟨by omega, by omega⟩) ja_nil) (szl rfl)).is (tabsD_one k L)) ?_
    refine jb_cons (M := fun δ' => ∃ z3 z4, δ' = [some (.slf x 2 [gameD k ws]), some (.dat (gameD k ws)), some (.own (tabsD k L (L.length + 1))), z3, z4])
      (js_forI (fun i δ' => ∃ z3 z4, δ' = [some (.slf x 2 [gameD k ws]), some (.dat (gameD k ws)), some (.own (tabsD k L (i + 1))), z3, z4]) (ji_enum (.inr rfl) (je_fld 1 (je_var 1 rfl) rfl rfl c.c_Game c.n_Game_webs) c.b_enumerate) (jg_tp (jgs_cons (jg_nm 3 nd) (jgs_cons (jg_nm 4 nd) jgs_nil))) ⟨none, none, rfl⟩ (fun i d δ' hd ⟨z3, z4, e⟩ => ?_) (fun δ' ⟨z3, z4, e⟩ => ?_)) ?_
    · obtain ⟨d1, hd1, ed⟩ := enumD_get hd
      obtain ⟨as, has, ⟨y, hy⟩, hal, hok⟩ := hW.back hd1
      have hi : i < L.length := (List.getElem?_eq_some_iff.mp has).1
      subst e ed hy
      refine ⟨_, rfl, jb_one (js_app 2 rfl (je_callI (ok_table_over c) (ja_c (je_fld 2 (je_var 4 rfl) rfl rfl c.c_Web c.n_Web_arrows) (ja_c (je_ixO 2 rfl (je_var 3 rfl) (tabsD_get (Nat.lt_succ_self i))) ja_nil)) ⟨k, as, tabsM k L i, _, _, rfl, by omega, .inr rfl, arr_in hok, isGrid_t, Is.self⟩ hr5) (by rw [tabsD_len, sizeLine_eq]; omega) fun d ed => ?_)⟩
      have e2 : tabM k as (tabsM k L i) = tabsM k L (i + 1) := by
        show _ = tabM k (L.getD i []) (tabsM k L i)
        rw [List.getD_eq_getElem?_getD, has]
        rfl
      rw [show d = _ from ed, e2, show tabsD k L (i + 1) ++ [.tup (gridT k (tabsM k L (i + 1)))] = tabsD k L (i + 1 + 1) from map_snoc _ (i + 1)]
      exact ⟨_, _, rfl⟩
    · rw [enumD_len, hW.len] at e
      exact ⟨z3, z4, e⟩
    · rintro δ' ⟨z3, z4, e⟩
      subst e
      refine jb_freeze 2 rfl (jb_lose 3 (jb_lose 4 ?_))
      refine jb_fldS 0 (f := "_costs") (d := .tup (tabsD k L (L.length + 1))) rfl (je_tuple (.inl rfl) (je_var 2 rfl) c.b_tuple) (jb_nil ⟨_, rfl, q _ ⟨_, rfl, hG'⟩⟩) rfl c.c_Tables c.n_Tables_costs (fun j q' c' gs h => ?_)
      match j, h with
      | 0, _ => rfl
      | 1, h => cases h
      | 2, h => cases h
      | 3, h => cases h
      | 4, h => cases h
      | n + 5, h => cases h
  · match j, h with
    | 0, _ => rfl
    | 1, h => cases h
    | 2, h => cases h
    | 3, h => cases h
    | 4, h => cases h
    | n + 5, h => cases h
def W_costs : Wf := fun ss R _ => ∃ (k m : Nat) (L : List (List Arr)) (td : Dat), ss = [.dat td, .dat (.int (m : Int))] ∧ IsTables k L td ∧ m ≤ L.length ∧ R (.tup (gridT k (tabsM k L m)))
theorem ok_costs (c : Fc K mg) : MetJ P w K mg base (He.ma K (gA K "Tables") "costs") 3 ["self", "many"] W_costs := by
  obtain ⟨fd, F⟩ := c.f_Tables_costs
  refine ⟨fd, defj _ F sc_Tables_costs (fun ss R Z ⟨k, m, L, td, e, _⟩ => by rw [e]; rfl) (fun cdv A outer s H E en ss R Z hr ⟨k, m, L, td, e, ⟨gd, hT, ⟨ws, hg, hW, h3, h5, hL⟩⟩, hm, q⟩ hZ => ?_), F.bindsN (fun _ _ _ _ _ _ us hl => match us, hl with | [_, _], _ => rfl)⟩
  subst e hT hg
  have nd := sc_Tables_costs.nd
  have hr2 : Room 2 _ := hr
  refine jb_ifX (jt_not (jt_v ((je_callI (ok_is_below c) (ja_c (je_var 1 rfl) (ja_c ((je_add (je_fld 2 (je_fld 0 (je_var 0 rfl) rfl rfl c.c_Tables c.n_Tables_game) rfl rfl c.c_Game c.n_Game_discs) je_int).is (d' := .int ((ws.length + 1 : Nat) : Int)) rfl) ja_nil)) ⟨.int (m : Int), ws.length + 1, rfl, rfl, Is.self⟩ hr2).is (d' := .bl true) (by rw [belowN (by rw [hW.len]; omega)])))) (fun z => nomatch (show true = false from z)) fun _ => ?_
  exact jb_one (js_retI (je_ixT (je_fld 1 (je_var 0 rfl) rfl rfl c.c_Tables c.n_Tables_costs) (je_var 1 rfl) (tabsD_get (by omega))) q)
def W_walk_from : Wf := fun ss R _ => ∃ (k m : Nat) (L : List (List Arr)) (as : List Arr) (S : Gr) (td sd : Dat), ss = [.dat td, .dat (.int (m : Int)), .dat sd] ∧ IsTables k L td ∧ L[m]? = some as ∧ IsGrid k S sd ∧ R (.tup (gridT k (walkM k as (tabsM k L m) S)))
theorem ok_walk_from (c : Fc K mg) : MetJ P w K mg base (He.ma K (gA K "Tables") "walk_from") 5 ["self", "disc", "start"] W_walk_from := by
  obtain ⟨fd, F⟩ := c.f_Tables_walk_from
  refine ⟨fd, defj _ F sc_Tables_walk_from (fun ss R Z ⟨k, m, L, as, S, td, sd, e, _⟩ => by rw [e]; rfl) (fun cdv A outer s H E en ss R Z hr ⟨k, m, L, as, S, td, sd, e, ⟨gd, hT, ⟨ws, hg, hW, h3, h5, hL⟩⟩, hm, hS, q⟩ hZ => ?_), F.bindsN (fun _ _ _ _ _ _ us hl => match us, hl with | [_, _, _], _ => rfl)⟩
  obtain ⟨d1, hd1, ⟨y, hy⟩, hal, hok⟩ := hW.at_ m as hm
  subst e hT hg hy
  have nd := sc_Tables_walk_from.nd
  have hr4 : Room 4 _ := hr
  have hlt : m < L.length := (List.getElem?_eq_some_iff.mp hm).1
  exact jb_one (js_ret (je_callI (ok_walk_costs c) (ja_c (je_fld 2 (je_ixT (je_fld 1 (je_fld 0 (je_var 0 rfl) rfl rfl c.c_Tables c.n_Tables_game) rfl rfl c.c_Game c.n_Game_webs) (je_var 1 rfl) hd1) rfl rfl c.c_Web c.n_Web_arrows) (ja_c (je_ixT (je_fld 1 (je_var 0 rfl) rfl rfl c.c_Tables c.n_Tables_costs) (je_var 1 rfl) (tabsD_get (by omega))) (ja_c (je_var 2 rfl) ja_nil))) ⟨k, as, tabsM k L m, S, _, _, sd, rfl, by omega, .inr rfl, arr_in hok, isGrid_t, hS, q⟩ hr4))
end
end PW
end
section
set_option maxHeartbeats 4000000
namespace PW
open PySem PySem.Spec PyProof.Rows L2 PJ PF PX

theorem natsD_int (ps : List Nat) : natsD ps = (ps.map fun (p : Nat) => (p : Int)).map Dat.int := by
  unfold natsD
  rw [List.map_map]
  rfl
theorem natsD_take (ps : List Nat) (n : Nat) : (natsD ps).take n = natsD (ps.take n) := by
  unfold natsD
  rw [List.map_take]
theorem posD_nats (ps : List Nat) : (natsD ps).map (fun d => Dat.tup [d]) = posD ps := by
  unfold natsD posD
  rw [List.map_map]
  rfl
theorem nats_inj {ps qs : List Nat} (h : ps.map (fun (p : Nat) => (p : Int)) = qs.map (fun (p : Nat) => (p : Int))) : ps = qs := by
  refine List.ext_getElem? fun i => ?_
  have e := congrArg (fun l => l[i]?) h
  simp only [List.getElem?_map] at e
  cases h1 : ps[i]? with
  | none =>
    rw [h1] at e
    cases h2 : qs[i]? with
    | none => rfl
    | some y =>
      rw [h2] at e
      cases e
  | some x =>
    rw [h1] at e
    cases h2 : qs[i]? with
    | none =>
      rw [h2] at e
      cases e
    | some y =>
      rw [h2] at e
      have e2 : (x : Int) = (y : Int) := Option.some.inj e
      rw [show x = y from by omega]
theorem eq_nats (ps qs : List Nat) : PyData.eqv (pyD (.tup (natsD ps))) (pyD (.tup (natsD qs))) = decide (ps = qs) := by
  rw [natsD_int, natsD_int, eqv_tints]
  by_cases h : ps = qs
  · rw [h]; simp
  · rw [decide_eq_false h, decide_eq_false fun e => h (nats_inj e)]
theorem ok_nats (ps : List Nat) : okD 60 (.tup (natsD ps)) = true := by
  rw [natsD_int]
  exact ok_tup_ints _
def florM (k : Nat) (L : List (List Arr)) (d p : Nat) : Gr := walkM k (L.getD d []) (tabsM k L d) (beginF p p)
def floorD (k : Nat) (L : List (List Arr)) (n : Nat) : List Dat := (List.range n).map fun d => .tup ((List.range k).map fun p => .tup (gridT k (florM k L d p)))
def sideM (k : Nat) (L : List (List Arr)) (n : Nat) : SideM := (List.range n).map fun i => (L.getD i [], tabsM k L i)
theorem sideM_len (k : Nat) (L : List (List Arr)) (n : Nat) : (sideM k L n).length = n := by unfold sideM; rw [List.length_map, List.length_range]
theorem sideM_get {k : Nat} {L : List (List Arr)} {n i : Nat} {p : List Arr × Gr} (h : (sideM k L n)[i]? = some p) : i < n ∧ p = (L.getD i [], tabsM k L i) := by
  unfold sideM at h
  have hi : i < n := by
    have := (List.getElem?_eq_some_iff.mp h).1
    simpa using this
  rw [List.getElem?_map, List.getElem?_range hi] at h
  exact ⟨hi, (Option.some.inj h).symm⟩
section
variable {P : Program} {w : World} {K : PySem.W.Frag} {mg : Str → Option Value} {base : Heap}
def W_floor_of : Wf := fun ss R _ => ∃ (k : Nat) (L : List (List Arr)) (gd : Dat), ss = [.dat gd] ∧ IsGame k L gd ∧ R (.tup (floorD k L L.length))
theorem ok_floor_of (c : Fc K mg) : DefJ P w K mg base "floor_of" 8 ["game"] W_floor_of := by
  obtain ⟨fd, F⟩ := c.f_floor_of
  refine ⟨fd, defj _ F sc_floor_of (fun ss R Z ⟨k, L, gd, e, _⟩ => by rw [e]; rfl) (fun cdv A outer s H E en ss R Z hr ⟨k, L, gd, e, hG, q⟩ hZ => ?_), F.bindsN (fun _ _ _ _ _ _ us hl => match us, hl with | [_], _ => rfl), c.g_floor_of, F.kp⟩
  subst e
  have nd := sc_floor_of.nd
  have hr7 : Room 7 _ := hr
  have hr5 : Room 5 _ := hr.mono (by decide)
  have hr1 : Room 1 _ := hr.mono (by decide)
  have hG' := hG
  obtain ⟨ws, hg, hW, h3, h5, hL⟩ := hG
  subst hg
  refine jb_setN 1 nd (je_make (ok_Tables c) rfl (ja_c (je_var 0 rfl) ja_nil) ⟨k, L, _, rfl, hG', fun d h => h⟩ hr7) (fun td hT => ?_)
  have hT' : IsTables k L td := hT
  have hT2 := hT'
  obtain ⟨gd2, eT, hG2⟩ := hT2
  subst eT
  refine jb_set 2 nd (je_range (je_fld 0 (je_var 0 rfl) rfl rfl c.c_Game c.n_Game_pegs) c.b_range) ?_
  refine jb_one (js_retI (je_tuple (.inl rfl) (((lc_rng 3 (fun d => .tup ((List.range k).map fun p => .tup (gridT k (florM k L d p)))) ((je_fld 2 (je_var 0 rfl) rfl rfl c.c_Game c.n_Game_discs).is (d' := .int (L.length : Int)) (by rw [hW.len])) (by omega) c.b_range (blkOk_by (by kernel_rfl)) (fun s H C cl fp => jg_nm 3 nd) (fun d hd s H C cl fp => ?_)).jf nd).je1) c.b_tuple) q)
  refine je_tuple (.inl rfl) (((lc_rngV 4 (fun p => .tup (gridT k (florM k L d p))) (je_var 2 rfl) (by omega) (blkOk_by (by kernel_rfl)) (fun s H C cl fp => jg_nm 4 nd) (fun p hp s H C cl fp => ?_)).jf nd).je1) c.b_tuple
  have hd1 : L[d]? = some L[d] := List.getElem?_eq_getElem hd
  have e1 : L.getD d [] = L[d] := by rw [List.getD_eq_getElem?_getD, hd1]; rfl
  refine je_meth (ok_walk_from c) (je_var 1 rfl) c.c_Tables c.m_Tables_walk_from (by decide) (ja_c (je_var 3 rfl) (ja_c (je_callI (ok_begin_on c) (ja_c (je_fld 0 (je_var 0 rfl) rfl rfl c.c_Game c.n_Game_pegs) (ja_c (je_var 4 rfl) (ja_c (je_var 4 rfl) ja_nil))) ⟨k, p, p, rfl, by omega, Is.self⟩ hr1) ja_nil)) ⟨k, d, L, L[d], beginF p p, _, _, rfl, hT', hd1, isGrid_l, ?_⟩ hr5
  rw [show florM k L d p = walkM k L[d] (tabsM k L d) (beginF p p) from by unfold florM; rw [e1]]
  exact Is.self
def W_game_sides : Wf := fun ss R _ => ∃ (k : Nat) (L : List (List Arr)) (gd : Dat), ss = [.dat gd] ∧ IsGame k L gd ∧ ∀ on ho, SideL k (sideM k L L.length) on → SideL k ((sideM k L L.length).map turnS) ho → R (.tup [.int (k : Int), .lst on, .lst ho])
theorem ok_game_sides (c : Fc K mg) : DefJ P w K mg base "game_sides" 8 ["game"] W_game_sides := by
  obtain ⟨fd, F⟩ := c.f_game_sides
  refine ⟨fd, defj _ F sc_game_sides (fun ss R Z ⟨k, L, gd, e, _⟩ => by rw [e]; rfl) (fun cdv A outer s H E en ss R Z hr ⟨k, L, gd, e, hG, q⟩ hZ => ?_), F.bindsN (fun _ _ _ _ _ _ us hl => match us, hl with | [_], _ => rfl), c.g_game_sides, F.kp⟩
  subst e
  have nd := sc_game_sides.nd
  have hr7 : Room 7 _ := hr
  have hr3 : Room 3 _ := hr.mono (by decide)
  have hr2 : Room 2 _ := hr.mono (by decide)
  have hG' := hG
  obtain ⟨ws, hg, hW, h3, h5, hL⟩ := hG
  subst hg
  refine jb_setN 1 nd (je_make (ok_Tables c) rfl (ja_c (je_var 0 rfl) ja_nil) ⟨k, L, _, rfl, hG', fun d h => h⟩ hr7) (fun td hT => ?_)
  have hT' : IsTables k L td := hT
  have hT2 := hT'
  obtain ⟨gd2, eT, hG2⟩ := hT2
  subst eT
  refine jb_ownLc 2 nd (lc_rng 3 (fun i => .tup (gridT k (tabsM k L i))) ((je_fld 2 (je_var 0 rfl) rfl rfl c.c_Game c.n_Game_discs).is (d' := .int (L.length : Int)) (by rw [hW.len])) (by omega) c.b_range (blkOk_by (by kernel_rfl)) (fun s H C cl fp => jg_nm 3 nd) (fun i hi s H C cl fp => je_meth (ok_costs c) (je_var 1 rfl) c.c_Tables c.m_Tables_costs (by decide) (ja_c (je_var 3 rfl) ja_nil) ⟨k, i, L, _, rfl, hT', by omega, Is.self⟩ hr3)) ?_
  refine jb_freeze 2 rfl ?_
  refine jb_one (js_ret (je_callI (ok_sides_of c) (ja_c (je_fld 0 (je_var 0 rfl) rfl rfl c.c_Game c.n_Game_pegs) (ja_c (((lc_sq 4 (fun j => .tup ((L.getD j []).map arrD)) (.inr rfl) (je_fld 1 (je_var 0 rfl) rfl rfl c.c_Game c.n_Game_webs) (by rw [hW.len]; omega) (blkOk_by (by kernel_rfl)) (fun s H C cl fp => jg_nm 4 nd) (fun j d hd s H C cl fp => ?_)).jf nd).je1) (ja_c (je_var 2 rfl) ja_nil)))
    ⟨k, sideM k L L.length, _, _, rfl, by omega, by rw [sideM_len]; omega, by rw [sideM_len, List.length_map, List.length_range, hW.len], by rw [sideM_len, List.length_map, List.length_range], fun i p hp => ?_, q⟩ hr2))
  · obtain ⟨as, has, ⟨y, hy⟩, hal, hok⟩ := hW.back hd
    subst hy
    rw [List.getD_eq_getElem?_getD, has]
    exact je_fld 2 (je_var 4 rfl) rfl rfl c.c_Web c.n_Web_arrows
  · obtain ⟨hi, ep⟩ := sideM_get hp
    have hd1 : L[i]? = some L[i] := List.getElem?_eq_getElem hi
    obtain ⟨d1, hd1', _, hal, hok⟩ := hW.at_ i _ hd1
    have e1 : L.getD i [] = L[i] := by rw [List.getD_eq_getElem?_getD, hd1]; rfl
    refine ⟨_, _, map_range_get (by rw [hW.len]; exact hi), map_range_get hi, ?_⟩
    rw [ep]
    exact ⟨.inr rfl, by rw [e1]; exact Nat.le_trans hal (by decide), by rw [e1]; exact arr_in hok, isGrid_t⟩
def W_unlike_pair : Wf := fun ss R Z => ∃ (k : Nat) (L : List (List Arr)) (gd pd qd : Dat) (ps qs : List Nat), ss = [.dat gd, .dat pd, .dat qd] ∧ IsGame k L gd ∧ Seqd pd (natsD ps) ∧ Seqd qd (natsD qs) ∧ (∀ p ∈ ps, p < k) ∧ (∀ p ∈ qs, p < k) ∧
  (ps.length = L.length → qs.length = L.length → ∀ n, IsTop ps qs n → R (.tup [.tup (natsD ps), .tup (natsD qs), .int (n : Int)])) ∧ (ps.length ≠ L.length ∨ qs.length ≠ L.length ∨ ps = qs → Z 0 (-1))
theorem ok_unlike_pair (c : Fc K mg) : DefJ P w K mg base "unlike_pair" 4 ["game", "position", "other"] W_unlike_pair := by
  obtain ⟨fd, F⟩ := c.f_unlike_pair
  refine ⟨fd, defj _ F sc_unlike_pair (fun ss R Z ⟨k, L, gd, pd, qd, ps, qs, e, _⟩ => by rw [e]; rfl) (fun cdv A outer s H E en ss R Z hr ⟨k, L, gd, pd, qd, ps, qs, e, hG, hP, hQ, hpk, hqk, q, z⟩ hZ => ?_), F.bindsN (fun _ _ _ _ _ _ us hl => match us, hl with | [_, _, _], _ => rfl), c.g_unlike_pair, F.kp⟩
  subst e
  have nd := sc_unlike_pair.nd
  have hr3 : Room 3 _ := hr
  have hr1 : Room 1 _ := hr.mono (by decide)
  have hG' := hG
  obtain ⟨ws, hg, hW, h3, h5, hL⟩ := hG
  subst hg
  have tk := (takes_of rfl rfl rfl rfl : Takes (cxOf (L2.CX P w) P w K mg base N_unlike_pair "unlike_pair" (defScope s_unlike_pair) (gA K "unlike_pair") cdv A outer s H E) (fun cls d _ H => E cls d H))
  have pz : ∀ (k : Nat) (n : Int) dd (G' : Hp) (H' : Hp) (σ : L2.St) (δ : Lv), (k = 0 ∧ n = -1 ∧ (ps.length ≠ L.length ∨ qs.length ≠ L.length)) → Now K en G' H' σ δ → en.H0 dd = none → H' dd = some (.xd [(("disc" : Str), .int n)]) → E (.ref (eA K k)) (some dd) H' := fun k n dd G' H' σ δ ⟨e1, e2, e3⟩ S h0 hd => by
    subst e1 e2
    exact hZ 0 (-1) dd G' H' (z (e3.imp_right .inl)) S.f0 h0 hd
  refine jb_cons (M := Is [some (.dat (gameD k ws)), some (.dat pd), some (.dat qd), none, none]) (js_expr (R := Is (gameD k ws)) (je_callI (ok_check_strict c) (ja_c (je_var 0 rfl) ja_nil) ⟨k, L, _, rfl, hG', Is.self⟩ hr3) (fun _ _ => rfl)) (fun δ' e => ?_)
  rw [show δ' = _ from e]
  refine jb_parN 3 4 nd (R1 := fun d => d = .tup (natsD ps) ∧ ps.length = L.length) (R2 := fun d => d = .tup (natsD qs) ∧ qs.length = L.length)
    (je_callX (fun k n => k = 0 ∧ n = -1 ∧ (ps.length ≠ L.length ∨ qs.length ≠ L.length)) (ok_check_position c) (ja_c (je_var 0 rfl) (ja_c (je_var 1 rfl) ja_nil)) ⟨k, L, _, pd, ps, rfl, hG', hP, hpk, fun h => ⟨rfl, h⟩, fun h => ⟨rfl, rfl, .inl h⟩⟩ hr3 tk (fun k n dd G' H' σ => pz k n dd G' H' σ _))
    (je_callX (fun k n => k = 0 ∧ n = -1 ∧ (ps.length ≠ L.length ∨ qs.length ≠ L.length)) (ok_check_position c) (ja_c (je_var 0 rfl) (ja_c (je_var 2 rfl) ja_nil)) ⟨k, L, _, qd, qs, rfl, hG', hQ, hqk, fun h => ⟨rfl, h⟩, fun h => ⟨rfl, rfl, .inr h⟩⟩ hr3 tk (fun k n dd G' H' σ => pz k n dd G' H' σ _))
    (fun d1 d2 ⟨e1, l1⟩ ⟨e2, l2⟩ => ?_)
  subst e1 e2
  refine jb_ifX ((jt_eqD hr.units (je_var 3 rfl) (je_var 4 rfl) (ok_nats ps) (ok_nats qs)).is (eq_nats ps qs)) (fun z' => ?_) (fun z' => ?_)
  · have e : ps = qs := of_decide_eq_true (show true = decide (ps = qs) from z').symm
    exact jb_one (js_raise (ext_0 c) c.g_BadPosition hr tk (je_neg je_int) (fun dd G' H' f h0 hd => hZ 0 (-1) dd G' H' (z (.inr (.inr e))) f h0 hd))
  · have e : ¬ ps = qs := of_decide_eq_false (show false = decide (ps = qs) from z').symm
    obtain ⟨n, hn⟩ := isTop_ex (l1.trans l2.symm) e
    exact jb_one (js_retI (je_tupI (ds := [.tup (natsD ps), .tup (natsD qs), .int (n : Int)]) (ja_c (je_var 3 rfl) (ja_c (je_var 4 rfl) (ja_c (je_callI (ok_top_unlike c) (ja_c (je_var 3 rfl) (ja_c (je_var 4 rfl) ja_nil)) ⟨ps, qs, n, _, _, rfl, .inr rfl, .inr rfl, by omega, l1.trans l2.symm, hn, Is.self⟩ hr1) ja_nil))) (szl rfl)) (q l1 l2 n hn))
def paperD (k : Nat) (L : List (List Arr)) (ps qs : List Nat) (n : Nat) : Dat :=
  .tup [.tup (floorD k (L.take n) n), .tup (walksD k (sideM k L L.length) (ps.take (n + 1)) (n + 1)), .tup (walksD k ((sideM k L L.length).map turnS) (qs.take n) n)]
def W_paper_for : Wf := fun ss R Z => ∃ (k : Nat) (L : List (List Arr)) (gd pd qd : Dat) (ps qs : List Nat), ss = [.dat gd, .dat pd, .dat qd] ∧ IsGame k L gd ∧ Seqd pd (natsD ps) ∧ Seqd qd (natsD qs) ∧ (∀ p ∈ ps, p < k) ∧ (∀ p ∈ qs, p < k) ∧ ps.length = L.length ∧ qs.length = L.length ∧
  (∀ n, IsTop ps qs n → R (paperD k L ps qs n)) ∧ (ps = qs → Z 0 (-1))
theorem ok_paper_for (c : Fc K mg) : DefJ P w K mg base "paper_for" 9 ["game", "position", "other"] W_paper_for := by
  obtain ⟨fd, F⟩ := c.f_paper_for
  refine ⟨fd, defj _ F sc_paper_for (fun ss R Z ⟨k, L, gd, pd, qd, ps, qs, e, _⟩ => by rw [e]; rfl) (fun cdv A outer s H E en ss R Z hr ⟨k, L, gd, pd, qd, ps, qs, e, hG, hP, hQ, hpk, hqk, l1, l2, q, z⟩ hZ => ?_), F.bindsN (fun _ _ _ _ _ _ us hl => match us, hl with | [_, _, _], _ => rfl), c.g_paper_for, F.kp⟩
  subst e
  have nd := sc_paper_for.nd
  have hr8 : Room 8 _ := hr
  have hr5 : Room 5 _ := hr.mono (by decide)
  have hr4 : Room 4 _ := hr.mono (by decide)
  have hG' := hG
  obtain ⟨ws, hg, hW, h3, h5, hL⟩ := hG
  subst hg
  have tk := (takes_of rfl rfl rfl rfl : Takes (cxOf (L2.CX P w) P w K mg base N_paper_for "paper_for" (defScope s_paper_for) (gA K "paper_for") cdv A outer s H E) (fun cls d _ H => E cls d H))
  have hsl : (sideM k L L.length).length = L.length := sideM_len _ _ _
  refine jb_cons (M := fun δ' => ∃ n, IsTop ps qs n ∧ δ' = [some (.dat (gameD k ws)), some (.dat pd), some (.dat qd), some (.dat (.tup (natsD ps))), some (.dat (.tup (natsD qs))), some (.dat (.int (n : Int))), none, none, none, none, none, none, none])
    (js_unpack (t := .tp [.nm 3, .nm 4, .nm 5]) (R := fun d => ∃ n : Nat, IsTop ps qs n ∧ d = .tup [.tup (natsD ps), .tup (natsD qs), .int (n : Int)]) (je_callX (fun k n => k = 0 ∧ n = -1 ∧ ps = qs) (ok_unlike_pair c) (ja_c (je_var 0 rfl) (ja_c (je_var 1 rfl) (ja_c (je_var 2 rfl) ja_nil))) ⟨k, L, _, pd, qd, ps, qs, rfl, hG', hP, hQ, hpk, hqk, fun _ _ n hn => ⟨n, hn, rfl⟩, fun h => ⟨rfl, rfl, by
      rcases h with h | h | h
      · exact absurd l1 h
      · exact absurd l2 h
      · exact h⟩⟩ hr4 tk (fun k n dd G' H' σ ⟨e1, e2, e3⟩ S h0 hd => by
        subst e1 e2
        exact hZ 0 (-1) dd G' H' (z e3) S.f0 h0 hd)) (jg_tp (jgs_cons (jg_nm 3 nd) (jgs_cons (jg_nm 4 nd) (jgs_cons (jg_nm 5 nd) jgs_nil)))) (fun d ⟨n, hn, ed⟩ => by
      subst ed
      exact ⟨_, rfl, n, hn, rfl⟩)) ?_
  rintro δ' ⟨n, hn, e⟩
  subst e
  have hnl : n < L.length := by rw [← l1]; exact hn.1
  refine jb_cons (M := fun δ' => ∃ on ho, SideL k (sideM k L L.length) on ∧ SideL k ((sideM k L L.length).map turnS) ho ∧ δ' = [some (.dat (gameD k ws)), some (.dat pd), some (.dat qd), some (.dat (.tup (natsD ps))), some (.dat (.tup (natsD qs))), some (.dat (.int (n : Int))), some (.dat (.int (k : Int))), some (.dat (.lst on)), some (.dat (.lst ho)), none, none, none, none])
    (js_unpack (t := .tp [.nm 6, .nm 7, .nm 8]) (R := fun d => ∃ on ho, SideL k (sideM k L L.length) on ∧ SideL k ((sideM k L L.length).map turnS) ho ∧ d = .tup [.int (k : Int), .lst on, .lst ho]) (je_callI (ok_game_sides c) (ja_c (je_var 0 rfl) ja_nil) ⟨k, L, _, rfl, hG', fun on ho h1 h2 => ⟨on, ho, h1, h2, rfl⟩⟩ hr8) (jg_tp (jgs_cons (jg_nm 6 nd) (jgs_cons (jg_nm 7 nd) (jgs_cons (jg_nm 8 nd) jgs_nil)))) (fun d ⟨on, ho, h1, h2, ed⟩ => by
      subst ed
      exact ⟨_, rfl, on, ho, h1, h2, rfl⟩)) ?_
  rintro δ' ⟨on, ho, h1, h2, e⟩
  subst e
  refine jb_unpack (t := .tp [.nm 9, .nm 10]) (d := .tup [.lst (rowsD k (sideM k L L.length) (ps.take (n + 1)) (n + 1 + 1)), .lst (walksD k (sideM k L L.length) (ps.take (n + 1)) (n + 1))]) (je_callI (ok_into_rows c) (ja_c (je_var 6 rfl) (ja_c (je_var 7 rfl) (ja_c (((lc_sqm 11 (fun d => .tup [d]) (.inr rfl) ((je_slT (l := none) (h := some ((n + 1 : Nat) : Int)) (je_var 3 rfl) jo_none (jo_some ((je_add (je_var 5 rfl) je_int).is rfl))).is (d' := .tup (natsD (ps.take (n + 1)))) (by rw [cut_to, natsD_take])) (by rw [natsD_len, List.length_take]; omega) (blkOk_by (by kernel_rfl)) (fun s H C cl fp => jg_nm 11 nd) (fun j d hd s H C cl fp => je_tupI (ds := [d]) (ja_c (je_var 11 rfl) ja_nil) (szl rfl))).jf nd).je1) ja_nil)))
    ⟨k, sideM k L L.length, ps.take (n + 1), on, _, n + 1, rfl, by omega, by omega, h1, posD_nats _, by rw [hsl, List.length_take]; omega, Is.self⟩ hr5) (jg_tp (jgs_cons (jg_nm 9 nd) (jgs_cons (jg_nm 10 nd) jgs_nil))) rfl ?_
  refine jb_unpack (t := .tp [.nm 9, .nm 12]) (d := .tup [.lst (rowsD k ((sideM k L L.length).map turnS) (qs.take n) (n + 1)), .lst (walksD k ((sideM k L L.length).map turnS) (qs.take n) n)]) (je_callI (ok_into_rows c) (ja_c (je_var 6 rfl) (ja_c (je_var 8 rfl) (ja_c (((lc_sqm 11 (fun d => .tup [d]) (.inr rfl) ((je_slT (l := none) (h := some (n : Int)) (je_var 4 rfl) jo_none (jo_some (je_var 5 rfl))).is (d' := .tup (natsD (qs.take n))) (by rw [cut_to, natsD_take])) (by rw [natsD_len, List.length_take]; omega) (blkOk_by (by kernel_rfl)) (fun s H C cl fp => jg_nm 11 nd) (fun j d hd s H C cl fp => je_tupI (ds := [d]) (ja_c (je_var 11 rfl) ja_nil) (szl rfl))).jf nd).je1) ja_nil)))
    ⟨k, (sideM k L L.length).map turnS, qs.take n, ho, _, n, rfl, by omega, by rw [List.length_map]; omega, h2, posD_nats _, by rw [List.length_map, hsl, List.length_take]; omega, Is.self⟩ hr5) (jg_tp (jgs_cons (jg_nm 9 nd) (jgs_cons (jg_nm 12 nd) jgs_nil))) rfl ?_
  have hlt : (L.take n).length = n := by rw [List.length_take]; omega
  refine jb_one (js_retI (je_tupI (ds := [.tup (floorD k (L.take n) n), .tup (walksD k (sideM k L L.length) (ps.take (n + 1)) (n + 1)), .tup (walksD k ((sideM k L L.length).map turnS) (qs.take n) n)])
    (ja_c (je_call (ok_floor_of c) (ja_cons (je_meth (ok_lower c) (je_var 0 rfl) c.c_Game c.m_Game_lower (by decide) (ja_c (je_var 5 rfl) ja_nil) ⟨k, n, L, _, rfl, hG', by omega, fun d h => h⟩ hr5) ja_nil) (fun ss ⟨d, r, e1, hd, e2⟩ => by
      have e2' : r = [] := e2
      subst e1 e2'
      exact ⟨k, L.take n, d, rfl, hd, by rw [hlt]; exact Is.self⟩) hr8) (ja_c (je_tuple (.inl rfl) (je_var 10 rfl) c.b_tuple) (ja_c (je_tuple (.inl rfl) (je_var 12 rfl) c.b_tuple) ja_nil))) (szl rfl)) (q n hn))
end
end PW
end
section
set_option maxHeartbeats 4000000
namespace PW
open PySem PySem.Spec PyProof.Rows L2 PJ PF PX

/-! ### grids out of any data -/
def entO : Dat → Option Int
  | .int i => some i
  | _ => none
def nth (d : Dat) (i : Nat) : Dat := (seqs d).getD i .non
def grF (d : Dat) : Gr := fun x y => entO (nth (nth d x) y)
theorem entB_oD {d : Dat} (h : entB d = true) : d = oD (entO d) := by
  cases d <;> first | rfl | cases h
theorem getD_of {α : Type} {l : List α} {i : Nat} {x z : α} (h : l[i]? = some x) : l.getD i z = x := by rw [List.getD_eq_getElem?_getD, h]; rfl
theorem rowB_row {k : Nat} {d : Dat} (h : rowB k d = true) : seqs d = rowD k (fun y => entO (nth d y)) := by
  obtain ⟨h1, h2⟩ := Bool.and_eq_true_iff.mp h
  obtain ⟨h3, h4⟩ := Bool.and_eq_true_iff.mp h2
  have hl := of_decide_eq_true h3
  refine List.ext_getElem? fun i => ?_
  by_cases hi : i < k
  · have e1 : (seqs d)[i]? = some ((seqs d)[i]'(by omega)) := List.getElem?_eq_getElem (by omega)
    rw [rowD_get hi, e1]
    have e2 : nth d i = (seqs d)[i]'(by omega) := getD_of e1
    rw [e2, ← entB_oD (List.all_eq_true.mp h4 _ (List.getElem_mem _))]
  · rw [List.getElem?_eq_none (by omega), List.getElem?_eq_none (by rw [rowD_len]; omega)]
theorem gridB_back {k : Nat} {d : Dat} (h : gridB k d = true) : isSeq d = true ∧ (seqs d).length = k ∧ ∀ x, x < k → (seqs d)[x]? = some (nth d x) ∧ isSeq (nth d x) = true ∧ seqs (nth d x) = rowD k (grF d x) := by
  obtain ⟨h1, h2⟩ := Bool.and_eq_true_iff.mp h
  obtain ⟨h3, h4⟩ := Bool.and_eq_true_iff.mp h2
  have hl := of_decide_eq_true h3
  refine ⟨h1, hl, fun x hx => ?_⟩
  have e1 : (seqs d)[x]? = some ((seqs d)[x]'(by omega)) := List.getElem?_eq_getElem (by omega)
  have e2 : nth d x = (seqs d)[x]'(by omega) := getD_of e1
  have hr : rowB k (nth d x) = true := by
    rw [e2]
    exact List.all_eq_true.mp h4 _ (List.getElem_mem _)
  refine ⟨by rw [e1, e2], (Bool.and_eq_true_iff.mp hr).1, rowB_row hr⟩
theorem gridB_grid {k : Nat} {d : Dat} (h : gridB k d = true) : IsGrid k (grF d) d := by
  obtain ⟨h1, h2, h3⟩ := gridB_back h
  refine ⟨_, seqs_of h1, h2, fun x hx => ?_⟩
  obtain ⟨e1, e2, e3⟩ := h3 x hx
  refine ⟨_, e1, ?_⟩
  show Seqd _ _
  rw [← e3]
  exact seqs_of e2
theorem gridOf_eq {k : Nat} {d : Dat} (h : gridB k d = true) : gridOf k d = .tup (gridT k (grF d)) := by
  obtain ⟨h1, h2, h3⟩ := gridB_back h
  unfold gridOf
  rw [h]
  show Dat.tup _ = _
  congr 1
  refine List.ext_getElem? fun x => ?_
  by_cases hx : x < k
  · obtain ⟨e1, e2, e3⟩ := h3 x hx
    rw [List.getElem?_map, e1, gridT_get hx, ← e3]
    rfl
  · rw [List.getElem?_eq_none (by rw [List.length_map]; omega), List.getElem?_eq_none (by rw [gridT_len]; omega)]
theorem partB_back {k : Nat} {d : Dat} (h : partB k d = true) : isSeq d = true ∧ (seqs d).length = k ∧ ∀ x, x < k → (seqs d)[x]? = some (nth d x) ∧ gridB k (nth d x) = true := by
  obtain ⟨h1, h2⟩ := Bool.and_eq_true_iff.mp h
  obtain ⟨h3, h4⟩ := Bool.and_eq_true_iff.mp h2
  have hl := of_decide_eq_true h3
  refine ⟨h1, hl, fun x hx => ?_⟩
  have e1 : (seqs d)[x]? = some ((seqs d)[x]'(by omega)) := List.getElem?_eq_getElem (by omega)
  have e2 : nth d x = (seqs d)[x]'(by omega) := getD_of e1
  refine ⟨by rw [e1, e2], ?_⟩
  rw [e2]
  exact List.all_eq_true.mp h4 _ (List.getElem_mem _)
theorem partOf_eq {k : Nat} {d : Dat} (h : partB k d = true) : partOf k d = .tup ((List.range k).map fun p => .tup (gridT k (grF (nth d p)))) := by
  obtain ⟨h1, h2, h3⟩ := partB_back h
  unfold partOf
  rw [h]
  show Dat.tup _ = _
  congr 1
  refine List.ext_getElem? fun x => ?_
  by_cases hx : x < k
  · obtain ⟨e1, e2⟩ := h3 x hx
    rw [List.getElem?_map, e1, map_range_get hx]
    show some (gridOf k (nth d x)) = _
    rw [gridOf_eq e2]
  · rw [List.getElem?_eq_none (by rw [List.length_map]; omega), List.getElem?_eq_none (by rw [List.length_map, List.length_range]; omega)]
theorem tyOk_mono {n : Nat} : ∀ {d : Dat}, tyOk (n + 1) d = true → tyOk n d = true := by
  induction n with
  | zero => exact fun {d} h => (Bool.and_eq_true_iff.mp h).1
  | succ n ih =>
    intro d h
    obtain ⟨h1, h2⟩ := Bool.and_eq_true_iff.mp h
    exact Bool.and_eq_true_iff.mpr ⟨h1, List.all_eq_true.mpr fun x hx => ih (List.all_eq_true.mp h2 x hx)⟩
/-! ### the floor, judged -/
def fg (ds : List Dat) (i p : Nat) : Gr := grF (nth (ds.getD i .non) p)
def ftab (ds : List Dat) : Nat → Gr
  | 0 => fun _ _ => some 0
  | i + 1 => fun p q => fg ds i p q q
def okFp (k : Nat) (as : List Arr) (T g : Gr) (p : Nat) : Bool := notAb (g p p) (some 0) && keptB k as T g
def okF (k : Nat) (L : List (List Arr)) (ds : List Dat) (i : Nat) : Bool := (List.range k).all fun p => okFp k (L.getD i []) (ftab ds i) (fg ds i p) p
def ftabD (k : Nat) (ds : List Dat) (n : Nat) : List Dat := (List.range n).map fun i => .tup (gridT k (ftab ds (i + 1)))
theorem rep_grid (k : Nat) : Dat.tup (List.replicate k (.tup (List.replicate k (.int 0)))) = .tup (gridT k fun _ _ => some 0) := by
  congr 1
  refine (List.eq_replicate_iff.mpr ⟨gridT_len _ _, fun b hb => ?_⟩).symm
  obtain ⟨i, _, e⟩ := List.mem_map.mp hb
  rw [← e, rep_row]
section
variable {P : Program} {w : World} {K : PySem.W.Frag} {mg : Str → Option Value} {base : Heap}
def W_check_floor : Wf := fun ss R Z => ∃ (k : Nat) (L : List (List Arr)) (gd fd : Dat) (ds : List Dat), ss = [.dat gd, .dat fd] ∧ IsGame k L gd ∧ Seqd fd ds ∧ ds.length = L.length ∧ (∀ d ∈ ds, tyOk 3 d = true) ∧
  (∀ i d, ds[i]? = some d → partB k d = false → (∀ (j : Nat) d, j < i → ds[j]? = some d → partB k d = true) → Z 1 i) ∧
  ((∀ d ∈ ds, partB k d = true) → ∀ i, i < L.length → okF k L ds i = false → (∀ j, j < i → okF k L ds j = true) → Z 1 i) ∧
  ((∀ d ∈ ds, partB k d = true) → (∀ i, i < L.length → okF k L ds i = true) → R (.tup (ftabD k ds L.length)))
theorem ok_check_floor (c : Fc K mg) : DefJ P w K mg base "check_floor" 5 ["game", "floor"] W_check_floor := by
  obtain ⟨fd, F⟩ := c.f_check_floor
  refine ⟨fd, defj _ F sc_check_floor (fun ss R Z ⟨k, L, gd, fd', ds, e, _⟩ => by rw [e]; rfl) (fun cdv A outer s H E en ss R Z hr ⟨k, L, gd, fd', ds, e, hG, hF, hn, hty, z1, z2, q⟩ hZ => ?_), F.bindsN (fun _ _ _ _ _ _ us hl => match us, hl with | [_, _], _ => rfl), c.g_check_floor, F.kp⟩
  subst e
  have nd := sc_check_floor.nd
  have hr4 : Room 4 _ := hr
  have hr3 : Room 3 _ := hr.mono (by decide)
  have hr2 : Room 2 _ := hr.mono (by decide)
  have hG' := hG
  obtain ⟨ws, hg, hW, h3, h5, hL⟩ := hG
  subst hg
  have tk := (takes_of rfl rfl rfl rfl : Takes (cxOf (L2.CX P w) P w K mg base N_check_floor "check_floor" (defScope s_check_floor) (gA K "check_floor") cdv A outer s H E) (fun cls d _ H => E cls d H))
  have hsd : isSeq fd' = true ∧ (tyN fd').isSome = true := by rcases hF with h | h <;> (rw [h]; exact ⟨rfl, rfl⟩)
  refine jb_cons (M := Is [some (.dat (gameD k ws)), some (.dat fd'), none, none, none, none, none, none, none, none, none]) (js_expr (R := Is (gameD k ws)) (je_callI (ok_check_strict c) (ja_c (je_var 0 rfl) ja_nil) ⟨k, L, _, rfl, hG', Is.self⟩ hr3) (fun _ _ => rfl)) (fun δ' e => ?_)
  rw [show δ' = _ from e]
  refine jb_ifX ((JW.jt (jw_orI (jt_not (jt_v (je_isSeq (je_var 1 rfl) hsd.2 c.b_isinstance c.b_list c.b_tuple))) fun _ => jw_or1 (jt_ne (je_len hF (je_var 1 rfl) c.b_len) (je_fld 2 (je_var 0 rfl) rfl rfl c.c_Game c.n_Game_discs))))) (fun z' => ?_) fun _ => ?_
  · have z3 : true = (!isSeq fd' || !decide ((ds.length : Int) = (ws.length : Int))) := z'
    rw [hsd.1, hn, hW.len, decide_eq_true rfl] at z3
    cases z3
  refine jb_ownLc 2 nd (lc_sqm 3 (partOf k) hF (je_var 1 rfl) (by omega) (blkOk_by (by kernel_rfl)) (fun s H C cl fp => jg_nm 3 nd) (fun j x hx s H C cl fp => je_callI (ok_part_of c) (ja_c (je_var 3 rfl) (ja_c (je_fld 0 (je_var 0 rfl) rfl rfl c.c_Game c.n_Game_pegs) ja_nil)) ⟨k, x, rfl, by omega, hty x (List.mem_of_getElem? hx), Is.self⟩ hr4)) ?_
  refine jb_freeze 2 rfl ?_
  refine jb_cons (M := fun δ' => (∀ d ∈ ds, partB k d = true) ∧ ∃ z3 z4, δ' = [some (.dat (gameD k ws)), some (.dat fd'), some (.dat (.lst (ds.map (partOf k)))), z3, z4, none, none, none, none, none, none])
    (js_forI (fun i δ' => (∀ (j : Nat) d, j < i → ds[j]? = some d → partB k d = true) ∧ ∃ z3 z4, δ' = [some (.dat (gameD k ws)), some (.dat fd'), some (.dat (.lst (ds.map (partOf k)))), z3, z4, none, none, none, none, none, none])
      (ji_enum (.inl rfl) (je_var 2 rfl) c.b_enumerate) (jg_tp (jgs_cons (jg_nm 4 nd) (jgs_cons (jg_nm 3 nd) jgs_nil))) ⟨(fun _ _ h => nomatch h), none, none, rfl⟩ (fun i d δ' hd ⟨hb, z3, z4, e⟩ => ?_) (fun δ' ⟨hb, z3, z4, e⟩ => ?_)) ?_
  · obtain ⟨d1, hd1, ed⟩ := enumD_get hd
    rw [List.getElem?_map] at hd1
    cases hds : ds[i]? with
    | none =>
      rw [hds] at hd1
      cases hd1
    | some x =>
      rw [hds] at hd1
      have ex : d1 = partOf k x := (Option.some.inj hd1).symm
      subst e ed ex
      have told : Told (partOf k x) := by unfold partOf; split <;> trivial
      refine ⟨_, rfl, jb_one (js_if ((jt_isN (je_var 3 rfl) told).is (d' := !partB k x) (by unfold partOf; cases partB k x <;> rfl)) (fun z => ?_) fun z => jb_nil ⟨fun j d hj hjd => ?_, _, _, rfl⟩)⟩
      · exact jb_one (js_raise (ext_1 c) c.g_BadFloor hr tk (je_var 4 rfl) (fun dd G' H' f h0 hd => hZ 1 i dd G' H' (z1 i x hds (nottrue z) hb) f h0 hd))
      · rcases Nat.lt_or_ge j i with h | h
        · exact hb j d h hjd
        · have : j = i := by omega
          subst this
          rw [hds] at hjd
          rw [← Option.some.inj hjd]
          exact notfalse z
  · refine ⟨fun d hd => ?_, z3, z4, e⟩
    obtain ⟨j, hj⟩ := List.getElem?_of_mem hd
    refine hb j d ?_ hj
    rw [enumD_len, List.length_map]
    exact (List.getElem?_eq_some_iff.mp hj).1
  rintro δ' ⟨hall, z3, z4, e⟩
  subst e
  refine jb_lose 3 (jb_lose 4 ?_)
  refine jb_parO 5 6 nd ((je_repT1 (je_tupI (ds := [.tup (List.replicate k (.int 0))]) (ja_c (je_repT1 (je_tupI (ds := [.int 0]) (ja_c je_int ja_nil) (szl rfl)) (je_fld 0 (je_var 0 rfl) rfl rfl c.c_Game c.n_Game_pegs) ⟨by omega, by omega⟩) ja_nil) (szl rfl)) (je_fld 0 (je_var 0 rfl) rfl rfl c.c_Game c.n_Game_pegs) ⟨by omega, by omega⟩).is (rep_grid k)) (jf_lstI (ds := []) ja_nil (Nat.zero_le _)) ?_
  refine jb_cons (M := fun δ' => (∀ i, i < L.length → okF k L ds i = true) ∧ ∃ z3 z4 z5 z7 z8 z9 z10, δ' = [some (.dat (gameD k ws)), some (.dat fd'), some (.dat (.lst (ds.map (partOf k)))), z3, z4, z5, some (.own (ftabD k ds L.length)), z7, z8, z9, z10])
    (js_forI (fun i δ' => (∀ j, j < i → okF k L ds j = true) ∧ ∃ z3 z4 z7 z8 z9 z10, δ' = [some (.dat (gameD k ws)), some (.dat fd'), some (.dat (.lst (ds.map (partOf k)))), z3, z4, some (.dat (.tup (gridT k (ftab ds i)))), some (.own (ftabD k ds i)), z7, z8, z9, z10])
      (ji_enum (.inl rfl) (je_var 2 rfl) c.b_enumerate) (jg_tp (jgs_cons (jg_nm 4 nd) (jgs_cons (jg_nm 3 nd) jgs_nil))) ⟨(fun _ h => nomatch h), none, none, none, none, none, none, rfl⟩ (fun i d δ' hd ⟨hb, z3, z4, z7, z8, z9, z10, e⟩ => ?_) (fun δ' ⟨hb, z3, z4, z7, z8, z9, z10, e⟩ => ?_)) ?_
  · obtain ⟨d1, hd1, ed⟩ := enumD_get hd
    rw [List.getElem?_map] at hd1
    cases hds : ds[i]? with
    | none =>
      rw [hds] at hd1
      cases hd1
    | some x =>
      rw [hds] at hd1
      have ex : d1 = partOf k x := (Option.some.inj hd1).symm
      rw [partOf_eq (hall x (List.mem_of_getElem? hds))] at ex
      have hi : i < L.length := by rw [← hn]; exact (List.getElem?_eq_some_iff.mp hds).1
      have hxd : ds.getD i .non = x := getD_of hds
      have eg : ∀ p, grF (nth x p) = fg ds i p := fun p => by unfold fg; rw [hxd]
      subst e ed ex
      refine ⟨_, rfl, ?_⟩
      have hd1L : L[i]? = some L[i] := List.getElem?_eq_getElem hi
      obtain ⟨wd, hwd, ⟨y, hy⟩, hal, hok⟩ := hW.at_ i _ hd1L
      subst hy
      have eL : L.getD i [] = L[i] := getD_of hd1L
      refine jb_cons (M := fun δ' => okF k L ds i = true ∧ ∃ z7 z8 z9 z10, δ' = [some (.dat (gameD k ws)), some (.dat fd'), some (.dat (.lst (ds.map (partOf k)))), some (.dat (.tup ((List.range k).map fun p => .tup (gridT k (grF (nth x p)))))), some (.dat (.int (i : Int))), some (.dat (.tup (gridT k (ftab ds i)))), some (.own (ftabD k ds i)), z7, z8, z9, z10])
        (js_forI (fun p δ' => (∀ p', p' < p → okFp k (L.getD i []) (ftab ds i) (fg ds i p') p' = true) ∧ ∃ z7 z8 z9 z10, δ' = [some (.dat (gameD k ws)), some (.dat fd'), some (.dat (.lst (ds.map (partOf k)))), some (.dat (.tup ((List.range k).map fun p => .tup (gridT k (grF (nth x p)))))), some (.dat (.int (i : Int))), some (.dat (.tup (gridT k (ftab ds i)))), some (.own (ftabD k ds i)), z7, z8, z9, z10])
          (ji_enum (.inr rfl) (je_var 3 rfl) c.b_enumerate) (jg_tp (jgs_cons (jg_nm 7 nd) (jgs_cons (jg_nm 8 nd) jgs_nil))) ⟨(fun _ h => nomatch h), _, _, _, _, rfl⟩ (fun p d2 δ2 hd2 ⟨hb2, z7, z8, z9, z10, e2⟩ => ?_) (fun δ2 ⟨hb2, z7, z8, z9, z10, e2⟩ => ?_)) ?_
      · obtain ⟨d3, hd3, ed3⟩ := enumD_get hd2
        have hp : p < k := by
          have := (List.getElem?_eq_some_iff.mp hd3).1
          rwa [List.length_map, List.length_range] at this
        rw [map_range_get hp] at hd3
        have ed4 : d3 = .tup (gridT k (fg ds i p)) := by rw [← Option.some.inj hd3, eg]
        subst e2 ed3 ed4
        refine ⟨_, rfl, ?_⟩
        refine jb_set 9 nd (d := oD (fg ds i p p p)) (je_ixT (je_ixT (je_var 8 rfl) (je_var 7 rfl) (gridT_get hp)) (je_var 7 rfl) (rowD_get hp)) ?_
        refine jb_one (js_if (Rt := Is (!okFp k (L.getD i []) (ftab ds i) (fg ds i p) p)) ?_ (fun z => ?_) fun z => jb_nil ⟨fun p' hp' => ?_, _, _, _, _, rfl⟩)
        · have e3 : okFp k (L.getD i []) (ftab ds i) (fg ds i p) p = (notAb (fg ds i p p p) (some 0) && keptB k L[i] (ftab ds i) (fg ds i p)) := by unfold okFp; rw [eL]
          rw [e3]
          cases ho : fg ds i p p p with
          | none => exact (JW.jt (jw_orI (x := true) (y := false) (jt_isN (d := .non) (je_var 9 rfl)) fun z => nomatch z)).is rfl
          | some v =>
            refine (JW.jt (jw_orI (jt_isN (je_var 9 rfl)) fun _ => jw_orI (jt_gt (je_var 9 rfl) je_int) fun _ => jw_or1 (jt_not (jt_v (je_callI (ok_is_kept c) (ja_c (je_fld 2 (je_ixT (je_fld 1 (je_var 0 rfl) rfl rfl c.c_Game c.n_Game_webs) (je_var 4 rfl) hwd) rfl rfl c.c_Web c.n_Web_arrows) (ja_c (je_var 5 rfl) (ja_c (je_var 8 rfl) ja_nil))) ⟨k, L[i], ftab ds i, fg ds i p, _, _, _, rfl, by omega, .inr rfl, arr_in hok, isGrid_t, isGrid_t, Is.self⟩ hr2))))).is ?_
            show (false || (decide ((0 : Int) < v) || !keptB k L[i] (ftab ds i) (fg ds i p))) = !(decide (v ≤ 0) && keptB k L[i] (ftab ds i) (fg ds i p))
            by_cases hv : v ≤ 0
            · rw [decide_eq_true hv, decide_eq_false (by omega)]
              cases keptB k L[i] (ftab ds i) (fg ds i p) <;> rfl
            · rw [decide_eq_false hv, decide_eq_true (by omega)]
              rfl
        · exact jb_one (js_raise (ext_1 c) c.g_BadFloor hr tk (je_var 4 rfl) (fun dd G' H' f h0 hd => hZ 1 i dd G' H' (z2 hall i hi (range_not hp (nottrue z)) hb) f h0 hd))
        · rcases Nat.lt_or_ge p' p with h | h
          · exact hb2 p' h
          · have : p' = p := by omega
            subst this
            exact notfalse z
      · refine ⟨range_all fun p hp => hb2 p ?_, z7, z8, z9, z10, e2⟩
        rw [enumD_len, List.length_map, List.length_range]
        exact hp
      · rintro δ2 ⟨hokF, z7, z8, z9, z10, e2⟩
        subst e2
        refine jb_set 5 nd (d := .tup (gridT k (ftab ds (i + 1)))) (je_tuple (.inl rfl) (((lc_sq 8 (fun p => .tup (rowD k (ftab ds (i + 1) p))) (.inr rfl) (je_var 3 rfl) (by rw [List.length_map, List.length_range]; omega) (blkOk_by (by kernel_rfl)) (fun s H C cl fp => jg_nm 8 nd) (fun p d hd s H C cl fp => ?_)).jf nd).je1.is ?_) c.b_tuple) ?_
        · have hp : p < k := by
            have := (List.getElem?_eq_some_iff.mp hd).1
            rwa [List.length_map, List.length_range] at this
          rw [map_range_get hp] at hd
          have ed4 : d = .tup (gridT k (fg ds i p)) := by rw [← Option.some.inj hd, eg]
          subst ed4
          refine je_tuple (.inl rfl) (((lc_enum 7 10 (fun q => oD (ftab ds (i + 1) p q)) (.inr rfl) (je_var 8 rfl) (by rw [gridT_len]; omega) c.b_enumerate (blkOk_by (by kernel_rfl)) (fun s H C cl fp => jg_tp (jgs_cons (jg_nm 7 nd) (jgs_cons (jg_nm 10 nd) jgs_nil))) (fun q d hd s H C cl fp => ?_)).jf nd).je1.is (by rw [gridT_len]; rfl)) c.b_tuple
          have hq : q < k := by
            have := (List.getElem?_eq_some_iff.mp hd).1
            rwa [gridT_len] at this
          rw [gridT_get hq] at hd
          have ed5 : d = _ := (Option.some.inj hd).symm
          subst ed5
          exact je_ixT (je_var 10 rfl) (je_var 7 rfl) (rowD_get hq)
        · rw [List.length_map, List.length_range]
          rfl
        · refine jb_one (js_app 6 rfl (je_var 5 rfl) (by unfold ftabD; rw [List.length_map, List.length_range, sizeLine_eq]; omega) fun d ed => ⟨fun j hj => ?_, ?_⟩)
          · rcases Nat.lt_or_ge j i with h | h
            · exact hb j h
            · have : j = i := by omega
              subst this
              exact hokF
          · rw [show d = .tup (gridT k (ftab ds (i + 1))) from ed, show ftabD k ds i ++ [.tup (gridT k (ftab ds (i + 1)))] = ftabD k ds (i + 1) from map_snoc _ i]
            exact ⟨_, _, _, _, _, _, rfl⟩
  · rw [enumD_len, List.length_map, hn] at e hb
    exact ⟨hb, z3, z4, _, z7, z8, z9, z10, e⟩
  · rintro δ' ⟨hok, z3, z4, z5, z7, z8, z9, z10, e⟩
    subst e
    exact jb_freeze 6 rfl (jb_one (js_retI (je_tuple (.inl rfl) (je_var 6 rfl) c.b_tuple) (q hall hok)))
end
end PW
end
section
set_option maxHeartbeats 4000000
namespace PW
open PySem PySem.Spec PyProof.Rows L2 PJ PF PX

def bnd0 (ts : List Dat) : Nat → Nat → Option Int
  | 0 => fun _ => some 0
  | i + 1 => fun q => grF (ts.getD i .non) q q
def okG (k : Nat) (SL : SideM) (ts : List Dat) (ps : List Nat) (i : Nat) : Bool :=
  gridB k (ts.getD i .non) && (keptB k (SL.getD i ([], fun _ _ => none)).1 (SL.getD i ([], fun _ _ => none)).2 (grF (ts.getD i .non)) && (List.range k).all fun q => notAb (grF (ts.getD i .non) (ps.getD i 0) q) (bnd0 ts i q))
def tgD (k : Nat) (ts : List Dat) (n : Nat) : List Dat := (List.range n).map fun i => .tup (gridT k (grF (ts.getD i .non)))
theorem natsD_at2 {ps : List Nat} {i : Nat} (h : i < ps.length) : (natsD ps)[i]? = some (.int ((ps.getD i 0 : Nat) : Int)) := by
  have e : ps[i]? = some ps[i] := List.getElem?_eq_getElem h
  rw [getD_of e]
  unfold natsD
  rw [List.getElem?_map, e]
  rfl
section
variable {P : Program} {w : World} {K : PySem.W.Frag} {mg : Str → Option Value} {base : Heap}
def W_check_grids : Wf := fun ss R Z => ∃ (k : Nat) (SL : SideM) (td : Dat) (sd ts : List Dat) (ps : List Nat) (x : Nat), ss = [.dat td, .dat (.lst sd), .dat (.int (k : Int)), .dat (.tup (natsD ps)), .dat (.int (x : Int))] ∧ k ≤ 1000 ∧ Seqd td ts ∧ SideL k SL sd ∧ ts.length ≤ SL.length ∧ ts.length ≤ ps.length ∧ ts.length ≤ 1000 ∧
  (∀ p ∈ ps, p < k) ∧ (∀ d ∈ ts, tyOk 2 d = true) ∧ (∀ i, i < ts.length → okG k SL ts ps i = false → (∀ j, j < i → okG k SL ts ps j = true) → Z 2 ((i + x : Nat) : Int)) ∧ ((∀ i, i < ts.length → okG k SL ts ps i = true) → R (.lst (tgD k ts ts.length)))
theorem ok_check_grids (c : Fc K mg) : DefJ P w K mg base "check_grids" 4 ["things", "side", "pegs", "place", "extra"] W_check_grids := by
  obtain ⟨fd, F⟩ := c.f_check_grids
  refine ⟨fd, defj _ F sc_check_grids (fun ss R Z ⟨k, SL, td, sd, ts, ps, x, e, _⟩ => by rw [e]; rfl) (fun cdv A outer s H E en ss R Z hr ⟨k, SL, td, sd, ts, ps, x, e, hk, hT, hS, l1, l2, hl, hpk, hty, z1, q⟩ hZ => ?_), F.bindsN (fun _ _ _ _ _ _ us hl => match us, hl with | [_, _, _, _, _], _ => rfl), c.g_check_grids, F.kp⟩
  subst e
  have nd := sc_check_grids.nd
  have hr3 : Room 3 _ := hr
  have hr2 : Room 2 _ := hr.mono (by decide)
  have hr1 : Room 1 _ := hr.mono (by decide)
  have tk := (takes_of rfl rfl rfl rfl : Takes (cxOf (L2.CX P w) P w K mg base N_check_grids "check_grids" (defScope s_check_grids) (gA K "check_grids") cdv A outer s H E) (fun cls d _ H => E cls d H))
  refine jb_parO 5 6 nd (((jf_rep1 ((jf_lstI (ds := [.int 0]) (ja_c je_int ja_nil) (szl rfl)).je1) (je_var 2 rfl) hk).is (rep_row k)).je1) (jf_lstI (ds := []) ja_nil (Nat.zero_le _)) ?_
  refine jb_cons (M := fun δ' => (∀ i, i < ts.length → okG k SL ts ps i = true) ∧ ∃ z5 z7 z8 z9 z10 z11 z12 z13, δ' = [some (.dat td), some (.dat (.lst sd)), some (.dat (.int (k : Int))), some (.dat (.tup (natsD ps))), some (.dat (.int (x : Int))), z5, some (.own (tgD k ts ts.length)), z7, z8, z9, z10, z11, z12, z13])
    (js_forI (fun i δ' => (∀ j, j < i → okG k SL ts ps j = true) ∧ ∃ z7 z8 z9 z10 z11 z12 z13, δ' = [some (.dat td), some (.dat (.lst sd)), some (.dat (.int (k : Int))), some (.dat (.tup (natsD ps))), some (.dat (.int (x : Int))), some (.dat (.lst (rowD k (bnd0 ts i)))), some (.own (tgD k ts i)), z7, z8, z9, z10, z11, z12, z13])
      (ji_enum hT (je_var 0 rfl) c.b_enumerate) (jg_tp (jgs_cons (jg_nm 7 nd) (jgs_cons (jg_nm 8 nd) jgs_nil))) ⟨(fun _ h => nomatch h), none, none, none, none, none, none, none, rfl⟩ (fun i d δ' hd ⟨hb, z7, z8, z9, z10, z11, z12, z13, e⟩ => ?_) (fun δ' ⟨hb, z7, z8, z9, z10, z11, z12, z13, e⟩ => ?_)) ?_
  · obtain ⟨d1, hd1, ed⟩ := enumD_get hd
    have hi : i < ts.length := (List.getElem?_eq_some_iff.mp hd1).1
    have hiS : i < SL.length := by omega
    have eS : SL[i]? = some SL[i] := List.getElem?_eq_getElem hiS
    obtain ⟨ad, sd2, hsd, hA⟩ := hS.at_ i _ eS
    have exd : ts.getD i .non = d1 := getD_of hd1
    have exS : SL.getD i ([], fun _ _ => none) = SL[i] := getD_of eS
    have htd := hty d1 (List.mem_of_getElem? hd1)
    have hpi : ps.getD i 0 < k := by
      have e1 : ps[i]? = some ps[i] := List.getElem?_eq_getElem (by omega)
      rw [getD_of e1]
      exact hpk _ (List.getElem_mem _)
    subst e ed
    refine ⟨_, rfl, ?_⟩
    refine jb_unpack (t := .tp [.nm 9, .nm 10]) (je_ixL (je_var 1 rfl) (je_var 7 rfl) hsd) (jg_tp (jgs_cons (jg_nm 9 nd) (jgs_cons (jg_nm 10 nd) jgs_nil))) rfl ?_
    refine jb_set 11 nd (d := gridOf k d1) (je_callI (ok_grid_of c) (ja_c (je_var 8 rfl) (ja_c (je_var 2 rfl) ja_nil)) ⟨k, d1, rfl, hk, htd, Is.self⟩ hr3) ?_
    have told : Told (gridOf k d1) := by unfold gridOf; split <;> trivial
    have fail : okG k SL ts ps i = false → ∀ dd G' H', Fm en.da en.G0 en.H0 G' H' → en.H0 dd = none → H' dd = some (.xd [(("disc" : Str), .int ((i + x : Nat) : Int))]) → E (.ref (eA K 2)) (some dd) H' := fun hz dd G' H' f h0 hd => hZ 2 _ dd G' H' (z1 i hi hz hb) f h0 hd
    refine jb_ifX (Rt := Is (!(gridB k d1 && keptB k SL[i].1 SL[i].2 (grF d1)))) ((JW.jt (jw_orI (y := !keptB k SL[i].1 SL[i].2 (grF d1)) ((jt_isN (je_var 11 rfl) told).is (d' := !gridB k d1) (by unfold gridOf; cases gridB k d1 <;> rfl)) fun hz => jw_or1 (jt_not (jt_v (je_callI (ok_is_kept c) (ja_c (je_var 9 rfl) (ja_c (je_var 10 rfl) (ja_c (je_var 11 rfl) ja_nil))) ⟨k, SL[i].1, SL[i].2, grF d1, _, _, _, rfl, hk, hA.arr, hA.inn, hA.tab, by rw [gridOf_eq (notfalse hz.symm)]; exact isGrid_t, Is.self⟩ hr2))))).is (by cases gridB k d1 <;> rfl)) (fun z => ?_) (fun z => ?_)
    · have hz : okG k SL ts ps i = false := by
        unfold okG
        rw [exd, exS, ← Bool.and_assoc, nottrue z]
        rfl
      exact jb_one (js_raise (ext_2 c) c.g_BadPaper hr tk ((je_add (je_var 7 rfl) (je_var 4 rfl)).is (d' := .int ((i + x : Nat) : Int)) rfl) (fail hz))
    have hgk := notfalse z
    have hg := (Bool.and_eq_true_iff.mp hgk).1
    rw [gridOf_eq hg]
    refine jb_ifX (Rt := Is (!(List.range k).all fun q => notAb (grF d1 (ps.getD i 0) q) (bnd0 ts i q))) (jt_not (jt_v ((je_all (bs := (List.range k).map fun q => notAb (grF d1 (ps.getD i 0) q) (bnd0 ts i q)) rfl (((lc_zip 12 13 (n := k) (fun q => .bl (notAb (grF d1 (ps.getD i 0) q) (bnd0 ts i q))) (.inr rfl) (.inl rfl) (je_ixT (j := ps.getD i 0) (je_var 11 rfl) (je_ixT (j := i) (je_var 3 rfl) (je_var 7 rfl) (natsD_at2 (i := i) (by omega))) (gridT_get hpi)) (je_var 5 rfl) (by rw [rowD_len, rowD_len, Nat.min_self]) (by omega) c.b_zip (blkOk_by (by kernel_rfl)) (fun s H C cl fp => jg_tp (jgs_cons (jg_nm 12 nd) (jgs_cons (jg_nm 13 nd) jgs_nil))) (fun q d d2 hd hd2 s H C cl fp => ?_)).jf nd).je1.is (by rw [map_bl])) c.b_all).is (by rw [all_map])))) (fun z => ?_) (fun z => ?_)
    · obtain ⟨_, e1⟩ := rowD_back hd
      obtain ⟨_, e2⟩ := rowD_back hd2
      subst e1 e2
      exact je_callI (ok_not_above c) (ja_c (je_var 12 rfl) (ja_c (je_var 13 rfl) ja_nil)) ⟨_, _, rfl, Is.self⟩ hr1
    · have hz : okG k SL ts ps i = false := by
        unfold okG
        rw [exd, exS, nottrue z, Bool.and_false, Bool.and_false]
      exact jb_one (js_raise (ext_2 c) c.g_BadPaper hr tk ((je_add (je_var 7 rfl) (je_var 4 rfl)).is (d' := .int ((i + x : Nat) : Int)) rfl) (fail hz))
    have hok : okG k SL ts ps i = true := by
      unfold okG
      rw [exd, exS, ← Bool.and_assoc, hgk, notfalse z]
      rfl
    refine jb_set 5 nd (d := .lst (rowD k (bnd0 ts (i + 1)))) (je_callI (ok_tower_row c) (ja_c (je_var 11 rfl) ja_nil) ⟨k, grF d1, _, rfl, hk, isGrid_t, by show Is _ _; rw [show (fun p => grF d1 p p) = bnd0 ts (i + 1) from by show _ = fun q => grF (ts.getD i .non) q q; rw [exd]]; exact Is.self⟩ hr1) ?_
    refine jb_one (js_app 6 rfl (je_var 11 rfl) (by unfold tgD; rw [List.length_map, List.length_range, sizeLine_eq]; omega) fun d ed => ⟨fun j hj => ?_, ?_⟩)
    · rcases Nat.lt_or_ge j i with h | h
      · exact hb j h
      · have : j = i := by omega
        subst this
        exact hok
    · rw [show d = .tup (gridT k (grF d1)) from ed, ← exd, show tgD k ts i ++ [.tup (gridT k (grF (ts.getD i .non)))] = tgD k ts (i + 1) from map_snoc _ i]
      exact ⟨_, _, _, _, _, _, _, rfl⟩
  · rw [enumD_len] at e hb
    exact ⟨hb, _, z7, z8, z9, z10, z11, z12, z13, e⟩
  · rintro δ' ⟨hok, z5, z7, z8, z9, z10, z11, z12, z13, e⟩
    subst e
    exact jb_freeze 6 rfl (jb_one (js_retI (je_var 6 rfl) (q hok)))
end
end PW
end
section
set_option maxHeartbeats 4000000
namespace PJ
open PySem PySem.Spec PyProof.Rows L2
section
variable {X : Cx} {en : En} {δ : Lv} {e : Expr} {es : List Expr} {R : Dat → Prop} {pos p1 : Pos}
theorem je_callXN {x : Str} {k : Nat} {ps : List Str} {W : Wf} {Rs : List Sl → Prop} {Wx : WX} (Z : Nat → Int → Prop) (F : DefJ X.prog X.w X.K X.mg X.base x k ps W) (ha : JA X en (e :: es) δ Rs) (h : ∀ ss, Rs ss → W ss R Z) (hr : Room k X.A) (tk : Takes X Wx)
    (hZ : ∀ k n dd G' H' σ, Z k n → Now X.K en G' H' σ δ → en.H0 dd = none → H' dd = some (.xd [(("disc" : Str), .int n)]) → Wx (.ref (eA X.K k)) (some dd) σ H') (hg : Gl X x := by rfl) (hdb : (x == ("__debug__" : Str)) = false := by decide)
    (he : starEach (e :: es) X.env = (false, eval e X.env) :: starEach es X.env := by rfl) (hpl : (backTo pos (starEach es X.env)).any (·.1) = false := by rfl) : JE X en (.Call (.Name x p1) (e :: es) [] pos) δ R := by
  obtain ⟨fd, F1, hb, hm, hk⟩ := F
  refine PE.weak (pe_callS F1 hr hg hm hk hb (E := fun σ => WE Wx σ) (fun σ => passAt tk σ) ha hdb he hpl) fun σ H Q ⟨G, S, q⟩ => ⟨G, S, fun vs G1 H1 ss' f rs ps => ?_⟩
  exact ⟨en.da, G1, ss', R, Z, f.gh, f.drw, ps, h ss' rs, fun v G' H' d f2 rd rp => q v G' H' d (f.trans f2) rd rp, fun k n dd G' H' f2 z h0 hdd => hZ k n dd G' H' σ z ((S.step f).step f2) ((S.f0.trans f).none_of h0) hdd⟩
end
end PJ
namespace PW
open PySem PySem.Spec PyProof.Rows L2 PJ PF PX

def sh1 (m : Nat) (d : Dat) : Bool := isSeq d && decide ((seqs d).length = m)
def shM (n : Nat) (i : Nat) : Nat := if i = 1 then n + 1 else n
def shB (n : Nat) (d : Dat) : Bool := sh1 3 d && (List.range 3).all fun i => sh1 (shM n i) (nth d i)
def sideF (L : List (List Arr)) (fs : List Dat) (m : Nat) : SideM := (List.range m).map fun i => (L.getD i [], ftab fs i)
theorem sideF_len (L : List (List Arr)) (fs : List Dat) (m : Nat) : (sideF L fs m).length = m := by unfold sideF; rw [List.length_map, List.length_range]
theorem sideF_get {L : List (List Arr)} {fs : List Dat} {m i : Nat} {p : List Arr × Gr} (h : (sideF L fs m)[i]? = some p) : i < m ∧ p = (L.getD i [], ftab fs i) := by
  unfold sideF at h
  have hi : i < m := by
    have := (List.getElem?_eq_some_iff.mp h).1
    simpa using this
  rw [List.getElem?_map, List.getElem?_range hi] at h
  exact ⟨hi, (Option.some.inj h).symm⟩
theorem take_getD {α : Type} {l : List α} {n i : Nat} {z : α} (h : i < n) : (l.take n).getD i z = l.getD i z := by
  rw [List.getD_eq_getElem?_getD, List.getD_eq_getElem?_getD, List.getElem?_take, if_pos h]
theorem okF_take {k n : Nat} {L : List (List Arr)} {ds : List Dat} {i : Nat} (h : i < n) : okF k (L.take n) ds i = okF k L ds i := by
  unfold okF
  rw [take_getD h]
def bndN (bs : List Dat) (n : Nat) : Nat → Option Int := bnd0 bs n
structure PN (k : Nat) (L : List (List Arr)) (ps qs : List Nat) (n : Nat) (xd : Dat) (R : Dat → Prop) (Z : Nat → Int → Prop) : Prop where
  ty : tyOk 5 xd = true
  sh : shB n xd = false → Z 2 (-1)
  f1 : shB n xd = true → ∀ i d, (seqs (nth xd 0))[i]? = some d → partB k d = false → (∀ (j : Nat) d, j < i → (seqs (nth xd 0))[j]? = some d → partB k d = true) → Z 1 i
  f2 : shB n xd = true → (∀ d ∈ seqs (nth xd 0), partB k d = true) → ∀ i, i < n → okF k L (seqs (nth xd 0)) i = false → (∀ j, j < i → okF k L (seqs (nth xd 0)) j = true) → Z 1 i
  g1 : shB n xd = true → (∀ d ∈ seqs (nth xd 0), partB k d = true) → (∀ i, i < n → okF k L (seqs (nth xd 0)) i = true) →
    ∀ i, i < n + 1 → okG k (sideF L (seqs (nth xd 0)) (n + 1)) (seqs (nth xd 1)) ps i = false → (∀ j, j < i → okG k (sideF L (seqs (nth xd 0)) (n + 1)) (seqs (nth xd 1)) ps j = true) → Z 2 (i + 0 : Nat)
  g2 : shB n xd = true → (∀ d ∈ seqs (nth xd 0), partB k d = true) → (∀ i, i < n → okF k L (seqs (nth xd 0)) i = true) → (∀ i, i < n + 1 → okG k (sideF L (seqs (nth xd 0)) (n + 1)) (seqs (nth xd 1)) ps i = true) →
    ∀ i, i < n → okG k ((sideF L (seqs (nth xd 0)) (n + 1)).map turnS) (seqs (nth xd 2)) qs i = false → (∀ j, j < i → okG k ((sideF L (seqs (nth xd 0)) (n + 1)).map turnS) (seqs (nth xd 2)) qs j = true) → Z 2 (i + 100 : Nat)
  ok : shB n xd = true → (∀ d ∈ seqs (nth xd 0), partB k d = true) → (∀ i, i < n → okF k L (seqs (nth xd 0)) i = true) → (∀ i, i < n + 1 → okG k (sideF L (seqs (nth xd 0)) (n + 1)) (seqs (nth xd 1)) ps i = true) →
    (∀ i, i < n → okG k ((sideF L (seqs (nth xd 0)) (n + 1)).map turnS) (seqs (nth xd 2)) qs i = true) → R (oD (lsM (grF ((seqs (nth xd 1)).getD n .non) (qs.getD n 0)) (bndN (seqs (nth xd 2)) n) k))
section
variable {P : Program} {w : World} {K : PySem.W.Frag} {mg : Str → Option Value} {base : Heap}
def W_paper_number : Wf := fun ss R Z => ∃ (k : Nat) (L : List (List Arr)) (gd pd qd xd : Dat) (ps qs : List Nat), ss = [.dat gd, .dat pd, .dat qd, .dat xd] ∧ IsGame k L gd ∧ Seqd pd (natsD ps) ∧ Seqd qd (natsD qs) ∧ (∀ p ∈ ps, p < k) ∧ (∀ p ∈ qs, p < k) ∧
  (ps.length = L.length → qs.length = L.length → ∀ n, IsTop ps qs n → PN k L ps qs n xd R Z) ∧ (ps.length ≠ L.length ∨ qs.length ≠ L.length ∨ ps = qs → Z 0 (-1))
theorem ok_paper_number (c : Fc K mg) : DefJ P w K mg base "paper_number" 6 ["game", "position", "other", "paper"] W_paper_number := by
  obtain ⟨fd, F⟩ := c.f_paper_number
  refine ⟨fd, defj _ F sc_paper_number (fun ss R Z ⟨k, L, gd, pd, qd, xd, ps, qs, e, _⟩ => by rw [e]; rfl) (fun cdv A outer s H E en ss R Z hr ⟨k, L, gd, pd, qd, xd, ps, qs, e, hG, hP, hQ, hpk, hqk, q, z⟩ hZ => ?_), F.bindsN (fun _ _ _ _ _ _ us hl => match us, hl with | [_, _, _, _], _ => rfl), c.g_paper_number, F.kp⟩
  subst e
  have nd := sc_paper_number.nd
  have hr5 : Room 5 _ := hr
  have hr4 : Room 4 _ := hr.mono (by decide)
  have hr3 : Room 3 _ := hr.mono (by decide)
  have hr2 : Room 2 _ := hr.mono (by decide)
  have hr1 : Room 1 _ := hr.mono (by decide)
  have hG' := hG
  obtain ⟨ws, hg, hW, h3, h5, hL⟩ := hG
  subst hg
  have tk := (takes_of rfl rfl rfl rfl : Takes (cxOf (L2.CX P w) P w K mg base N_paper_number "paper_number" (defScope s_paper_number) (gA K "paper_number") cdv A outer s H E) (fun cls d _ H => E cls d H))
  have pz : ∀ (δ : Lv) (k : Nat) (n : Int) dd (G' : Hp) (H' : Hp) (σ : L2.St), Z k n → Now K en G' H' σ δ → en.H0 dd = none → H' dd = some (.xd [(("disc" : Str), .int n)]) → E (.ref (eA K k)) (some dd) H' := fun δ k n dd G' H' σ hz S h0 hd => hZ k n dd G' H' hz S.f0 h0 hd
  refine jb_cons (M := fun δ' => ∃ n, (IsTop ps qs n ∧ ps.length = L.length ∧ qs.length = L.length) ∧ δ' = [some (.dat (gameD k ws)), some (.dat pd), some (.dat qd), some (.dat xd), some (.dat (.tup (natsD ps))), some (.dat (.tup (natsD qs))), some (.dat (.int (n : Int))), none, none, none, none, none, none, none, none, none, none])
    (js_unpack (t := .tp [.nm 4, .nm 5, .nm 6]) (R := fun d => ∃ n : Nat, (IsTop ps qs n ∧ ps.length = L.length ∧ qs.length = L.length) ∧ d = .tup [.tup (natsD ps), .tup (natsD qs), .int (n : Int)]) (je_callX Z (ok_unlike_pair c) (ja_c (je_var 0 rfl) (ja_c (je_var 1 rfl) (ja_c (je_var 2 rfl) ja_nil))) ⟨k, L, _, pd, qd, ps, qs, rfl, hG', hP, hQ, hpk, hqk, fun h1 h2 n hn => ⟨n, ⟨hn, h1, h2⟩, rfl⟩, z⟩ hr4 tk (pz _)) (jg_tp (jgs_cons (jg_nm 4 nd) (jgs_cons (jg_nm 5 nd) (jgs_cons (jg_nm 6 nd) jgs_nil)))) (fun d ⟨n, hn, ed⟩ => by
      subst ed
      exact ⟨_, rfl, n, hn, rfl⟩)) ?_
  rintro δ' ⟨n, ⟨hn, l1, l2⟩, e⟩
  subst e
  have q := q l1 l2 n hn
  have hnl : n < L.length := by rw [← l1]; exact hn.1
  have failS : shB n xd = false → ∀ dd G' H', Fm en.da en.G0 en.H0 G' H' → en.H0 dd = none → H' dd = some (.xd [(("disc" : Str), .int (-1))]) → E (.ref (eA K 2)) (some dd) H' := fun hz dd G' H' f h0 hd => hZ 2 (-1) dd G' H' (q.sh hz) f h0 hd
  refine jb_ifX (Rt := Is (!sh1 3 xd)) ((JW.jt (jw_orI (y := !decide ((seqs xd).length = 3)) (jt_not (jt_v (je_isSeq (je_var 3 rfl) (tyOk_ty q.ty) c.b_isinstance c.b_list c.b_tuple))) fun z => jw_or1 ((jt_ne (je_len (seqs_of (notfalse z.symm)) (je_var 3 rfl) c.b_len) je_int).is (by rw [show ((3 : Int)) = ((3 : Nat) : Int) from rfl, natI])))).is (by unfold sh1; cases isSeq xd <;> rfl)) (fun z => ?_) (fun z => ?_)
  · have hz : shB n xd = false := by unfold shB; rw [nottrue z]; rfl
    exact jb_one (js_raise (ext_2 c) c.g_BadPaper hr tk (je_neg je_int) (failS hz))
  have hs3 := notfalse z
  obtain ⟨hsx, hl3⟩ := Bool.and_eq_true_iff.mp hs3
  have hl3 := of_decide_eq_true hl3
  have hSx := seqs_of hsx
  have xat : ∀ {i}, i < 3 → (seqs xd)[i]? = some (nth xd i) := fun {i} hi => by
    have e1 : (seqs xd)[i]? = some ((seqs xd)[i]'(by omega)) := List.getElem?_eq_getElem (by omega)
    rw [e1]
    exact congrArg some (getD_of e1).symm
  have tyi : ∀ {i}, i < 3 → tyOk 4 (nth xd i) = true := fun {i} hi => tyOk_in q.ty (xat hi)
  refine jb_cons (M := fun δ' => shB n xd = true ∧ ∃ z7 z8, δ' = [some (.dat (gameD k ws)), some (.dat pd), some (.dat qd), some (.dat xd), some (.dat (.tup (natsD ps))), some (.dat (.tup (natsD qs))), some (.dat (.int (n : Int))), z7, z8, none, none, none, none, none, none, none, none])
    (js_forI (fun i δ' => (∀ j, j < i → sh1 (shM n j) (nth xd j) = true) ∧ ∃ z7 z8, δ' = [some (.dat (gameD k ws)), some (.dat pd), some (.dat qd), some (.dat xd), some (.dat (.tup (natsD ps))), some (.dat (.tup (natsD qs))), some (.dat (.int (n : Int))), z7, z8, none, none, none, none, none, none, none, none])
      (ji_zip hSx (.inr rfl) (je_var 3 rfl) (je_tupI (ds := [.int (n : Int), .int ((n + 1 : Nat) : Int), .int (n : Int)]) (ja_c (je_var 6 rfl) (ja_c ((je_add (je_var 6 rfl) je_int).is rfl) (ja_c (je_var 6 rfl) ja_nil))) (szl rfl)) c.b_zip) (jg_tp (jgs_cons (jg_nm 7 nd) (jgs_cons (jg_nm 8 nd) jgs_nil))) ⟨(fun _ h => nomatch h), none, none, rfl⟩ (fun i d δ' hd ⟨hb, z7, z8, e⟩ => ?_) (fun δ' ⟨hb, z7, z8, e⟩ => ?_)) ?_
  · obtain ⟨x, y, hx, hy, ed⟩ := zipD_get hd
    have hi : i < 3 := by rw [← hl3]; exact (List.getElem?_eq_some_iff.mp hx).1
    rw [xat hi] at hx
    have ex : x = nth xd i := (Option.some.inj hx).symm
    have ey : y = .int ((shM n i : Nat) : Int) := by
      match i, hi, hy with
      | 0, _, hy => exact (Option.some.inj hy).symm
      | 1, _, hy => exact (Option.some.inj hy).symm
      | 2, _, hy => exact (Option.some.inj hy).symm
    have tyx := tyi hi
    subst e ed ex ey
    refine ⟨_, rfl, jb_one (js_if (Rt := Is (!sh1 (shM n i) (nth xd i))) ((JW.jt (jw_orI (y := !decide ((seqs (nth xd i)).length = shM n i)) (jt_not (jt_v (je_isSeq (je_var 7 rfl) (tyOk_ty tyx) c.b_isinstance c.b_list c.b_tuple))) fun z => jw_or1 ((jt_ne (je_len (seqs_of (notfalse z.symm)) (je_var 7 rfl) c.b_len) (je_var 8 rfl)).is (by rw [natI])))).is (by unfold sh1; cases isSeq (nth xd i) <;> rfl)) (fun z => ?_) fun z => jb_nil ⟨fun j hj => ?_, _, _, rfl⟩)⟩
    · have hz : shB n xd = false := by
        unfold shB
        rw [range_not hi (p := fun i => sh1 (shM n i) (nth xd i)) (nottrue z), Bool.and_false]
      exact jb_one (js_raise (ext_2 c) c.g_BadPaper hr tk (je_neg je_int) (failS hz))
    · rcases Nat.lt_or_ge j i with h | h
      · exact hb j h
      · have : j = i := by omega
        subst this
        exact notfalse z
  · rw [zipD_len, hl3] at hb
    refine ⟨?_, z7, z8, e⟩
    unfold shB
    rw [hs3, range_all (k := 3) (p := fun i => sh1 (shM n i) (nth xd i)) (fun i hi => hb i hi)]
    rfl
  rintro δ' ⟨hsh, z7, z8, e⟩
  subst e
  have hall := (Bool.and_eq_true_iff.mp hsh).2
  have s0 := Bool.and_eq_true_iff.mp (range_get hall (i := 0) (by decide))
  have s1 := Bool.and_eq_true_iff.mp (range_get hall (i := 1) (by decide))
  have s2 := Bool.and_eq_true_iff.mp (range_get hall (i := 2) (by decide))
  have len0 : (seqs (nth xd 0)).length = n := of_decide_eq_true s0.2
  have len1 : (seqs (nth xd 1)).length = n + 1 := of_decide_eq_true s1.2
  have len2 : (seqs (nth xd 2)).length = n := of_decide_eq_true s2.2
  have hlt : (L.take n).length = n := by rw [List.length_take]; omega
  have tin : ∀ {i}, i < 3 → ∀ d ∈ seqs (nth xd i), tyOk 3 d = true := fun {i} hi d hd => by
    obtain ⟨j, hj⟩ := List.getElem?_of_mem hd
    exact tyOk_in (tyi hi) hj
  have m0 : Seqd (nth xd 0) (seqs (nth xd 0)) := seqs_of s0.1
  refine jb_cons (M := fun δ' => ((∀ d ∈ seqs (nth xd 0), partB k d = true) ∧ ∀ i, i < n → okF k L (seqs (nth xd 0)) i = true) ∧ δ' = [some (.dat (gameD k ws)), some (.dat pd), some (.dat qd), some (.dat xd), some (.dat (.tup (natsD ps))), some (.dat (.tup (natsD qs))), some (.dat (.int (n : Int))), z7, z8, some (.dat (.tup (ftabD k (seqs (nth xd 0)) n))), none, none, none, none, none, none, none])
    (js_set 9 nd (R := fun d => ((∀ d ∈ seqs (nth xd 0), partB k d = true) ∧ ∀ i, i < n → okF k L (seqs (nth xd 0)) i = true) ∧ d = .tup (ftabD k (seqs (nth xd 0)) n)) (je_callXN Z (ok_check_floor c) (ja_cons (je_meth (ok_lower c) (je_var 0 rfl) c.c_Game c.m_Game_lower (by decide) (ja_c (je_var 6 rfl) ja_nil) ⟨k, n, L, _, rfl, hG', by omega, fun d h => h⟩ hr5) (ja_cons (je_ixS hSx (je_var 3 rfl) je_int (xat (i := 0) (by decide))) ja_nil)) (fun ss ⟨d, r, e1, hd, d2, r2, e2, hd2, e3⟩ => by
      have e3' : r2 = [] := e3
      have e4 : d2 = nth xd 0 := hd2
      subst e1 e2 e3' e4
      refine ⟨k, L.take n, d, nth xd 0, seqs (nth xd 0), rfl, hd, m0, by rw [len0, hlt], tin (by decide), q.f1 hsh, fun hp i hi hf hb => ?_, fun hp hf => ?_⟩
      · rw [hlt] at hi
        rw [okF_take hi] at hf
        exact q.f2 hsh hp i hi hf fun j hj => by rw [← okF_take (n := n) (L := L) (by omega : j < n)]; exact hb j hj
      · rw [hlt] at hf ⊢
        exact ⟨⟨hp, fun i hi => by rw [← okF_take (n := n) hi]; exact hf i hi⟩, rfl⟩) hr5 tk (pz _)) (fun d ⟨hh, ed⟩ => ⟨hh, by rw [ed]; rfl⟩)) ?_
  rintro δ' ⟨⟨hpb, hof⟩, e⟩
  subst e
  refine jb_own 10 nd ((jf_cat ((jf_lstI (ds := [.tup (gridT k fun _ _ => some 0)]) (ja_c ((je_repT1 (je_tupI (ds := [.tup (List.replicate k (.int 0))]) (ja_c (je_repT1 (je_tupI (ds := [.int 0]) (ja_c je_int ja_nil) (szl rfl)) (je_fld 0 (je_var 0 rfl) rfl rfl c.c_Game c.n_Game_pegs) ⟨by omega, by omega⟩) ja_nil) (szl rfl)) (je_fld 0 (je_var 0 rfl) rfl rfl c.c_Game c.n_Game_pegs) ⟨by omega, by omega⟩).is (rep_grid k)) ja_nil) (szl rfl)).je1) ((jf_list (.inr rfl) (je_var 9 rfl) c.b_list).je1) (by unfold ftabD; rw [List.length_map, List.length_range, sizeLine_eq]; show 1 + n ≤ _; omega)).is (show _ = (List.range (n + 1)).map fun i => Dat.tup (gridT k (ftab (seqs (nth xd 0)) i)) from ?_)) ?_
  · rw [List.range_succ_eq_map, List.map_cons, List.map_map]
    rfl
  refine jb_freeze 10 rfl ?_
  have hsl : (sideF L (seqs (nth xd 0)) (n + 1)).length = n + 1 := sideF_len _ _ _
  have hcut : cutD ws none (some ((n + 1 : Nat) : Int)) = ws.take (n + 1) := cut_to
  have hWt := hW.take (n + 1)
  have hltt : (L.take (n + 1)).length = n + 1 := by rw [List.length_take]; omega
  refine jb_cons (M := fun δ' => ∃ on ho, SideL k (sideF L (seqs (nth xd 0)) (n + 1)) on ∧ SideL k ((sideF L (seqs (nth xd 0)) (n + 1)).map turnS) ho ∧ ∃ z7 z8 z9 z10, δ' = [some (.dat (gameD k ws)), some (.dat pd), some (.dat qd), some (.dat xd), some (.dat (.tup (natsD ps))), some (.dat (.tup (natsD qs))), some (.dat (.int (n : Int))), z7, z8, z9, z10, some (.dat (.int (k : Int))), some (.dat (.lst on)), some (.dat (.lst ho)), none, none, none])
    (js_unpack (t := .tp [.nm 11, .nm 12, .nm 13]) (R := fun d => ∃ on ho, SideL k (sideF L (seqs (nth xd 0)) (n + 1)) on ∧ SideL k ((sideF L (seqs (nth xd 0)) (n + 1)).map turnS) ho ∧ d = .tup [.int (k : Int), .lst on, .lst ho])
      (je_callI (ok_sides_of c) (ja_c (je_fld 0 (je_var 0 rfl) rfl rfl c.c_Game c.n_Game_pegs) (ja_c (((lc_sq 14 (fun j => .tup ((L.getD j []).map arrD)) (.inr rfl) ((je_slT (l := none) (h := some ((n + 1 : Nat) : Int)) (je_fld 1 (je_var 0 rfl) rfl rfl c.c_Game c.n_Game_webs) jo_none (jo_some ((je_add (je_var 6 rfl) je_int).is rfl))).is (d' := .tup (ws.take (n + 1))) (by rw [hcut])) (by rw [hWt.len]; omega) (blkOk_by (by kernel_rfl)) (fun s H C cl fp => jg_nm 14 nd) (fun j d hd s H C cl fp => ?_)).jf nd).je1) (ja_c (je_var 10 rfl) ja_nil)))
        ⟨k, sideF L (seqs (nth xd 0)) (n + 1), _, _, rfl, by omega, by omega, by rw [hsl, List.length_map, List.length_range, hWt.len, hltt], by rw [hsl, List.length_map, List.length_range], fun i p hp => ?_, fun on ho h1 h2 => ⟨on, ho, h1, h2, rfl⟩⟩ hr2) (jg_tp (jgs_cons (jg_nm 11 nd) (jgs_cons (jg_nm 12 nd) (jgs_cons (jg_nm 13 nd) jgs_nil)))) (fun d ⟨on, ho, h1, h2, ed⟩ => by
      subst ed
      exact ⟨_, rfl, on, ho, h1, h2, _, _, _, _, rfl⟩)) ?_
  · obtain ⟨as, has, ⟨y, hy⟩, hal, hok⟩ := hWt.back hd
    subst hy
    have hj : j < n + 1 := by
      have := (List.getElem?_eq_some_iff.mp has).1
      omega
    rw [← take_getD (n := n + 1) hj, getD_of has]
    exact je_fld 2 (je_var 14 rfl) rfl rfl c.c_Web c.n_Web_arrows
  · obtain ⟨hi, ep⟩ := sideF_get hp
    have hd1 : L[i]? = some L[i] := List.getElem?_eq_getElem (by omega)
    obtain ⟨d1, hd1', _, hal, hok⟩ := hW.at_ i _ hd1
    have e1 : L.getD i [] = L[i] := getD_of hd1
    refine ⟨_, _, map_range_get (by rw [hWt.len, hltt]; exact hi), map_range_get hi, ?_⟩
    rw [ep]
    exact ⟨.inr rfl, by rw [e1]; exact Nat.le_trans hal (by decide), by rw [e1]; exact arr_in hok, isGrid_t⟩
  rintro δ' ⟨on, ho, hon, hho, z7, z8, z9, z10, e⟩
  subst e
  have m1 : Seqd (nth xd 1) (seqs (nth xd 1)) := seqs_of s1.1
  have m2 : Seqd (nth xd 2) (seqs (nth xd 2)) := seqs_of s2.1
  refine jb_cons (M := fun δ' => (∀ i, i < n + 1 → okG k (sideF L (seqs (nth xd 0)) (n + 1)) (seqs (nth xd 1)) ps i = true) ∧ δ' = [some (.dat (gameD k ws)), some (.dat pd), some (.dat qd), some (.dat xd), some (.dat (.tup (natsD ps))), some (.dat (.tup (natsD qs))), some (.dat (.int (n : Int))), z7, z8, z9, z10, some (.dat (.int (k : Int))), some (.dat (.lst on)), some (.dat (.lst ho)), none, some (.dat (.lst (tgD k (seqs (nth xd 1)) (n + 1)))), none])
    (js_set 15 nd (R := fun d => (∀ i, i < n + 1 → okG k (sideF L (seqs (nth xd 0)) (n + 1)) (seqs (nth xd 1)) ps i = true) ∧ d = .lst (tgD k (seqs (nth xd 1)) (n + 1)))
      (je_callX Z (ok_check_grids c) (ja_c (je_ixS hSx (je_var 3 rfl) je_int (xat (i := 1) (by decide))) (ja_c (je_var 12 rfl) (ja_c (je_var 11 rfl) (ja_c (je_var 4 rfl) (ja_c (je_int (i := ((0 : Nat) : Int))) ja_nil))))) ⟨k, _, nth xd 1, on, seqs (nth xd 1), ps, 0, rfl, by omega, m1, hon, by omega, by omega, by omega, hpk, fun d hd => tyOk_mono (tin (i := 1) (by decide) d hd), fun i hi => q.g1 hsh hpb hof i (by omega), fun h => ⟨fun i hi => h i (by omega), by rw [len1]⟩⟩ hr4 tk (pz _)) (fun d ⟨hh, ed⟩ => ⟨hh, by rw [ed]; rfl⟩)) ?_
  rintro δ' ⟨hg1, e⟩
  subst e
  refine jb_cons (M := fun δ' => (∀ i, i < n → okG k ((sideF L (seqs (nth xd 0)) (n + 1)).map turnS) (seqs (nth xd 2)) qs i = true) ∧ δ' = [some (.dat (gameD k ws)), some (.dat pd), some (.dat qd), some (.dat xd), some (.dat (.tup (natsD ps))), some (.dat (.tup (natsD qs))), some (.dat (.int (n : Int))), z7, z8, z9, z10, some (.dat (.int (k : Int))), some (.dat (.lst on)), some (.dat (.lst ho)), none, some (.dat (.lst (tgD k (seqs (nth xd 1)) (n + 1)))), some (.dat (.lst (tgD k (seqs (nth xd 2)) n)))])
    (js_set 16 nd (R := fun d => (∀ i, i < n → okG k ((sideF L (seqs (nth xd 0)) (n + 1)).map turnS) (seqs (nth xd 2)) qs i = true) ∧ d = .lst (tgD k (seqs (nth xd 2)) n))
      (je_callX Z (ok_check_grids c) (ja_c (je_ixS hSx (je_var 3 rfl) je_int (xat (i := 2) (by decide))) (ja_c (je_var 13 rfl) (ja_c (je_var 11 rfl) (ja_c (je_var 5 rfl) (ja_c (je_int (i := ((100 : Nat) : Int))) ja_nil))))) ⟨k, _, nth xd 2, ho, seqs (nth xd 2), qs, 100, rfl, by omega, m2, hho, by rw [List.length_map]; omega, by omega, by omega, hqk, fun d hd => tyOk_mono (tin (i := 2) (by decide) d hd), fun i hi => q.g2 hsh hpb hof hg1 i (by omega), fun h => ⟨fun i hi => h i (by omega), by rw [len2]⟩⟩ hr4 tk (pz _)) (fun d ⟨hh, ed⟩ => ⟨hh, by rw [ed]; rfl⟩)) ?_
  rintro δ' ⟨hg2, e⟩
  subst e
  have hqn : qs.getD n 0 < k := by
    have e1 : qs[n]? = some qs[n] := List.getElem?_eq_getElem (by omega)
    rw [getD_of e1]
    exact hqk _ (List.getElem_mem _)
  have et : (tgD k (seqs (nth xd 1)) (n + 1))[n]? = some (.tup (gridT k (grF ((seqs (nth xd 1)).getD n .non)))) := map_range_get (by omega)
  refine jb_one (js_ret (je_callI (ok_least_sum c) (ja_c (je_ixT (j := qs.getD n 0) (je_ixL (j := n) (je_var 15 rfl) (je_var 6 rfl) et) (je_ixT (j := n) (je_var 5 rfl) (je_var 6 rfl) (natsD_at2 (by omega))) (gridT_get hqn)) (ja_c (je_ifExp (R := Is (.lst (rowD k (bndN (seqs (nth xd 2)) n)))) (jt_eq (je_var 6 rfl) je_int) (fun z => ?_) (fun z => ?_)) ja_nil)) ⟨k, _, _, _, _, rfl, by omega, isRow_t, isRow_l, q.ok hsh hpb hof hg1 hg2⟩ hr3))
  · have e0 : n = 0 := by
      have := of_decide_eq_true (show true = decide ((n : Int) = 0) from z).symm
      omega
    subst e0
    exact ((jf_rep1 ((jf_lstI (ds := [.int 0]) (ja_c je_int ja_nil) (szl rfl)).je1) (je_var 11 rfl) (by omega)).is (rep_row k)).je1
  · have e0 : n ≠ 0 := fun e => by
      have := of_decide_eq_false (show false = decide ((n : Int) = 0) from z).symm
      omega
    obtain ⟨m, rfl⟩ : ∃ m, n = m + 1 := ⟨n - 1, by omega⟩
    refine je_callI (ok_tower_row c) (ja_c (je_lastL (d := .tup (gridT k (grF ((seqs (nth xd 2)).getD m .non)))) (je_var 16 rfl) (je_neg je_int) ?_) ja_nil) ⟨k, grF ((seqs (nth xd 2)).getD m .non), _, rfl, by omega, isGrid_t, Is.self⟩ hr1
    unfold tgD
    rw [← map_snoc, List.getLast?_append]
    rfl
end
end PW
end
section
set_option maxHeartbeats 4000000
namespace PW
open PySem PySem.Spec PyProof.Rows L2 PJ PF PX

def lsF (f : Nat → Option Int) : Nat → Option Int
  | 0 => none
  | n + 1 => lesr (lsF f n) (f n)
theorem lsF_sum (f g : Nat → Option Int) : ∀ n, lsF (fun i => cSum (f i) (g i)) n = lsM f g n
  | 0 => rfl
  | n + 1 => by
    show lesr _ _ = lesr _ _
    rw [lsF_sum f g n]
section
variable {P : Program} {w : World} {K : PySem.W.Frag} {mg : Str → Option Value} {base : Heap}
def W__law_is_int : Wf := fun ss R _ => ∃ a : Option Int, ss = [.dat (oD a)] ∧ R (.bl a.isSome)
theorem ok__law_is_int (c : Fc K mg) : DefJ P w K mg base "_law_is_int" 1 ["_law_thing"] W__law_is_int := by
  obtain ⟨fd, F⟩ := c.f__law_is_int
  refine ⟨fd, defj _ F sc__law_is_int (fun ss R Z ⟨a, e, _⟩ => by rw [e]; rfl) (fun cdv A outer s H E en ss R Z hr ⟨a, e, q⟩ hZ => ?_), F.bindsN (fun _ _ _ _ _ _ us hl => match us, hl with | [_], _ => rfl), c.g__law_is_int, F.kp⟩
  subst e
  have nd := sc__law_is_int.nd
  have h1 : ∀ {d : Dat} {b : Bool} {n : String}, tyN d = some n → kitB n "int" = some b → ∀ {b2 : Bool}, kitB n "bool" = some b2 → R (.bl (b && !b2)) →
      JB (cxOf (L2.CX P w) P w K mg base N__law_is_int "_law_is_int" (defScope s__law_is_int) (gA K "_law_is_int") cdv A outer s H E) en (defBody s__law_is_int) (startL N__law_is_int [.dat d]) { nx := fun _ => R .non, rt := R } := fun {d b n} e1 e2 {b2} e3 q =>
    jb_one (js_retI (je_andI (je_isi (je_var 0 rfl) e1 e2 (by decide +kernel) c.b_isinstance c.b_int) fun _ => je_one (je_notV (je_isi (je_var 0 rfl) e1 e3 (by decide +kernel) c.b_isinstance c.b_bool))) q)
  cases a with
  | none => exact h1 (b := false) (b2 := false) rfl (by decide +kernel) (by decide +kernel) q
  | some i => exact h1 (b := true) (b2 := false) rfl (by decide +kernel) (by decide +kernel) q
def W__law_sum : Wf := fun ss R _ => ∃ a b, ss = [.dat (oD a), .dat (oD b)] ∧ R (oD (cSum a b))
theorem ok__law_sum (c : Fc K mg) : DefJ P w K mg base "_law_sum" 1 ["_law_one", "_law_other"] W__law_sum := by
  obtain ⟨fd, F⟩ := c.f__law_sum
  refine ⟨fd, defj _ F sc__law_sum (fun ss R Z ⟨a, b, e, _⟩ => by rw [e]; rfl) (fun cdv A outer s H E en ss R Z hr ⟨a, b, e, q⟩ hZ => ?_), F.bindsN (fun _ _ _ _ _ _ us hl => match us, hl with | [_, _], _ => rfl), c.g__law_sum, F.kp⟩
  subst e
  have nd := sc__law_sum.nd
  cases a with
  | none => exact jb_ifX (JW.jt (jw_orI (y := false) (jt_isN (je_var 0 rfl)) fun z => nomatch (show true = false from z))) (fun _ => jb_one (js_retI je_non q)) (fun z => nomatch (show false = true from z))
  | some i =>
    cases b with
    | none => exact jb_ifX (JW.jt (jw_orI (jt_isN (je_var 0 rfl)) fun _ => jw_or1 (jt_isN (je_var 1 rfl)))) (fun _ => jb_one (js_retI je_non q)) (fun z => nomatch (show false = true from z))
    | some j => exact jb_ifX (JW.jt (jw_orI (jt_isN (je_var 0 rfl)) fun _ => jw_or1 (jt_isN (je_var 1 rfl)))) (fun z => nomatch (show true = false from z)) (fun _ => jb_one (js_retI (je_add (je_var 0 rfl) (je_var 1 rfl)) q))
def W__law_less : Wf := fun ss R _ => ∃ a b, ss = [.dat (oD a), .dat (oD b)] ∧ R (.bl (!notAb b a))
theorem ok__law_less (c : Fc K mg) : DefJ P w K mg base "_law_less" 1 ["_law_one", "_law_other"] W__law_less := by
  obtain ⟨fd, F⟩ := c.f__law_less
  refine ⟨fd, defj _ F sc__law_less (fun ss R Z ⟨a, b, e, _⟩ => by rw [e]; rfl) (fun cdv A outer s H E en ss R Z hr ⟨a, b, e, q⟩ hZ => ?_), F.bindsN (fun _ _ _ _ _ _ us hl => match us, hl with | [_, _], _ => rfl), c.g__law_less, F.kp⟩
  subst e
  have nd := sc__law_less.nd
  cases a with
  | none =>
    have q' : R (.bl false) := by cases b <;> exact q
    exact jb_ifX (jt_isN (je_var 0 rfl)) (fun _ => jb_one (js_retI je_bl q')) (fun z => nomatch (show false = true from z))
  | some i =>
    refine jb_ifX (jt_isN (je_var 0 rfl)) (fun z => nomatch (show true = false from z)) (fun _ => ?_)
    cases b with
    | none => exact jb_one (js_retI (je_orI (je_isN (je_var 1 rfl)) fun z => nomatch (show true = false from z)) (show R (.bl (true || false)) from q))
    | some j =>
      refine jb_one (js_retI (je_orI (je_isN (je_var 1 rfl)) fun _ => je_one (je_lt (je_var 0 rfl) (je_var 1 rfl))) ?_)
      show R (.bl (false || decide (i < j)))
      have e : (!notAb (some j) (some i)) = (false || decide (i < j)) := by
        show (!decide (j ≤ i)) = _
        by_cases h : i < j
        · rw [decide_eq_true h, decide_eq_false (by omega)]; rfl
        · rw [decide_eq_false h, decide_eq_true (by omega)]; rfl
      rw [← e]
      exact q
def W__law_at_most : Wf := fun ss R _ => ∃ a b, ss = [.dat (oD a), .dat (oD b)] ∧ R (.bl (notAb a b))
theorem ok__law_at_most (c : Fc K mg) : DefJ P w K mg base "_law_at_most" 2 ["_law_one", "_law_other"] W__law_at_most := by
  obtain ⟨fd, F⟩ := c.f__law_at_most
  refine ⟨fd, defj _ F sc__law_at_most (fun ss R Z ⟨a, b, e, _⟩ => by rw [e]; rfl) (fun cdv A outer s H E en ss R Z hr ⟨a, b, e, q⟩ hZ => ?_), F.bindsN (fun _ _ _ _ _ _ us hl => match us, hl with | [_, _], _ => rfl), c.g__law_at_most, F.kp⟩
  subst e
  have nd := sc__law_at_most.nd
  have hr1 : Room 1 _ := hr
  exact jb_one (js_retI ((je_notV (je_callI (ok__law_less c) (ja_c (je_var 1 rfl) (ja_c (je_var 0 rfl) ja_nil)) ⟨b, a, rfl, Is.self⟩ hr1)).is (by rw [Bool.not_not])) q)
def W__law_same : Wf := fun ss R _ => ∃ a b : Option Int, ss = [.dat (oD a), .dat (oD b)] ∧ R (.bl (decide (a = b)))
theorem ok__law_same (c : Fc K mg) : DefJ P w K mg base "_law_same" 2 ["_law_actual", "_law_due"] W__law_same := by
  obtain ⟨fd, F⟩ := c.f__law_same
  refine ⟨fd, defj _ F sc__law_same (fun ss R Z ⟨a, b, e, _⟩ => by rw [e]; rfl) (fun cdv A outer s H E en ss R Z hr ⟨a, b, e, q⟩ hZ => ?_), F.bindsN (fun _ _ _ _ _ _ us hl => match us, hl with | [_, _], _ => rfl), c.g__law_same, F.kp⟩
  subst e
  have nd := sc__law_same.nd
  have hr1 : Room 1 _ := hr
  cases b with
  | none =>
    refine jb_ifX (jt_isN (je_var 1 rfl)) (fun _ => jb_one (js_retI ((je_isN (je_var 0 rfl) (told_oD a)).is ?_) q)) (fun z => nomatch (show false = true from z))
    cases a <;> rfl
  | some j =>
    refine jb_ifX (jt_isN (je_var 1 rfl)) (fun z => nomatch (show true = false from z)) (fun _ => ?_)
    cases a with
    | none => exact jb_one (js_retI (je_andI (je_callI (ok__law_is_int c) (ja_c (je_var 0 rfl) ja_nil) ⟨none, rfl, Is.self⟩ hr1) fun z => nomatch (show false = true from z)) (show R (.bl (false && false)) from q))
    | some i =>
      refine jb_one (js_retI (je_andI (je_callI (ok__law_is_int c) (ja_c (je_var 0 rfl) ja_nil) ⟨some i, rfl, Is.self⟩ hr1) fun _ => je_one (je_eq (je_var 0 rfl) (je_var 1 rfl))) ?_)
      show R (.bl (true && decide (i = j)))
      rw [show (true && decide (i = j)) = decide (some i = some j) from by simp]
      exact q
def W__law_least_of : Wf := fun ss R _ => ∃ (n : Nat) (f : Nat → Option Int), ss = [.dat (.lst (rowD n f))] ∧ R (oD (lsF f n))
theorem ok__law_least_of (c : Fc K mg) : DefJ P w K mg base "_law_least_of" 2 ["_law_rows"] W__law_least_of := by
  obtain ⟨fd, F⟩ := c.f__law_least_of
  refine ⟨fd, defj _ F sc__law_least_of (fun ss R Z ⟨n, f, e, _⟩ => by rw [e]; rfl) (fun cdv A outer s H E en ss R Z hr ⟨n, f, e, q⟩ hZ => ?_), F.bindsN (fun _ _ _ _ _ _ us hl => match us, hl with | [_], _ => rfl), c.g__law_least_of, F.kp⟩
  subst e
  have nd := sc__law_least_of.nd
  have hr1 : Room 1 _ := hr
  refine jb_set 1 nd (d := oD none) je_non ?_
  refine jb_cons (M := fun δ' => ∃ z2, δ' = [some (.dat (.lst (rowD n f))), some (.dat (oD (lsF f n))), z2])
    (js_forI (fun i δ' => ∃ z2, δ' = [some (.dat (.lst (rowD n f))), some (.dat (oD (lsF f i))), z2]) (ji_list (je_var 0 rfl)) (jg_nm 2 nd) ⟨none, rfl⟩ (fun i d δ' hd ⟨z2, e⟩ => ?_) (fun δ' ⟨z2, e⟩ => ?_)) ?_
  · obtain ⟨hi, ex⟩ := rowD_back hd
    subst e ex
    refine ⟨_, rfl, jb_one (js_if (jt_v (je_callI (ok__law_less c) (ja_c (je_var 2 rfl) (ja_c (je_var 1 rfl) ja_nil)) ⟨f i, lsF f i, rfl, Is.self⟩ hr1)) (fun z => ?_) (fun z => ?_))⟩
    · have e : lsF f (i + 1) = f i := if_neg (by rw [nottrue (show true = !notAb (lsF f i) (f i) from z)]; exact Bool.false_ne_true)
      refine jb_one (js_set 1 nd (je_var 2 rfl) fun d ed => ?_)
      rw [show d = oD (f i) from ed, ← e]
      exact ⟨_, rfl⟩
    · have e : lsF f (i + 1) = lsF f i := if_pos (notfalse (show false = !notAb (lsF f i) (f i) from z))
      refine jb_nil ?_
      rw [e]
      exact ⟨_, rfl⟩
  · rw [rowD_len] at e
    exact ⟨z2, e⟩
  · rintro δ' ⟨z2, e⟩
    subst e
    exact jb_one (js_retI (je_var 1 rfl) q)
def W__law_zero : Wf := fun ss R _ => ∃ k : Nat, ss = [.dat (.int (k : Int))] ∧ k ≤ 1000 ∧ R (.lst (gridL k fun _ _ => some 0))
theorem ok__law_zero (c : Fc K mg) : DefJ P w K mg base "_law_zero" 1 ["_law_pegs"] W__law_zero := by
  obtain ⟨fd, F⟩ := c.f__law_zero
  refine ⟨fd, defj _ F sc__law_zero (fun ss R Z ⟨k, e, _⟩ => by rw [e]; rfl) (fun cdv A outer s H E en ss R Z hr ⟨k, e, hk, q⟩ hZ => ?_), F.bindsN (fun _ _ _ _ _ _ us hl => match us, hl with | [_], _ => rfl), c.g__law_zero, F.kp⟩
  subst e
  have nd := sc__law_zero.nd
  exact jb_one (js_retI (((lc_rng 1 (fun _ => .lst (rowD k fun _ => some 0)) (je_var 0 rfl) hk c.b_range (blkOk_by (by kernel_rfl)) (fun s H C cl fp => jg_nm 1 nd) (fun p hp s H C cl fp => ((lc_rng 2 (fun _ => .int 0) (je_var 0 rfl) hk c.b_range (blkOk_by (by kernel_rfl)) (fun s H C cl fp => jg_nm 2 nd) (fun q hq s H C cl fp => je_int)).jf nd).je1)).jf nd).je1) q)
end
end PW
end
section
set_option maxHeartbeats 4000000
namespace PW
open PySem PySem.Spec PyProof.Rows L2 PJ PF PX

def bkA (b : Bool) (as : List Arr) : List Arr := if b then as.map turnA else as
def bkT (b : Bool) (T : Gr) : Gr := if b then fun x y => T y x else T
def okAb (b : Bool) (g : Gr) (a : Arr) : Bool := okA g (if b then turnA a else a)
theorem all_okAb (b : Bool) (g : Gr) (as : List Arr) : (bkA b as).all (okA g) = as.all (okAb b g) := by
  cases b with
  | false => rfl
  | true =>
    show (as.map turnA).all (okA g) = _
    rw [List.all_map]
    rfl
section
variable {P : Program} {w : World} {K : PySem.W.Frag} {mg : Str → Option Value} {base : Heap}
def W__law_kept : Wf := fun ss R _ => ∃ (k : Nat) (as : List Arr) (T g : Gr) (ad td gd : Dat) (b : Bool), ss = [.dat (.int (k : Int)), .dat ad, .dat td, .dat gd, .dat (.bl b)] ∧ k ≤ 1000 ∧ Seqd ad (as.map arrD) ∧ (∀ a ∈ as, a.In k) ∧ IsGrid k T td ∧ IsGrid k g gd ∧ R (.bl (keptB k (bkA b as) (bkT b T) g))
theorem ok__law_kept (c : Fc K mg) : DefJ P w K mg base "_law_kept" 3 ["_law_pegs", "_law_web_here", "_law_table", "_law_grid", "_law_back"] W__law_kept := by
  obtain ⟨fd, F⟩ := c.f__law_kept
  refine ⟨fd, defj _ F sc__law_kept (fun ss R Z ⟨k, as, T, g, ad, td, gd, b, e, _⟩ => by rw [e]; rfl) (fun cdv A outer s H E en ss R Z hr ⟨k, as, T, g, ad, td, gd, b, e, hk, hA, hin, hT, hG, q⟩ hZ => ?_), F.bindsN (fun _ _ _ _ _ _ us hl => match us, hl with | [_, _, _, _, _], _ => rfl), c.g__law_kept, F.kp⟩
  subst e
  have nd := sc__law_kept.nd
  have hr2 : Room 2 _ := hr
  have hr1 : Room 1 _ := hr.mono (by decide)
  obtain ⟨trows, hTT, hTl, hTr⟩ := hT
  obtain ⟨grows, hGG, hGl, hGr⟩ := hG
  have q2 : as.all (okAb b g) = true → R (.bl ((List.range k).all (okRow k (bkT b T) g))) := fun h => by
    have e : keptB k (bkA b as) (bkT b T) g = (List.range k).all (okRow k (bkT b T) g) := by
      unfold keptB
      rw [all_okAb, h]
      rfl
    rw [← e]
    exact q
  have q3 : as.all (okAb b g) = false → R (.bl false) := fun h => by
    have e : keptB k (bkA b as) (bkT b T) g = false := by
      unfold keptB
      rw [all_okAb, h]
      rfl
    rw [← e]
    exact q
  refine jb_cons (M := fun δ' => as.all (okAb b g) = true ∧ ∃ z5 z6 z7 z8 z9 z10, δ' = [some (.dat (.int (k : Int))), some (.dat ad), some (.dat td), some (.dat gd), some (.dat (.bl b)), z5, z6, z7, z8, z9, z10])
    (js_forI (fun i δ' => (∀ (j : Nat) a, j < i → as[j]? = some a → okAb b g a = true) ∧ ∃ z5 z6 z7 z8 z9 z10, δ' = [some (.dat (.int (k : Int))), some (.dat ad), some (.dat td), some (.dat gd), some (.dat (.bl b)), z5, z6, z7, z8, z9, z10])
      (ji_seq hA (je_var 1 rfl)) (jg_nm 5 nd) ⟨(fun _ _ h => nomatch h), none, none, none, none, none, none, rfl⟩ (fun i d δ' hd ⟨hb, z5, z6, z7, z8, z9, z10, e⟩ => ?_) (fun δ' ⟨hb, z5, z6, z7, z8, z9, z10, e⟩ => ?_)) ?_
  · obtain ⟨a, ha, ed⟩ := arr_get hd
    have hain := hin a (List.mem_of_getElem? ha)
    subst e ed
    obtain ⟨rs, hrs, hrs2⟩ := hGr a.s hain.s
    obtain ⟨rt, hrt, hrt2⟩ := hGr a.t hain.t
    have nxt : okAb b g a = true → ∀ (j : Nat) a, j < i + 1 → as[j]? = some a → okAb b g a = true := fun h j a' hj hja => by
      rcases Nat.lt_or_ge j i with h' | h'
      · exact hb j a' h' hja
      · have : j = i := by omega
        subst this
        rw [ha] at hja
        rw [← Option.some.inj hja]
        exact h
    refine ⟨_, rfl, ?_⟩
    refine jb_set 6 nd (d := .int (a.g : Int)) (je_ixT (je_ixT (je_var 5 rfl) je_int (j := 2) rfl) je_int (j := 0) rfl) ?_
    refine jb_set 7 nd (d := oD (g a.t a.g)) (je_ixS hrt2 (je_ixS hGG (je_var 3 rfl) (je_ixT (je_var 5 rfl) je_int (j := 1) rfl) hrt) (je_var 6 rfl) (rowD_get hain.g)) ?_
    refine jb_set 8 nd (d := oD (g a.s a.g)) (je_ixS hrs2 (je_ixS hGG (je_var 3 rfl) (je_ixT (je_var 5 rfl) je_int (j := 0) rfl) hrs) (je_var 6 rfl) (rowD_get hain.g)) ?_
    refine jb_cons (M := Is [some (.dat (.int (k : Int))), some (.dat ad), some (.dat td), some (.dat gd), some (.dat (.bl b)), some (.dat (arrD a)), some (.dat (.int (a.g : Int))), some (.dat (oD (g (if b then a.s else a.t) a.g))), some (.dat (oD (g (if b then a.t else a.s) a.g))), z9, z10]) (js_if (jt_v (je_var 4 rfl)) (fun z => ?_) (fun z => ?_)) (fun δ' e => ?_)
    · have eb : b = true := (show true = b from z).symm
      subst eb
      refine jb_set 7 nd (d := oD (g a.s a.g)) (je_ixS hrs2 (je_ixS hGG (je_var 3 rfl) (je_ixT (je_var 5 rfl) je_int (j := 0) rfl) hrs) (je_var 6 rfl) (rowD_get hain.g)) ?_
      exact jb_set 8 nd (d := oD (g a.t a.g)) (je_ixS hrt2 (je_ixS hGG (je_var 3 rfl) (je_ixT (je_var 5 rfl) je_int (j := 1) rfl) hrt) (je_var 6 rfl) (rowD_get hain.g)) (jb_nil rfl)
    · have eb : b = false := (show false = b from z).symm
      subst eb
      exact jb_nil rfl
    rw [show δ' = _ from e]
    have eo : notAb (g (if b then a.s else a.t) a.g) (cSum (g (if b then a.t else a.s) a.g) (some a.c)) = okAb b g a := by cases b <;> rfl
    refine jb_one (js_if (jt_not (jt_v ((je_callI (ok__law_at_most c) (ja_c (je_var 7 rfl) (ja_c (je_callI (ok__law_sum c) (ja_c (je_var 8 rfl) (ja_c (je_ixT (je_var 5 rfl) je_int (j := 3) rfl) ja_nil)) ⟨_, some a.c, rfl, Is.self⟩ hr1) ja_nil)) ⟨_, _, rfl, Is.self⟩ hr2).is (by rw [eo])))) (fun z => ?_) (fun z => jb_nil ⟨nxt (notfalse z), _, _, _, _, _, _, rfl⟩))
    exact jb_one (js_retI (je_bl) (q3 (not_all ha (nottrue z))))
  · refine ⟨all_of_get fun j a hj => hb j a ?_ hj, z5, z6, z7, z8, z9, z10, e⟩
    rw [List.length_map]
    exact (List.getElem?_eq_some_iff.mp hj).1
  rintro δ' ⟨hall, z5, z6, z7, z8, z9, z10, e⟩
  subst e
  have q2 := q2 hall
  have no : ∀ x, x < k → okRow k (bkT b T) g x = false → R (.bl false) := fun x hx h => by
    rw [range_not hx h] at q2
    exact q2
  refine jb_cons (M := fun δ' => (List.range k).all (okRow k (bkT b T) g) = true)
    (js_forI (fun x δ' => (∀ x', x' < x → okRow k (bkT b T) g x' = true) ∧ ∃ z5 z6 z7 z8 z9 z10, δ' = [some (.dat (.int (k : Int))), some (.dat ad), some (.dat td), some (.dat gd), some (.dat (.bl b)), z5, z6, z7, z8, z9, z10])
      (ji_seq hGG (je_var 3 rfl)) (jg_nm 9 nd) ⟨(fun _ h => nomatch h), _, _, _, _, _, _, rfl⟩ (fun x d δ' hd ⟨hb, z5, z6, z7, z8, z9, z10, e⟩ => ?_) (fun δ' ⟨hb, z5, z6, z7, z8, z9, z10, e⟩ => range_all fun x hx => hb x (by rw [hGl]; exact hx))) (fun δ' h => ?_)
  · have hx : x < k := by rw [← hGl]; exact (List.getElem?_eq_some_iff.mp hd).1
    obtain ⟨r, hr0, hrr⟩ := hGr x hx
    rw [hd] at hr0
    have er : d = r := Option.some.inj hr0
    subst e er
    refine ⟨_, rfl, ?_⟩
    refine jb_one (js_forI (fun o δ' => (∀ o', o' < o → ((List.range k).all fun o2 => okS (bkT b T) g x o' o2) = true) ∧ ∃ z5 z6 z7 z8 z10, δ' = [some (.dat (.int (k : Int))), some (.dat ad), some (.dat td), some (.dat gd), some (.dat (.bl b)), z5, z6, z7, z8, some (.dat d), z10])
      (ji_range (je_var 0 rfl) (by omega) c.b_range) (jg_nm 6 nd) ⟨(fun _ h => nomatch h), _, _, _, _, _, rfl⟩ (fun o d2 δ' hd2 ⟨hb2, z5, z6, z7, z8, z10, e⟩ => ?_) (fun δ' ⟨hb2, z5, z6, z7, z8, z10, e⟩ => ⟨fun x' hx' => ?_, _, _, _, _, _, _, e⟩))
    · obtain ⟨ho, ed2⟩ := intsD_back hd2
      subst e ed2
      refine ⟨_, rfl, ?_⟩
      refine jb_one (js_forI (fun o2 δ' => (∀ o2', o2' < o2 → okS (bkT b T) g x o o2' = true) ∧ ∃ z5 z7 z8 z10, δ' = [some (.dat (.int (k : Int))), some (.dat ad), some (.dat td), some (.dat gd), some (.dat (.bl b)), z5, some (.dat (.int (o : Int))), z7, z8, some (.dat d), z10])
        (ji_range (je_var 0 rfl) (by omega) c.b_range) (jg_nm 8 nd) ⟨(fun _ h => nomatch h), _, _, _, _, rfl⟩ (fun o2 d3 δ' hd3 ⟨hb3, z5, z7, z8, z10, e⟩ => ?_) (fun δ' ⟨hb3, z5, z7, z8, z10, e⟩ => ⟨fun o' ho' => ?_, _, _, _, _, _, e⟩))
      · obtain ⟨ho2, ed3⟩ := intsD_back hd3
        subst e ed3
        obtain ⟨t1, ht1, ht1r⟩ := hTr o ho
        obtain ⟨t2, ht2, ht2r⟩ := hTr o2 ho2
        refine ⟨_, rfl, ?_⟩
        refine jb_set 10 nd (d := oD (T o o2)) (je_ixS ht1r (je_ixS hTT (je_var 2 rfl) (je_var 6 rfl) ht1) (je_var 8 rfl) (rowD_get ho2)) ?_
        refine jb_cons (M := Is [some (.dat (.int (k : Int))), some (.dat ad), some (.dat td), some (.dat gd), some (.dat (.bl b)), z5, some (.dat (.int (o : Int))), z7, some (.dat (.int (o2 : Int))), some (.dat d), some (.dat (oD (bkT b T o o2)))]) (js_if (jt_v (je_var 4 rfl)) (fun z => ?_) (fun z => ?_)) (fun δ' e => ?_)
        · have eb : b = true := (show true = b from z).symm
          subst eb
          exact jb_set 10 nd (d := oD (T o2 o)) (je_ixS ht2r (je_ixS hTT (je_var 2 rfl) (je_var 8 rfl) ht2) (je_var 6 rfl) (rowD_get ho)) (jb_nil rfl)
        · have eb : b = false := (show false = b from z).symm
          subst eb
          exact jb_nil rfl
        rw [show δ' = _ from e]
        refine jb_one (js_if (Rt := Is (!okS (bkT b T) g x o o2)) ((JW.jt (jw_andI (jt_ne (je_var 6 rfl) (je_var 8 rfl)) fun _ => jw_and1 (jt_not (jt_v (je_callI (ok__law_at_most c) (ja_c (je_ixS hrr (je_var 9 rfl) (je_var 8 rfl) (rowD_get ho2)) (ja_c (je_callI (ok__law_sum c) (ja_c (je_ixS hrr (je_var 9 rfl) (je_var 6 rfl) (rowD_get ho)) (ja_c (je_var 10 rfl) ja_nil)) ⟨_, _, rfl, Is.self⟩ hr1) ja_nil)) ⟨_, _, rfl, Is.self⟩ hr2))))).is ?_) (fun z => ?_) (fun z => jb_nil ⟨fun o2' ho2' => ?_, _, _, _, _, rfl⟩))
        · rw [natI]
          unfold okS
          cases decide (o = o2) <;> rfl
        · exact jb_one (js_retI je_bl (no x hx (range_not ho (range_not ho2 (nottrue z)))))
        · rcases Nat.lt_or_ge o2' o2 with h | h
          · exact hb3 o2' h
          · have : o2' = o2 := by omega
            subst this
            exact notfalse z
      · rcases Nat.lt_or_ge o' o with h | h
        · exact hb2 o' h
        · have : o' = o := by omega
          subst this
          refine range_all fun o2 ho2 => hb3 o2 ?_
          rw [intsD_len]
          exact ho2
    · rcases Nat.lt_or_ge x' x with h | h
      · exact hb x' h
      · have : x' = x := by omega
        subst this
        refine range_all fun o ho => hb2 o ?_
        rw [intsD_len]
        exact ho
  · rw [show (List.range k).all (okRow k (bkT b T) g) = true from h] at q2
    exact jb_one (js_retI je_bl q2)
end
end PW
end
section
set_option maxHeartbeats 4000000
namespace PJ
open PySem PySem.Spec PyProof.Rows L2
section
variable {X : Cx} {en : En} {δ : Lv} {a b : Expr} {pos : Pos}
/-- the left factor is small -/
theorem je_mul {i j : Int} (ha : JE X en a δ (Is (.int i))) (hb : JE X en b δ (Is (.int j))) (hi : -(2 ^ 64) < i ∧ i < 2 ^ 64) : JE X en (.BinOp a .Mult b pos) δ (Is (.int (i * j))) := je_op op_mul ha hb (one2 (r2_I (.inl hi) fun _ => rfl))
/-- the right factor is small -/
theorem je_mulR {i j : Int} (ha : JE X en a δ (Is (.int i))) (hb : JE X en b δ (Is (.int j))) (hj : -(2 ^ 64) < j ∧ j < 2 ^ 64) : JE X en (.BinOp a .Mult b pos) δ (Is (.int (i * j))) := je_op op_mul ha hb (one2 (r2_I (.inr hj) fun _ => rfl))
theorem je_mulX {i j : Int} (ha : JE X en a δ (Is (.int i))) (hb : JE X en b δ (Is (.int j))) (hj : CMulX i j) : JE X en (.BinOp a .Mult b pos) δ (Is (.int (i * j))) := je_op op_mulX ha hb (one2 (r2_I hj fun _ => rfl))
theorem je_fdiv {i j : Int} (ha : JE X en a δ (Is (.int i))) (hb : JE X en b δ (Is (.int j))) (hj : 0 < j ∧ j < 1073741824) : JE X en (.BinOp a .FloorDiv b pos) δ (Is (.int (i / j))) := je_op op_fdiv ha hb (one2 (r2_I hj fun _ => rfl))
theorem je_mod {i j : Int} (ha : JE X en a δ (Is (.int i))) (hb : JE X en b δ (Is (.int j))) (hj : 0 < j) : JE X en (.BinOp a .Mod b pos) δ (Is (.int (i % j))) := je_op op_mod ha hb (one2 (r2_I (C := fun _ j => 0 < j) hj fun _ => rfl))
theorem je_pow {i j : Int} (ha : JE X en a δ (Is (.int i))) (hb : JE X en b δ (Is (.int j))) (hj : 0 ≤ j ∧ j ≤ 1000000 ∧ i.natAbs < 2 ^ 64) : JE X en (.BinOp a .Pow b pos) δ (Is (.int (i ^ j.toNat))) := je_op op_pow ha hb (one2 (r2_I hj fun _ => rfl))
theorem je_min2 {e e2 : Expr} {p1 : Pos} {i j m : Int} (ha : JE X en e δ (Is (.int i))) (hb : JE X en e2 δ (Is (.int j))) (hm : (if j < i then j else i) = m) (hmn : X.mg "min" = none) (hc : X.calm = true := by rfl) (hg : Gl X "min" := by rfl)
    (he : starEach [e, e2] X.env = (false, eval e X.env) :: starEach [e2] X.env := by rfl) (he2 : starEach [e2] X.env = (false, eval e2 X.env) :: starEach [] X.env := by rfl) (hpl : (backTo pos (starEach [e2] X.env)).any (·.1) = false := by rfl) :
    JE X en (.Call (.Name "min" p1) [e, e2] [] pos) δ (Is (.int m)) := je_B (ds := [.int i, .int j]) (call_min2 hc) (ja_c ha (ja_c hb ja_nil he2) he) (fun G H vs Q e rs k => by
  obtain ⟨v, u, ev, r1, r2⟩ := reps2 rs
  have e1 : v = .int i := r1
  have e2 : u = .int j := r2
  exact ⟨i, j, by rw [ev, e1, e2], k _ G H _ (Fm.same e) rfl (show V.int _ = V.int _ by rw [hm])⟩) hmn (by decide +kernel) hg (by decide) (by decide) he hpl
end
end PJ
end
section
set_option maxHeartbeats 4000000
namespace PW
open PySem PySem.Spec PyProof.Rows L2 PJ PF PX

/-- the law's demands at a grid, but for its form -/
def okH (k : Nat) (SL : SideM) (ts : List Dat) (ps : List Nat) (i : Nat) : Bool :=
  keptB k (SL.getD i ([], fun _ _ => none)).1 (SL.getD i ([], fun _ _ => none)).2 (grF (ts.getD i .non)) && (List.range k).all fun q => notAb (grF (ts.getD i .non) (ps.getD i 0) q) (bnd0 ts i q)
def sideB (b : Bool) (L : List (List Arr)) (fs : List Dat) (m : Nat) : SideM := if b then (sideF L fs m).map turnS else sideF L fs m
theorem sideB_get {b : Bool} {L : List (List Arr)} {fs : List Dat} {m i : Nat} (h : i < m) : (sideB b L fs m).getD i ([], fun _ _ => none) = (bkA b (L.getD i []), bkT b (ftab fs i)) := by
  have e : (sideF L fs m)[i]? = some (L.getD i [], ftab fs i) := by
    unfold sideF
    rw [List.getElem?_map, List.getElem?_range h]
    rfl
  cases b with
  | false => exact getD_of e
  | true =>
    refine getD_of ?_
    show ((sideF L fs m).map turnS)[i]? = _
    rw [List.getElem?_map, e]
    rfl
def endsN (b : Bool) (ps qs : List Nat) : List Nat := if b then qs else ps
def sideN (b : Bool) (xd : Dat) : List Dat := if b then seqs (nth xd 2) else seqs (nth xd 1)
theorem side_b {s : Nat} (h : s < 2) : ∃ b : Bool, s = (if b then 1 else 0) ∧ (b = true → 0 < s) ∧ decide ((s : Int) = 1) = b ∧ 1 + s = (if b then 2 else 1) := by
  have h2 : s = 0 ∨ s = 1 := by omega
  rcases h2 with h | h
  · exact ⟨false, h, (fun z => nomatch z), by rw [h]; rfl, by rw [h]; rfl⟩
  · exact ⟨true, h, fun _ => by rw [h]; exact Nat.one_pos, by rw [h]; rfl, by rw [h]; rfl⟩
structure VN (k : Nat) (L : List (List Arr)) (ps qs : List Nat) (n : Nat) (xd : Dat) (R : Dat → Prop) : Prop where
  v1 : ∀ i, i < n → okF k L (seqs (nth xd 0)) i = false → (∀ j, j < i → okF k L (seqs (nth xd 0)) j = true) → R (.tup [.str "floor", .int (i : Int)])
  v2 : (∀ i, i < n → okF k L (seqs (nth xd 0)) i = true) → ∀ i, i < n + 1 → okH k (sideB false L (seqs (nth xd 0)) (n + 1)) (seqs (nth xd 1)) ps i = false → (∀ j, j < i → okH k (sideB false L (seqs (nth xd 0)) (n + 1)) (seqs (nth xd 1)) ps j = true) → R (.tup [.str "paper", .int ((i + 0 : Nat) : Int)])
  v3 : (∀ i, i < n → okF k L (seqs (nth xd 0)) i = true) → (∀ i, i < n + 1 → okH k (sideB false L (seqs (nth xd 0)) (n + 1)) (seqs (nth xd 1)) ps i = true) →
    ∀ i, i < n → okH k (sideB true L (seqs (nth xd 0)) (n + 1)) (seqs (nth xd 2)) qs i = false → (∀ j, j < i → okH k (sideB true L (seqs (nth xd 0)) (n + 1)) (seqs (nth xd 2)) qs j = true) → R (.tup [.str "paper", .int ((i + 100 : Nat) : Int)])
  v4 : (∀ i, i < n → okF k L (seqs (nth xd 0)) i = true) → (∀ i, i < n + 1 → okH k (sideB false L (seqs (nth xd 0)) (n + 1)) (seqs (nth xd 1)) ps i = true) → (∀ i, i < n → okH k (sideB true L (seqs (nth xd 0)) (n + 1)) (seqs (nth xd 2)) qs i = true) →
    R (.tup [.str "number", oD (lsM (grF ((seqs (nth xd 1)).getD n .non) (qs.getD n 0)) (bndN (seqs (nth xd 2)) n) k)])
def ztD (k : Nat) (ds : List Dat) (n : Nat) : List Dat := (List.range n).map fun i => .lst (gridL k (ftab ds i))
section
variable {P : Program} {w : World} {K : PySem.W.Frag} {mg : Str → Option Value} {base : Heap}
def W__law_verdict : Wf := fun ss R _ => ∃ (k n : Nat) (L : List (List Arr)) (wds : List Dat) (xd : Dat) (ps qs : List Nat), ss = [.dat (.int (k : Int)), .dat (.lst wds), .dat (.tup (natsD ps)), .dat (.tup (natsD qs)), .dat xd] ∧ k ≤ 1000 ∧ n ≤ 1000 ∧
  (∀ (i : Nat) as, L[i]? = some as → ∃ d, wds[i]? = some d ∧ Seqd d (as.map arrD)) ∧ (∀ as ∈ L, ∀ a ∈ as, a.In k) ∧ n < L.length ∧ n < ps.length ∧ n < qs.length ∧ (∀ p ∈ ps, p < k) ∧ (∀ p ∈ qs, p < k) ∧ shB n xd = true ∧
  (∀ d ∈ seqs (nth xd 0), partB k d = true) ∧ (∀ d ∈ seqs (nth xd 1), gridB k d = true) ∧ (∀ d ∈ seqs (nth xd 2), gridB k d = true) ∧ VN k L ps qs n xd R
theorem ok__law_verdict (c : Fc K mg) : DefJ P w K mg base "_law_verdict" 4 ["_law_pegs", "_law_webs_here", "_law_here", "_law_there", "_law_paper"] W__law_verdict := by
  obtain ⟨fd, F⟩ := c.f__law_verdict
  refine ⟨fd, defj _ F sc__law_verdict (fun ss R Z ⟨k, n, L, wds, xd, ps, qs, e, _⟩ => by rw [e]; rfl) (fun cdv A outer s H E en ss R Z hr ⟨k, n, L, wds, xd, ps, qs, e, hk, hn, hW, hin, hnL, hnp, hnq, hpk, hqk, hsh, hf, hi1, hi2, q⟩ hZ => ?_), F.bindsN (fun _ _ _ _ _ _ us hl => match us, hl with | [_, _, _, _, _], _ => rfl), c.g__law_verdict, F.kp⟩
  subst e
  have nd := sc__law_verdict.nd
  have hr3 : Room 3 _ := hr
  have hr2 : Room 2 _ := hr.mono (by decide)
  have hr1 : Room 1 _ := hr.mono (by decide)
  obtain ⟨hs3, hall⟩ := Bool.and_eq_true_iff.mp hsh
  obtain ⟨hsx, hl3⟩ := Bool.and_eq_true_iff.mp hs3
  have hl3 := of_decide_eq_true hl3
  have hSx := seqs_of hsx
  have xat : ∀ {i}, i < 3 → (seqs xd)[i]? = some (nth xd i) := fun {i} hi => by
    have e1 : (seqs xd)[i]? = some ((seqs xd)[i]'(by omega)) := List.getElem?_eq_getElem (by omega)
    rw [e1]
    exact congrArg some (getD_of e1).symm
  have s0 := Bool.and_eq_true_iff.mp (range_get hall (i := 0) (by decide))
  have s1 := Bool.and_eq_true_iff.mp (range_get hall (i := 1) (by decide))
  have s2 := Bool.and_eq_true_iff.mp (range_get hall (i := 2) (by decide))
  have len0 : (seqs (nth xd 0)).length = n := of_decide_eq_true s0.2
  have len1 : (seqs (nth xd 1)).length = n + 1 := of_decide_eq_true s1.2
  have len2 : (seqs (nth xd 2)).length = n := of_decide_eq_true s2.2
  have m0 := seqs_of s0.1
  have m1 := seqs_of s1.1
  have m2 := seqs_of s2.1
  have Lat : ∀ {i}, i < L.length → L[i]? = some (L.getD i []) := fun {i} h => by
    have e1 : L[i]? = some L[i] := List.getElem?_eq_getElem h
    rw [e1, getD_of e1]
  have Lin : ∀ {i}, i < L.length → ∀ a ∈ L.getD i [], a.In k := fun {i} h => hin _ (List.mem_of_getElem? (Lat h))
  have fat : ∀ {i}, i < n → (seqs (nth xd 0))[i]? = some ((seqs (nth xd 0)).getD i .non) := fun {i} h => by
    have e1 : (seqs (nth xd 0))[i]? = some ((seqs (nth xd 0))[i]'(by omega)) := List.getElem?_eq_getElem (by omega)
    rw [e1, getD_of e1]
  refine jb_own 5 nd ((jf_lstI (ds := [.lst (gridL k fun _ _ => some 0)]) (ja_c (je_callI (ok__law_zero c) (ja_c (je_var 0 rfl) ja_nil) ⟨k, rfl, hk, Is.self⟩ hr1) ja_nil) (szl rfl)).is (show _ = ztD k (seqs (nth xd 0)) 1 from rfl)) ?_
  refine jb_cons (M := fun δ' => (∀ i, i < n → okF k L (seqs (nth xd 0)) i = true) ∧ ∃ z6 z7 z8 z9 z10, δ' = [some (.dat (.int (k : Int))), some (.dat (.lst wds)), some (.dat (.tup (natsD ps))), some (.dat (.tup (natsD qs))), some (.dat xd), some (.own (ztD k (seqs (nth xd 0)) (n + 1))), z6, z7, z8, z9, z10, none, none, none, none, none, none, none])
    (js_forI (fun i δ' => (∀ j, j < i → okF k L (seqs (nth xd 0)) j = true) ∧ ∃ z6 z7 z8 z9 z10, δ' = [some (.dat (.int (k : Int))), some (.dat (.lst wds)), some (.dat (.tup (natsD ps))), some (.dat (.tup (natsD qs))), some (.dat xd), some (.own (ztD k (seqs (nth xd 0)) (i + 1))), z6, z7, z8, z9, z10, none, none, none, none, none, none, none])
      (ji_range (n := n) ((je_len m0 (je_ixS hSx (je_var 4 rfl) je_int (xat (i := 0) (by decide))) c.b_len).is (by rw [len0])) (by omega) c.b_range) (jg_nm 6 nd) ⟨(fun _ h => nomatch h), none, none, none, none, none, rfl⟩ (fun i d δ' hd ⟨hb, z6, z7, z8, z9, z10, e⟩ => ?_) (fun δ' ⟨hb, z6, z7, z8, z9, z10, e⟩ => ?_)) ?_
  · obtain ⟨hi, ed⟩ := intsD_back hd
    subst e ed
    have hp := hf _ (List.mem_of_getElem? (fat hi))
    obtain ⟨pS, pl, pat⟩ := partB_back hp
    obtain ⟨wd, hwd, hwS⟩ := hW i _ (Lat (by omega : i < L.length))
    refine ⟨_, rfl, ?_⟩
    refine jb_own 7 nd (jf_lstI (ds := []) ja_nil (Nat.zero_le _)) ?_
    refine jb_cons (M := fun δ' => okF k L (seqs (nth xd 0)) i = true ∧ ∃ z8 z9 z10, δ' = [some (.dat (.int (k : Int))), some (.dat (.lst wds)), some (.dat (.tup (natsD ps))), some (.dat (.tup (natsD qs))), some (.dat xd), some (.own (ztD k (seqs (nth xd 0)) (i + 1))), some (.dat (.int (i : Int))), some (.own (gridL k (ftab (seqs (nth xd 0)) (i + 1)))), z8, z9, z10, none, none, none, none, none, none, none])
      (js_forI (fun p δ' => (∀ j, j < p → okFp k (L.getD i []) (ftab (seqs (nth xd 0)) i) (fg (seqs (nth xd 0)) i j) j = true) ∧ ∃ z8 z9 z10, δ' = [some (.dat (.int (k : Int))), some (.dat (.lst wds)), some (.dat (.tup (natsD ps))), some (.dat (.tup (natsD qs))), some (.dat xd), some (.own (ztD k (seqs (nth xd 0)) (i + 1))), some (.dat (.int (i : Int))), some (.own ((List.range p).map fun x => .lst (rowD k (ftab (seqs (nth xd 0)) (i + 1) x)))), z8, z9, z10, none, none, none, none, none, none, none])
        (ji_range (je_var 0 rfl) (by omega) c.b_range) (jg_nm 8 nd) ⟨(fun _ h => nomatch h), _, _, _, rfl⟩ (fun p d δ' hd ⟨hb2, z8, z9, z10, e⟩ => ?_) (fun δ' ⟨hb2, z8, z9, z10, e⟩ => ?_)) ?_
    · obtain ⟨hp, ed⟩ := intsD_back hd
      subst e ed
      obtain ⟨pg, pgB⟩ := pat p hp
      have hG : IsGrid k (fg (seqs (nth xd 0)) i p) (nth ((seqs (nth xd 0)).getD i .non) p) := gridB_grid pgB
      obtain ⟨rows, hGG, hGl, hGr⟩ := hG
      have hG : IsGrid k (fg (seqs (nth xd 0)) i p) (nth ((seqs (nth xd 0)).getD i .non) p) := ⟨rows, hGG, hGl, hGr⟩
      obtain ⟨rp, hrp, hrpr⟩ := hGr p hp
      refine ⟨_, rfl, ?_⟩
      refine jb_set 9 nd (je_ixS (seqs_of pS) (je_ixS m0 (je_ixS hSx (je_var 4 rfl) je_int (xat (i := 0) (by decide))) (je_var 6 rfl) (fat hi)) (je_var 8 rfl) pg) ?_
      refine jb_ifX (Rt := Is (!okFp k (L.getD i []) (ftab (seqs (nth xd 0)) i) (fg (seqs (nth xd 0)) i p) p)) ((JW.jt (jw_orI (jt_not (jt_v (je_callI (ok__law_at_most c) (ja_c (je_ixS hrpr (je_ixS hGG (je_var 9 rfl) (je_var 8 rfl) hrp) (je_var 8 rfl) (rowD_get hp)) (ja_c je_int ja_nil)) ⟨_, some 0, rfl, Is.self⟩ hr2))) fun _ => jw_or1 (jt_not (jt_v (je_callI (ok__law_kept c) (ja_c (je_var 0 rfl) (ja_c (je_ixL (je_var 1 rfl) (je_var 6 rfl) hwd) (ja_c (je_ixO 5 rfl (je_var 6 rfl) (map_range_get (Nat.lt_succ_self i))) (ja_c (je_var 9 rfl) (ja_c je_bl ja_nil))))) ⟨k, L.getD i [], ftab (seqs (nth xd 0)) i, _, _, _, _, false, rfl, hk, hwS, Lin (by omega), isGrid_l, hG, Is.self⟩ hr3))))).is ?_) (fun z => ?_) (fun z => ?_)
      · show (!notAb _ _ || !keptB k (L.getD i []) (ftab (seqs (nth xd 0)) i) _) = _
        unfold okFp
        rw [Bool.not_and]
      · exact jb_one (js_retI (je_tupI (ds := [.str "floor", .int (i : Int)]) (ja_c je_str (ja_c (je_var 6 rfl) ja_nil)) (szl rfl)) (q.v1 i hi (range_not hp (nottrue z)) hb))
      · refine jb_one (js_app 7 rfl (((lc_rng 10 (fun x => oD (ftab (seqs (nth xd 0)) (i + 1) p x)) (je_var 0 rfl) hk c.b_range (blkOk_by (by kernel_rfl)) (fun s H C cl fp => jg_nm 10 nd) (fun x hx s H C cl fp => ?_)).jf nd).je1) (by rw [List.length_map, List.length_range, sizeLine_eq]; omega) fun d ed => ⟨fun j hj => ?_, ?_⟩)
        · obtain ⟨rx, hrx, hrxr⟩ := hGr x hx
          exact je_ixS hrxr (je_ixS hGG (je_var 9 rfl) (je_var 10 rfl) hrx) (je_var 10 rfl) (rowD_get hx)
        · rcases Nat.lt_or_ge j p with h | h
          · exact hb2 j h
          · have : j = p := by omega
            subst this
            exact notfalse z
        · have e3 : (List.range p).map (fun x => Dat.lst (rowD k (ftab (seqs (nth xd 0)) (i + 1) x))) ++ [.lst (rowD k (ftab (seqs (nth xd 0)) (i + 1) p))] = (List.range (p + 1)).map fun x => Dat.lst (rowD k (ftab (seqs (nth xd 0)) (i + 1) x)) := map_snoc _ p
          rw [show d = .lst (rowD k (ftab (seqs (nth xd 0)) (i + 1) p)) from ed, e3]
          exact ⟨_, _, _, rfl⟩
    · rw [intsD_len] at e hb2
      exact ⟨range_all hb2, z8, z9, z10, e⟩
    · rintro δ' ⟨hof, z8, z9, z10, e⟩
      subst e
      refine jb_freeze 7 rfl (jb_one (js_app 5 rfl (je_var 7 rfl) (by unfold ztD; rw [List.length_map, List.length_range, sizeLine_eq]; omega) fun d ed => ⟨fun j hj => ?_, ?_⟩))
      · rcases Nat.lt_or_ge j i with h | h
        · exact hb j h
        · have : j = i := by omega
          subst this
          exact hof
      · rw [show d = .lst (gridL k (ftab (seqs (nth xd 0)) (i + 1))) from ed, show ztD k (seqs (nth xd 0)) (i + 1) ++ [.lst (gridL k (ftab (seqs (nth xd 0)) (i + 1)))] = ztD k (seqs (nth xd 0)) (i + 1 + 1) from map_snoc _ (i + 1)]
        exact ⟨_, _, _, _, _, rfl⟩
  · rw [intsD_len] at e hb
    exact ⟨hb, z6, z7, z8, z9, z10, e⟩
  rintro δ' ⟨hof, z6, z7, z8, z9, z10, e⟩
  subst e
  refine jb_freeze 5 rfl ?_
  have Lb : ∀ (b : Bool), shM n (if b then 2 else 1) = (sideN b xd).length := fun b => by
    cases b with
    | false => exact len1.symm
    | true => exact len2.symm
  have mle : ∀ (b : Bool), (sideN b xd).length ≤ n + 1 := fun b => by
    cases b with
    | false => exact Nat.le_of_eq len1
    | true => exact Nat.le_trans (Nat.le_of_eq len2) (Nat.le_succ n)
  have gB : ∀ (b : Bool), ∀ d ∈ sideN b xd, gridB k d = true := fun b => by
    cases b with
    | false => exact hi1
    | true => exact hi2
  have sS : ∀ (b : Bool), Seqd (nth xd (if b then 2 else 1)) (sideN b xd) := fun b => by
    cases b with
    | false => exact m1
    | true => exact m2
  have eN : ∀ (b : Bool) i, i < n + 1 → i < (endsN b ps qs).length ∧ (endsN b ps qs).getD i 0 < k := fun b i hi => by
    have e2 : ∀ {rs : List Nat}, n < rs.length → (∀ p ∈ rs, p < k) → i < rs.length ∧ rs.getD i 0 < k := fun {rs} h1 h2 => by
      have e1 : rs[i]? = some (rs[i]'(by omega)) := List.getElem?_eq_getElem (by omega)
      refine ⟨by omega, ?_⟩
      rw [getD_of e1]
      exact h2 _ (List.getElem_mem _)
    cases b with
    | false => exact e2 hnp hpk
    | true => exact e2 hnq hqk
  have bad : ∀ (b : Bool) i, (b = true → ∀ i, i < (sideN false xd).length → okH k (sideB false L (seqs (nth xd 0)) (n + 1)) (sideN false xd) (endsN false ps qs) i = true) → i < (sideN b xd).length → okH k (sideB b L (seqs (nth xd 0)) (n + 1)) (sideN b xd) (endsN b ps qs) i = false →
      (∀ j, j < i → okH k (sideB b L (seqs (nth xd 0)) (n + 1)) (sideN b xd) (endsN b ps qs) j = true) → R (.tup [.str "paper", .int ((i + (if b then 100 else 0) : Nat) : Int)]) := fun b i h0 hi h1 h2 => by
    cases b with
    | false => exact q.v2 hof i (by rw [← len1]; exact hi) h1 h2
    | true => exact q.v3 hof (fun i hi => h0 rfl i (by rw [show (sideN false xd).length = n + 1 from len1]; exact hi)) i (by rw [← len2]; exact hi) h1 h2
  refine jb_cons (M := fun δ' => ((∀ b : Bool, ∀ i, i < (sideN b xd).length → okH k (sideB b L (seqs (nth xd 0)) (n + 1)) (sideN b xd) (endsN b ps qs) i = true)) ∧ ∃ z6 z7 z8 z9 z10 z11 z13 z14 z15, δ' = [some (.dat (.int (k : Int))), some (.dat (.lst wds)), some (.dat (.tup (natsD ps))), some (.dat (.tup (natsD qs))), some (.dat xd), some (.dat (.lst (ztD k (seqs (nth xd 0)) (n + 1)))), z6, z7, z8, z9, z10, z11, some (.dat (.lst (rowD k (bndN (seqs (nth xd 2)) n)))), z13, z14, z15, none, none])
    (js_forI (fun s δ' => ((0 < s → ∀ i, i < (sideN false xd).length → okH k (sideB false L (seqs (nth xd 0)) (n + 1)) (sideN false xd) (endsN false ps qs) i = true) ∧ (1 < s → ∀ i, i < (sideN true xd).length → okH k (sideB true L (seqs (nth xd 0)) (n + 1)) (sideN true xd) (endsN true ps qs) i = true)) ∧ ∃ z6 z7 z8 z9 z10 z11 z12 z13 z14 z15, (1 < s → z12 = some (.dat (.lst (rowD k (bndN (seqs (nth xd 2)) n))))) ∧ δ' = [some (.dat (.int (k : Int))), some (.dat (.lst wds)), some (.dat (.tup (natsD ps))), some (.dat (.tup (natsD qs))), some (.dat xd), some (.dat (.lst (ztD k (seqs (nth xd 0)) (n + 1)))), z6, z7, z8, z9, z10, z11, z12, z13, z14, z15, none, none])
      (ji_range (n := 2) je_int (by omega) c.b_range) (jg_nm 11 nd) ⟨⟨fun h => absurd h (Nat.lt_irrefl 0), fun h => absurd h (by omega)⟩, _, _, _, _, _, _, _, _, _, _, fun h => absurd h (by omega), rfl⟩ (fun s d δ' hd ⟨⟨hb0, hb1⟩, z6, z7, z8, z9, z10, z11, z12, z13, z14, z15, _, e⟩ => ?_) (fun δ' ⟨⟨hb0, hb1⟩, z6, z7, z8, z9, z10, z11, z12, z13, z14, z15, h12, e⟩ => ?_)) ?_
  · obtain ⟨hs2, ed⟩ := intsD_back hd
    subst e ed
    refine ⟨_, rfl, ?_⟩
    obtain ⟨b, hb, hb', hdec, h1s⟩ := side_b hs2
    refine jb_set 12 nd (d := .lst (rowD k (bnd0 (sideN b xd) 0))) (((lc_rng 8 (fun _ => .int 0) (je_var 0 rfl) hk c.b_range (blkOk_by (by kernel_rfl)) (fun s H C cl fp => jg_nm 8 nd) (fun x hx s H C cl fp => je_int)).jf nd).je1) ?_
    refine jb_set 13 nd (d := .tup (natsD (endsN b ps qs))) (je_ixL (j := s) ((jf_lstI (ds := [.tup (natsD ps), .tup (natsD qs)]) (ja_c (je_var 2 rfl) (ja_c (je_var 3 rfl) ja_nil)) (szl rfl)).je1) (je_var 11 rfl) (by rw [hb]; cases b <;> rfl)) ?_
    refine jb_one (js_forI (fun i δ' => (∀ j, j < i → okH k (sideB b L (seqs (nth xd 0)) (n + 1)) (sideN b xd) (endsN b ps qs) j = true) ∧ ∃ z6 z7 z8 z9 z10 z14 z15, δ' = [some (.dat (.int (k : Int))), some (.dat (.lst wds)), some (.dat (.tup (natsD ps))), some (.dat (.tup (natsD qs))), some (.dat xd), some (.dat (.lst (ztD k (seqs (nth xd 0)) (n + 1)))), z6, z7, z8, z9, z10, some (.dat (.int (s : Int))), some (.dat (.lst (rowD k (bnd0 (sideN b xd) i)))), some (.dat (.tup (natsD (endsN b ps qs)))), z14, z15, none, none])
      (ji_range (n := (sideN b xd).length) (je_len (sS b) (je_ixS (j := if b then 2 else 1) hSx (je_var 4 rfl) (je_add je_int (je_var 11 rfl)) (xat (by cases b <;> decide)) (by rw [← h1s]; rfl)) c.b_len) (by have := mle b; omega) c.b_range) (jg_nm 6 nd) ⟨(fun _ h => nomatch h), _, _, _, _, _, _, _, rfl⟩ (fun i d δ' hd ⟨hbi, z6, z7, z8, z9, z10, z14, z15, e⟩ => ?_) (fun δ' ⟨hbi, z6, z7, z8, z9, z10, z14, z15, e⟩ => ?_))
    · obtain ⟨hi, ed⟩ := intsD_back hd
      have hi1 : i < n + 1 := Nat.lt_of_lt_of_le hi (mle b)
      subst e ed
      obtain ⟨wd, hwd, hwS⟩ := hW i _ (Lat (by omega : i < L.length))
      have gat : (sideN b xd)[i]? = some ((sideN b xd).getD i .non) := by
        have e1 : (sideN b xd)[i]? = some ((sideN b xd)[i]'hi) := List.getElem?_eq_getElem hi
        rw [e1, getD_of e1]
      have hgb := gB b _ (List.mem_of_getElem? gat)
      have hG := gridB_grid hgb
      have hG' := hG
      obtain ⟨rows, hGG, hGl, hGr⟩ := hG'
      obtain ⟨hel, hek⟩ := eN b i hi1
      obtain ⟨re, hre, hrer⟩ := hGr _ hek
      refine ⟨_, rfl, ?_⟩
      refine jb_set 9 nd (je_ixS (sS b) (je_ixS (j := if b then 2 else 1) hSx (je_var 4 rfl) (je_add je_int (je_var 11 rfl)) (xat (by cases b <;> decide)) (by rw [← h1s]; rfl)) (je_var 6 rfl) gat) ?_
      refine jb_set 14 nd (d := .bl (keptB k (bkA b (L.getD i [])) (bkT b (ftab (seqs (nth xd 0)) i)) (grF ((sideN b xd).getD i .non)))) (je_callI (ok__law_kept c) (ja_c (je_var 0 rfl) (ja_c (je_ixL (je_var 1 rfl) (je_var 6 rfl) hwd) (ja_c (je_ixL (je_var 5 rfl) (je_var 6 rfl) (map_range_get hi1)) (ja_c (je_var 9 rfl) (ja_c ((je_eq (je_var 11 rfl) je_int).is (d' := .bl b) (by rw [hdec])) ja_nil))))) ⟨k, L.getD i [], ftab (seqs (nth xd 0)) i, _, _, _, _, b, rfl, hk, hwS, Lin (by omega), isGrid_l, hG, Is.self⟩ hr3) ?_
      refine jb_cons (M := fun δ' => ∃ z10 z15, δ' = [some (.dat (.int (k : Int))), some (.dat (.lst wds)), some (.dat (.tup (natsD ps))), some (.dat (.tup (natsD qs))), some (.dat xd), some (.dat (.lst (ztD k (seqs (nth xd 0)) (n + 1)))), some (.dat (.int (i : Int))), z7, z8, some (.dat ((sideN b xd).getD i .non)), z10, some (.dat (.int (s : Int))), some (.dat (.lst (rowD k (bnd0 (sideN b xd) i)))), some (.dat (.tup (natsD (endsN b ps qs)))), some (.dat (.bl (okH k (sideB b L (seqs (nth xd 0)) (n + 1)) (sideN b xd) (endsN b ps qs) i))), z15, none, none])
        (js_forI (fun g δ' => ∃ z10 z15, δ' = [some (.dat (.int (k : Int))), some (.dat (.lst wds)), some (.dat (.tup (natsD ps))), some (.dat (.tup (natsD qs))), some (.dat xd), some (.dat (.lst (ztD k (seqs (nth xd 0)) (n + 1)))), some (.dat (.int (i : Int))), z7, z8, some (.dat ((sideN b xd).getD i .non)), z10, some (.dat (.int (s : Int))), some (.dat (.lst (rowD k (bnd0 (sideN b xd) i)))), some (.dat (.tup (natsD (endsN b ps qs)))), some (.dat (.bl (keptB k (bkA b (L.getD i [])) (bkT b (ftab (seqs (nth xd 0)) i)) (grF ((sideN b xd).getD i .non)) && (List.range g).all fun q => notAb (grF ((sideN b xd).getD i .non) ((endsN b ps qs).getD i 0) q) (bnd0 (sideN b xd) i q)))), z15, none, none])
          (ji_range (je_var 0 rfl) (by omega) c.b_range) (jg_nm 15 nd) ⟨_, _, by rw [show (List.range 0).all _ = true from rfl, Bool.and_true]; rfl⟩ (fun g d δ' hd ⟨z10, z15, e⟩ => ?_) (fun δ' ⟨z10, z15, e⟩ => ?_)) ?_
      · obtain ⟨hg, ed⟩ := intsD_back hd
        subst e ed
        refine ⟨_, rfl, ?_⟩
        have es : ∀ x : Bool, (x && (List.range (g + 1)).all fun q => notAb (grF ((sideN b xd).getD i .non) ((endsN b ps qs).getD i 0) q) (bnd0 (sideN b xd) i q)) = ((x && (List.range g).all fun q => notAb (grF ((sideN b xd).getD i .non) ((endsN b ps qs).getD i 0) q) (bnd0 (sideN b xd) i q)) && notAb (grF ((sideN b xd).getD i .non) ((endsN b ps qs).getD i 0) g) (bnd0 (sideN b xd) i g)) := fun x => by
          rw [List.range_succ, List.all_append, Bool.and_assoc]
          show _ = (x && (_ && _))
          simp
        refine jb_one (js_if (jt_not (jt_v (je_callI (ok__law_at_most c) (ja_c (je_ixS hrer (je_ixS (j := (endsN b ps qs).getD i 0) hGG (je_var 9 rfl) (je_ixT (j := i) (je_var 13 rfl) (je_var 6 rfl) (natsD_at2 hel)) hre) (je_var 15 rfl) (rowD_get hg)) (ja_c (je_ixL (je_var 12 rfl) (je_var 15 rfl) (rowD_get hg)) ja_nil)) ⟨_, _, rfl, Is.self⟩ hr2))) (fun z => ?_) (fun z => ?_))
        · refine jb_set 14 nd je_bl (jb_nil ?_)
          rw [es, nottrue z, Bool.and_false]
          exact ⟨_, _, rfl⟩
        · refine jb_nil ?_
          rw [es, notfalse z, Bool.and_true]
          exact ⟨_, _, rfl⟩
      · refine ⟨z10, z15, ?_⟩
        rw [intsD_len] at e
        unfold okH
        rw [sideB_get hi1]
        exact e
      rintro δ' ⟨z10, z15, e⟩
      subst e
      refine jb_ifX (jt_not (jt_v (je_var 14 rfl))) (fun z => ?_) (fun z => ?_)
      · have ei : (100 * (s : Int) + (i : Int)) = ((i + (if b then 100 else 0) : Nat) : Int) := by
          rw [hb]
          cases b with
          | false => show 100 * (0 : Int) + _ = ((i + 0 : Nat) : Int); omega
          | true => show 100 * (1 : Int) + _ = ((i + 100 : Nat) : Int); omega
        exact jb_one (js_retI (je_tupI (ds := [.str "paper", .int ((i + (if b then 100 else 0) : Nat) : Int)]) (ja_c je_str (ja_c ((je_add (je_mul je_int (je_var 11 rfl) (by decide)) (je_var 6 rfl)).is (by rw [ei])) ja_nil)) (szl rfl)) (bad b i (fun h => hb0 (hb' h)) hi (nottrue z) hbi))
      · refine jb_one (js_set 12 nd (((lc_rng 8 (fun x => oD (bnd0 (sideN b xd) (i + 1) x)) (je_var 0 rfl) hk c.b_range (blkOk_by (by kernel_rfl)) (fun s H C cl fp => jg_nm 8 nd) (fun x hx s H C cl fp => ?_)).jf nd).je1) fun d ed => ⟨fun j hj => ?_, ?_⟩)
        · obtain ⟨rx, hrx, hrxr⟩ := hGr x hx
          exact je_ixS hrxr (je_ixS hGG (je_var 9 rfl) (je_var 8 rfl) hrx) (je_var 8 rfl) (rowD_get hx)
        · rcases Nat.lt_or_ge j i with h | h
          · exact hbi j h
          · have : j = i := by omega
            subst this
            exact notfalse z
        · rw [show d = .lst (rowD k (bnd0 (sideN b xd) (i + 1))) from ed]
          exact ⟨_, _, _, _, _, _, _, rfl⟩
    · rw [intsD_len] at e hbi
      cases b with
      | false =>
        have e0 : s = 0 := hb
        exact ⟨⟨fun _ => hbi, fun h => absurd h (by omega)⟩, _, _, _, _, _, _, _, _, _, _, fun h => absurd h (by omega), e⟩
      | true =>
        have e0 : s = 1 := hb
        exact ⟨⟨fun _ => hb0 (by omega), fun _ => hbi⟩, _, _, _, _, _, _, _, _, _, _, fun _ => by rw [show (sideN true xd).length = n from len2]; rfl, e⟩
  · rw [intsD_len] at hb0 hb1 h12
    have e12 := h12 (by decide)
    rw [e12] at e
    refine ⟨fun b => ?_, _, _, _, _, _, _, _, _, _, e⟩
    cases b with
    | false => exact hb0 (by decide)
    | true => exact hb1 (by decide)
  rintro δ' ⟨hok, z6, z7, z8, z9, z10, z11, z13, z14, z15, e⟩
  subst e
  have iat : (seqs (nth xd 1))[n]? = some ((seqs (nth xd 1)).getD n .non) := by
    have e1 : (seqs (nth xd 1))[n]? = some ((seqs (nth xd 1))[n]'(by omega)) := List.getElem?_eq_getElem (by omega)
    rw [e1, getD_of e1]
  obtain ⟨rows, hGG, hGl, hGr⟩ := gridB_grid (hi1 _ (List.mem_of_getElem? iat))
  obtain ⟨hel, hek⟩ := eN true n (Nat.lt_succ_self n)
  obtain ⟨re, hre, hrer⟩ := hGr _ hek
  refine jb_set 16 nd (d := .int (n : Int)) ((je_sub (je_len m1 (je_ixS hSx (je_var 4 rfl) je_int (xat (i := 1) (by decide))) c.b_len) je_int).is (by rw [len1]; congr 1; omega)) ?_
  refine jb_set 17 nd (je_ixS (j := qs.getD n 0) hGG (je_ixS (j := n) m1 (je_ixS hSx (je_var 4 rfl) je_int (xat (i := 1) (by decide))) (je_var 16 rfl) iat) (je_ixT (j := n) (je_var 3 rfl) (je_var 16 rfl) (natsD_at2 hnq)) hre) ?_
  refine jb_one (js_retI (je_tupI (ds := [.str "number", oD (lsM (grF ((seqs (nth xd 1)).getD n .non) (qs.getD n 0)) (bndN (seqs (nth xd 2)) n) k)]) (ja_c je_str (ja_c (je_callI (ok__law_least_of c) (ja_c (((lc_rng 15 (fun x => oD (cSum (grF ((seqs (nth xd 1)).getD n .non) (qs.getD n 0) x) (bndN (seqs (nth xd 2)) n x))) (je_var 0 rfl) hk c.b_range (blkOk_by (by kernel_rfl)) (fun s H C cl fp => jg_nm 15 nd) (fun x hx s H C cl fp => je_callI (ok__law_sum c) (ja_c (je_ixS hrer (je_var 17 rfl) (je_var 15 rfl) (rowD_get hx)) (ja_c (je_ixL (je_var 12 rfl) (je_var 15 rfl) (rowD_get hx)) ja_nil)) ⟨_, _, rfl, Is.self⟩ hr1)).jf nd).je1) ja_nil) ⟨k, fun x => cSum (grF ((seqs (nth xd 1)).getD n .non) (qs.getD n 0) x) (bndN (seqs (nth xd 2)) n x), rfl, by rw [lsF_sum]; exact Is.self⟩ hr2) ja_nil)) (szl rfl)) (q.v4 hof (fun i hi => hok false i (by rw [show (sideN false xd).length = n + 1 from len1]; exact hi)) (fun i hi => hok true i (by rw [show (sideN true xd).length = n from len2]; exact hi))))
end
end PW
end
section
set_option maxHeartbeats 4000000
namespace PW
open PySem PySem.Spec PyProof.Rows L2 PJ PF PX

section
variable {P : Program} {w : World} {K : PySem.W.Frag} {mg : Str → Option Value} {base : Heap}
/-- any number below n, n at least 1 -/
def W__law_take : Wf := fun ss R _ => ∃ n : Nat, ss = [.drw, .dat (.int (n : Int))] ∧ 0 < n ∧ ∀ r : Nat, r < n → R (.int (r : Int))
theorem ok__law_take (c : Fc K mg) : DefJ P w K mg base "_law_take" 1 ["_law_draws_here", "_law_many"] W__law_take := by
  obtain ⟨fd, F⟩ := c.f__law_take
  refine ⟨fd, F.ok sc__law_take (fun vs H Q E ⟨da, G, ss, R, Z, e, d, ha, ⟨n, he, _⟩, _⟩ => by rw [← ha.start.1, he]; rfl) (fun cdv A outer s H vs Q E hr ⟨da, G, ss, R, Z, e, d, ha, ⟨n, he, hn, hR⟩, q, _⟩ => ⟨_, pss_cons (ps_set (i := 2) sc__law_take.nd rfl (.inl rfl) (pe_ix ix_list (pe_var (i := 0) rfl (.inl rfl)) pe_int (fun _ _ => rfl)) rfl)
    (pss_cons (ps_if (pt_cmpR op_ge (pe_var (i := 2) rfl (.inl rfl)) (pe_callB call_len_seq rfl c.b_len PySem.boot_len (pa_cons (pe_ix ix_list (pe_var (i := 0) rfl (.inl rfl)) pe_int (fun _ _ => rfl)) pa_nil) (by decide) (by decide)) (nomark _)) (pss_one (ps_ret pe_int)) pss_nil)
    (pss_cons (ps_asg (pe_op op_add (pe_var (i := 2) rfl (.inl rfl)) pe_int) (pg_sub (pe_var (i := 0) rfl (.inl rfl)) pe_int set_list))
    (pss_one (ps_ret (pe_op op_mod (pe_callTy call_int1 rfl c.b_int (by decide +kernel) (pa_cons (pe_ix ix_list (pe_ix ix_list (pe_var (i := 0) rfl (.inl rfl)) pe_int (fun _ _ => rfl)) (pe_var (i := 2) rfl (.inl rfl)) (fun _ _ => rfl)) pa_nil) (by decide) (by decide)) (pe_var (i := 1) rfl (.inl rfl))))))), ?_⟩), F.bindsN (fun _ _ _ _ _ _ us hl => match us, hl with | [_, _], _ => rfl), c.g__law_take, F.kp⟩
  subst he
  obtain ⟨a, r1, ev, ea, h2⟩ := (show ∃ a r, vs = .ref a :: r ∧ da = some a ∧ ArgsOk K da G [.dat (.int (n : Int))] r from ha)
  obtain ⟨v, r2, ev2, hv, h3⟩ := (show ∃ v r, r1 = v :: r ∧ Rep K G (.int (n : Int)) v ∧ ArgsOk K da G [] r from h2)
  have ev3 : r2 = [] := h3
  have ev4 : v = .int (n : Int) := hv
  subst ev3 ev4 ev2 ev
  obtain ⟨pos, nb, ns, hH, hp0, hGa, hGn⟩ := d a ea
  have hHn : ∀ {H' : Hp}, (∀ b o, b ≠ a → H b = some o → H' b = some o) → H' nb = some (.lst (ns.map V.int)) := fun {H'} k => k nb _ (fun z => by rw [z, hGa] at hGn; cases hGn) (e nb _ hGn)
  have same : ∀ i : Int, 0 ≤ i → Fm da G H G (upd H a (.lst [.int i, .ref nb])) := fun i hi => by
    refine ⟨Ex.refl G, fun b o q => ?_, fun b o m _ q => ?_, fun _ _ _ => rfl, fun a' ea' => ?_⟩
    · rw [upd_ne (fun z => by rw [z, hGa] at q; cases q)]
      exact e b o q
    · rw [upd_ne (fun z => m (by rw [z]; exact ea))]
      exact q
    · rw [ea] at ea'
      cases ea'
      exact ⟨⟨_, hH⟩, i, nb, ns, upd_same, hi, hGa, hGn⟩
  refine ⟨.ref a, rfl, a, _, 0, .int pos, rfl, rfl, sqL hH, rfl, .int pos, rfl, .ref a, rfl, a, _, 1, .ref nb, rfl, rfl, sqL hH, rfl, nb, ns.map V.int, rfl, .inl (sqL (hHn fun _ _ _ h => h)), ?_⟩
  refine ⟨pos, ((ns.map V.int).length : Int), rfl, rfl, _, rfl, ?_⟩
  show (if decide (((ns.map V.int).length : Int) ≤ pos) = true then _ else _)
  by_cases hlt : ((ns.map V.int).length : Int) ≤ pos
  · rw [if_pos (decide_eq_true hlt)]
    exact q _ G H (.int ((0 : Nat) : Int)) (Fm.refl e d) (hR 0 hn) rfl
  · rw [if_neg (by rw [decide_eq_false hlt]; exact Bool.false_ne_true)]
    obtain ⟨j, hj⟩ := Int.eq_ofNat_of_zero_le hp0
    rw [List.length_map] at hlt
    have hj2 : j < ns.length := by omega
    have hat : atI (ns.map V.int) pos = some (V.int ns[j]) := by
      rw [hj]
      exact atI_nat (by rw [List.getElem?_map, List.getElem?_eq_getElem hj2]; rfl)
    have e0 := e
    have H1ne : ∀ b o, b ≠ a → H b = some o → upd H a (.lst [.int (pos + 1), .ref nb]) b = some o := fun b o z h => by
      rw [upd_ne z]
      exact h
    refine ⟨.int pos, rfl, pos, 1, rfl, rfl, .ref a, rfl, a, [.int pos, .ref nb], 0, 0, rfl, rfl, hH, rfl, ?_⟩
    refine ⟨.ref a, rfl, a, [.int (pos + 1), .ref nb], 1, .ref nb, rfl, rfl, sqL upd_same, rfl, .int pos, rfl, nb, ns.map V.int, pos, V.int ns[j], rfl, rfl, sqL (hHn H1ne), hat, .inl ⟨ns[j], rfl, .int (n : Int), rfl, ns[j], (n : Int), rfl, rfl, (by show (0 : Int) < (n : Int); omega), ?_⟩⟩
    have h1 : 0 ≤ ns[j] % (n : Int) := Int.emod_nonneg _ (by omega)
    have h2 : ns[j] % (n : Int) < (n : Int) := Int.emod_lt_of_pos _ (by omega)
    obtain ⟨r, hr'⟩ := Int.eq_ofNat_of_zero_le h1
    exact q _ G _ (.int (r : Int)) (same (pos + 1) (by omega)) (hR r (by omega)) (show V.int _ = V.int _ by rw [hr'])
/-! ### _law_draws -/
def intsI (ns : List Int) : List Dat := ns.map Dat.int
def W__law_draws : Wf := fun ss R _ => ∃ zs : List Int, ss = [.dat (.lst (intsI zs))] ∧ zs.length ≤ 1000 ∧ ∀ ns : List Int, R (.lst [.int 0, .lst (intsI ns)])
theorem ok__law_draws (c : Fc K mg) : DefJ P w K mg base "_law_draws" 1 ["_law_script"] W__law_draws := by
  obtain ⟨fd, F⟩ := c.f__law_draws
  refine ⟨fd, defj _ F sc__law_draws (fun ss R Z ⟨zs, e, _⟩ => by rw [e]; rfl) (fun cdv A outer s H E en ss R Z hr ⟨zs, e, hz, q⟩ hZ => ?_), F.bindsN (fun _ _ _ _ _ _ us hl => match us, hl with | [_], _ => rfl), c.g__law_draws, F.kp⟩
  subst e
  have nd := sc__law_draws.nd
  have hn : ∀ m n : Nat, (if ((63 : Nat) : Int) < (m : Int) then ((63 : Nat) : Int) else (m : Int)) = ((min m 63 : Nat) : Int) := fun m n => by
    split <;> omega
  refine jb_own 1 nd (jf_lstI (ds := []) ja_nil (Nat.zero_le _)) ?_
  refine jb_cons (M := fun δ' => ∃ (ns : List Int) (z2 z3 z4 z5 z6 : Option Sl), δ' = [some (.dat (.lst (intsI zs))), some (.own (intsI ns)), z2, z3, z4, z5, z6])
    (js_forI (fun i δ' => ∃ (ns : List Int) (z2 z3 z4 z5 z6 : Option Sl), ns.length ≤ 40 * i ∧ δ' = [some (.dat (.lst (intsI zs))), some (.own (intsI ns)), z2, z3, z4, z5, z6])
      (ji_range (n := min zs.length 63) (je_min2 (je_len (.inl rfl) (je_var 0 rfl) c.b_len) je_int (by rw [show (intsI zs).length = zs.length from List.length_map ..]; exact hn _ 0) c.b_min) (by omega) c.b_range) (jg_nm 2 nd) ⟨[], none, none, none, none, none, Nat.zero_le _, rfl⟩ (fun i d δ' hd ⟨ns, z2, z3, z4, z5, z6, hl, e⟩ => ?_) (fun δ' ⟨ns, z2, z3, z4, z5, z6, hl, e⟩ => ⟨ns, z2, z3, z4, z5, z6, e⟩)) ?_
  · obtain ⟨hi, ed⟩ := intsD_back hd
    have hi2 : i < zs.length := by omega
    subst e ed
    refine ⟨_, rfl, jb_set 3 nd (d := .int zs[i]) (je_intc (je_ixL (j := i) (je_var 0 rfl) (je_var 2 rfl) (by show (zs.map Dat.int)[i]? = _; rw [List.getElem?_map, List.getElem?_eq_getElem hi2]; rfl)) c.b_int) ?_⟩
    generalize zs[i] = z
    refine jb_set 4 nd je_int ?_
    refine jb_cons (M := fun δ' => ∃ (z0 f : Int), δ' = [some (.dat (.lst (intsI zs))), some (.own (intsI ns)), some (.dat (.int (i : Int))), some (.dat (.int z0)), some (.dat (.int f)), z5, z6]) (js_if (jt_lt (je_var 3 rfl) je_int) (fun _ => ?_) (fun _ => jb_nil ⟨_, _, rfl⟩)) ?_
    · exact jb_set 3 nd (je_neg (je_var 3 rfl)) (jb_set 4 nd je_int (jb_nil ⟨_, _, rfl⟩))
    rintro δ' ⟨z0, f, e⟩
    subst e
    refine jb_one (js_if (jt_ge (je_var 3 rfl) (je_pow je_int je_int (by decide))) (fun _ => ?_) (fun _ => ?_))
    · refine jb_one (js_forI (fun t δ' => ∃ (ms : List Int) (z0 : Int) (z5 : Option Sl), ms.length ≤ 40 * i + t ∧ δ' = [some (.dat (.lst (intsI zs))), some (.own (intsI ms)), some (.dat (.int (i : Int))), some (.dat (.int z0)), some (.dat (.int f)), z5, z6])
        (ji_range (n := 40) je_int (by decide) c.b_range) (jg_nm 5 nd) ⟨ns, z0, z5, by omega, rfl⟩ (fun t d δ' hd ⟨ms, z0, z5, hl, e⟩ => ?_) (fun δ' ⟨ms, z0, z5, hl, e⟩ => ⟨ms, _, _, _, _, _, by rw [intsD_len] at hl; omega, e⟩))
      obtain ⟨ht, ed⟩ := intsD_back hd
      subst e ed
      refine ⟨_, rfl, jb_one (js_if (jt_gt (je_var 3 rfl) je_int) (fun _ => ?_) (fun _ => jb_nil ⟨ms, _, _, by omega, rfl⟩))⟩
      refine jb_cons (M := fun δ' => δ' = [some (.dat (.lst (intsI zs))), some (.own (intsI (ms ++ [z0 % 36]))), some (.dat (.int (i : Int))), some (.dat (.int z0)), some (.dat (.int f)), some (.dat (.int (t : Int))), z6]) (js_app 1 rfl (je_mod (je_intc (je_var 3 rfl) c.b_int) je_int (by decide)) (by unfold intsI; rw [List.length_map, sizeLine_eq]; omega) fun d e2 => ?_) (fun δ' e => ?_)
      · rw [show d = .int (z0 % 36) from e2, show intsI ms ++ [.int (z0 % 36)] = intsI (ms ++ [z0 % 36]) from by unfold intsI; rw [List.map_append]; rfl]
        rfl
      · subst e
        exact jb_set 3 nd (je_fdiv (je_var 3 rfl) je_int (by decide)) (jb_nil ⟨ms ++ [z0 % 36], _, _, by rw [List.length_append, List.length_singleton]; omega, rfl⟩)
    · refine jb_set 6 nd (je_mod (je_intc (je_add (je_add (je_add (je_mulR (je_var 3 rfl) je_int (by decide)) (je_mulR (je_var 4 rfl) je_int (by decide))) (je_mulR (je_var 2 rfl) je_int (by decide))) je_int) c.b_int) je_int (by decide)) ?_
      generalize ((z0 * 40014 + f * 52774 + (i : Int) * 3791 + 11) % 2147483563 : Int) = sd
      refine jb_one (js_forI (fun t δ' => ∃ (ms : List Int) (sd : Int) (z5 : Option Sl), ms.length ≤ 40 * i + t ∧ δ' = [some (.dat (.lst (intsI zs))), some (.own (intsI ms)), some (.dat (.int (i : Int))), some (.dat (.int z0)), some (.dat (.int f)), z5, some (.dat (.int sd))])
        (ji_range (n := 6) je_int (by decide) c.b_range) (jg_nm 5 nd) ⟨ns, sd, z5, by omega, rfl⟩ (fun t d δ' hd ⟨ms, sd, z5, hl, e⟩ => ?_) (fun δ' ⟨ms, sd, z5, hl, e⟩ => ⟨ms, _, _, _, _, _, by rw [intsD_len] at hl; omega, e⟩))
      obtain ⟨ht, ed⟩ := intsD_back hd
      subst e ed
      refine ⟨_, rfl, jb_set 6 nd (je_mod (je_intc (je_add (je_add (je_add (je_mulR (je_var 6 rfl) je_int (by decide)) (je_fdiv (je_var 6 rfl) je_int (by decide))) (je_mulR (je_var 5 rfl) je_int (by decide))) je_int) c.b_int) je_int (by decide)) ?_⟩
      generalize ((sd * 40692 + sd / 53668 + (t : Int) * 97 + 5) % 2147483399 : Int) = sd2
      refine jb_one (js_app 1 rfl (je_fdiv (je_var 6 rfl) je_int (by decide)) (by unfold intsI; rw [List.length_map, sizeLine_eq]; omega) fun d e2 => ?_)
      rw [show d = .int (sd2 / 16) from e2, show intsI ms ++ [.int (sd2 / 16)] = intsI (ms ++ [sd2 / 16]) from by unfold intsI; rw [List.map_append]; rfl]
      exact ⟨ms ++ [sd2 / 16], _, _, by rw [List.length_append, List.length_singleton]; omega, rfl⟩
  · rintro δ' ⟨ns, z2, z3, z4, z5, z6, e⟩
    subst e
    exact jb_freeze 1 rfl (jb_one (js_ret ((jf_lstI (ds := [.int 0, .lst (intsI ns)]) (ja_c je_int (ja_c (je_var 1 rfl) ja_nil)) (szl rfl)).je fun ds e => by rw [show ds = _ from e]; exact q ns)))
end
end PW
end
section
set_option maxHeartbeats 4000000
namespace PX
open PySem PySem.Spec PyProof.Rows L2 PJ
section
variable {X : Cx} {en : En} {δ : Lv} {elt iter : Expr} {scope : Scope} {y : Str} {p2 : Pos}
theorem filter_take_succ {α : Type} {p : α → Bool} {ds : List α} {i : Nat} {d : α} (h : ds[i]? = some d) : (ds.take (i + 1)).filter p = if p d then (ds.take i).filter p ++ [d] else (ds.take i).filter p := by
  rw [List.take_add_one, h, List.filter_append]
  cases e : p d with
  | true => simp [e]
  | false => simp [e]
/-- [y for y in ds if c], ds a list or a tuple -/
theorem lc_fil (i : Nat) {D : Dat} {ds : List Dat} {ce : Expr} (p : Dat → Bool) (hD : Seqd D ds) (h : JE X en iter δ (Is D)) (hn : ds.length ≤ 10000) (ok : BlkOk X.N X.env.scope scope [(y, i)])
    (hg : ∀ (s : Shared) (H : Hp) (C : Addr) (cl : List (Str × Addr)) (fp : List Addr), JG (X.blk s H scope (compEnvC scope cl C X.env) fp) (.Name y p2) (.nm i))
    (ht : ∀ (j : Nat) x, ds[j]? = some x → ∀ (s : Shared) (H : Hp) (C : Addr) (cl : List (Str × Addr)) (fp : List Addr), JT (X.blk s H scope (compEnvC scope cl C X.env) fp) en ce ((wipeL δ [i]).set i (some (.dat x))) (Is (p x)))
    (he : ∀ (j : Nat) x, ds[j]? = some x → ∀ (s : Shared) (H : Hp) (C : Addr) (cl : List (Str × Addr)) (fp : List Addr), JE (X.blk s H scope (compEnvC scope cl C X.env) fp) en elt ((wipeL δ [i]).set i (some (.dat x))) (Is x))
    (hs : ∀ x, foldedSetIterable iter X.env x = pure x := by intro _; rfl) :
    LcOk X en δ elt (.Name y p2) iter [ce] scope (Is (ds.filter p)) := by
  refine lc_T (t := .nm i) (own := [(y, i)]) (fun its j acc => its = ds → acc = (ds.take j).filter p) (ji_seq hD h) ok hg (fun j hj => hj) (fun its r => ⟨by rw [show its = ds from r, sizeLine_eq]; omega, fun _ => rfl⟩) (fun its j x acc r hx ha => ?_) (fun its acc r ha => ?_) hs
  · have e : its = ds := r
    rw [e] at hx
    refine ⟨_, Is (p x), Is x, rfl, fun s H C cl fp => pts_one' (ht j x hx s H C cl fp), he j x hx, fun z y ry _ => ?_, fun z _ => ?_⟩
    · rw [filter_take_succ hx, if_pos (show p x = true from (show true = p x from z).symm), ha e, show y = x from ry]
    · rw [filter_take_succ hx, if_neg (by rw [← (show false = p x from z)]; exact Bool.false_ne_true), ha e]
  · have e : its = ds := r
    have h1 := ha e
    rw [e, List.take_length] at h1
    exact h1
end
end PX
namespace PJ
open PySem PySem.Spec PyProof.Rows L2
section
variable {X : Cx} {en : En} {δ : Lv} {e tg : Expr} {pos p1 : Pos}
/-- range(n), n not told exactly -/
theorem ji_rangeN {m : Nat} (h : JE X en e δ (fun d => ∃ n : Nat, n ≤ m ∧ d = .int (n : Int))) (hn : m ≤ 1000000) (hm : X.mg "range" = none) (hg : Gl X "range" := by rfl) (hs : starEach [e] X.env = [(false, eval e X.env)] := by rfl) :
    JI X en tg (.Call (.Name "range" p1) [e] [] pos) δ (fun its => its.length ≤ m) :=
  PI.weak (pi_range1 hg hm (ja_cons h ja_nil hs) hs) fun σ H R' ⟨G, S, k⟩ => ⟨G, S, fun vs G1 H1 ss f r ps => by
    obtain ⟨d, r2, e1, ⟨n, hnm, ed⟩, e2⟩ := r
    rw [e1, show r2 = [] from e2, ed] at ps
    obtain ⟨v, ev, rv⟩ := reps1 (ArgsOk.reps (ds := [.int (n : Int)]) ps)
    have e1 : v = .int (n : Int) := rv
    refine ⟨(n : Int), by rw [ev, e1], by omega, by omega, ?_⟩
    refine k _ G1 H1 _ f ?_ (sq_range (lo := 0) (n := n))
    show (List.map _ (List.range n)).length ≤ m
    rw [List.length_map, List.length_range]
    exact hnm⟩
end
end PJ
end
section
set_option maxHeartbeats 4000000
namespace PJ
open PySem PySem.Spec PyProof.Rows L2
section
variable {X : Cx} {en : En} {δ : Lv} {a b e : Expr} {es : List Expr} {R : Dat → Prop} {pos p1 : Pos}
/-- a number that is not told -/
def anyI (d : Dat) : Prop := ∃ i : Int, d = .int i
theorem jt_cmpI {op : CmpOp} {g : Int → Int → Bool} {Ra Rb : Dat → Prop} (ho : OpR X (compareOp op) (rI0 fun i j => .bl (g i j))) (ha : JE X en a δ Ra) (hb : JE X en b δ Rb) (w1 : ∀ d, Ra d → anyI d) (w2 : ∀ d, Rb d → anyI d) (hm : behindInMarks op b = false) : JT X en (.Compare a [op] [b] pos) δ (fun _ => True) :=
  jt_cmp ho ha hb (fun x y hx hy => by
    obtain ⟨i, e1⟩ := w1 x hx
    obtain ⟨j, e2⟩ := w2 y hy
    rw [e1, e2]
    exact fun G H vx vy Q e rx ry k => r2_I0 (g := fun i j => .bl (g i j)) (d := .bl (g i j)) (fun _ => rfl) G H vx vy Q e rx ry fun v G' H' d f r p => k v G' H' d f ⟨_, r, trivial⟩ p) hm
theorem jt_eqI {Ra : Dat → Prop} {j : Int} (ha : JE X en a δ Ra) (hb : JE X en b δ (Is (.int j))) (w1 : ∀ d, Ra d → anyI d) : JT X en (.Compare a [.Eq] [b] pos) δ (fun _ => True) :=
  jt_cmp op_eq ha hb (fun x y hx hy => by
    obtain ⟨i, e1⟩ := w1 x hx
    rw [e1, show y = .int j from hy]
    exact fun G H vx vy Q e rx ry k => r2_eqI (i := i) (j := j) G H vx vy Q e rx ry fun v G' H' d f r p => k v G' H' d f ⟨_, r, trivial⟩ p) (nomark _)
/-- a + b, b not told exactly -/
theorem je_addN {i : Int} {Rb : Dat → Prop} (ha : JE X en a δ (Is (.int i))) (hb : JE X en b δ Rb) (h : ∀ d, Rb d → ∃ j, d = .int j ∧ R (.int (i + j))) : JE X en (.BinOp a .Add b pos) δ R :=
  je_op op_add ha hb fun x y hx hy => by
    obtain ⟨j, e, r⟩ := h y hy
    rw [show x = .int i from hx, e]
    exact fun G H vx vy Q e rx ry k => r2_I0 (g := fun i j => .int (i + j)) (d := .int (i + j)) (fun _ => rfl) G H vx vy Q e rx ry fun v G' H' d f rd p => k v G' H' d f (by rw [show d = .int (i + j) from rd]; exact r) p
/-- an item of a list, the index not told exactly -/
theorem je_ixLN {ds : List Dat} {Rb : Dat → Prop} (ha : JE X en a δ (Is (.lst ds))) (hb : JE X en b δ Rb) (h : ∀ d, Rb d → ∃ (j : Nat) (x : Dat), d = .int (j : Int) ∧ ds[j]? = some x ∧ R x) (hs : PlainIx b := by exact fun _ _ => rfl) : JE X en (.Subscript a b pos) δ R :=
  je_ix ix_list ha hb (fun x y hx hy => by
    obtain ⟨j, z, e, hz, r⟩ := h y hy
    rw [show x = .lst ds from hx, e]
    exact fun G H vx vy Q e rx ry k => r2_ixL rfl hz G H vx vy Q e rx ry fun v G' H' d f rd p => k v G' H' d f (by rw [show d = z from rd]; exact r) p) hs
end
end PJ
namespace PW
open PySem PySem.Spec PyProof.Rows L2 PJ PF PX
section
variable {P : Program} {w : World} {K : PySem.W.Frag} {mg : Str → Option Value} {base : Heap}
/-- a draw below n -/
def drawn (n : Nat) (d : Dat) : Prop := ∃ r : Nat, r < n ∧ d = .int (r : Int)
theorem drawn_any {n : Nat} : ∀ d, drawn n d → anyI d := fun d ⟨r, _, e⟩ => ⟨_, e⟩
theorem je_take {X : Cx} {en : En} {δ : Lv} {e : Expr} {pos p1 p2 : Pos} {x : Str} {n : Nat} (i : Nat) (F : DefJ X.prog X.w X.K X.mg X.base "_law_take" 1 ["_law_draws_here", "_law_many"] W__law_take) (hδ : δ[i]? = some (some .drw)) (he : JE X en e δ (Is (.int (n : Int)))) (hn : 0 < n) (hr : Room 1 X.A)
    (hN : X.N[i]? = some x := by rfl) (hv : Vis X.env.scope x := by first | exact Or.inl rfl | exact Or.inr (Or.inl rfl) | exact Or.inr (Or.inr rfl))
    (hd : (x == ("__debug__" : Str)) = false := by decide) (hcd : (x == ("__classdict__" : Str)) = false := by decide) (hst : starEach (.Name x p2 :: [e]) X.env = (false, eval (.Name x p2) X.env) :: starEach [e] X.env := by rfl)
    (hst2 : starEach [e] X.env = (false, eval e X.env) :: starEach [] X.env := by rfl) (hg : Gl X "_law_take" := by rfl) (hpl : (backTo pos (starEach [e] X.env)).any (·.1) = false := by rfl) :
    JE X en (.Call (.Name "_law_take" p1) [.Name x p2, e] [] pos) δ (drawn n) :=
  je_call F (ja_drw i hδ (ja_c he ja_nil hst2) hN hv hd hcd hst) (fun ss ⟨r, e1, e2⟩ => ⟨n, by rw [e1, show r = _ from e2], hn, fun r hr => ⟨r, hr, rfl⟩⟩) hr hg (by decide) hst hpl
/-! ### _law_guards -/
def gdM (s t : Nat) : Nat → List (List Nat)
  | 0 => [[]]
  | p + 1 => if p ≠ s ∧ p ≠ t then gdM s t p ++ (gdM s t p).map (· ++ [p]) else gdM s t p
def rowsT (l : List (List Nat)) : List Dat := l.map fun r => .tup (natsD r)
theorem gdM_len (s t : Nat) : ∀ p, (gdM s t p).length ≤ 2 ^ p
  | 0 => Nat.le_refl 1
  | p + 1 => by
    unfold gdM
    have := gdM_len s t p
    split
    · rw [List.length_append, List.length_map, Nat.pow_succ]
      omega
    · rw [Nat.pow_succ]
      omega
theorem gdM_row (s t : Nat) : ∀ p, ∀ r ∈ gdM s t p, r.length ≤ p
  | 0, r, h => by
    rw [List.mem_singleton.mp h]
    exact Nat.le_refl 0
  | p + 1, r, h => by
    unfold gdM at h
    split at h
    · rcases List.mem_append.mp h with h | h
      · exact Nat.le_succ_of_le (gdM_row s t p r h)
      · obtain ⟨x, hx, e⟩ := List.mem_map.mp h
        rw [← e, List.length_append]
        have := gdM_row s t p x hx
        simp
        omega
    · exact Nat.le_succ_of_le (gdM_row s t p r h)
def W__law_guards : Wf := fun ss R _ => ∃ k s t : Nat, ss = [.dat (.int (k : Int)), .dat (.int (s : Int)), .dat (.int (t : Int))] ∧ k ≤ 5 ∧ R (.lst (rowsT ((gdM s t k).drop 1)))
theorem ok__law_guards (c : Fc K mg) : DefJ P w K mg base "_law_guards" 1 ["_law_pegs", "_law_start", "_law_stop"] W__law_guards := by
  obtain ⟨fd, F⟩ := c.f__law_guards
  refine ⟨fd, defj _ F sc__law_guards (fun ss R Z ⟨k, s, t, e, _⟩ => by rw [e]; rfl) (fun cdv A outer s H E en ss R Z hr ⟨k, s, t, e, hk, q⟩ hZ => ?_), F.bindsN (fun _ _ _ _ _ _ us hl => match us, hl with | [_, _, _], _ => rfl), c.g__law_guards, F.kp⟩
  subst e
  have nd := sc__law_guards.nd
  have hlen : ∀ p, p ≤ 5 → (rowsT (gdM s t p)).length ≤ 32 := fun p hp => by
    unfold rowsT
    rw [List.length_map]
    exact Nat.le_trans (gdM_len s t p) (Nat.pow_le_pow_right (by decide) hp)
  refine jb_set 3 nd (d := .lst (rowsT (gdM s t 0))) ((jf_lstI (ds := [.tup []]) (ja_c (je_tupI (ds := []) ja_nil (Nat.zero_le _)) ja_nil) (szl rfl)).je1) ?_
  refine jb_cons (M := fun δ' => ∃ z4 z5, δ' = [some (.dat (.int (k : Int))), some (.dat (.int (s : Int))), some (.dat (.int (t : Int))), some (.dat (.lst (rowsT (gdM s t k)))), z4, z5])
    (js_forI (fun p δ' => ∃ z4 z5, δ' = [some (.dat (.int (k : Int))), some (.dat (.int (s : Int))), some (.dat (.int (t : Int))), some (.dat (.lst (rowsT (gdM s t p)))), z4, z5]) (ji_range (je_var 0 rfl) (by omega) c.b_range) (jg_nm 4 nd) ⟨none, none, rfl⟩ (fun p d δ' hd ⟨z4, z5, e⟩ => ?_) (fun δ' ⟨z4, z5, e⟩ => ⟨z4, z5, by rw [intsD_len] at e; exact e⟩)) ?_
  · obtain ⟨hp, ed⟩ := intsD_back hd
    subst e ed
    refine ⟨_, rfl, jb_one (js_if (Rt := Is (decide (p ≠ s ∧ p ≠ t))) ((JW.jt (jw_andI (jt_ne (je_var 4 rfl) (je_var 1 rfl)) fun _ => jw_and1 (jt_ne (je_var 4 rfl) (je_var 2 rfl)))).is ?_) (fun z => ?_) (fun z => ?_))⟩
    · rw [show decide ((p : Int) = (s : Int)) = decide (p = s) from natI p s, show decide ((p : Int) = (t : Int)) = decide (p = t) from natI p t]
      by_cases h1 : p = s <;> by_cases h2 : p = t <;> simp [h1, h2]
    · have z' := of_decide_eq_true (show decide (p ≠ s ∧ p ≠ t) = true from (show true = _ from z).symm)
      have e2 : rowsT (gdM s t (p + 1)) = rowsT (gdM s t p) ++ (List.range (rowsT (gdM s t p)).length).map fun j => Dat.tup (seqs ((rowsT (gdM s t p)).getD j .non) ++ [.int (p : Int)]) := by
        rw [show gdM s t (p + 1) = gdM s t p ++ (gdM s t p).map (· ++ [p]) from if_pos z', show rowsT (gdM s t p ++ (gdM s t p).map (· ++ [p])) = rowsT (gdM s t p) ++ rowsT ((gdM s t p).map (· ++ [p])) from List.map_append, map_getD (rowsT (gdM s t p)) (fun x => Dat.tup (seqs x ++ [Dat.int (p : Int)])) Dat.non]
        congr 1
        unfold rowsT
        rw [List.map_map, List.map_map]
        refine List.map_congr_left fun r _ => ?_
        show Dat.tup (natsD (r ++ [p])) = Dat.tup (natsD r ++ [.int (p : Int)])
        unfold natsD
        rw [List.map_append]
        rfl
      have hl2 := hlen p (by omega)
      refine jb_one (js_set 3 nd ((jf_cat (je_var 3 rfl) (((lc_sq 5 (fun j => Dat.tup (seqs ((rowsT (gdM s t p)).getD j .non) ++ [.int (p : Int)])) (.inl rfl) (je_var 3 rfl) (by omega) (blkOk_by (by kernel_rfl)) (fun s H C cl fp => jg_nm 5 nd) (fun j d hd s H C cl fp => ?_)).jf nd).je1) (by rw [List.length_map, List.length_range, sizeLine_eq]; omega)).je1) fun d e3 => ?_)
      · rw [getD_of hd]
        obtain ⟨r, hr', e4⟩ := List.mem_map.mp (List.mem_of_getElem? hd)
        have hrl := gdM_row _ _ p r hr'
        subst e4
        refine je_catT (ds := natsD r) (es := [.int (p : Int)]) (je_var 5 rfl) (je_tupI (ds := [.int (p : Int)]) (ja_c (je_var 4 rfl) ja_nil) (szl rfl)) ?_
        rw [natsD_len, sizeLine_eq]
        simp
        omega
      · rw [show d = _ from e3, ← e2]
        exact ⟨_, _, rfl⟩
    · have z' := of_decide_eq_false (show decide (p ≠ s ∧ p ≠ t) = false from (show false = _ from z).symm)
      refine jb_nil ?_
      rw [show gdM s t (p + 1) = gdM s t p from if_neg z']
      exact ⟨_, _, rfl⟩
  · rintro δ' ⟨z4, z5, e⟩
    subst e
    refine jb_one (js_retI ((jf_slL (je_var 3 rfl) (jo_some (i := ((1 : Nat) : Int)) je_int) jo_none).je1.is ?_) q)
    rw [cut_from]
    unfold rowsT
    rw [List.map_drop]
/-! ### _law_guard, "strict" -/
def oneD (s t k : Nat) : List Dat := (rowsT ((gdM s t k).drop 1)).filter fun d => decide ((seqs d).length = 1)
def oneB (k s t : Nat) : Bool := decide (((gdM s t k).drop 1).filter (fun r => decide (r.length = 1)) = ((List.range k).filter fun g => decide (g ≠ s ∧ g ≠ t)).map (fun g => [g])) && decide (0 < (((List.range k).filter fun g => decide (g ≠ s ∧ g ≠ t)).map (fun g => [g])).length)
theorem one_all : ((List.range 6).all fun k => (List.range 6).all fun s => (List.range 6).all fun t => !(decide (3 ≤ k) && (decide (s < k) && (decide (t < k) && decide (s ≠ t)))) || oneB k s t) = true := by decide +kernel
theorem one_of {k s t : Nat} (h3 : 3 ≤ k) (h5 : k ≤ 5) (hs : s < k) (ht : t < k) (ne : s ≠ t) : ((gdM s t k).drop 1).filter (fun r => decide (r.length = 1)) = ((List.range k).filter fun g => decide (g ≠ s ∧ g ≠ t)).map (fun g => [g]) ∧ 0 < (((List.range k).filter fun g => decide (g ≠ s ∧ g ≠ t)).map (fun g => [g])).length := by
  have h := range_get (range_get (range_get one_all (i := k) (by omega)) (i := s) (by omega)) (i := t) (by omega)
  rw [decide_eq_true h3, decide_eq_true hs, decide_eq_true ht, decide_eq_true ne] at h
  obtain ⟨h1, h2⟩ := Bool.and_eq_true_iff.mp (show oneB k s t = true from h)
  exact ⟨of_decide_eq_true h1, of_decide_eq_true h2⟩
theorem oneD_eq {k s t : Nat} (h3 : 3 ≤ k) (h5 : k ≤ 5) (hs : s < k) (ht : t < k) (ne : s ≠ t) : 0 < (oneD s t k).length ∧ ∀ (j : Nat) d, (oneD s t k)[j]? = some d → ∃ g, g < k ∧ g ≠ s ∧ g ≠ t ∧ d = .tup [.int (g : Int)] := by
  obtain ⟨e1, e2⟩ := one_of h3 h5 hs ht ne
  have e : oneD s t k = (((List.range k).filter fun g => decide (g ≠ s ∧ g ≠ t)).map (fun g => [g])).map fun r => .tup (natsD r) := by
    rw [← e1]
    unfold oneD rowsT
    rw [List.filter_map]
    congr 1
    refine List.filter_congr fun r _ => ?_
    show decide ((natsD r).length = 1) = _
    rw [natsD_len]
  refine ⟨by rw [e, List.length_map]; exact e2, fun j d hd => ?_⟩
  rw [e, List.map_map] at hd
  obtain ⟨g, hg, e3⟩ := List.mem_map.mp (List.mem_of_getElem? hd)
  obtain ⟨h1, h2⟩ := List.mem_filter.mp hg
  obtain ⟨h3, h4⟩ := of_decide_eq_true h2
  exact ⟨g, List.mem_range.mp h1, h3, h4, e3.symm⟩
def W__law_guard : Wf := fun ss R _ => ∃ k s t : Nat, ss = [.drw, .dat (.int (k : Int)), .dat (.int (s : Int)), .dat (.int (t : Int)), .dat (.str "strict")] ∧ 3 ≤ k ∧ k ≤ 5 ∧ s < k ∧ t < k ∧ s ≠ t ∧ ∀ g, g < k → g ≠ s → g ≠ t → R (.tup [.int (g : Int)])
theorem ok__law_guard (c : Fc K mg) : DefJ P w K mg base "_law_guard" 2 ["_law_draws_here", "_law_pegs", "_law_start", "_law_stop", "_law_kind"] W__law_guard := by
  obtain ⟨fd, F⟩ := c.f__law_guard
  refine ⟨fd, defj _ F sc__law_guard (fun ss R Z ⟨k, s, t, e, _⟩ => by rw [e]; rfl) (fun cdv A outer s H E en ss R Z hr ⟨k, s, t, e, h3, h5, hs, ht, ne, q⟩ hZ => ?_), F.bindsN (fun _ _ _ _ _ _ us hl => match us, hl with | [_, _, _, _, _], _ => rfl), c.g__law_guard, F.kp⟩
  subst e
  have nd := sc__law_guard.nd
  have hr1 : Room 1 _ := hr
  obtain ⟨hpos, hat⟩ := oneD_eq h3 h5 hs ht ne
  have hl : (rowsT ((gdM s t k).drop 1)).length ≤ 32 := by
    unfold rowsT
    rw [List.length_map, List.length_drop]
    have := Nat.le_trans (gdM_len s t k) (Nat.pow_le_pow_right (show 0 < 2 by decide) h5)
    omega
  refine jb_set 5 nd (je_callI (ok__law_guards c) (ja_c (je_var 1 rfl) (ja_c (je_var 2 rfl) (ja_c (je_var 3 rfl) ja_nil))) ⟨k, s, t, rfl, h5, Is.self⟩ hr1) ?_
  refine jb_ifX ((jt_eqS (je_var 4 rfl) je_str).is (d' := false) (by decide +kernel)) (fun z => nomatch (show true = false from z)) (fun _ => ?_)
  refine jb_cons (M := fun δ' => δ' = [some .drw, some (.dat (.int (k : Int))), some (.dat (.int (s : Int))), some (.dat (.int (t : Int))), some (.dat (.str "strict")), some (.dat (.lst (oneD s t k))), none]) (js_if ((jt_eqS (je_var 4 rfl) je_str).is (d' := true) (by decide +kernel)) (fun _ => ?_) (fun z => nomatch (show false = true from z))) ?_
  · refine jb_ownLc 5 nd (lc_fil 6 (fun d => decide ((seqs d).length = 1)) (.inl rfl) (je_var 5 rfl) (by omega) (blkOk_by (by kernel_rfl)) (fun s H C cl fp => jg_nm 6 nd) (fun j x hx s H C cl fp => ?_) (fun j x hx s H C cl fp => je_var 6 rfl)) (jb_freeze 5 rfl (jb_nil rfl))
    obtain ⟨r, _, e4⟩ := List.mem_map.mp (List.mem_of_getElem? hx)
    subst e4
    exact (jt_eq (je_len (ds := natsD r) (.inr rfl) (je_var 6 rfl) c.b_len) je_int).is (natI _ 1)
  · rintro δ' e
    subst e
    refine jb_one (js_ret (je_ixLN (je_var 5 rfl) (je_take 0 (ok__law_take c) rfl (je_len (.inl rfl) (je_var 5 rfl) c.b_len) hpos hr1) fun d ⟨r, hr', e⟩ => ?_))
    have hg := List.getElem?_eq_getElem hr'
    obtain ⟨g, h6, h7, h8, e3⟩ := hat r _ hg
    exact ⟨r, _, e, hg, by rw [e3]; exact q g h6 h7 h8⟩
/-! ### _law_cost -/
def W__law_cost : Wf := fun ss R _ => ss = [.drw] ∧ ∀ x : Int, 1 ≤ x → x ≤ 10 ^ 9 → R (.int x)
theorem ok__law_cost (c : Fc K mg) : DefJ P w K mg base "_law_cost" 2 ["_law_draws_here"] W__law_cost := by
  obtain ⟨fd, F⟩ := c.f__law_cost
  refine ⟨fd, defj _ F sc__law_cost (fun ss R Z ⟨e, _⟩ => by rw [e]; rfl) (fun cdv A outer s H E en ss R Z hr ⟨e, q⟩ hZ => ?_), F.bindsN (fun _ _ _ _ _ _ us hl => match us, hl with | [_], _ => rfl), c.g__law_cost, F.kp⟩
  subst e
  have nd := sc__law_cost.nd
  have hr1 : Room 1 _ := hr
  refine jb_setN 1 nd (R := fun d => ∃ x : Int, 1 ≤ x ∧ x ≤ 6 ∧ d = .int x) (je_addN je_int (je_take 0 (ok__law_take c) rfl (n := 6) je_int (by decide) hr1) fun d ⟨r, hr', e⟩ => ⟨_, e, _, by omega, by omega, rfl⟩) (fun d ⟨x, h1, h6, e⟩ => ?_)
  subst e
  refine jb_cons (M := fun δ' => ∃ x : Int, 1 ≤ x ∧ x ≤ 10 ^ 9 ∧ δ' = [some .drw, some (.dat (.int x))]) (js_if (jt_eqI (je_take 0 (ok__law_take c) rfl (n := 24) je_int (by decide) hr1) je_int drawn_any) (fun _ => ?_) (fun _ => jb_nil ⟨x, h1, by omega, rfl⟩)) ?_
  · refine jb_one (js_set 1 nd (je_add (je_var 1 rfl) (je_pow je_int je_int (by decide))) fun d e => ?_)
    rw [show d = .int (x + 10 ^ 8) from e]
    exact ⟨_, by omega, by omega, rfl⟩
  · rintro δ' ⟨x, h1, h2, e⟩
    subst e
    exact jb_one (js_retI (je_var 1 rfl) (q x h1 h2))
end
end PW
end
section
set_option maxHeartbeats 4000000
namespace PX
open PySem PySem.Spec PyProof.Rows L2 PJ
section
variable {X : Cx} {en : En} {δ : Lv} {a : Expr} {pos p2 : Pos} {d : Dat}
/-- d not in x, x a list of one's own -/
theorem jt_notInO (i : Nat) {y : Str} {ds : List Dat} (hδ : δ[i]? = some (some (.own ds))) (hu : X.A.units + 65 < cLine) (ha : JE X en a δ (Is d)) (h1 : okD 60 d = true) (h2 : okDs 60 ds = true) (hN : X.N[i]? = some y := by rfl) (hv : Vis X.env.scope y := by first | exact Or.inl rfl | exact Or.inr (Or.inl rfl) | exact Or.inr (Or.inr rfl))
    (hd : (y == ("__debug__" : Str)) = false := by decide) (hcd : (y == ("__classdict__" : Str)) = false := by decide) (hm : behindInMarks .NotIn (.Name y p2) = false := by rfl) : JT X en (.Compare a [.NotIn] [.Name y p2] pos) δ (Is (!(pyDs ds).any fun z => PyData.eqv z (pyD d))) :=
  PT.weak (pt_cmpR (op_notInD hu) ha (pe_var hN hv hd hcd) hm) fun σ H Q ⟨G, S, k⟩ => ⟨G, S, fun vx G1 H1 x f1 rx px => by
    rw [show x = d from rx] at px
    have S1 := S.step f1
    obtain ⟨v, g1, p, vs, ev, hp, h0, hg, r⟩ := S1.at_ i _ hδ
    have e : Gh (upd G1 p (.lst vs)) H1 := fun b o q => by
      by_cases hb : b = p
      · rw [hb, upd_same] at q
        rw [hb, hp, ← Option.some.inj q]
        exact HoOk.same nomk_l
      · rw [upd_ne hb] at q
        exact f1.gh b o q
    have h3 : okD 61 (.lst ds) = true := h2
    exact ⟨v, g1, pyD d, pyDs ds, rep_dp f1.gh 60 d vx h1 px, rep_dp e 61 (.lst ds) v h3 ⟨p, vs, ev, upd_same, r.mono (Ex.new hg)⟩, ok_shaped h1 (by decide), ok_shaped (n := 61) (d := .lst ds) h3 (by decide), _, rfl, k _ G1 H1 f1 rfl⟩⟩
end
end PX
namespace PW
open PySem PySem.Spec PyProof.Rows L2 PJ PF PX
def pairsD (l : List (Nat × Nat)) : List Dat := l.map fun x => .tup [.int (x.1 : Int), .int (x.2 : Int)]
theorem pairsD_len (l : List (Nat × Nat)) : (pairsD l).length = l.length := List.length_map ..
structure PB (k : Nat) (acc : List (Nat × Nat)) (m : Nat) : Prop where
  at_ : ∀ x ∈ acc, x.1 < k ∧ x.2 < k ∧ x.1 ≠ x.2 ∧ x.1 * k + x.2 < m
  nd : acc.Nodup
  len : acc.length ≤ m
theorem PB.mono {k m n : Nat} {acc : List (Nat × Nat)} (h : PB k acc m) (l : m ≤ n) : PB k acc n := ⟨fun x hx => by
  obtain ⟨h1, h2, h3, h4⟩ := h.at_ x hx
  exact ⟨h1, h2, h3, by omega⟩, h.nd, Nat.le_trans h.len l⟩
theorem PB.snoc {k s t : Nat} {acc : List (Nat × Nat)} (h : PB k acc (s * k + t)) (hs : s < k) (ht : t < k) (ne : s ≠ t) : PB k (acc ++ [(s, t)]) (s * k + (t + 1)) := by
  refine ⟨fun x hx => ?_, ?_, by rw [List.length_append, List.length_singleton]; have := h.len; omega⟩
  · rcases List.mem_append.mp hx with hx | hx
    · exact (h.mono (by omega)).at_ x hx
    · rw [List.mem_singleton.mp hx]
      exact ⟨hs, ht, ne, by show s * k + t < _; omega⟩
  · refine List.nodup_append.mpr ⟨h.nd, by simp, fun a ha b hb e => ?_⟩
    rw [List.mem_singleton.mp hb] at e
    have := (h.at_ a ha).2.2.2
    rw [e] at this
    exact Nat.lt_irrefl _ this
section
variable {P : Program} {w : World} {K : PySem.W.Frag} {mg : Str → Option Value} {base : Heap}
def pApp (acc : List (Nat × Nat)) (s t : Nat) (app : Bool) : List Dat := pairsD (if app then acc ++ [(s, t)] else acc)
def W__law_pairs : Wf := fun ss R _ => ∃ k : Nat, ss = [.drw, .dat (.int (k : Int))] ∧ k ≤ 5 ∧ ∀ prs, PB k prs (k * k) → R (.lst (pairsD prs))
theorem ok__law_pairs (c : Fc K mg) : DefJ P w K mg base "_law_pairs" 2 ["_law_draws_here", "_law_pegs"] W__law_pairs := by
  obtain ⟨fd, F⟩ := c.f__law_pairs
  refine ⟨fd, defj _ F sc__law_pairs (fun ss R Z ⟨k, e, _⟩ => by rw [e]; rfl) (fun cdv A outer s H E en ss R Z hr ⟨k, e, hk, q⟩ hZ => ?_), F.bindsN (fun _ _ _ _ _ _ us hl => match us, hl with | [_, _], _ => rfl), c.g__law_pairs, F.kp⟩
  subst e
  have nd := sc__law_pairs.nd
  have hr1 : Room 1 _ := hr
  refine jb_setN 2 nd (je_take 0 (ok__law_take c) rfl (n := 7) je_int (by decide) hr1) (fun d ⟨sh, hsh, e⟩ => ?_)
  subst e
  refine jb_own 3 nd (jf_lstI (ds := []) ja_nil (Nat.zero_le _)) ?_
  refine jb_cons (M := fun δ' => ∃ acc z4 z5 z6 z7, PB k acc (k * k) ∧ δ' = [some .drw, some (.dat (.int (k : Int))), some (.dat (.int (sh : Int))), some (.own (pairsD acc)), z4, z5, z6, z7])
    (js_forI (fun s δ' => ∃ acc z4 z5 z6 z7, PB k acc (s * k) ∧ δ' = [some .drw, some (.dat (.int (k : Int))), some (.dat (.int (sh : Int))), some (.own (pairsD acc)), z4, z5, z6, z7])
      (ji_range (je_var 1 rfl) (by omega) c.b_range) (jg_nm 4 nd) ⟨[], none, none, none, none, ⟨(fun _ h => nomatch h), List.nodup_nil, Nat.zero_le _⟩, rfl⟩ (fun s d δ' hd ⟨acc, z4, z5, z6, z7, hb, e⟩ => ?_) (fun δ' ⟨acc, z4, z5, z6, z7, hb, e⟩ => ⟨acc, z4, z5, z6, z7, by rw [intsD_len] at hb; exact hb, e⟩)) ?_
  · obtain ⟨hs, ed⟩ := intsD_back hd
    subst e ed
    refine ⟨_, rfl, jb_one (js_forI (fun t δ' => ∃ acc z5 z6 z7, PB k acc (s * k + t) ∧ δ' = [some .drw, some (.dat (.int (k : Int))), some (.dat (.int (sh : Int))), some (.own (pairsD acc)), some (.dat (.int (s : Int))), z5, z6, z7])
      (ji_range (je_var 1 rfl) (by omega) c.b_range) (jg_nm 5 nd) ⟨acc, z5, z6, z7, hb, rfl⟩ (fun t d δ' hd ⟨acc, z5, z6, z7, hb, e⟩ => ?_) (fun δ' ⟨acc, z5, z6, z7, hb, e⟩ => ⟨acc, _, z5, z6, z7, by rw [intsD_len] at hb; rw [Nat.add_mul, Nat.one_mul]; exact hb, e⟩))⟩
    obtain ⟨ht, ed⟩ := intsD_back hd
    have hln : acc.length < 1000 := by
      have h1 := hb.len
      have h2 : s * k ≤ 5 * 5 := Nat.mul_le_mul (by omega) hk
      omega
    subst e ed
    refine ⟨_, rfl, jb_one (js_if ((jt_ne (je_var 4 rfl) (je_var 5 rfl)).is (by rw [natI])) (fun z => ?_) (fun _ => jb_nil ⟨acc, _, _, _, hb.mono (by omega), rfl⟩))⟩
    have ne : s ≠ t := fun h => by
      have z2 : true = !decide (s = t) := z
      rw [decide_eq_true h] at z2
      cases z2
    refine jb_setN 6 nd (R := fun d => ∃ b, d = .bl b) ((je_orI (je_eq (je_var 5 rfl) (je_add (je_var 4 rfl) je_int)) fun _ => je_one (je_andI (je_eq (je_var 4 rfl) (je_sub (je_var 1 rfl) je_int)) fun _ => je_one (je_eq (je_var 5 rfl) je_int))).imp fun d e => ⟨_, e⟩) (fun d ⟨b1, e⟩ => ?_)
    subst e
    refine jb_setN 7 nd (R := fun d => ∃ b, d = .bl b) ((je_orI (je_eq (je_var 5 rfl) (je_add (je_var 4 rfl) je_int)) fun _ => je_one (je_eq (je_var 4 rfl) (je_add (je_var 5 rfl) je_int))).imp fun d e => ⟨_, e⟩) (fun d ⟨b2, e⟩ => ?_)
    subst e
    have hsd : ∀ {x : Nat} {b : Bool}, Is (decide ((sh : Int) = (x : Int))) b → b = true → sh = x := fun {x b} h hb => by
      rw [show b = _ from h] at hb
      have := of_decide_eq_true hb
      omega
    refine JB.lv (δ' := [some .drw, some (.dat (.int (k : Int))), some (.dat (.int (sh : Int))), some (.own (pApp acc s t false)), some (.dat (.int (s : Int))), some (.dat (.int (t : Int))), some (.dat (.bl b1)), some (.dat (.bl b2))]) ?_ rfl
    refine jb_cons (M := fun δ' => ∃ app : Bool, (app = true → sh = 0) ∧ δ' = [some .drw, some (.dat (.int (k : Int))), some (.dat (.int (sh : Int))), some (.own (pApp acc s t app)), some (.dat (.int (s : Int))), some (.dat (.int (t : Int))), some (.dat (.bl b1)), some (.dat (.bl b2))]) (js_if (JW.jt (jw_and (Rt := fun b => b = true → sh = 0) (Rt1 := Is (decide ((sh : Int) = ((0 : Nat) : Int)))) (jt_eq (je_var 2 rfl) je_int) (fun h => jw_and1 ((jt_v (je_var 6 rfl)).imp fun _ _ _ => hsd h rfl)) (fun _ h => nomatch h))) (fun z => ?_) (fun _ => jb_nil ⟨false, (fun h => nomatch h), rfl⟩)) ?_
    · have z2 := z rfl
      refine jb_one (js_app 3 rfl (je_tupI (ds := [.int (s : Int), .int (t : Int)]) (ja_c (je_var 4 rfl) (ja_c (je_var 5 rfl) ja_nil)) (szl rfl)) (by show (pairsD acc).length < _; rw [pairsD_len, sizeLine_eq]; omega) fun d e => ?_)
      have e2 : pApp acc s t false ++ [.tup [.int (s : Int), .int (t : Int)]] = pApp acc s t true := by
        show pairsD acc ++ _ = pairsD (acc ++ [(s, t)])
        unfold pairsD
        rw [List.map_append]
        rfl
      rw [show d = .tup [.int (s : Int), .int (t : Int)] from e, e2]
      exact ⟨true, fun _ => by omega, rfl⟩
    rintro δ' ⟨app, ha, e⟩
    subst e
    refine jb_cons (M := fun δ' => ∃ app : Bool, (app = true → sh ≤ 1) ∧ δ' = [some .drw, some (.dat (.int (k : Int))), some (.dat (.int (sh : Int))), some (.own (pApp acc s t app)), some (.dat (.int (s : Int))), some (.dat (.int (t : Int))), some (.dat (.bl b1)), some (.dat (.bl b2))]) (js_if (JW.jt (jw_and (Rt := fun b => b = true → sh = 1) (Rt1 := Is (decide ((sh : Int) = ((1 : Nat) : Int)))) (jt_eq (je_var 2 rfl) je_int) (fun h => jw_and1 ((jt_eqI (je_take 0 (ok__law_take c) rfl (n := 3) je_int (by decide) hr1) je_int drawn_any).imp fun _ _ _ => hsd h rfl)) (fun _ h => nomatch h))) (fun z => ?_) (fun _ => jb_nil ⟨app, (fun h => by have := ha h; omega), rfl⟩)) ?_
    · have z2 := z rfl
      have ea : app = false := by
        cases app with
        | false => rfl
        | true => exact absurd (ha rfl) (by omega)
      subst ea
      refine jb_one (js_app 3 rfl (je_tupI (ds := [.int (s : Int), .int (t : Int)]) (ja_c (je_var 4 rfl) (ja_c (je_var 5 rfl) ja_nil)) (szl rfl)) (by show (pairsD acc).length < _; rw [pairsD_len, sizeLine_eq]; omega) fun d e => ?_)
      have e2 : pApp acc s t false ++ [.tup [.int (s : Int), .int (t : Int)]] = pApp acc s t true := by
        show pairsD acc ++ _ = pairsD (acc ++ [(s, t)])
        unfold pairsD
        rw [List.map_append]
        rfl
      rw [show d = .tup [.int (s : Int), .int (t : Int)] from e, e2]
      exact ⟨true, fun _ => by omega, rfl⟩
    rintro δ' ⟨app, ha, e⟩
    subst e
    refine jb_cons (M := fun δ' => ∃ app : Bool, (app = true → sh ≤ 2) ∧ δ' = [some .drw, some (.dat (.int (k : Int))), some (.dat (.int (sh : Int))), some (.own (pApp acc s t app)), some (.dat (.int (s : Int))), some (.dat (.int (t : Int))), some (.dat (.bl b1)), some (.dat (.bl b2))]) (js_if (JW.jt (jw_and (Rt := fun b => b = true → sh = 2) (Rt1 := Is (decide ((sh : Int) = ((2 : Nat) : Int)))) (jt_eq (je_var 2 rfl) je_int) (fun h => jw_and1 ((jt_v (je_var 7 rfl)).imp fun _ _ _ => hsd h rfl)) (fun _ h => nomatch h))) (fun z => ?_) (fun _ => jb_nil ⟨app, (fun h => by have := ha h; omega), rfl⟩)) ?_
    · have z2 := z rfl
      have ea : app = false := by
        cases app with
        | false => rfl
        | true => exact absurd (ha rfl) (by omega)
      subst ea
      refine jb_one (js_app 3 rfl (je_tupI (ds := [.int (s : Int), .int (t : Int)]) (ja_c (je_var 4 rfl) (ja_c (je_var 5 rfl) ja_nil)) (szl rfl)) (by show (pairsD acc).length < _; rw [pairsD_len, sizeLine_eq]; omega) fun d e => ?_)
      have e2 : pApp acc s t false ++ [.tup [.int (s : Int), .int (t : Int)]] = pApp acc s t true := by
        show pairsD acc ++ _ = pairsD (acc ++ [(s, t)])
        unfold pairsD
        rw [List.map_append]
        rfl
      rw [show d = .tup [.int (s : Int), .int (t : Int)] from e, e2]
      exact ⟨true, fun _ => by omega, rfl⟩
    rintro δ' ⟨app, ha, e⟩
    subst e
    refine jb_cons (M := fun δ' => ∃ app : Bool, (app = true → sh ≤ 3) ∧ δ' = [some .drw, some (.dat (.int (k : Int))), some (.dat (.int (sh : Int))), some (.own (pApp acc s t app)), some (.dat (.int (s : Int))), some (.dat (.int (t : Int))), some (.dat (.bl b1)), some (.dat (.bl b2))]) (js_if ((jt_eq (je_var 2 rfl) je_int).imp (R' := fun b => b = true → sh = 3) fun b h hb => hsd (x := 3) h hb) (fun z => ?_) (fun _ => jb_nil ⟨app, (fun h => by have := ha h; omega), rfl⟩)) ?_
    · have z2 := z rfl
      have ea : app = false := by
        cases app with
        | false => rfl
        | true => exact absurd (ha rfl) (by omega)
      subst ea
      refine jb_one (js_app 3 rfl (je_tupI (ds := [.int (s : Int), .int (t : Int)]) (ja_c (je_var 4 rfl) (ja_c (je_var 5 rfl) ja_nil)) (szl rfl)) (by show (pairsD acc).length < _; rw [pairsD_len, sizeLine_eq]; omega) fun d e => ?_)
      have e2 : pApp acc s t false ++ [.tup [.int (s : Int), .int (t : Int)]] = pApp acc s t true := by
        show pairsD acc ++ _ = pairsD (acc ++ [(s, t)])
        unfold pairsD
        rw [List.map_append]
        rfl
      rw [show d = .tup [.int (s : Int), .int (t : Int)] from e, e2]
      exact ⟨true, fun _ => by omega, rfl⟩
    rintro δ' ⟨app, ha, e⟩
    subst e
    refine jb_cons (M := fun δ' => ∃ app : Bool, (app = true → (sh ≤ 4 ∨ sh = 6)) ∧ δ' = [some .drw, some (.dat (.int (k : Int))), some (.dat (.int (sh : Int))), some (.own (pApp acc s t app)), some (.dat (.int (s : Int))), some (.dat (.int (t : Int))), some (.dat (.bl b1)), some (.dat (.bl b2))]) (js_if (JW.jt (jw_and (Rt := fun b => b = true → (sh = 4 ∨ sh = 6)) (Rt1 := Is (decide ((sh : Int) ∈ ([4, 6] : List Int)))) (jt_inI (.inr rfl) (je_var 2 rfl) (je_tupI (ds := [.int 4, .int 6]) (ja_c je_int (ja_c je_int ja_nil)) (szl rfl))) (fun h => jw_and1 ((jt_eqI (je_take 0 (ok__law_take c) rfl (n := 2) je_int (by decide) hr1) je_int drawn_any).imp fun _ _ _ => (by have h2 := of_decide_eq_true (show decide ((sh : Int) ∈ ([4, 6] : List Int)) = true from (show true = _ from h).symm); simp at h2; omega))) (fun _ h => nomatch h))) (fun z => ?_) (fun _ => jb_nil ⟨app, (fun h => by have := ha h; omega), rfl⟩)) ?_
    · have z2 := z rfl
      have ea : app = false := by
        cases app with
        | false => rfl
        | true => exact absurd (ha rfl) (by omega)
      subst ea
      refine jb_one (js_app 3 rfl (je_tupI (ds := [.int (s : Int), .int (t : Int)]) (ja_c (je_var 4 rfl) (ja_c (je_var 5 rfl) ja_nil)) (szl rfl)) (by show (pairsD acc).length < _; rw [pairsD_len, sizeLine_eq]; omega) fun d e => ?_)
      have e2 : pApp acc s t false ++ [.tup [.int (s : Int), .int (t : Int)]] = pApp acc s t true := by
        show pairsD acc ++ _ = pairsD (acc ++ [(s, t)])
        unfold pairsD
        rw [List.map_append]
        rfl
      rw [show d = .tup [.int (s : Int), .int (t : Int)] from e, e2]
      exact ⟨true, fun _ => by omega, rfl⟩
    rintro δ' ⟨app, ha, e⟩
    subst e
    refine jb_one (js_if (JW.jt (jw_and (Rt := fun b => b = true → sh = 5) (Rt1 := Is (decide ((sh : Int) = ((5 : Nat) : Int)))) (jt_eq (je_var 2 rfl) je_int) (fun h => jw_and1 ((jt_eq (je_add (je_var 4 rfl) (je_var 5 rfl)) je_int).imp fun _ _ _ => hsd h rfl)) (fun _ h => nomatch h))) (fun z => ?_) (fun _ => jb_nil ?_))
    · have z2 := z rfl
      have ea : app = false := by
        cases app with
        | false => rfl
        | true => exact absurd (ha rfl) (by omega)
      subst ea
      refine jb_one (js_app 3 rfl (je_tupI (ds := [.int (s : Int), .int (t : Int)]) (ja_c (je_var 4 rfl) (ja_c (je_var 5 rfl) ja_nil)) (szl rfl)) (by show (pairsD acc).length < _; rw [pairsD_len, sizeLine_eq]; omega) fun d e => ?_)
      have e2 : pApp acc s t false ++ [.tup [.int (s : Int), .int (t : Int)]] = pApp acc s t true := by
        show pairsD acc ++ _ = pairsD (acc ++ [(s, t)])
        unfold pairsD
        rw [List.map_append]
        rfl
      rw [show d = .tup [.int (s : Int), .int (t : Int)] from e, e2]
      exact ⟨acc ++ [(s, t)], _, _, _, hb.snoc hs ht ne, rfl⟩
    · cases app with
      | false => exact ⟨acc, _, _, _, hb.mono (by omega), rfl⟩
      | true => exact ⟨acc ++ [(s, t)], _, _, _, hb.snoc hs ht ne, rfl⟩
  · rintro δ' ⟨acc, z4, z5, z6, z7, hb, e⟩
    subst e
    exact jb_freeze 3 rfl (jb_one (js_retI (je_var 3 rfl) (q acc hb)))
end
end PW
end
section
set_option maxHeartbeats 4000000
namespace PJ
open PySem PySem.Spec PyProof.Rows L2
section
variable {X : Cx} {en : En} {δ : Lv} {a b e : Expr} {es : List Expr} {R : Dat → Prop} {pos p1 : Pos}
theorem je_eqN {Ra : Dat → Prop} {j : Int} (ha : JE X en a δ Ra) (hb : JE X en b δ (Is (.int j))) (w1 : ∀ d, Ra d → anyI d) : JE X en (.Compare a [.Eq] [b] pos) δ (fun d => ∃ b, d = .bl b) :=
  je_cmp op_eq ha hb (fun x y hx hy => by
    obtain ⟨i, e1⟩ := w1 x hx
    rw [e1, show y = .int j from hy]
    exact fun G H vx vy Q e rx ry k => r2_eqI (i := i) (j := j) G H vx vy Q e rx ry fun v G' H' d f r p => k v G' H' d f ⟨_, r⟩ p) (nomark _)
/-- an item of a list, neither told exactly -/
theorem je_ixLM {Ra Rb : Dat → Prop} (ha : JE X en a δ Ra) (hb : JE X en b δ Rb) (h : ∀ x y, Ra x → Rb y → ∃ (ds : List Dat) (j : Nat) (z : Dat), x = .lst ds ∧ y = .int (j : Int) ∧ ds[j]? = some z ∧ R z) (hs : PlainIx b := by exact fun _ _ => rfl) : JE X en (.Subscript a b pos) δ R :=
  je_ix ix_list ha hb (fun x y hx hy => by
    obtain ⟨ds, j, z, e1, e2, hz, r⟩ := h x y hx hy
    rw [e1, e2]
    exact fun G H vx vy Q e rx ry k => r2_ixL rfl hz G H vx vy Q e rx ry fun v G' H' d f rd p => k v G' H' d f (by rw [show d = z from rd]; exact r) p) hs
end
end PJ
namespace PW
open PySem PySem.Spec PyProof.Rows L2 PJ PF PX
/-- a good web of the law's -/
structure WOk (k : Nat) (as : List Arr) : Prop where
  ok : ∀ a ∈ as, a.Ok k
  c9 : ∀ a ∈ as, a.c ≤ 10 ^ 9
  nd : (as.map key3).Nodup
  len : as.length ≤ 100
theorem wok_snoc {k : Nat} {as : List Arr} {a : Arr} (h1 : ∀ a ∈ as, a.Ok k) (h2 : ∀ a ∈ as, a.c ≤ 10 ^ 9) (h3 : (as.map key3).Nodup) (ha : a.Ok k) (hc : a.c ≤ 10 ^ 9) (hn : ∀ b ∈ as, ¬ sameM b a) :
    (∀ b ∈ as ++ [a], b.Ok k) ∧ (∀ b ∈ as ++ [a], b.c ≤ 10 ^ 9) ∧ ((as ++ [a]).map key3).Nodup := by
  refine ⟨fun b hb => ?_, fun b hb => ?_, ?_⟩
  · rcases List.mem_append.mp hb with h | h
    · exact h1 b h
    · rw [List.mem_singleton.mp h]
      exact ha
  · rcases List.mem_append.mp hb with h | h
    · exact h2 b h
    · rw [List.mem_singleton.mp h]
      exact hc
  · rw [List.map_append]
    refine List.nodup_append.mpr ⟨h3, by simp, fun x hx y hy e => ?_⟩
    obtain ⟨b, hb, eb⟩ := List.mem_map.mp hx
    rw [List.map_cons, List.map_nil, List.mem_singleton] at hy
    exact hn b hb (key3_inj (by rw [eb, e, hy]))
theorem eqv_key (a : Arr) : PyData.eqv (pyD (keyD a)) (pyD (keyD a)) = true := by
  simp [keyD, pyD, pyDs, PyData.eqv, PyData.eqvAll]
theorem pyDs_map {α : Type} (f : α → Dat) (l : List α) : pyDs (l.map f) = l.map fun x => pyD (f x) := by
  induction l with
  | nil => rfl
  | cons a l ih => rw [List.map_cons, List.map_cons, ← ih]; rfl
theorem not_marks {as : List Arr} {a : Arr} (h : true = !(pyDs (as.map keyD)).any fun z => PyData.eqv z (pyD (keyD a))) : ∀ b ∈ as, ¬ sameM b a := fun b hb hs => by
  have e : keyD b = keyD a := by
    obtain ⟨e1, e2, e3⟩ := hs
    unfold keyD
    rw [e1, e2, e3]
  have h1 : (pyDs (as.map keyD)).any (fun z => PyData.eqv z (pyD (keyD a))) = true := by
    rw [pyDs_map, List.any_map]
    refine List.any_eq_true.mpr ⟨b, hb, ?_⟩
    show PyData.eqv (pyD (keyD b)) (pyD (keyD a)) = true
    rw [e]
    exact eqv_key a
  rw [h1] at h
  cases h
theorem okDs_map {α : Type} {n : Nat} {f : α → Dat} (l : List α) (h : ∀ x, okD n (f x) = true) : okDs n (l.map f) = true := by
  refine okDs_all fun d hd => ?_
  obtain ⟨x, _, e⟩ := List.mem_map.mp hd
  rw [← e]
  exact h x
theorem alike_arr (as : List Arr) : PySem.W.AllAlike (pyDs (as.map arrD)) := by
  rw [pyDs_map]
  exact PySem.W.AllAlike.of (enc := fun a => pyD (arrD a)) fun b b' => by simp [arrD, pyD, pyDs, PySem.W.alike, PySem.W.alikeAll]
theorem sortable_arr (as : List Arr) : PySem.W.Sortable (pyDs (as.map arrD)) := by
  rw [pyDs_map]
  exact PySem.W.Sortable.tuples (enc := fun a => pyD (arrD a)) fun b => ⟨_, _, rfl⟩
def webD (as : List Arr) : Dat := .lst (as.map arrD)
section
variable {P : Program} {w : World} {K : PySem.W.Frag} {mg : Str → Option Value} {base : Heap}
def W__law_web : Wf := fun ss R _ => ∃ k : Nat, ss = [.drw, .dat (.int (k : Int)), .dat (.str "strict")] ∧ 3 ≤ k ∧ k ≤ 5 ∧ ∀ as, WOk k as → R (webD as)
theorem ok__law_web (c : Fc K mg) : DefJ P w K mg base "_law_web" 3 ["_law_draws_here", "_law_pegs", "_law_kind"] W__law_web := by
  obtain ⟨fd, F⟩ := c.f__law_web
  refine ⟨fd, defj _ F sc__law_web (fun ss R Z ⟨k, e, _⟩ => by rw [e]; rfl) (fun cdv A outer s H E en ss R Z hr ⟨k, e, h3, h5, q⟩ hZ => ?_), F.bindsN (fun _ _ _ _ _ _ us hl => match us, hl with | [_, _, _], _ => rfl), c.g__law_web, F.kp⟩
  subst e
  have nd := sc__law_web.nd
  have hr2 : Room 2 _ := hr
  have hr1 : Room 1 _ := hr.mono (by decide)
  refine jb_own 3 nd (jf_lstI (ds := []) ja_nil (Nat.zero_le _)) ?_
  refine jb_own 4 nd (jf_lstI (ds := []) ja_nil (Nat.zero_le _)) ?_
  refine jb_cons (M := fun δ' => ∃ (as : List Arr) (z4 z5 z6 : Option Sl), WOk k as ∧ δ' = [some .drw, some (.dat (.int (k : Int))), some (.dat (.str "strict")), some (.own (as.map arrD)), z4, z5, z6])
    (js_for (RI := fun ds => ∃ prs, PB k prs (k * k) ∧ ds = pairsD prs) (fun its i δ' => ∃ (as : List Arr) (z5 z6 : Option Sl), (∀ a ∈ as, a.Ok k) ∧ (∀ a ∈ as, a.c ≤ 10 ^ 9) ∧ (as.map key3).Nodup ∧ as.length ≤ 2 * i ∧ (∀ a ∈ as, ∃ j : Nat, j < i ∧ its[j]? = some (.tup [.int (a.s : Int), .int (a.t : Int)])) ∧
        δ' = [some .drw, some (.dat (.int (k : Int))), some (.dat (.str "strict")), some (.own (as.map arrD)), some (.own (as.map keyD)), z5, z6])
      (ji_listP (je_call (ok__law_pairs c) (ja_drw 0 rfl (ja_c (je_var 1 rfl) ja_nil)) (fun ss ⟨r, e1, e2⟩ => ⟨k, by rw [e1, show r = _ from e2], h5, fun prs hp => ⟨_, rfl, prs, hp, rfl⟩⟩) hr2))
      (jg_nm 5 nd) (fun its _ => ⟨[], none, none, (fun _ h => nomatch h), (fun _ h => nomatch h), List.nodup_nil, Nat.zero_le _, (fun _ h => nomatch h), rfl⟩) (fun its i d δ' ⟨prs, hp, ei⟩ hd ⟨as, z5, z6, w1, w2, w3, hl, hj, e⟩ => ?_) (fun its δ' ⟨prs, hp, ei⟩ ⟨as, z5, z6, w1, w2, w3, hl, hj, e⟩ => ⟨as, _, _, _, ⟨w1, w2, w3, by
        rw [ei, pairsD_len] at hl
        have h1 := hp.len
        have h2 : k * k ≤ 5 * 5 := Nat.mul_le_mul h5 h5
        omega⟩, e⟩)) ?_
  · obtain ⟨x, hx, ed⟩ := List.mem_map.mp (List.mem_of_getElem? (ei ▸ hd))
    obtain ⟨s, t⟩ := x
    obtain ⟨hs, ht, ne, _⟩ := hp.at_ _ hx
    have hil : i < (pairsD prs).length := by rw [← ei]; exact (List.getElem?_eq_some_iff.mp hd).1
    rw [pairsD_len] at hil
    have hil2 : i ≤ 25 := by
      have h1 := hp.len
      have h2 : k * k ≤ 5 * 5 := Nat.mul_le_mul h5 h5
      omega
    have ed2 : d = .tup [.int (s : Int), .int (t : Int)] := ed.symm
    subst e ed2
    have fresh : ∀ g x, ∀ b ∈ as, ¬ sameM b ⟨s, t, g, x⟩ := fun g x b hb ⟨e1, e2, _⟩ => by
      obtain ⟨j, hji, hjd⟩ := hj b hb
      rw [show b.s = s from e1, show b.t = t from e2] at hjd
      rw [ei] at hd hjd
      unfold pairsD at hd hjd
      rw [List.getElem?_map] at hd hjd
      have f : ∀ {m : Nat}, Option.map (fun x : Nat × Nat => Dat.tup [.int (x.1 : Int), .int (x.2 : Int)]) prs[m]? = some (.tup [.int (s : Int), .int (t : Int)]) → prs[m]? = some (s, t) := fun {m} h => by
        cases h2 : prs[m]? with
        | none => rw [h2] at h; cases h
        | some y =>
          rw [h2] at h
          have h3 := Option.some.inj h
          obtain ⟨y1, y2⟩ := y
          simp only [Dat.tup.injEq, List.cons.injEq, Dat.int.injEq, and_true] at h3
          have h4 : y1 = s := by omega
          have h5 : y2 = t := by omega
          rw [h4, h5]
      have h1 := f hd
      have h2 := f hjd
      have h3 : prs[j]? = prs[i]? := by rw [h1, h2]
      have h4 := (List.getElem?_inj (by omega) hp.nd).mp h3
      omega
    refine ⟨_, rfl, jb_setN 6 nd (je_call (ok__law_guard c) (ja_drw 0 rfl (ja_c (je_var 1 rfl) (ja_c (je_ixT (je_var 5 rfl) je_int (j := 0) rfl) (ja_c (je_ixT (je_var 5 rfl) je_int (j := 1) rfl) (ja_c (je_var 2 rfl) ja_nil)))))
      (R := fun d => ∃ g : Nat, g < k ∧ g ≠ s ∧ g ≠ t ∧ d = .tup [.int (g : Int)]) (fun ss ⟨r, e1, e2⟩ => ⟨k, s, t, by rw [e1, show r = _ from e2], h3, h5, hs, ht, ne, fun g h1 h2 h3 => ⟨g, h1, h2, h3, rfl⟩⟩) hr2) (fun d ⟨g, hg1, hg2, hg3, e⟩ => ?_)⟩
    subst e
    refine jb_cons (M := Is [some .drw, some (.dat (.int (k : Int))), some (.dat (.str "strict")), some (.own (as.map arrD)), some (.own (as.map keyD ++ [.tup [.int (s : Int), .int (t : Int), .tup [.int (g : Int)]]])), some (.dat (.tup [.int (s : Int), .int (t : Int)])), some (.dat (.tup [.int (g : Int)]))])
      (js_app 4 rfl (je_tupI (ds := [.int (s : Int), .int (t : Int), .tup [.int (g : Int)]]) (ja_c (je_ixT (je_var 5 rfl) je_int (j := 0) rfl) (ja_c (je_ixT (je_var 5 rfl) je_int (j := 1) rfl) (ja_c (je_var 6 rfl) ja_nil))) (szl rfl)) (by rw [List.length_map, sizeLine_eq]; omega) fun d e => by rw [show d = _ from e]; exact Is.self) (fun δ' e => ?_)
    rw [show δ' = _ from e]
    refine jb_cons (M := fun δ' => ∃ x : Int, 1 ≤ x ∧ x ≤ 10 ^ 9 ∧ δ' = [some .drw, some (.dat (.int (k : Int))), some (.dat (.str "strict")), some (.own ((as ++ [(⟨s, t, g, x⟩ : Arr)]).map arrD)), some (.own ((as ++ [(⟨s, t, g, x⟩ : Arr)]).map keyD)), some (.dat (.tup [.int (s : Int), .int (t : Int)])), some (.dat (.tup [.int (g : Int)]))])
      (js_app 3 rfl (je_tup (R := fun d => ∃ x : Int, 1 ≤ x ∧ x ≤ 10 ^ 9 ∧ d = .tup [.int (s : Int), .int (t : Int), .tup [.int (g : Int)], .int x]) (ja_cons (je_ixT (je_var 5 rfl) je_int (j := 0) rfl) (ja_cons (je_ixT (je_var 5 rfl) je_int (j := 1) rfl) (ja_cons (je_var 6 rfl) (ja_cons (je_call (ok__law_cost c) (ja_drw 0 rfl ja_nil) (R := fun d => ∃ x : Int, 1 ≤ x ∧ x ≤ 10 ^ 9 ∧ d = .int x) (fun ss ⟨r, e1, e2⟩ => ⟨by rw [e1, show r = _ from e2], fun x h1 h2 => ⟨x, h1, h2, rfl⟩⟩) hr2) ja_nil))))
        (fun l ⟨d1, r1, f1, g1, d2, r2, f2, g2, d3, r3, f3, g3, d4, r4, f4, ⟨x, x1, x2, g4⟩, f5⟩ => ⟨[.int (s : Int), .int (t : Int), .tup [.int (g : Int)], .int x], by rw [f1, f2, f3, f4, show r4 = [] from f5, show d1 = _ from g1, show d2 = _ from g2, show d3 = _ from g3, g4]; rfl, szl rfl, x, x1, x2, rfl⟩)) (by rw [List.length_map, sizeLine_eq]; omega) fun d ⟨x, x1, x2, e⟩ => ⟨x, x1, x2, by rw [e, List.map_append, List.map_append]; rfl⟩) ?_
    rintro δ' ⟨x, x1, x2, e⟩
    subst e
    have hok : ∀ {g : Nat} {x : Int}, g < k → g ≠ s → g ≠ t → 1 ≤ x → x ≤ 10 ^ 9 → (⟨s, t, g, x⟩ : Arr).Ok k := fun {g x} h1 h2 h3 h4 h5 => ⟨hs, ht, h1, ne, h2, h3, h4, by show x ≤ 10 ^ 60; omega⟩
    obtain ⟨v1, v2, v3⟩ := wok_snoc w1 w2 w3 (hok hg1 hg2 hg3 x1 x2) x2 (fresh g x)
    have hj2 : ∀ a ∈ as ++ [(⟨s, t, g, x⟩ : Arr)], ∃ j : Nat, j < i + 1 ∧ its[j]? = some (.tup [.int (a.s : Int), .int (a.t : Int)]) := fun a ha => by
      rcases List.mem_append.mp ha with h | h
      · obtain ⟨j, h1, h2⟩ := hj a h
        exact ⟨j, by omega, h2⟩
      · rw [List.mem_singleton.mp h]
        exact ⟨i, Nat.lt_succ_self i, hd⟩
    have hl2 : (as ++ [(⟨s, t, g, x⟩ : Arr)]).length ≤ 2 * i + 1 := by rw [List.length_append, List.length_singleton]; omega
    generalize (as ++ [(⟨s, t, g, x⟩ : Arr)]) = as1 at v1 v2 v3 hj2 hl2 ⊢
    refine jb_one (js_if (jt_eqI (je_take 0 (ok__law_take c) rfl (n := 8) je_int (by decide) hr1) je_int drawn_any) (fun _ => ?_) (fun _ => jb_nil ⟨as1, _, _, v1, v2, v3, by omega, hj2, rfl⟩))
    refine jb_setN 6 nd (je_call (ok__law_guard c) (ja_drw 0 rfl (ja_c (je_var 1 rfl) (ja_c (je_ixT (je_var 5 rfl) je_int (j := 0) rfl) (ja_c (je_ixT (je_var 5 rfl) je_int (j := 1) rfl) (ja_c (je_var 2 rfl) ja_nil)))))
      (R := fun d => ∃ g : Nat, g < k ∧ g ≠ s ∧ g ≠ t ∧ d = .tup [.int (g : Int)]) (fun ss ⟨r, e1, e2⟩ => ⟨k, s, t, by rw [e1, show r = _ from e2], h3, h5, hs, ht, ne, fun g h1 h2 h3 => ⟨g, h1, h2, h3, rfl⟩⟩) hr2) (fun d ⟨g, hg1, hg2, hg3, e⟩ => ?_)
    subst e
    refine jb_one (js_if (jt_notInO 4 (d := keyD ⟨s, t, g, 0⟩) rfl (Room.u65 hr) (je_tupI (ds := [.int (s : Int), .int (t : Int), .tup [.int (g : Int)]]) (ja_c (je_ixT (je_var 5 rfl) je_int (j := 0) rfl) (ja_c (je_ixT (je_var 5 rfl) je_int (j := 1) rfl) (ja_c (je_var 6 rfl) ja_nil))) (szl rfl)) rfl (okDs_map as1 fun _ => rfl)) (fun z => ?_) (fun _ => jb_nil ⟨as1, _, _, v1, v2, v3, by omega, hj2, rfl⟩))
    have hno := not_marks z
    refine jb_cons (M := Is [some .drw, some (.dat (.int (k : Int))), some (.dat (.str "strict")), some (.own (as1.map arrD)), some (.own (as1.map keyD ++ [.tup [.int (s : Int), .int (t : Int), .tup [.int (g : Int)]]])), some (.dat (.tup [.int (s : Int), .int (t : Int)])), some (.dat (.tup [.int (g : Int)]))])
      (js_app 4 rfl (je_tupI (ds := [.int (s : Int), .int (t : Int), .tup [.int (g : Int)]]) (ja_c (je_ixT (je_var 5 rfl) je_int (j := 0) rfl) (ja_c (je_ixT (je_var 5 rfl) je_int (j := 1) rfl) (ja_c (je_var 6 rfl) ja_nil))) (szl rfl)) (by rw [List.length_map, sizeLine_eq]; omega) fun d e => by rw [show d = _ from e]; exact Is.self) (fun δ' e => ?_)
    rw [show δ' = _ from e]
    refine jb_one (js_app 3 rfl (je_tup (R := fun d => ∃ x : Int, 1 ≤ x ∧ x ≤ 10 ^ 9 ∧ d = .tup [.int (s : Int), .int (t : Int), .tup [.int (g : Int)], .int x]) (ja_cons (je_ixT (je_var 5 rfl) je_int (j := 0) rfl) (ja_cons (je_ixT (je_var 5 rfl) je_int (j := 1) rfl) (ja_cons (je_var 6 rfl) (ja_cons (je_call (ok__law_cost c) (ja_drw 0 rfl ja_nil) (R := fun d => ∃ x : Int, 1 ≤ x ∧ x ≤ 10 ^ 9 ∧ d = .int x) (fun ss ⟨r, e1, e2⟩ => ⟨by rw [e1, show r = _ from e2], fun x h1 h2 => ⟨x, h1, h2, rfl⟩⟩) hr2) ja_nil))))
        (fun l ⟨d1, r1, f1, g1, d2, r2, f2, g2, d3, r3, f3, g3, d4, r4, f4, ⟨x, x1, x2, g4⟩, f5⟩ => ⟨[.int (s : Int), .int (t : Int), .tup [.int (g : Int)], .int x], by rw [f1, f2, f3, f4, show r4 = [] from f5, show d1 = _ from g1, show d2 = _ from g2, show d3 = _ from g3, g4]; rfl, szl rfl, x, x1, x2, rfl⟩)) (by rw [List.length_map, sizeLine_eq]; omega) fun d ⟨x, x1, x2, e⟩ => ?_)
    obtain ⟨u1, u2, u3⟩ := wok_snoc v1 v2 v3 (hok hg1 hg2 hg3 x1 x2) x2 (fun b hb hs => hno b hb hs)
    refine ⟨as1 ++ [(⟨s, t, g, x⟩ : Arr)], _, _, u1, u2, u3, by rw [List.length_append, List.length_singleton]; omega, fun a ha => ?_, by rw [e, List.map_append, List.map_append]; rfl⟩
    rcases List.mem_append.mp ha with h | h
    · exact hj2 a h
    · rw [List.mem_singleton.mp h]
      exact ⟨i, Nat.lt_succ_self i, hd⟩
  · rintro δ' ⟨as, z4, z5, z6, hw, e⟩
    subst e
    refine jb_freeze 3 rfl (jb_one (js_ret ((jf_sorted (ds := as.map arrD) (.inl rfl) (je_var 3 rfl) (okDs_map as fun _ => rfl) (alike_arr as) (sortable_arr as) (by rw [List.length_map]; have := hw.len; omega) hr.units c.b_sorted).je fun ds p => ?_)))
    obtain ⟨bs, pb, e⟩ := perm_map_ex arrD p as rfl
    rw [e]
    exact q bs ⟨fun a ha => hw.ok a (pb.mem_iff.mp ha), fun a ha => hw.c9 a (pb.mem_iff.mp ha), (pb.map key3).nodup_iff.mpr hw.nd, by rw [pb.length_eq]; exact hw.len⟩
end
end PW
end
section
set_option maxHeartbeats 4000000
namespace PW
open PySem PySem.Spec PyProof.Rows L2 PJ PF PX
theorem webD_at {L : List (List Arr)} {i : Nat} {as : List Arr} (h : L[i]? = some as) : (L.map webD)[i]? = some (webD as) := by rw [List.getElem?_map, h]; rfl
theorem webD_snoc (L : List (List Arr)) (as : List Arr) : L.map webD ++ [webD as] = (L ++ [as]).map webD := by
  rw [List.map_append]
  rfl
theorem mem_snoc {α : Type} {p : α → Prop} {l : List α} {a : α} (h : ∀ x ∈ l, p x) (ha : p a) : ∀ x ∈ l ++ [a], p x := fun x hx => by
  rcases List.mem_append.mp hx with h1 | h1
  · exact h x h1
  · rw [List.mem_singleton.mp h1]
    exact ha
/-- the webs of the game: those of the law, in some order each -/
def PermL (L M : List (List Arr)) : Prop := M.length = L.length ∧ ∀ i, (M.getD i []).Perm (L.getD i [])
section
variable {P : Program} {w : World} {K : PySem.W.Frag} {mg : Str → Option Value} {base : Heap}
def W__law_webs : Wf := fun ss R _ => ∃ k n : Nat, ss = [.drw, .dat (.int (k : Int)), .dat (.int (n : Int)), .dat (.str "strict")] ∧ 3 ≤ k ∧ k ≤ 5 ∧ n ≤ 40 ∧ ∀ L : List (List Arr), L.length = n → (∀ as ∈ L, WOk k as) → R (.lst (L.map webD))
theorem ok__law_webs (c : Fc K mg) : DefJ P w K mg base "_law_webs" 4 ["_law_draws_here", "_law_pegs", "_law_discs", "_law_kind"] W__law_webs := by
  obtain ⟨fd, F⟩ := c.f__law_webs
  refine ⟨fd, defj _ F sc__law_webs (fun ss R Z ⟨k, n, e, _⟩ => by rw [e]; rfl) (fun cdv A outer s H E en ss R Z hr ⟨k, n, e, h3, h5, hn, q⟩ hZ => ?_), F.bindsN (fun _ _ _ _ _ _ us hl => match us, hl with | [_, _, _, _], _ => rfl), c.g__law_webs, F.kp⟩
  subst e
  have nd := sc__law_webs.nd
  have hr3 : Room 3 _ := hr
  have hr1 : Room 1 _ := hr.mono (by decide)
  refine jb_ownN 4 nd (Rl := fun ds => ∃ as, WOk k as ∧ ds = [webD as]) (jf_lst (ja_cons (je_call (ok__law_web c) (ja_drw 0 rfl (ja_c (je_var 1 rfl) (ja_c (je_var 3 rfl) ja_nil))) (R := fun d => ∃ as, WOk k as ∧ d = webD as) (fun ss ⟨r, e1, e2⟩ => ⟨k, by rw [e1, show r = _ from e2], h3, h5, fun as hw => ⟨as, hw, rfl⟩⟩) hr3) ja_nil)
    (fun l ⟨d, r, e1, ⟨as, hw, e2⟩, e3⟩ => ⟨[webD as], by rw [e1, e2, show r = [] from e3]; rfl, szl rfl, as, hw, rfl⟩)) (fun ds ⟨as0, hw0, e⟩ => ?_)
  subst e
  refine jb_setN 5 nd (je_eqN (je_take 0 (ok__law_take c) rfl (n := 2) je_int (by decide) hr1) je_int drawn_any) (fun d ⟨pl, e⟩ => ?_)
  subst e
  refine jb_cons (M := fun δ' => ∃ (L : List (List Arr)) (z6 : Option Sl), L.length = n + 1 ∧ (∀ as ∈ L, WOk k as) ∧ δ' = [some .drw, some (.dat (.int (k : Int))), some (.dat (.int (n : Int))), some (.dat (.str "strict")), some (.own (L.map webD)), some (.dat (.bl pl)), z6])
    (js_forI (fun i δ' => ∃ (L : List (List Arr)) (z6 : Option Sl), L.length = i + 1 ∧ (∀ as ∈ L, WOk k as) ∧ δ' = [some .drw, some (.dat (.int (k : Int))), some (.dat (.int (n : Int))), some (.dat (.str "strict")), some (.own (L.map webD)), some (.dat (.bl pl)), z6])
      (ji_range (je_var 2 rfl) (by omega) c.b_range) (jg_nm 6 nd) ⟨[as0], none, rfl, (fun as h => by rw [List.mem_singleton.mp h]; exact hw0), rfl⟩ (fun i d δ' hd ⟨L, z6, hl, hw, e⟩ => ?_) (fun δ' ⟨L, z6, hl, hw, e⟩ => ⟨L, z6, by rw [intsD_len] at hl; exact hl, hw, e⟩)) ?_
  · obtain ⟨hi, ed⟩ := intsD_back hd
    subst e ed
    have h0 : L[0]? = some (L[0]'(by omega)) := List.getElem?_eq_getElem (by omega)
    have hw1 := hw _ (List.mem_of_getElem? h0)
    refine ⟨_, rfl, jb_one (js_if (jt_v (je_var 5 rfl)) (fun _ => ?_) (fun _ => ?_))⟩
    · refine jb_one (js_app 4 rfl ((jf_list (.inl rfl) (je_ixO 4 rfl je_int (j := 0) (webD_at h0)) c.b_list).je1) (by rw [List.length_map, sizeLine_eq]; omega) fun d e => ?_)
      rw [show d = webD (L[0]'(by omega)) from e, webD_snoc]
      exact ⟨L ++ [L[0]'(by omega)], _, by rw [List.length_append, List.length_singleton]; omega, mem_snoc hw hw1, rfl⟩
    · refine jb_one (js_app 4 rfl (je_call (ok__law_web c) (ja_drw 0 rfl (ja_c (je_var 1 rfl) (ja_c (je_var 3 rfl) ja_nil))) (R := fun d => ∃ as, WOk k as ∧ d = webD as) (fun ss ⟨r, e1, e2⟩ => ⟨k, by rw [e1, show r = _ from e2], h3, h5, fun as hw => ⟨as, hw, rfl⟩⟩) hr3) (by rw [List.length_map, sizeLine_eq]; omega) fun d ⟨as, hw2, e⟩ => ?_)
      rw [e, webD_snoc]
      exact ⟨L ++ [as], _, by rw [List.length_append, List.length_singleton]; omega, mem_snoc hw hw2, rfl⟩
  · rintro δ' ⟨L, z6, hl, hw, e⟩
    subst e
    refine jb_freeze 4 rfl (jb_one (js_retI (d := .lst ((L.take n).map webD)) ((jf_slL (je_var 4 rfl) jo_none (jo_some (je_var 2 rfl))).je1.is (by rw [cut_to, List.map_take])) (q _ (by rw [List.length_take]; omega) fun as h => hw as (List.mem_of_mem_take h))))
/-! ### _law_sizes -/
theorem je_pick {X : Cx} {en : En} {δ : Lv} {a b : Expr} {pos : Pos} {ns : List Nat} {n : Nat} (ha : JE X en a δ (Is (.lst (natsD ns)))) (hb : JE X en b δ (drawn n)) (hn : ns.length = n) (hs : PlainIx b := by exact fun _ _ => rfl) : JE X en (.Subscript a b pos) δ (fun d => ∃ x : Nat, x ∈ ns ∧ d = .int (x : Int)) :=
  je_ixLN ha hb (fun d ⟨r, hr, e⟩ => ⟨r, .int ((ns[r]'(by omega) : Nat) : Int), e, natsD_at (List.getElem?_eq_getElem (by omega)), _, List.getElem_mem _, rfl⟩) hs
def W__law_sizes : Wf := fun ss R _ => ∃ most : Int, ss = [.drw, .dat (.int most)] ∧ ∀ k n : Nat, 3 ≤ k → k ≤ 5 → n ≤ 4 → R (.lst [.int (k : Int), .int (n : Int)])
theorem ok__law_sizes (c : Fc K mg) : DefJ P w K mg base "_law_sizes" 2 ["_law_draws_here", "_law_most"] W__law_sizes := by
  obtain ⟨fd, F⟩ := c.f__law_sizes
  refine ⟨fd, defj _ F sc__law_sizes (fun ss R Z ⟨most, e, _⟩ => by rw [e]; rfl) (fun cdv A outer s H E en ss R Z hr ⟨most, e, q⟩ hZ => ?_), F.bindsN (fun _ _ _ _ _ _ us hl => match us, hl with | [_, _], _ => rfl), c.g__law_sizes, F.kp⟩
  subst e
  have nd := sc__law_sizes.nd
  have hr1 : Room 1 _ := hr
  refine jb_setN 2 nd (je_pick (ns := [3, 4, 3, 3, 5, 3, 4]) ((jf_lstI (ds := [.int 3, .int 4, .int 3, .int 3, .int 5, .int 3, .int 4]) (ja_c je_int (ja_c je_int (ja_c je_int (ja_c je_int (ja_c je_int (ja_c je_int (ja_c je_int ja_nil))))))) (szl rfl)).je1) (je_take 0 (ok__law_take c) rfl (n := 7) je_int (by decide) hr1) rfl) (fun d ⟨k, hk, e⟩ => ?_)
  subst e
  have hk2 : 3 ≤ k ∧ k ≤ 5 := by
    simp only [List.mem_cons, List.not_mem_nil, or_false] at hk
    omega
  refine jb_setN 3 nd (je_pick (ns := [2, 3, 1, 3, 4, 2, 0, 3]) ((jf_lstI (ds := [.int 2, .int 3, .int 1, .int 3, .int 4, .int 2, .int 0, .int 3]) (ja_c je_int (ja_c je_int (ja_c je_int (ja_c je_int (ja_c je_int (ja_c je_int (ja_c je_int (ja_c je_int ja_nil)))))))) (szl rfl)).je1) (je_take 0 (ok__law_take c) rfl (n := 8) je_int (by decide) hr1) rfl) (fun d ⟨m, hm, e⟩ => ?_)
  subst e
  have hm2 : m ≤ 4 := by
    simp only [List.mem_cons, List.not_mem_nil, or_false] at hm
    omega
  refine jb_set 4 nd je_int ?_
  refine jb_set 5 nd je_int ?_
  refine jb_cons (M := fun δ' => ∃ (f : Nat) (v : Int) (z6 : Option Sl), f ≤ 4 ∧ δ' = [some .drw, some (.dat (.int most)), some (.dat (.int (k : Int))), some (.dat (.int (m : Int))), some (.dat (.int v)), some (.dat (.int (f : Int))), z6])
    (js_forI (fun i δ' => ∃ (f : Nat) (v : Int) (z6 : Option Sl), f ≤ i ∧ δ' = [some .drw, some (.dat (.int most)), some (.dat (.int (k : Int))), some (.dat (.int (m : Int))), some (.dat (.int v)), some (.dat (.int (f : Int))), z6])
      (ji_range (je_var 3 rfl) (by omega) c.b_range) (jg_nm 6 nd) ⟨0, 1, none, Nat.le_refl 0, rfl⟩ (fun i d δ' hd ⟨f, v, z6, hf, e⟩ => ?_) (fun δ' ⟨f, v, z6, hf, e⟩ => ⟨f, v, z6, by rw [intsD_len] at hf; omega, e⟩)) ?_
  · obtain ⟨hi, ed⟩ := intsD_back hd
    subst e ed
    refine ⟨_, rfl, jb_set 4 nd (je_mulR (je_var 4 rfl) (je_var 2 rfl) (by omega)) ?_⟩
    refine jb_one (js_if (jt_le (je_var 4 rfl) (je_var 1 rfl)) (fun _ => ?_) (fun _ => jb_nil ⟨f, _, _, by omega, rfl⟩))
    exact jb_set 5 nd (je_add (je_var 6 rfl) je_int) (jb_nil ⟨i + 1, _, _, Nat.le_refl _, rfl⟩)
  · rintro δ' ⟨f, v, z6, hf, e⟩
    subst e
    exact jb_one (js_ret ((jf_lstI (ds := [.int (k : Int), .int (f : Int)]) (ja_c (je_var 2 rfl) (ja_c (je_var 5 rfl) ja_nil)) (szl rfl)).je fun ds e => by rw [show ds = _ from e]; exact q k f hk2.1 hk2.2 hf))
/-! ### _law_position -/
theorem natsD_snoc (rs : List Nat) (p : Nat) : natsD rs ++ [.int (p : Int)] = natsD (rs ++ [p]) := by
  unfold natsD
  rw [List.map_append]
  rfl
def W__law_position : Wf := fun ss R _ => ∃ k n : Nat, ss = [.drw, .dat (.int (k : Int)), .dat (.int (n : Int))] ∧ 0 < k ∧ n ≤ 40 ∧ ∀ ps : List Nat, ps.length = n → (∀ p ∈ ps, p < k) → R (.tup (natsD ps))
theorem ok__law_position (c : Fc K mg) : DefJ P w K mg base "_law_position" 2 ["_law_draws_here", "_law_pegs", "_law_discs"] W__law_position := by
  obtain ⟨fd, F⟩ := c.f__law_position
  refine ⟨fd, defj _ F sc__law_position (fun ss R Z ⟨k, n, e, _⟩ => by rw [e]; rfl) (fun cdv A outer s H E en ss R Z hr ⟨k, n, e, hk, hn, q⟩ hZ => ?_), F.bindsN (fun _ _ _ _ _ _ us hl => match us, hl with | [_, _, _], _ => rfl), c.g__law_position, F.kp⟩
  subst e
  have nd := sc__law_position.nd
  have hr1 : Room 1 _ := hr
  refine jb_setN 3 nd (je_take 0 (ok__law_take c) rfl (n := 3) je_int (by decide) hr1) (fun d ⟨wd, hwd, e⟩ => ?_)
  subst e
  refine jb_ownN 4 nd (Rl := fun ds => ∃ p : Nat, p < k ∧ ds = natsD [p]) (jf_lst (ja_cons (je_take 0 (ok__law_take c) rfl (je_var 1 rfl) hk hr1) ja_nil) (fun l ⟨d, r, e1, ⟨p, hp, e2⟩, e3⟩ => ⟨natsD [p], by rw [e1, e2, show r = [] from e3]; rfl, szl rfl, p, hp, rfl⟩)) (fun ds ⟨p0, hp0, e⟩ => ?_)
  subst e
  refine jb_cons (M := fun δ' => ∃ (rs : List Nat) (z5 : Option Sl), rs.length = n + 1 ∧ (∀ p ∈ rs, p < k) ∧ δ' = [some .drw, some (.dat (.int (k : Int))), some (.dat (.int (n : Int))), some (.dat (.int (wd : Int))), some (.own (natsD rs)), z5])
    (js_forI (fun i δ' => ∃ (rs : List Nat) (z5 : Option Sl), rs.length = i + 1 ∧ (∀ p ∈ rs, p < k) ∧ δ' = [some .drw, some (.dat (.int (k : Int))), some (.dat (.int (n : Int))), some (.dat (.int (wd : Int))), some (.own (natsD rs)), z5])
      (ji_range (je_var 2 rfl) (by omega) c.b_range) (jg_nm 5 nd) ⟨[p0], none, rfl, (fun p h => by rw [List.mem_singleton.mp h]; exact hp0), rfl⟩ (fun i d δ' hd ⟨rs, z5, hl, hw, e⟩ => ?_) (fun δ' ⟨rs, z5, hl, hw, e⟩ => ⟨rs, z5, by rw [intsD_len] at hl; exact hl, hw, e⟩)) ?_
  · obtain ⟨hi, ed⟩ := intsD_back hd
    subst e ed
    have h0 : rs[0]? = some (rs[0]'(by omega)) := List.getElem?_eq_getElem (by omega)
    have hi2 : rs[i]? = some (rs[i]'(by omega)) := List.getElem?_eq_getElem (by omega)
    have hsz : (natsD rs).length < sizeLine := by rw [natsD_len, sizeLine_eq]; omega
    have fin : ∀ {p : Nat} {d : Dat}, p < k → d = .int (p : Int) → ∃ (rs2 : List Nat) (z5 : Option Sl), rs2.length = i + 1 + 1 ∧ (∀ p ∈ rs2, p < k) ∧ [some .drw, some (.dat (.int (k : Int))), some (.dat (.int (n : Int))), some (.dat (.int (wd : Int))), some (.own (natsD rs ++ [d])), some (.dat (.int (i : Int)))] = [some .drw, some (.dat (.int (k : Int))), some (.dat (.int (n : Int))), some (.dat (.int (wd : Int))), some (.own (natsD rs2)), z5] := fun {p d} hp e =>
      ⟨rs ++ [p], some (.dat (.int (i : Int))), by rw [List.length_append, List.length_singleton]; omega, mem_snoc hw hp, by rw [e, natsD_snoc]⟩
    refine ⟨_, rfl, jb_one (js_if (jt_eq (je_var 3 rfl) je_int) (fun _ => ?_) (fun _ => ?_))⟩
    · exact jb_one (js_app 4 rfl (je_ixO 4 rfl je_int (j := 0) (natsD_at h0)) hsz fun d e => fin (hw _ (List.mem_of_getElem? h0)) e)
    · refine jb_one (js_if (JW.jt (jw_and (Rt := fun _ => True) (Rt1 := fun _ => True) ((jt_eq (je_var 3 rfl) je_int).imp fun _ _ => trivial) (fun _ => jw_and1 (jt_eqI (je_take 0 (ok__law_take c) rfl (n := 2) je_int (by decide) hr1) je_int drawn_any)) (fun _ => trivial))) (fun _ => ?_) (fun _ => ?_))
      · exact jb_one (js_app 4 rfl (je_ixO 4 rfl (je_var 5 rfl) (j := i) (natsD_at hi2)) hsz fun d e => fin (hw _ (List.mem_of_getElem? hi2)) e)
      · exact jb_one (js_app 4 rfl (je_take 0 (ok__law_take c) rfl (je_var 1 rfl) hk hr1) hsz fun d ⟨r, hr', e⟩ => fin hr' e)
  · rintro δ' ⟨rs, z5, hl, hw, e⟩
    subst e
    refine jb_freeze 4 rfl (jb_one (js_retI (je_tuple (.inl rfl) ((jf_slL (je_var 4 rfl) (jo_some (i := ((1 : Nat) : Int)) je_int) jo_none).je1) c.b_tuple) ?_))
    rw [cut_from, show (natsD rs).drop 1 = natsD (rs.drop 1) from List.map_drop.symm]
    exact q _ (by rw [List.length_drop]; omega) fun p h => hw p (List.mem_of_mem_drop h)
/-! ### _law_strict_case -/
structure CsOk (k : Nat) (L : List (List Arr)) : Prop where
  h3 : 3 ≤ k
  h5 : k ≤ 5
  len : L.length ≤ 40
  web : ∀ as ∈ L, WOk k as
def W__law_strict_case : Wf := fun ss R _ => ∃ most : Int, ss = [.drw, .dat (.int most)] ∧ ∀ (k : Nat) (L : List (List Arr)), CsOk k L → R (.lst [.int (k : Int), .int (L.length : Int), .lst (L.map webD)])
theorem ok__law_strict_case (c : Fc K mg) : DefJ P w K mg base "_law_strict_case" 5 ["_law_draws_here", "_law_most"] W__law_strict_case := by
  obtain ⟨fd, F⟩ := c.f__law_strict_case
  refine ⟨fd, defj _ F sc__law_strict_case (fun ss R Z ⟨most, e, _⟩ => by rw [e]; rfl) (fun cdv A outer s H E en ss R Z hr ⟨most, e, q⟩ hZ => ?_), F.bindsN (fun _ _ _ _ _ _ us hl => match us, hl with | [_, _], _ => rfl), c.g__law_strict_case, F.kp⟩
  subst e
  have nd := sc__law_strict_case.nd
  have hr4 : Room 4 _ := hr
  have hr2 : Room 2 _ := hr.mono (by decide)
  refine jb_setN 2 nd (je_call (ok__law_sizes c) (ja_drw 0 rfl (ja_c (je_var 1 rfl) ja_nil)) (R := fun d => ∃ k n : Nat, 3 ≤ k ∧ k ≤ 5 ∧ n ≤ 4 ∧ d = .lst [.int (k : Int), .int (n : Int)]) (fun ss ⟨r, e1, e2⟩ => ⟨most, by rw [e1, show r = _ from e2], fun k n h3 h5 hn => ⟨k, n, h3, h5, hn, rfl⟩⟩) hr2) (fun d ⟨k, n, h3, h5, hn, e⟩ => ?_)
  subst e
  refine jb_setN 3 nd (je_call (ok__law_webs c) (ja_drw 0 rfl (ja_c (je_ixL (je_var 2 rfl) je_int (j := 0) rfl) (ja_c (je_ixL (je_var 2 rfl) je_int (j := 1) rfl) (ja_c je_str ja_nil)))) (R := fun d => ∃ L : List (List Arr), L.length = n ∧ (∀ as ∈ L, WOk k as) ∧ d = .lst (L.map webD)) (fun ss ⟨r, e1, e2⟩ => ⟨k, n, by rw [e1, show r = _ from e2], h3, h5, by omega, fun L hl hw => ⟨L, hl, hw, rfl⟩⟩) hr4) (fun d ⟨L, hl, hw, e⟩ => ?_)
  subst e
  refine jb_one (js_ret ((jf_lstI (ds := [.int (k : Int), .int (n : Int), .lst (L.map webD)]) (ja_c (je_ixL (je_var 2 rfl) je_int (j := 0) rfl) (ja_c (je_ixL (je_var 2 rfl) je_int (j := 1) rfl) (ja_c (je_var 3 rfl) ja_nil))) (szl rfl)).je fun ds e => ?_))
  rw [show ds = _ from e, ← hl]
  exact q k L ⟨h3, h5, by omega, hw⟩
/-! ### _law_case -/
structure CaseOk (k : Nat) (L : List (List Arr)) (ps qs : List Nat) : Prop where
  cs : CsOk k L
  pl : ps.length = L.length
  ql : qs.length = L.length
  pk : ∀ p ∈ ps, p < k
  qk : ∀ p ∈ qs, p < k
def rowW : List Arr := [⟨0, 1, 2, 1⟩, ⟨1, 0, 2, 1⟩, ⟨1, 2, 0, 1⟩, ⟨2, 1, 0, 1⟩]
theorem rowW_ok : WOk 3 rowW := by
  refine ⟨fun a ha => ?_, fun a ha => ?_, by decide +kernel, by decide⟩
  · unfold rowW at ha
    simp only [List.mem_cons, List.not_mem_nil, or_false] at ha
    rcases ha with h | h | h | h <;> (rw [h]; exact ⟨by decide, by decide, by decide, by decide, by decide, by decide, by decide, by decide⟩)
  · unfold rowW at ha
    simp only [List.mem_cons, List.not_mem_nil, or_false] at ha
    rcases ha with h | h | h | h <;> (rw [h]; decide)
theorem nats_of : ∀ {n : Nat} {ds : List Dat}, (∀ d ∈ ds, drawn n d) → ∃ ps : List Nat, ps.length = ds.length ∧ (∀ p ∈ ps, p < n) ∧ ds = natsD ps
  | n, [], _ => ⟨[], rfl, (fun _ h => nomatch h), rfl⟩
  | n, d :: ds, h => by
    obtain ⟨r, hr, e⟩ := h d List.mem_cons_self
    obtain ⟨ps, h1, h2, h3⟩ := nats_of fun x hx => h x (List.mem_cons_of_mem d hx)
    refine ⟨r :: ps, by rw [List.length_cons, List.length_cons, h1], fun p hp => ?_, by rw [e, h3]; rfl⟩
    rcases List.mem_cons.mp hp with h | h
    · rw [h]
      exact hr
    · exact h2 p h
theorem webs_of {k : Nat} : ∀ {ds : List Dat}, (∀ d ∈ ds, ∃ as, WOk k as ∧ d = webD as) → ∃ L : List (List Arr), L.length = ds.length ∧ (∀ as ∈ L, WOk k as) ∧ ds = L.map webD
  | [], _ => ⟨[], rfl, (fun _ h => nomatch h), rfl⟩
  | d :: ds, h => by
    obtain ⟨r, hr, e⟩ := h d List.mem_cons_self
    obtain ⟨ps, h1, h2, h3⟩ := webs_of fun x hx => h x (List.mem_cons_of_mem d hx)
    refine ⟨r :: ps, by rw [List.length_cons, List.length_cons, h1], fun p hp => ?_, by rw [e, h3]; rfl⟩
    rcases List.mem_cons.mp hp with h | h
    · rw [h]
      exact hr
    · exact h2 p h
def W__law_case : Wf := fun ss R _ => ss = [.drw] ∧ ∀ (k : Nat) (L : List (List Arr)) (ps qs : List Nat), CaseOk k L ps qs → R (.lst [.int (k : Int), .lst (L.map webD), .tup (natsD ps), .tup (natsD qs)])
theorem ok__law_case (c : Fc K mg) : DefJ P w K mg base "_law_case" 6 ["_law_draws_here"] W__law_case := by
  obtain ⟨fd, F⟩ := c.f__law_case
  refine ⟨fd, defj _ F sc__law_case (fun ss R Z ⟨e, _⟩ => by rw [e]; rfl) (fun cdv A outer s H E en ss R Z hr ⟨e, q⟩ hZ => ?_), F.bindsN (fun _ _ _ _ _ _ us hl => match us, hl with | [_], _ => rfl), c.g__law_case, F.kp⟩
  subst e
  have nd := sc__law_case.nd
  have hr5 : Room 5 _ := hr
  have hr3 : Room 3 _ := hr.mono (by decide)
  have hr2 : Room 2 _ := hr.mono (by decide)
  have hr1 : Room 1 _ := hr.mono (by decide)
  refine jb_setN 1 nd (je_take 0 (ok__law_take c) rfl (n := 8) je_int (by decide) hr1) (fun d ⟨wd, hwd, e⟩ => ?_)
  subst e
  refine jb_ifX (jt_lt (je_var 1 rfl) je_int) (fun _ => ?_) (fun _ => ?_)
  · refine jb_setN 2 nd (je_call (ok__law_strict_case c) (ja_drw 0 rfl (ja_c je_int ja_nil)) (R := fun d => ∃ (k : Nat) (L : List (List Arr)), CsOk k L ∧ d = .lst [.int (k : Int), .int (L.length : Int), .lst (L.map webD)]) (fun ss ⟨r, e1, e2⟩ => ⟨81, by rw [e1, show r = _ from e2], fun k L h => ⟨k, L, h, rfl⟩⟩) hr5) (fun d ⟨k, L, hC, e⟩ => ?_)
    subst e
    have hk0 : 0 < k := by have := hC.h3; omega
    refine jb_setN 3 nd (je_call (ok__law_position c) (ja_drw 0 rfl (ja_c (je_ixL (je_var 2 rfl) je_int (j := 0) rfl) (ja_c (je_ixL (je_var 2 rfl) je_int (j := 1) rfl) ja_nil))) (R := fun d => ∃ ps : List Nat, ps.length = L.length ∧ (∀ p ∈ ps, p < k) ∧ d = .tup (natsD ps)) (fun ss ⟨r, e1, e2⟩ => ⟨k, L.length, by rw [e1, show r = _ from e2], hk0, hC.len, fun ps h1 h2 => ⟨ps, h1, h2, rfl⟩⟩) hr2) (fun d ⟨ps, hp1, hp2, e⟩ => ?_)
    subst e
    refine jb_one (js_ret ((jf_lst (Rl := fun ds => ∃ qs : List Nat, qs.length = L.length ∧ (∀ p ∈ qs, p < k) ∧ ds = [.int (k : Int), .lst (L.map webD), .tup (natsD ps), .tup (natsD qs)]) (ja_cons (je_ixL (je_var 2 rfl) je_int (j := 0) rfl) (ja_cons (je_ixL (je_var 2 rfl) je_int (j := 2) rfl) (ja_cons (je_var 3 rfl) (ja_cons (je_call (ok__law_position c) (ja_drw 0 rfl (ja_c (je_ixL (je_var 2 rfl) je_int (j := 0) rfl) (ja_c (je_ixL (je_var 2 rfl) je_int (j := 1) rfl) ja_nil))) (R := fun d => ∃ ps : List Nat, ps.length = L.length ∧ (∀ p ∈ ps, p < k) ∧ d = .tup (natsD ps)) (fun ss ⟨r, e1, e2⟩ => ⟨k, L.length, by rw [e1, show r = _ from e2], hk0, hC.len, fun ps h1 h2 => ⟨ps, h1, h2, rfl⟩⟩) hr2) ja_nil))))
      (fun l ⟨d1, r1, f1, g1, d2, r2, f2, g2, d3, r3, f3, g3, d4, r4, f4, ⟨qs, x1, x2, g4⟩, f5⟩ => ⟨[.int (k : Int), .lst (L.map webD), .tup (natsD ps), .tup (natsD qs)], by rw [f1, f2, f3, f4, show r4 = [] from f5, show d1 = _ from g1, show d2 = _ from g2, show d3 = _ from g3, g4]; rfl, szl rfl, qs, x1, x2, rfl⟩)).je fun ds ⟨qs, x1, x2, e⟩ => ?_))
    rw [e]
    exact q k L ps qs ⟨hC, hp1, x1, hp2, x2⟩
  · refine jb_set 4 nd (d := webD rowW) ((jf_lstI (ds := rowW.map arrD) (ja_c (je_tupI (ds := [.int 0, .int 1, .tup [.int 2], .int 1]) (ja_c je_int (ja_c je_int (ja_c (je_tupI (ds := [.int 2]) (ja_c je_int ja_nil) (szl rfl)) (ja_c je_int ja_nil)))) (szl rfl))
      (ja_c (je_tupI (ds := [.int 1, .int 0, .tup [.int 2], .int 1]) (ja_c je_int (ja_c je_int (ja_c (je_tupI (ds := [.int 2]) (ja_c je_int ja_nil) (szl rfl)) (ja_c je_int ja_nil)))) (szl rfl))
      (ja_c (je_tupI (ds := [.int 1, .int 2, .tup [.int 0], .int 1]) (ja_c je_int (ja_c je_int (ja_c (je_tupI (ds := [.int 0]) (ja_c je_int ja_nil) (szl rfl)) (ja_c je_int ja_nil)))) (szl rfl))
      (ja_c (je_tupI (ds := [.int 2, .int 1, .tup [.int 0], .int 1]) (ja_c je_int (ja_c je_int (ja_c (je_tupI (ds := [.int 0]) (ja_c je_int ja_nil) (szl rfl)) (ja_c je_int ja_nil)))) (szl rfl)) ja_nil)))) (szl rfl)).je1) ?_
    refine jb_ownLc 5 nd (lc_rng 6 (n := 30) (fun _ => webD rowW) je_int (by decide) c.b_range (blkOk_by (by kernel_rfl)) (fun s H C cl fp => jg_nm 6 nd) (fun x hx s H C cl fp => je_var 4 rfl)) (jb_freeze 5 rfl ?_)
    refine jb_cons (M := fun δ' => ∃ (L : List (List Arr)) (z2 z3 z4 z6 z7 z8 : Option Sl), CsOk 3 L ∧ δ' = [some .drw, some (.dat (.int (wd : Int))), z2, z3, z4, some (.dat (.lst (L.map webD))), z6, z7, z8]) (js_if (jt_eq (je_var 1 rfl) je_int) (fun _ => ?_) (fun _ => jb_nil ⟨List.replicate 30 rowW, _, _, _, _, _, _, ⟨by decide, by decide, by decide, fun as h => by rw [(List.mem_replicate.mp h).2]; exact rowW_ok⟩, rfl⟩)) ?_
    · refine jb_ownN 7 nd ((lc_N (t := .nm 8) (own := [("_law_turn", 8)]) (fun d => ∃ as, WOk 3 as ∧ d = webD as) 2 (ji_range (n := 2) je_int (by decide) c.b_range) (blkOk_by (by kernel_rfl)) (fun s H C cl fp => jg_nm 8 nd) (fun j hj => hj) (fun its e => by rw [show its = _ from e]; rfl) (szl rfl) (fun its i d e hd => ⟨_, rfl, fun s H C cl fp => je_call (ok__law_web c) (ja_drw 0 rfl (ja_c je_int (ja_c je_str ja_nil))) (fun ss ⟨r, e1, e2⟩ => ⟨3, by rw [e1, show r = _ from e2]; rfl, by decide, by decide, fun as hw => ⟨as, hw, rfl⟩⟩) hr3⟩)).jf nd) (fun ds ⟨hl, hw⟩ => ?_)
      refine jb_freeze 7 rfl ?_
      refine jb_ownLcN 5 nd (lc_T (t := .nm 6) (own := [("_law_disc", 6)]) (RI := fun its => its.length ≤ 12) (Rl := fun ds => ds.length ≤ 12 ∧ ∀ d ∈ ds, ∃ as, WOk 3 as ∧ d = webD as) (fun its i acc => acc.length = i ∧ ∀ d ∈ acc, ∃ as, WOk 3 as ∧ d = webD as)
        (ji_rangeN (je_addN (R := fun d => ∃ m : Nat, m ≤ 12 ∧ d = .int (m : Int)) je_int (je_take 0 (ok__law_take c) rfl (n := 8) je_int (by decide) hr1) (fun d ⟨r, hr', e⟩ => ⟨_, e, 5 + r, by omega, by congr 1⟩)) (by decide) c.b_range) (blkOk_by (by kernel_rfl)) (fun s H C cl fp => jg_nm 6 nd) (fun j hj => hj) (fun its h => ⟨by rw [sizeLine_eq]; omega, rfl, fun _ h => nomatch h⟩)
        (fun its i d acc h hd ha => ⟨_, Is true, (fun d => ∃ as, WOk 3 as ∧ d = webD as), rfl, fun s H C cl fp => pts_yes, fun s H C cl fp => je_ixLN (je_var 7 rfl) (je_take 0 (ok__law_take c) rfl (n := 2) je_int (by decide) hr1) (fun d ⟨r, hr', e⟩ => ⟨r, _, e, List.getElem?_eq_getElem (by omega), hw _ (List.getElem_mem _)⟩), fun _ y hy => ⟨by rw [List.length_append, ha.1]; rfl, mem_snoc ha.2 hy⟩, fun z => nomatch (show false = true from z)⟩)
        (fun its acc h ha => ⟨by rw [ha.1]; exact h, ha.2⟩)) (fun ds2 ⟨hl2, hw2⟩ => ?_)
      refine jb_freeze 5 rfl (jb_nil ?_)
      obtain ⟨L, l1, l2, e⟩ := webs_of hw2
      subst e
      exact ⟨L, _, _, _, _, _, _, ⟨by decide, by decide, by omega, l2⟩, rfl⟩
    rintro δ' ⟨L, z2, z3, z4, z6, z7, z8, hC, e⟩
    subst e
    refine jb_setN 3 nd (R := fun d => ∃ ds, d = .tup ds ∧ (ds.length = L.length ∧ ∀ x ∈ ds, drawn 3 x)) (je_tupleP (((lc_N (t := .nm 6) (own := [("_law_disc", 6)]) (drawn 3) L.length (ji_list (je_var 5 rfl)) (blkOk_by (by kernel_rfl)) (fun s H C cl fp => jg_nm 6 nd) (fun j hj => hj) (fun its e => by rw [show its = _ from e, List.length_map]) (by have := hC.len; rw [sizeLine_eq]; omega) (fun its i d e hd => ⟨_, rfl, fun s H C cl fp => je_take 0 (ok__law_take c) rfl (n := 3) je_int (by decide) hr1⟩)).jf nd).je fun ds q => ⟨ds, rfl, q⟩) c.b_tuple) (fun d ⟨ds, e, hl, hw⟩ => ?_)
    subst e
    obtain ⟨ps, hp1, hp2, e⟩ := nats_of hw
    subst e
    refine jb_one (js_ret ((jf_lst (Rl := fun ds => ∃ qs : List Nat, qs.length = L.length ∧ (∀ p ∈ qs, p < 3) ∧ ds = [.int ((3 : Nat) : Int), .lst (L.map webD), .tup (natsD ps), .tup (natsD qs)]) (ja_cons je_int (ja_cons (je_var 5 rfl) (ja_cons (je_var 3 rfl) (ja_cons
      (je_tupleP (((lc_N (t := .nm 6) (own := [("_law_disc", 6)]) (drawn 3) L.length (ji_list (je_var 5 rfl)) (blkOk_by (by kernel_rfl)) (fun s H C cl fp => jg_nm 6 nd) (fun j hj => hj) (fun its e => by rw [show its = _ from e, List.length_map]) (by have := hC.len; rw [sizeLine_eq]; omega) (fun its i d e hd => ⟨_, rfl, fun s H C cl fp => je_take 0 (ok__law_take c) rfl (n := 3) je_int (by decide) hr1⟩)).jf nd).je fun ds q => ⟨ds, rfl, q⟩) c.b_tuple) ja_nil))))
      (fun l ⟨d1, r1, f1, g1, d2, r2, f2, g2, d3, r3, f3, g3, d4, r4, f4, ⟨ds, g4, hl2, hw2⟩, f5⟩ => ?_)).je fun ds ⟨qs, x1, x2, e⟩ => ?_))
    · rw [e]
      rw [natsD_len] at hl
      exact q 3 L ps qs ⟨hC, hl, x1, hp2, x2⟩
    · obtain ⟨qs, hq1, hq2, e⟩ := nats_of hw2
      subst e
      rw [natsD_len] at hl2
      exact ⟨[.int ((3 : Nat) : Int), .lst (L.map webD), .tup (natsD ps), .tup (natsD qs)], by rw [f1, f2, f3, f4, show r4 = [] from f5, show d1 = _ from g1, show d2 = _ from g2, show d3 = _ from g3, g4]; rfl, szl rfl, qs, hl2, hq2, rfl⟩
end
end PW
end
section
set_option maxHeartbeats 4000000
namespace PJ
open PySem PySem.Spec PyProof.Rows L2
section
variable {X : Cx} {en : En} {δ : Lv} {e : Expr} {es : List Expr} {R : Dat → Prop} {pos p1 : Pos}
theorem je_makeN {cc k : Nat} {x : Str} {ps : List Str} {W : Wf} {Rs : List Sl → Prop} (F : MakJ X.prog X.w X.K X.mg X.base cc k ps W) (hx : x = cN cc) (ha : JA X en (e :: es) δ Rs) (h : ∀ ss, Rs ss → W ss R (fun _ _ => False)) (hr : Room (k + 1) X.A) (hg : Gl X x := by rfl) (hdb : (x == ("__debug__" : Str)) = false := by decide)
    (he : starEach (e :: es) X.env = (false, eval e X.env) :: starEach es X.env := by rfl) (hpl : (backTo pos (starEach es X.env)).any (·.1) = false := by rfl) : JE X en (.Call (.Name x p1) (e :: es) [] pos) δ R := by
  obtain ⟨f, fd, M, F1, hb, hm⟩ := F
  refine PE.weak (pe_make M F1 hr hg (by rw [hx]; exact hm) hb .nil passL ha hdb he hpl) fun σ H Q ⟨G, S, q⟩ => ⟨G, S, fun vs G1 H1 ss' f1 rs ps => fun x1 dx hx1 hdx hne => ?_⟩
  show SpI X.K cc W (.ref x1 :: (vs ++ [])) _ _ E0
  rw [List.append_nil]
  exact ⟨en.da, G1, H1, x1, dx, vs, ss', R, fun _ _ => False, rfl, rfl, hx1, hdx, hne, f1.gh, f1.drw, ps, h ss' rs, fun G' H' d f2 rd rp => ⟨rfl, q _ G' H' d (f1.trans f2) rd rp⟩⟩
end
end PJ
namespace PW
open PySem PySem.Spec PyProof.Rows L2 PJ PF PX
theorem ex_list {α β : Type} [Inhabited β] {Q : Nat → β → α → Prop} {ds : List α} (h : ∀ (j : Nat) d, ds[j]? = some d → ∃ b, Q j b d) : ∃ M : List β, M.length = ds.length ∧ ∀ (j : Nat) b, M[j]? = some b → ∃ d, ds[j]? = some d ∧ Q j b d := by
  induction ds generalizing Q with
  | nil => exact ⟨[], rfl, fun j b hb => by simp at hb⟩
  | cons d ds ih =>
    obtain ⟨b, hb⟩ := h 0 d rfl
    obtain ⟨M, h1, h2⟩ := ih (Q := fun j => Q (j + 1)) (fun j d hd => h (j + 1) d hd)
    refine ⟨b :: M, by rw [List.length_cons, List.length_cons, h1], fun j b' hb' => ?_⟩
    cases j with
    | zero =>
      rw [← Option.some.inj (show some b = some b' from hb')]
      exact ⟨d, rfl, hb⟩
    | succ j => exact h2 j b' hb'
section
variable {P : Program} {w : World} {K : PySem.W.Frag} {mg : Str → Option Value} {base : Heap}
def W__law_built : Wf := fun ss R _ => ∃ (k : Nat) (L : List (List Arr)), ss = [.dat (.int (k : Int)), .dat (.lst (L.map webD))] ∧ CsOk k L ∧ ∀ M d, PermL L M → IsGame k M d → R d
theorem ok__law_built (c : Fc K mg) : DefJ P w K mg base "_law_built" 9 ["_law_pegs", "_law_webs_here"] W__law_built := by
  obtain ⟨fd, F⟩ := c.f__law_built
  refine ⟨fd, defj _ F sc__law_built (fun ss R Z ⟨k, L, e, _⟩ => by rw [e]; rfl) (fun cdv A outer s H E en ss R Z hr ⟨k, L, e, hC, q⟩ hZ => ?_), F.bindsN (fun _ _ _ _ _ _ us hl => match us, hl with | [_, _], _ => rfl), c.g__law_built, F.kp⟩
  subst e
  have nd := sc__law_built.nd
  have h3 := hC.h3
  have h5 := hC.h5
  have hlen := hC.len
  refine jb_one (js_ret (je_makeN (cc := 1) (ok_Game c) rfl (ja_cons (je_var 0 rfl) (ja_cons ((LcOk.jf (lc_T (t := .nm 2) (own := [("_law_arrows", 2)]) (RI := fun its => its = L.map webD) (Rl := fun acc => acc.length = L.length ∧ ∀ (j : Nat) d, acc[j]? = some d → ∃ bs, bs.Perm (L.getD j []) ∧ IsWeb k bs d) (fun its i acc => acc.length = i ∧ ∀ (j : Nat) d, acc[j]? = some d → ∃ bs, bs.Perm (L.getD j []) ∧ IsWeb k bs d)
      (ji_list (je_var 1 rfl)) (blkOk_by (by kernel_rfl)) (fun s H C cl fp => jg_nm 2 nd) (fun j hj => hj) (fun its e => ⟨by rw [e, List.length_map, sizeLine_eq]; omega, rfl, fun j d hd => by simp at hd⟩)
      (fun its i d acc e hd ha => ?_) (fun its acc e ha => ⟨by rw [ha.1, e, List.length_map], ha.2⟩)) nd).je (R := fun d => ∃ ds, d = .lst ds ∧ ds.length = L.length ∧ ∀ (j : Nat) d, ds[j]? = some d → ∃ bs, bs.Perm (L.getD j []) ∧ IsWeb k bs d) fun ds hds => ⟨ds, rfl, hds⟩) ja_nil)) (fun l ⟨d1, r1, f1, g1, d2, r2, f2, ⟨ds, g2, hl, hds⟩, f3⟩ => ?_) (hr.mono (by decide))))
  · rw [e] at hd
    obtain ⟨as, has, ed⟩ : ∃ as, L[i]? = some as ∧ d = webD as := by
      rw [List.getElem?_map] at hd
      cases h : L[i]? with
      | none => rw [h] at hd; cases hd
      | some as =>
        rw [h] at hd
        exact ⟨as, rfl, (Option.some.inj hd).symm⟩
    subst ed
    have hw := hC.web _ (List.mem_of_getElem? has)
    refine ⟨_, Is true, (fun d => ∃ bs, bs.Perm as ∧ IsWeb k bs d), rfl, fun s H C cl fp => pts_yes, fun s H C cl fp => je_make (cc := 0) (ok_Web c) rfl (ja_c (je_var 0 rfl) (ja_c (je_var 2 rfl) ja_nil)) ⟨as, k, _, rfl, h3, h5, .inl rfl, hw.ok, hw.nd, by have := hw.len; omega, fun bs d hp hd => ⟨bs, hp, hd⟩⟩ hr, fun _ y hy => ⟨by rw [List.length_append, ha.1]; rfl, fun j d hj => ?_⟩, fun z => nomatch (show false = true from z)⟩
    by_cases hji : j < acc.length
    · rw [List.getElem?_append_left hji] at hj
      exact ha.2 j d hj
    · rw [List.getElem?_append_right (by omega)] at hj
      obtain ⟨hj1, hj2⟩ := List.getElem?_eq_some_iff.mp hj
      have : j = i := by
        rw [List.length_singleton] at hj1
        omega
      subst this
      have e2 : y = d := by
        have h0 : j - acc.length = 0 := by omega
        have := hj
        rw [h0] at this
        exact Option.some.inj this
      rw [← e2, getD_of has]
      exact hy
  · obtain ⟨M, m1, m2⟩ := ex_list hds
    have perm : ∀ i, (M.getD i []).Perm (L.getD i []) := fun i => by
      by_cases hi : i < M.length
      · obtain ⟨d, _, hp, _⟩ := m2 i _ (List.getElem?_eq_getElem hi)
        rw [getD_of (List.getElem?_eq_getElem hi)]
        exact hp
      · rw [List.getD_eq_getElem?_getD, List.getD_eq_getElem?_getD, List.getElem?_eq_none (by omega), List.getElem?_eq_none (by omega)]
    refine ⟨k, M, .lst ds, ds, by rw [f1, f2, show r2 = [] from f3, show d1 = _ from g1, g2], h3, h5, by omega, .inl rfl, ⟨m1.symm, fun i bs hi => ?_⟩, fun d hd => q M d ⟨by omega, perm⟩ hd⟩
    obtain ⟨d, hd, hp, hw⟩ := m2 i bs hi
    have hiL : i < L.length := by
      have := (List.getElem?_eq_some_iff.mp hi).1
      omega
    have hL : L[i]? = some L[i] := List.getElem?_eq_getElem hiL
    rw [getD_of hL] at hp
    have hw2 := hC.web _ (List.mem_of_getElem? hL)
    exact ⟨d, hd, hw, by rw [hp.length_eq]; have := hw2.len; omega, fun a ha => hw2.ok a (hp.mem_iff.mp ha)⟩
end
end PW
end
section
set_option maxHeartbeats 4000000
namespace PJ
open PySem PySem.Spec PyProof.Rows L2
/-- no name of one's own -/
def PlainL (δ : Lv) : Prop := ∀ (i : Nat) (sl : Sl), δ[i]? = some (some sl) → (∃ d, sl = .dat d) ∨ sl = .drw
theorem now_restart {K : PySem.W.Frag} {en : En} {G H : Hp} {σ : L2.St} {δ : Lv} (S : Now K en G H σ δ) (pl : PlainL δ) : Now K ⟨en.da, G, H⟩ G H σ δ := by
  refine ⟨⟨S.st.gh, fun a e => ⟨?_, (S.st.dr a e).2⟩, S.st.len, fun i sl h => ?_, fun i j ds es a h1 _ _ _ => ?_⟩, S.fm⟩
  · obtain ⟨pos, nb, ns, h, _⟩ := (S.st.dr a e).2
    exact ⟨_, h⟩
  · obtain ⟨v, h1, h2⟩ := S.st.at_ i sl h
    rcases pl i sl h with ⟨d, e⟩ | e
    · subst e
      exact ⟨v, h1, h2⟩
    · subst e
      exact ⟨v, h1, h2⟩
  · rcases pl i _ h1 with ⟨d, e⟩ | e <;> cases e
theorem now_back {K : PySem.W.Frag} {en : En} {G H G' H' : Hp} {σ0 σ : L2.St} {δ0 δ : Lv} (S : Now K en G H σ0 δ0) (S' : Now K ⟨en.da, G, H⟩ G' H' σ δ) : Now K en G' H' σ δ := by
  refine ⟨⟨S'.st.gh, fun a e => ⟨(S.st.dr a e).1, (S'.st.dr a e).2⟩, S'.st.len, fun i sl h => ?_, S'.st.sep⟩, S.f0.trans S'.f0⟩
  obtain ⟨v, h1, h2⟩ := S'.st.at_ i sl h
  refine ⟨v, h1, ?_⟩
  cases sl with
  | dat d => exact h2
  | own ds =>
    obtain ⟨p, vs, e, hp, h0, hg, r⟩ := h2
    exact ⟨p, vs, e, hp, S.f0.none_of h0, hg, r⟩
  | drw => exact h2
  | slf p c ds =>
    obtain ⟨dx, vs, e, hp, h0, hg, r⟩ := h2
    exact ⟨dx, vs, e, hp, S.f0.none_of h0, hg, r⟩
  | dcs mk ks =>
    obtain ⟨p, vs, e, hp, od, h0, hg, r⟩ := h2
    exact ⟨p, vs, e, hp, od, S.f0.none_of h0, hg, r⟩
theorem plain_nil : PlainL [] := fun i sl h => by simp at h
theorem plain_dat {d : Dat} {δ : Lv} (h : PlainL δ) : PlainL (some (.dat d) :: δ) := fun i sl q => by
  cases i with
  | zero => exact .inl ⟨d, (Option.some.inj (Option.some.inj q)).symm⟩
  | succ i => exact h i sl q
theorem plain_drw {δ : Lv} (h : PlainL δ) : PlainL (some .drw :: δ) := fun i sl q => by
  cases i with
  | zero => exact .inr (Option.some.inj (Option.some.inj q)).symm
  | succ i => exact h i sl q
theorem plain_none {δ : Lv} (h : PlainL δ) : PlainL (none :: δ) := fun i sl q => by
  cases i with
  | zero => cases q
  | succ i => exact h i sl q
end PJ
namespace PW
open PySem PySem.Spec PyProof.Rows L2 PJ PF PX
/-- what the suite of a clause is to find: the exception of kind kd, with its number -/
def tSu (K : PySem.W.Frag) (en : En) (δ : Lv) (i kd : Nat) (Z : Nat → Int → Prop) (Nx : Lv → Prop) : Addr → Value → Option Addr → TS := fun a cls d D σ H => ∃ (G : Hp) (dd : Addr) (n : Int), cls = .ref (eA K kd) ∧ d = some dd ∧ H dd = some (.xd [(("disc" : Str), .int n)]) ∧ Z kd n ∧ σ[i]? = some (some (.ref a)) ∧ Now K en G H σ δ ∧
  ∀ σ' G' H' δ', Now K en G' H' σ' δ' → Nx δ' → D.nx σ' H'
section
variable {P : Program} {w : World} {K : PySem.W.Frag} {mg : Str → Option Value} {base : Heap}
def W__law_told : Wf := fun ss R _ => ∃ (R' : Dat → Prop) (Z' : Nat → Int → Prop), W_paper_number ss R' Z' ∧ (∀ d, R' d → R (.tup [.str "number", d])) ∧ (∀ n, Z' 0 n → R (.tup [.str "position", .int n])) ∧ (∀ n, Z' 1 n → R (.tup [.str "floor", .int n])) ∧ (∀ n, Z' 2 n → R (.tup [.str "paper", .int n])) ∧ ∀ kd n, Z' kd n → kd < 3
theorem pn_len {ss : List Sl} {R : Dat → Prop} {Z : Nat → Int → Prop} (h : W_paper_number ss R Z) : ∃ g p q x, ss = [.dat g, .dat p, .dat q, .dat x] := by
  obtain ⟨k, L, gd, pd, qd, xd, ps, qs, e, _⟩ := h
  exact ⟨gd, pd, qd, xd, e⟩
theorem ok__law_told (c : Fc K mg) : DefJ P w K mg base "_law_told" 7 ["_law_game", "_law_here", "_law_there", "_law_paper"] W__law_told := by
  obtain ⟨fd, F⟩ := c.f__law_told
  refine ⟨fd, defj _ F sc__law_told (fun ss R Z ⟨R', Z', hw, _⟩ => by obtain ⟨_, _, _, _, e⟩ := pn_len hw; rw [e]; rfl) (fun cdv A outer s H E en ss R Z hr ⟨R', Z', hw, q0, q1, q2, q3, q4⟩ hZ => ?_), F.bindsN (fun _ _ _ _ _ _ us hl => match us, hl with | [_, _, _, _], _ => rfl), c.g__law_told, F.kp⟩
  have nd := sc__law_told.nd
  obtain ⟨gd, pd, qd, xd, e⟩ := pn_len hw
  subst e
  refine jb_set 4 nd (je_tupI (ds := [.str "none", .int 0]) (ja_c je_str (ja_c je_int ja_nil)) (szl rfl)) ?_
  refine jb_cons (M := fun δ' => ∃ (d : Dat) (z5 : Option Sl), R d ∧ δ' = [some (.dat gd), some (.dat pd), some (.dat qd), some (.dat xd), some (.dat d), z5]) (PS.weak (ps_try_manyAs rfl rfl nd (tb := fun W D σ H => ∃ en : En, (∀ k n dd G' H' σ', Z' k n → Now K en G' H' σ' [some (.dat gd), some (.dat pd), some (.dat qd), some (.dat xd), some (.dat (.tup [.str "none", .int 0])), none] → en.H0 dd = none → H' dd = some (.xd [(("disc" : Str), .int n)]) → W (.ref (eA K k)) (some dd) σ' H') ∧ tS K en [some (.dat gd), some (.dat pd), some (.dat qd), some (.dat xd), some (.dat (.tup [.str "none", .int 0])), none] { nx := fun δ' => ∃ (d : Dat) (z5 : Option Sl), R d ∧ δ' = [some (.dat gd), some (.dat pd), some (.dat qd), some (.dat xd), some (.dat d), z5], rt := R } D σ H)
    (fun W pn xe tk hp => PSs.any fun en => PSs.cond fun hW => jb_one (js_set 4 nd (je_tup (ja_cons je_str (ja_cons (je_callX Z' (ok_paper_number c) (ja_c (je_var 0 rfl) (ja_c (je_var 1 rfl) (ja_c (je_var 2 rfl) (ja_c (je_var 3 rfl) ja_nil)))) hw hr tk hW) ja_nil)) (R := fun d => R d) (fun l ⟨d1, r1, f1, g1, d2, r2, f2, g2, f3⟩ => ⟨[.str "number", d2], by rw [f1, f2, show r2 = [] from f3, show d1 = _ from g1]; rfl, szl rfl, q0 d2 g2⟩)) fun d hd => ⟨d, none, hd, rfl⟩))
    (HdsAs.cons (i := 5) (c := .ref (eA K 1)) (ts := fun a cls d D σ H => ∃ en : En, tSu K en [some (.dat gd), some (.dat pd), some (.dat qd), some (.dat xd), some (.dat (.tup [.str "none", .int 0])), none] 5 1 Z' (fun δ' => ∃ d, R d ∧ δ' = [some (.dat gd), some (.dat pd), some (.dat qd), some (.dat xd), some (.dat d), none]) a cls d D σ H) rfl rfl ⟨rfl, by decide, .inl c.g_BadFloor⟩ (fun a oe cls d pn hz hf => PSs.weak (pss_one (ps_set (i := 4) nd rfl (.inl rfl) (pe_tup (pa_cons pe_str (pa_cons (pe_disc (ext_1 c) hz hf (pe_var (i := 5) rfl (.inl rfl))) pa_nil))) rfl)) fun D σ H ⟨en, G, dd, n, ec, ed, hdd, hz, hs, S, k⟩ => ?_)
    (HdsAs.cons (i := 5) (c := .ref (eA K 2)) (ts := fun a cls d D σ H => ∃ en : En, tSu K en [some (.dat gd), some (.dat pd), some (.dat qd), some (.dat xd), some (.dat (.tup [.str "none", .int 0])), none] 5 2 Z' (fun δ' => ∃ d, R d ∧ δ' = [some (.dat gd), some (.dat pd), some (.dat qd), some (.dat xd), some (.dat d), none]) a cls d D σ H) rfl rfl ⟨rfl, by decide, .inl c.g_BadPaper⟩ (fun a oe cls d pn hz hf => PSs.weak (pss_one (ps_set (i := 4) nd rfl (.inl rfl) (pe_tup (pa_cons pe_str (pa_cons (pe_disc (ext_2 c) hz hf (pe_var (i := 5) rfl (.inl rfl))) pa_nil))) rfl)) fun D σ H ⟨en, G, dd, n, ec, ed, hdd, hz, hs, S, k⟩ => ?_)
    (HdsAs.cons (i := 5) (c := .ref (eA K 0)) (ts := fun a cls d D σ H => ∃ en : En, tSu K en [some (.dat gd), some (.dat pd), some (.dat qd), some (.dat xd), some (.dat (.tup [.str "none", .int 0])), none] 5 0 Z' (fun δ' => ∃ d, R d ∧ δ' = [some (.dat gd), some (.dat pd), some (.dat qd), some (.dat xd), some (.dat d), none]) a cls d D σ H) rfl rfl ⟨rfl, by decide, .inl c.g_BadPosition⟩ (fun a oe cls d pn hz hf => PSs.weak (pss_one (ps_set (i := 4) nd rfl (.inl rfl) (pe_tup (pa_cons pe_str (pa_cons (pe_disc (ext_0 c) hz hf (pe_var (i := 5) rfl (.inl rfl))) pa_nil))) rfl)) fun D σ H ⟨en, G, dd, n, ec, ed, hdd, hz, hs, S, k⟩ => ?_) HdsAs.nil)))) (fun D σ H ⟨G, S, k⟩ => ?_)) ?_
  · refine ⟨.ref a, hs, rfl, ec, dd, .int n, ed, hdd, szl rfl, fun p hp => ?_⟩
    have f : Fm en.da G H (upd G p (.tup [.str "floor", .int n])) (upd H p (.tup [.str "floor", .int n])) := (Fm.new_ S.gh hp).lift S.drw
    have S2 := S.step f
    exact k _ _ _ _ ⟨S2.st.set (d := .tup [.str "floor", .int n]) ⟨p, _, rfl, upd_same, Reps.cons (show V.str _ = V.str _ from rfl) (Reps.one (show V.int _ = V.int _ from rfl))⟩ 4, S2.f0⟩ ⟨_, q2 n hz, rfl⟩
  · refine ⟨.ref a, hs, rfl, ec, dd, .int n, ed, hdd, szl rfl, fun p hp => ?_⟩
    have f : Fm en.da G H (upd G p (.tup [.str "paper", .int n])) (upd H p (.tup [.str "paper", .int n])) := (Fm.new_ S.gh hp).lift S.drw
    have S2 := S.step f
    exact k _ _ _ _ ⟨S2.st.set (d := .tup [.str "paper", .int n]) ⟨p, _, rfl, upd_same, Reps.cons (show V.str _ = V.str _ from rfl) (Reps.one (show V.int _ = V.int _ from rfl))⟩ 4, S2.f0⟩ ⟨_, q3 n hz, rfl⟩
  · refine ⟨.ref a, hs, rfl, ec, dd, .int n, ed, hdd, szl rfl, fun p hp => ?_⟩
    have f : Fm en.da G H (upd G p (.tup [.str "position", .int n])) (upd H p (.tup [.str "position", .int n])) := (Fm.new_ S.gh hp).lift S.drw
    have S2 := S.step f
    exact k _ _ _ _ ⟨S2.st.set (d := .tup [.str "position", .int n]) ⟨p, _, rfl, upd_same, Reps.cons (show V.str _ = V.str _ from rfl) (Reps.one (show V.int _ = V.int _ from rfl))⟩ 4, S2.f0⟩ ⟨_, q1 n hz, rfl⟩
  · obtain ⟨k1, k2, k3, k4⟩ := k
    have pl : PlainL [some (.dat gd), some (.dat pd), some (.dat qd), some (.dat xd), some (.dat (.tup [.str "none", .int 0])), none] := plain_dat (plain_dat (plain_dat (plain_dat (plain_dat (plain_none plain_nil)))))
    have nx : ∀ {a : Addr} {i : Nat} {G' H' : Hp} {σ' : L2.St} {dd : Addr} {n : Int} {kd : Nat}, Now K ⟨en.da, G, H⟩ G' H' σ' [some (.dat gd), some (.dat pd), some (.dat qd), some (.dat xd), some (.dat (.tup [.str "none", .int 0])), none] → H' dd = some (.xd [(("disc" : Str), .int n)]) → Z' kd n → ∀ kd', kd' = kd →
        tSu K ⟨en.da, G, H⟩ [some (.dat gd), some (.dat pd), some (.dat qd), some (.dat xd), some (.dat (.tup [.str "none", .int 0])), none] 5 kd' Z' (fun δ' => ∃ d, R d ∧ δ' = [some (.dat gd), some (.dat pd), some (.dat qd), some (.dat xd), some (.dat d), none]) a (.ref (eA K kd)) (some dd) (endsAs D 5) (σ'.set 5 (some (.ref a))) H' := fun {a i G' H' σ' dd n kd} S' hdd hz kd' ek => by
      subst ek
      refine ⟨G', dd, n, rfl, rfl, hdd, hz, set_eq ?_, ⟨S'.st.lose 5 (some (.ref a)), S'.f0⟩, fun σ2 G2 H2 δ2 S2 ⟨d, hd, e⟩ => ?_⟩
      · rw [S'.st.len]
        exact (by decide : 5 < 6)
      · subst e
        exact k1 _ G2 H2 _ S2.f0.gg (now_back S ⟨S2.st.lose 5 none, S2.f0⟩) ⟨d, none, hd, rfl⟩
    refine ⟨⟨en.da, G, H⟩, fun kd n dd G' H' σ' hz S' _ hdd => ?_, G, now_restart S pl, fun s2 G2 H2 d2 e2 n2 m2 => k1 s2 G2 H2 d2 e2 (now_back S n2) m2, fun v G2 H2 d f r p => k2 v G2 H2 d (S.f0.trans f) r p, fun s2 G2 H2 d2 e2 n2 m2 => k3 s2 G2 H2 d2 e2 (now_back S n2) m2, fun s2 G2 H2 d2 e2 n2 m2 => k4 s2 G2 H2 d2 e2 (now_back S n2) m2⟩
    have h3 := q4 kd n hz
    have hc : kd = 1 ∨ kd = 2 ∨ kd = 0 := by omega
    rcases hc with e | e | e
    · subst e
      exact ⟨true, c.exm_BadFloor_BadFloor, fun _ a _ => ⟨_, nx (i := 0) S' hdd hz 1 rfl⟩, (fun z => nomatch z)⟩
    · subst e
      exact ⟨false, c.exm_BadPaper_BadFloor, (fun z => nomatch z), fun _ => ⟨true, c.exm_BadPaper_BadPaper, fun _ a _ => ⟨_, nx (i := 0) S' hdd hz 2 rfl⟩, (fun z => nomatch z)⟩⟩
    · subst e
      exact ⟨false, c.exm_BadPosition_BadFloor, (fun z => nomatch z), fun _ => ⟨false, c.exm_BadPosition_BadPaper, (fun z => nomatch z), fun _ => ⟨true, c.exm_BadPosition_BadPosition, fun _ a _ => ⟨_, nx (i := 0) S' hdd hz 0 rfl⟩, (fun z => nomatch z)⟩⟩⟩
  · rintro δ' ⟨d, z5, hd, e⟩
    subst e
    exact jb_one (js_retI (je_var 4 rfl) hd)
end
end PW
end
section
set_option maxHeartbeats 4000000
/-! Statements with a bag: objects that are still written, told by a word of one's own. -/
namespace PJ
open PySem PySem.Spec PyProof.Rows L2
structure BagT (da : Option Addr) (ι : Type) where
  B : ι → Hp → Hp → Prop
  st : ∀ (c : ι) {G H G' H' : Hp}, Fm da G H G' H' → B c G H → B c G' H'
structure PoX (ι : Type) where
  nx : Lv → ι → Prop
  rt : Dat → Prop
theorem PS.any {X : Cx} {st : Stmt} {ι : Type} {t : ι → TS} (h : ∀ i, PS X st (t i)) : PS X st (fun D σ H => ∃ i, t i D σ H) := ⟨fun pins s σ H D I ⟨i, q⟩ => (h i).run pins s σ H D I q⟩
section
variable {X : Cx} {en : En} {δ : Lv} {ι : Type} {β : BagT en.da ι} {c : ι} {a b e o tg iter : Expr} {es : List Expr} {R : Dat → Prop} {pos p1 p2 : Pos} {st : Stmt} {rest body sa sb : List Stmt} {P : PoX ι}
def tX (K : PySem.W.Frag) (en : En) (β : BagT en.da ι) (δ : Lv) (c : ι) (P : PoX ι) : TS := fun D σ H => ∃ G, Now K en G H σ δ ∧ β.B c G H ∧
  (∀ σ' G' H' δ' c', Ex G G' → Now K en G' H' σ' δ' → β.B c' G' H' → P.nx δ' c' → D.nx σ' H') ∧
  (∀ v G' H' d c', Now K en G' H' [] [] → β.B c' G' H' → P.rt d → Rep K G' d v → D.rt v H')
def XS (X : Cx) (en : En) (β : BagT en.da ι) (st : Stmt) (δ : Lv) (c : ι) (P : PoX ι) : Prop := PS X st (tX X.K en β δ c P)
def XB (X : Cx) (en : En) (β : BagT en.da ι) (st : List Stmt) (δ : Lv) (c : ι) (P : PoX ι) : Prop := PSs X st (tX X.K en β δ c P)
theorem xb_nil (h : P.nx δ c) : XB X en β [] δ c P := PSs.weak pss_nil fun D σ H ⟨G, S, B, k1, _⟩ => k1 σ G H δ c (Ex.refl G) S B h
theorem xb_cons {M : Lv → ι → Prop} (h1 : XS X en β st δ c { P with nx := M }) (h2 : ∀ δ' c', M δ' c' → XB X en β rest δ' c' P) : XB X en β (st :: rest) δ c P :=
  PSs.weak (pss_cons h1 (PSs.any fun (q : Lv × ι) => PSs.cond (h2 q.1 q.2))) fun D σ H ⟨G, S, B, k1, k2⟩ => ⟨G, S, B, fun σ' G' H' δ' c' e S' B' m => ⟨(δ', c'), m, G', S', B', fun s2 G2 H2 d2 c2 e2 => k1 s2 G2 H2 d2 c2 (e.trans e2), k2⟩, k2⟩
theorem xb_one (h1 : XS X en β st δ c P) : XB X en β [st] δ c P := pss_one h1
theorem now_bare {K : PySem.W.Frag} {G H : Hp} {σ : L2.St} (S : Now K en G H σ δ) : Now K en G H [] [] := ⟨⟨S.st.gh, S.st.dr, rfl, fun i sl h => by simp at h, fun i j ds es a h _ _ _ => by simp at h⟩, S.f0⟩
/-- a step that the bag does not see -/
theorem xs_setN (i : Nat) {x : Str} {p' : Pos} (hN : X.N.Nodup) (he : JE X en e δ R) (k : ∀ d, R d → P.nx (δ.set i (some (.dat d))) c) (hi : X.N[i]? = some x := by rfl) (hx : Loc X.env.scope x := by first | exact .inl rfl | exact .inr rfl)
    (hs : swapsWith e (some (.Name x p')) pos.line X.env = pure false := by rfl) (hf : X.fn x = true ∨ X.env.scope.names.lookup x = some .local := by first | exact .inl rfl | exact .inr rfl) : XS X en β (.Assign [.Name x p'] e pos) δ c P :=
  PS.weak (ps_set hN hi hx he hs hf) fun D σ H ⟨G, S, B, k1, _⟩ => ⟨G, S, fun v G' H' d f r p => k1 _ G' H' _ c f.gg ⟨(S.step f).st.set p i, (S.step f).f0⟩ (β.st c f B) (k d r)⟩
theorem xb_setN (i : Nat) {x : Str} {p' : Pos} (hN : X.N.Nodup) (he : JE X en e δ R) (k : ∀ d, R d → XB X en β rest (δ.set i (some (.dat d))) c P) (hi : X.N[i]? = some x := by rfl) (hx : Loc X.env.scope x := by first | exact .inl rfl | exact .inr rfl)
    (hs : swapsWith e (some (.Name x p')) pos.line X.env = pure false := by rfl) (hf : X.fn x = true ∨ X.env.scope.names.lookup x = some .local := by first | exact .inl rfl | exact .inr rfl) : XB X en β (.Assign [.Name x p'] e pos :: rest) δ c P :=
  xb_cons (M := fun δ' c' => ∃ d, R d ∧ δ' = δ.set i (some (.dat d)) ∧ c' = c) (xs_setN i hN he (fun d r => ⟨d, r, rfl, rfl⟩) hi hx hs hf) fun δ' c' ⟨d, r, e, e2⟩ => by rw [e, e2]; exact k d r
theorem xb_set (i : Nat) {x : Str} {p' : Pos} {d : Dat} (hN : X.N.Nodup) (he : JE X en e δ (Is d)) (k : XB X en β rest (δ.set i (some (.dat d))) c P) (hi : X.N[i]? = some x := by rfl) (hx : Loc X.env.scope x := by first | exact .inl rfl | exact .inr rfl)
    (hs : swapsWith e (some (.Name x p')) pos.line X.env = pure false := by rfl) (hf : X.fn x = true ∨ X.env.scope.names.lookup x = some .local := by first | exact .inl rfl | exact .inr rfl) : XB X en β (.Assign [.Name x p'] e pos :: rest) δ c P :=
  xb_setN i hN he (fun d' r => by rw [show d' = d from r]; exact k) hi hx hs hf
/-- name = [..] on one line, the name a local; still from then on -/
theorem js_datLcN {Po' : Po} (i : Nat) {y : Str} {py spos : Pos} {elt : Expr} {ifs : List Expr} {scope : Scope} {Rl : List Dat → Prop} (hN : X.N.Nodup) (h : LcOk X en δ elt tg iter ifs scope Rl) (k : ∀ ds, Rl ds → Po'.nx (δ.set i (some (.dat (.lst ds)))))
    (hy : X.N[i]? = some y := by rfl) (hyl : X.env.scope.names.lookup y = some .local := by rfl) (hsw : swapsWith (.ListComp elt [⟨tg, iter, ifs, 0⟩] scope pos) (some (.Name y py)) spos.line X.env = pure true := by exact sw_true rfl rfl rfl (by decide +kernel)) (hc : X.calm = true := by rfl) :
    JS X en (.Assign [.Name y py] (.ListComp elt [⟨tg, iter, ifs, 0⟩] scope pos) spos) δ Po' := by
  obtain ⟨own, wi, g, tt, te, hi, ok, hg, ht, he, hs, w⟩ := h
  exact PS.weak (ps_setLc hc hN hy hyl hsw hi ok hg ht he hs) fun D σ H ⟨G, S, k1, _⟩ => w σ H _ ⟨G, S, fun p vs G' H' ds f r hp h0 hg rs => by
    have f2 := f.still hp h0 hg
    have S2 := S.step f2
    exact k1 _ _ H' _ f2.gg ⟨S2.st.set (d := .lst ds) ⟨p, vs, rfl, upd_same, rs.mono (Ex.new hg)⟩ i, S2.f0⟩ (k ds r)⟩
theorem xs_datLcN (i : Nat) {y : Str} {py spos : Pos} {elt : Expr} {ifs : List Expr} {scope : Scope} {Rl : List Dat → Prop} (hN : X.N.Nodup) (h : LcOk X en δ elt tg iter ifs scope Rl) (k : ∀ ds, Rl ds → P.nx (δ.set i (some (.dat (.lst ds)))) c)
    (hy : X.N[i]? = some y := by rfl) (hyl : X.env.scope.names.lookup y = some .local := by rfl) (hsw : swapsWith (.ListComp elt [⟨tg, iter, ifs, 0⟩] scope pos) (some (.Name y py)) spos.line X.env = pure true := by exact sw_true rfl rfl rfl (by decide +kernel)) (hc : X.calm = true := by rfl) :
    XS X en β (.Assign [.Name y py] (.ListComp elt [⟨tg, iter, ifs, 0⟩] scope pos) spos) δ c P := by
  obtain ⟨own, wi, g, tt, te, hi, ok, hg, ht, he, hs, w⟩ := h
  exact PS.weak (ps_setLc hc hN hy hyl hsw hi ok hg ht he hs) fun D σ H ⟨G, S, B, k1, _⟩ => w σ H _ ⟨G, S, fun p vs G' H' ds f r hp h0 hg rs => by
    have f2 := f.still hp h0 hg
    have S2 := S.step f2
    exact k1 _ _ H' _ c f2.gg ⟨S2.st.set (d := .lst ds) ⟨p, vs, rfl, upd_same, rs.mono (Ex.new hg)⟩ i, S2.f0⟩ (β.st c f2 B) (k ds r)⟩
theorem xs_if {Rt : Bool → Prop} {t : Expr} (hc : JT X en t δ Rt) (ha : Rt true → XB X en β sa δ c P) (hb : Rt false → XB X en β sb δ c P) : XS X en β (.If t sa sb pos) δ c P :=
  PS.weak (ps_if hc (PSs.cond ha) (PSs.cond hb)) fun D σ H ⟨G, S, B, k1, k2⟩ => ⟨G, S, fun b G' H' f r => by
    have q : tX X.K en β δ c P D σ H' := ⟨G', S.step f, β.st c f B, fun s2 G2 H2 d2 c2 e2 => k1 s2 G2 H2 d2 c2 (f.gg.trans e2), k2⟩
    cases b with
    | true => exact ⟨r, q⟩
    | false => exact ⟨r, q⟩⟩
theorem xs_for {t : Tg} {RI : List Dat → Prop} (Inv : List Dat → Nat → Lv → ι → Prop) (hi : JI X en tg iter δ RI) (hg : JG X tg t) (h0 : ∀ items, RI items → Inv items 0 δ c)
    (hs : ∀ items i d δ' c', RI items → items[i]? = some d → Inv items i δ' c' → ∃ δ2, bindT t d δ' = some δ2 ∧ XB X en β body δ2 c' { nx := Inv items (i + 1), rt := P.rt })
    (hd : ∀ items δ' c', RI items → Inv items items.length δ' c' → P.nx δ' c') (hp : PassesOwn (model X.prog X.w) X.A X.env X.xe := by exact passes_of rfl) (hc : X.calm = true := by rfl)
    (hf : ∀ x, foldedSetIterable iter X.env x = pure x := by intro _; rfl) : XS X en β (.For tg iter body [] pos) δ c P := by
  have hb : PSs X body (fun D σ H => ∃ q : { q : List Dat × Nat × Lv × ι // XB X en β body q.2.2.1 q.2.2.2 { nx := Inv q.1 (q.2.1 + 1), rt := P.rt } }, tX X.K en β q.1.2.2.1 q.1.2.2.2 { nx := Inv q.1.1 (q.1.2.1 + 1), rt := P.rt } D σ H) :=
    PSs.any fun q => q.2
  refine PS.weak (ps_for hp hc hi hg hb hf) fun D σ H ⟨G, S, B, k1, k2⟩ => ⟨G, S, fun J G1 H1 items f ri sq => ?_⟩
  refine ⟨fun i m σ H => m = items.length - i ∧ i ≤ items.length ∧ ∃ G2 δ2 c2, Ex G1 G2 ∧ Now X.K en G2 H σ δ2 ∧ β.B c2 G2 H ∧ Inv items i δ2 c2, ⟨items.length, by simp, Nat.zero_le _, G1, δ, c, Ex.refl G1, S.step f, β.st c f B, h0 items ri⟩, ?_⟩
  rintro i m σ2 H2 ⟨rfl, hi2, G2, δ2, c2, e2, S2, B2, iv⟩
  by_cases hlt : i < items.length
  · refine .inr ⟨sq.go i H2 (e2.gh S2.gh) hlt, fun σ3 H3 => ∃ G3 δ3 c3, Ex G1 G3 ∧ Now X.K en G3 H3 σ3 δ3 ∧ β.B c3 G3 H3 ∧ Inv items (i + 1) δ3 c3, fun σ3 H3 z => ⟨items.length - (i + 1), by omega, rfl, hlt, z⟩, fun x H3 hy => ?_⟩
    have hd2 : items[i]? = some items[i] := List.getElem?_eq_getElem hlt
    obtain ⟨G3, f3, rx⟩ := sq.yld i G2 H2 x H3 _ e2 S2.gh hd2 hy
    obtain ⟨δ3, hb3, jb⟩ := hs items i _ δ2 c2 ri hd2 iv
    have f3' := f3.lift S2.drw
    have S3 := S2.step f3'
    refine gT_ok hb3 S3 rx fun σ4 S4 _ => ⟨⟨(items, i, δ3, c2), jb⟩, G3, S4, β.st c2 f3' B2, fun s5 G5 H5 d5 c5 e5 n5 b5 m5 => ⟨G5, d5, c5, (e2.trans f3.gg).trans e5, n5, b5, m5⟩, k2⟩
  · have e : i = items.length := by omega
    rw [e] at iv ⊢
    exact .inl ⟨sq.stop H2 (e2.gh S2.gh), k1 σ2 G2 H2 δ2 c2 (f.gg.trans e2) S2 B2 (hd items δ2 c2 ri iv)⟩
theorem xs_forI {t : Tg} {items : List Dat} (Inv : Nat → Lv → ι → Prop) (hi : JI X en tg iter δ (Is items)) (hg : JG X tg t) (h0 : Inv 0 δ c)
    (hs : ∀ i d δ' c', items[i]? = some d → Inv i δ' c' → ∃ δ2, bindT t d δ' = some δ2 ∧ XB X en β body δ2 c' { nx := Inv (i + 1), rt := P.rt })
    (hd : ∀ δ' c', Inv items.length δ' c' → P.nx δ' c') (hp : PassesOwn (model X.prog X.w) X.A X.env X.xe := by exact passes_of rfl) (hc : X.calm = true := by rfl)
    (hf : ∀ x, foldedSetIterable iter X.env x = pure x := by intro _; rfl) : XS X en β (.For tg iter body [] pos) δ c P :=
  xs_for (fun its i δ' c' => Inv i δ' c') hi hg (fun its r => h0) (fun its i d δ' c' r hd2 iv => by
    rw [show its = items from r] at hd2
    exact hs i d δ' c' hd2 iv) (fun its δ' c' r iv => by
    rw [show its = items from r] at iv
    exact hd δ' c' iv) hp hc hf
/-- a list of the bag is written -/
theorem now_write {K : PySem.W.Frag} {G H : Hp} {σ : L2.St} {p : Addr} {u : HO} (S : Now K en G H σ δ) (pl : PlainL δ) (hg : G p = none) (h0 : en.H0 p = none) : Now K en G (upd H p u) σ δ := by
  have gh : Gh G (upd H p u) := fun b o q => by
    rw [upd_ne (fun z => by rw [z, hg] at q; cases q)]
    exact S.gh b o q
  have dr : ∀ a, en.da = some a → (∃ o, en.H0 a = some o) ∧ DrwOk G (upd H p u) a := fun a e => by
    obtain ⟨⟨o, ho⟩, pos, nb, ns, h1, h2, h3, h4⟩ := S.st.dr a e
    exact ⟨⟨o, ho⟩, pos, nb, ns, by rw [upd_ne (fun z => by rw [z, h0] at ho; cases ho)]; exact h1, h2, h3, h4⟩
  refine ⟨⟨gh, dr, S.st.len, fun i sl h => ?_, fun i j ds es a h1 _ _ _ => ?_⟩, S.f0.gg, gh, fun b o e m q => ?_, S.f0.new, dr⟩
  · obtain ⟨v, h1, h2⟩ := S.st.at_ i sl h
    rcases pl i sl h with ⟨d, e⟩ | e
    · subst e
      exact ⟨v, h1, h2⟩
    · subst e
      exact ⟨v, h1, h2⟩
  · rcases pl i _ h1 with ⟨d, e⟩ | e <;> cases e
  · rw [upd_ne (fun z => by rw [z, h0] at q; cases q)]
    exact S.f0.hh b o e m q
/-- the bag's objects stand still from now on -/
theorem now_frozen {K : PySem.W.Frag} {G H : Hp} {σ : L2.St} {S : Addr → Prop} [DecidablePred S] (N : Now K en G H σ []) (hS : ∀ a, S a → G a = none ∧ en.H0 a = none ∧ ∃ xs, H a = some (.lst xs)) :
    Fm en.da en.G0 en.H0 (fun a => if S a then H a else G a) H ∧ Ex G (fun a => if S a then H a else G a) := by
  have ex : Ex G (fun a => if S a then H a else G a) := fun a o h => by
    show (if S a then H a else G a) = some o
    rw [if_neg (fun ha => by rw [(hS a ha).1] at h; cases h)]
    exact h
  refine ⟨⟨N.f0.gg.trans ex, fun a o h => ?_, N.f0.hh, fun b o h => ?_, fun a e => ?_⟩, ex⟩
  · have h2 : (if S a then H a else G a) = some o := h
    by_cases ha : S a
    · obtain ⟨_, _, xs, hx⟩ := hS a ha
      rw [if_pos ha, hx] at h2
      rw [hx, ← Option.some.inj h2]
      exact HoOk.same nomk_l
    · rw [if_neg ha] at h2
      exact N.gh a o h2
  · show (if S b then H b else G b) = en.G0 b
    rw [if_neg (fun hb => by rw [(hS b hb).2.1] at h; cases h)]
    exact N.f0.new b o h
  · obtain ⟨⟨o, ho⟩, pos, nb, ns, h1, h2, h3, h4⟩ := N.st.dr a e
    refine ⟨⟨o, ho⟩, pos, nb, ns, h1, h2, ?_, ex _ _ h4⟩
    show (if S a then H a else G a) = none
    rw [if_neg (fun ha => by rw [(hS a ha).2.1] at ho; cases ho)]
    exact h3
/-- from a reading with the bag told, back -/
theorem now_off {K : PySem.W.Frag} {G H G1 H1 : Hp} {S : Addr → Prop} [DecidablePred S] (f : Fm none (fun a => if S a then H a else G a) H G1 H1) (hS : ∀ a, S a → G a = none ∧ ∃ xs, H a = some (.lst xs)) :
    Fm none G H (fun a => if S a then none else G1 a) H1 ∧ ∀ a, S a → H1 a = H a := by
  have gS : ∀ a, S a → H1 a = H a := fun a ha => by
    obtain ⟨g, xs, hx⟩ := hS a ha
    rw [hx]
    refine f.hh a _ (fun z => nomatch z) (fun n z => ?_) hx
    have z2 : (if S a then H a else G a) = some (.own n) := z
    rw [if_pos ha, hx] at z2
    cases z2
  refine ⟨⟨fun a o h => ?_, fun a o h => ?_, fun b o e m h => f.hh b o e (fun n z => ?_) h, fun b o h => ?_, fun a e => nomatch e⟩, gS⟩
  · show (if S a then none else G1 a) = some o
    rw [if_neg (fun ha => by rw [(hS a ha).1] at h; cases h)]
    exact f.gg a o (show (if S a then H a else G a) = some o by rw [if_neg (fun ha => by rw [(hS a ha).1] at h; cases h)]; exact h)
  · have h2 : (if S a then none else G1 a) = some o := h
    by_cases ha : S a
    · rw [if_pos ha] at h2
      cases h2
    · rw [if_neg ha] at h2
      exact f.gh a o h2
  · have z2 : (if S b then H b else G b) = some (.own n) := z
    by_cases hb : S b
    · obtain ⟨g, xs, hx⟩ := hS b hb
      rw [if_pos hb, hx] at z2
      cases z2
    · rw [if_neg hb] at z2
      exact m n z2
  · show (if S b then none else G1 b) = G b
    by_cases hb : S b
    · rw [if_pos hb, (hS b hb).1]
    · rw [if_neg hb]
      have := f.new b o h
      rw [this]
      exact if_neg hb
theorem xs_ret (he : JE X en e δ P.rt) : XS X en β (.Return (some e) pos) δ c P :=
  PS.weak (ps_ret he) fun D σ H ⟨G, S, B, _, k2⟩ => ⟨G, S, fun v G' H' d f r p => k2 v G' H' d c (now_bare (S.step f)) (β.st c f B) r p⟩
end
end PJ
end
section
set_option maxHeartbeats 4000000
namespace PW
open PySem PySem.Spec PyProof.Rows L2 PJ PF PX
/-- a grid of lists -/
theorem gridL_grid {k : Nat} {g : Gr} : IsGrid k g (.lst (gridL k g)) := isGrid_l
section
variable {P : Program} {w : World} {K : PySem.W.Frag} {mg : Str → Option Value} {base : Heap}
/-! ### _law_turned_entry -/
/-- what may come of an entry o, none further than B -/
def turnOk (w : Nat) (B : Int) (o : Option Int) : Prop := ∀ i, o = some i → (-(B + 12) ≤ i ∧ i ≤ B + 12) ∨ (w = 3 ∧ i = 1 - 10 ^ 100)
def W__law_turned_entry : Wf := fun ss R _ => ∃ (o : Option Int) (w x : Nat) (B : Int), ss = [.drw, .dat (oD o), .dat (.int (w : Int)), .dat (.int (x : Int))] ∧ w ≤ 3 ∧ 1 ≤ x ∧ x ≤ 12 ∧ 0 ≤ B ∧ (∀ i, o = some i → -B ≤ i ∧ i ≤ B) ∧ ∀ o', turnOk w B o' → R (oD o')
theorem ok__law_turned_entry (c : Fc K mg) : DefJ P w K mg base "_law_turned_entry" 2 ["_law_draws_here", "_law_entry", "_law_word", "_law_extra"] W__law_turned_entry := by
  obtain ⟨fd, F⟩ := c.f__law_turned_entry
  refine ⟨fd, defj _ F sc__law_turned_entry (fun ss R Z ⟨o, w, x, B, e, _⟩ => by rw [e]; rfl) (fun cdv A outer s H E en ss R Z hr ⟨o, w, x, B, e, hw, hx1, hx2, hB, hb, q⟩ hZ => ?_), F.bindsN (fun _ _ _ _ _ _ us hl => match us, hl with | [_, _, _, _], _ => rfl), c.g__law_turned_entry, F.kp⟩
  subst e
  have nd := sc__law_turned_entry.nd
  have hr1 : Room 1 _ := hr
  have q1 : ∀ i : Int, -(B + 12) ≤ i → i ≤ B + 12 → R (.int i) := fun i h1 h2 => q (some i) fun j e => .inl (by rw [← Option.some.inj e]; exact ⟨h1, h2⟩)
  have q0 : R .non := q none fun j e => nomatch e
  refine jb_ifX (jt_eq (je_var 2 rfl) je_int) (fun _ => ?_) (fun z0 => ?_)
  · cases o with
    | none => exact jb_ifX (jt_isN (je_var 1 rfl)) (fun _ => jb_one (js_retI je_non q0)) (fun z => nomatch (show false = true from z))
    | some i =>
      have h := hb i rfl
      exact jb_ifX (jt_isN (je_var 1 rfl)) (fun z => nomatch (show true = false from z)) (fun _ => jb_one (js_retI (je_sub (je_var 1 rfl) (je_var 3 rfl)) (q1 _ (by omega) (by omega))))
  refine jb_ifX (jt_eq (je_var 2 rfl) je_int) (fun _ => ?_) (fun z1 => ?_)
  · cases o with
    | none => exact jb_ifX (JW.jt (jw_orI (y := false) (jt_isN (je_var 1 rfl)) fun z => nomatch (show true = false from z))) (fun _ => jb_one (js_retI (je_var 3 rfl) (q1 _ (by omega) (by omega)))) (fun z => nomatch (show false = true from z))
    | some i =>
      have h := hb i rfl
      refine jb_ifX (JW.jt (jw_orI (jt_isN (je_var 1 rfl)) fun _ => jw_or1 (jt_gt (je_var 1 rfl) (je_var 3 rfl)))) (fun _ => jb_one (js_retI (je_var 3 rfl) (q1 _ (by omega) (by omega)))) (fun _ => jb_one (js_retI (je_var 1 rfl) (q1 i (by omega) (by omega))))
  refine jb_ifX (jt_eq (je_var 2 rfl) je_int) (fun _ => jb_one (js_retI je_int (q1 0 (by omega) (by omega)))) (fun z2 => ?_)
  have w3 : w = 3 := by
    have e0 := of_decide_eq_false (show false = _ from z0).symm
    have e1 := of_decide_eq_false (show false = _ from z1).symm
    have e2 := of_decide_eq_false (show false = _ from z2).symm
    omega
  cases o with
  | none => exact jb_ifX (jt_isN (je_var 1 rfl)) (fun _ => jb_one (js_retI (je_var 3 rfl) (q1 _ (by omega) (by omega)))) (fun z => nomatch (show false = true from z))
  | some i =>
    have h := hb i rfl
    refine jb_ifX (jt_isN (je_var 1 rfl)) (fun z => nomatch (show true = false from z)) (fun _ => ?_)
    refine jb_one (js_ret (je_ixLN (ds := [.int (i + 1), .int (i - 1), .non, .int (i + (x : Int)), .int (1 - 10 ^ 50 * 10 ^ 50)]) ((jf_lstI (ja_c (je_add (je_var 1 rfl) je_int) (ja_c (je_sub (je_var 1 rfl) je_int) (ja_c je_non (ja_c (je_add (je_var 1 rfl) (je_var 3 rfl)) (ja_c (je_sub je_int (je_mulX (je_pow je_int je_int (by decide)) (je_pow je_int je_int (by decide)) (mulx_ok (a := 200) (b := 200) (by decide +kernel) (by decide +kernel) (by decide)))) ja_nil))))) (szl rfl)).je1) (je_take 0 (ok__law_take c) rfl (n := 5) je_int (by decide) hr1) fun d ⟨r, hr', e⟩ => ?_))
    have hc : r = 0 ∨ r = 1 ∨ r = 2 ∨ r = 3 ∨ r = 4 := by omega
    rcases hc with e2 | e2 | e2 | e2 | e2
    · exact ⟨r, _, e, by rw [e2]; rfl, q1 (i + 1) (by omega) (by omega)⟩
    · exact ⟨r, _, e, by rw [e2]; rfl, q1 (i - 1) (by omega) (by omega)⟩
    · exact ⟨r, _, e, by rw [e2]; rfl, q0⟩
    · exact ⟨r, _, e, by rw [e2]; rfl, q1 (i + x) (by omega) (by omega)⟩
    · exact ⟨r, .int (1 - 10 ^ 50 * 10 ^ 50), e, by rw [e2]; rfl, q (some (1 - 10 ^ 50 * 10 ^ 50)) fun j e3 => .inr ⟨w3, by rw [← Option.some.inj e3]; decide +kernel⟩⟩
/-! ### _law_copied -/
def gridsL (k n : Nat) (g : Nat → Gr) : List Dat := (List.range n).map fun i => .lst (gridL k (g i))
def W__law_copied : Wf := fun ss R _ => ∃ (k n : Nat) (td : Dat) (ds : List Dat) (g : Nat → Gr), ss = [.dat td] ∧ k ≤ 1000 ∧ n ≤ 1000 ∧ Seqd td ds ∧ ds.length = n ∧ (∀ i, i < n → ∃ d, ds[i]? = some d ∧ IsGrid k (g i) d) ∧ R (.lst (gridsL k n g))
theorem ok__law_copied (c : Fc K mg) : DefJ P w K mg base "_law_copied" 1 ["_law_thing"] W__law_copied := by
  obtain ⟨fd, F⟩ := c.f__law_copied
  refine ⟨fd, defj _ F sc__law_copied (fun ss R Z ⟨k, n, td, ds, g, e, _⟩ => by rw [e]; rfl) (fun cdv A outer s H E en ss R Z hr ⟨k, n, td, ds, g, e, hk, hn, hT, hl, hg, q⟩ hZ => ?_), F.bindsN (fun _ _ _ _ _ _ us hl => match us, hl with | [_], _ => rfl), c.g__law_copied, F.kp⟩
  subst e
  have nd := sc__law_copied.nd
  refine jb_own 1 nd (jf_lstI (ds := []) ja_nil (Nat.zero_le _)) ?_
  refine jb_cons (M := fun δ' => ∃ z2 z3 z4, δ' = [some (.dat td), some (.own (gridsL k n g)), z2, z3, z4])
    (js_forI (fun i δ' => ∃ z2 z3 z4, δ' = [some (.dat td), some (.own (gridsL k i g)), z2, z3, z4]) (ji_seq hT (je_var 0 rfl)) (jg_nm 2 nd) ⟨none, none, none, rfl⟩ (fun i d δ' hd ⟨z2, z3, z4, e⟩ => ?_) (fun δ' ⟨z2, z3, z4, e⟩ => ⟨z2, z3, z4, by rw [hl] at e; exact e⟩)) ?_
  · have hi : i < n := by rw [← hl]; exact (List.getElem?_eq_some_iff.mp hd).1
    obtain ⟨d', hd', hG⟩ := hg i hi
    rw [hd] at hd'
    have ed := Option.some.inj hd'
    subst e ed
    obtain ⟨rows, hGG, hGl, hGr⟩ := hG
    refine ⟨_, rfl, jb_one (js_app 1 rfl (((lc_sq 3 (fun x => .lst (rowD k (g i x))) hGG (je_var 2 rfl) (by omega) (blkOk_by (by kernel_rfl)) (fun s H C cl fp => jg_nm 3 nd) (fun x dx hdx s H C cl fp => ?_)).jf nd).je1) (by unfold gridsL; rw [List.length_map, List.length_range, sizeLine_eq]; omega) fun d e => ?_)⟩
    · have hx : x < k := by rw [← hGl]; exact (List.getElem?_eq_some_iff.mp hdx).1
      obtain ⟨r, hr1, hrr⟩ := hGr x hx
      rw [hdx] at hr1
      have er := Option.some.inj hr1
      subst er
      refine (((lc_sq 4 (fun y => oD (g i x y)) hrr (je_var 3 rfl) (by rw [rowD_len]; omega) (blkOk_by (by kernel_rfl)) (fun s H C cl fp => jg_nm 4 nd) (fun y dy hdy s H C cl fp => ?_)).jf nd).je1).is (by rw [rowD_len]; rfl)
      obtain ⟨hy, ey⟩ := rowD_back hdy
      rw [ey]
      exact je_var 4 rfl
    · rw [show d = _ from e, hGl, show gridsL k i g ++ [.lst ((List.range k).map fun x => Dat.lst (rowD k (g i x)))] = gridsL k (i + 1) g from map_snoc _ i]
      exact ⟨_, _, _, rfl⟩
  · rintro δ' ⟨z2, z3, z4, e⟩
    subst e
    exact jb_freeze 1 rfl (jb_one (js_retI (je_var 1 rfl) q))
end
end PW
end
section
set_option maxHeartbeats 4000000
namespace PJ
open PySem PySem.Spec PyProof.Rows L2
section
variable {K : PySem.W.Frag} {en : En} {G G2 Gu H : Hp}
mutual
/-- no list in it -/
def nl : Dat → Bool
  | .tup ds => nls ds
  | .ins _ ds => nls ds
  | .lst _ => false
  | .obj _ _ => false
  | _ => true
def nls : List Dat → Bool
  | [] => true
  | d :: ds => nl d && nls ds
end
theorem nls_all : ∀ {ds : List Dat}, (∀ d ∈ ds, nl d = true) → nls ds = true
  | [], _ => rfl
  | d :: ds, h => by
    show (nl d && nls ds) = true
    rw [h d List.mem_cons_self, nls_all fun x hx => h x (List.mem_cons_of_mem d hx)]
    rfl
/-- alike but for lists -/
def ExN (G G2 : Hp) : Prop := ∀ a o, G a = some o → (∀ xs, o ≠ .lst xs) → G2 a = some o
mutual
theorem nl_rep (e : ExN G G2) : ∀ {d : Dat} {v : V}, nl d = true → Rep K G d v → Rep K G2 d v
  | .any, _, _, h => h
  | .non, _, _, h => h
  | .bl _, _, _, h => h
  | .int _, _, _, h => h
  | .str _, _, _, h => h
  | .lst _, _, n, _ => nomatch n
  | .tup _, _, n, ⟨a, vs, h1, h2, h3⟩ => ⟨a, vs, h1, e _ _ h2 (fun _ z => nomatch z), nls_rep e n h3⟩
  | .rng _ _, _, _, ⟨a, h1, h2⟩ => ⟨a, h1, e _ _ h2 (fun _ z => nomatch z)⟩
  | .ins _ _, _, n, ⟨a, dx, vs, h1, h2, h3⟩ => ⟨a, dx, vs, h1, e _ _ h2 (fun _ z => nomatch z), nls_rep e n h3⟩
  | .mrow _ _ _, _, _, h => h
  | .obj _ _, _, n, _ => nomatch n
theorem nls_rep (e : ExN G G2) : ∀ {ds : List Dat} {vs : List V}, nls ds = true → Reps K G ds vs → Reps K G2 ds vs
  | [], _, _, h => h
  | d :: ds, _, n, ⟨v, r, h1, h2, h3⟩ => ⟨v, r, h1, nl_rep e (Bool.and_eq_true_iff.mp n).1 h2, nls_rep e (Bool.and_eq_true_iff.mp n).2 h3⟩
end
def noLst (G : Hp) : Hp := fun a => match G a with
  | some (.lst _) => none
  | o => o
theorem noLst_ex : Ex (noLst G) G := fun a o h => by
  unfold noLst at h
  cases e : G a with
  | none => rw [e] at h; cases h
  | some u =>
    rw [e] at h
    cases u with
    | lst xs => cases h
    | _ => exact h
theorem noLst_exN : ExN G (noLst G) := fun a o h n => by
  unfold noLst
  rw [h]
  cases o with
  | lst xs => exact absurd rfl (n xs)
  | _ => rfl
theorem noLst_no {a : Addr} {xs : List V} : noLst G a ≠ some (.lst xs) := fun h => by
  unfold noLst at h
  cases e : G a with
  | none => rw [e] at h; cases h
  | some u =>
    rw [e] at h
    cases u with
    | lst ys => cases h
    | _ => cases h
/-- a new beginning, on a part of what stands still -/
theorem now_fresh {σ : L2.St} {δ δ1 : Lv} (N : Now K en G H σ δ) (ex : Ex G2 G) (hl : δ1.length = δ.length)
    (h : ∀ (i : Nat) sl, δ1[i]? = some (some sl) → ∃ d', sl = .dat d' ∧ ((∃ d, δ[i]? = some (some (.dat d)) ∧ ∀ v, Rep K G d v → Rep K G2 d' v) ∨ (δ[i]? = some (some .drw) ∧ ∃ a, en.da = some a ∧ d' = .mrow a 0 0))) : Now K ⟨none, G2, H⟩ G2 H σ δ1 := by
  refine ⟨⟨ex.gh N.gh, (fun a e => nomatch e), by rw [hl]; exact N.st.len, fun i sl hi => ?_, fun i j ds es a h1 _ _ _ => ?_⟩, Fm.same (ex.gh N.gh)⟩
  · obtain ⟨d', e, ⟨d, h1, h2⟩ | ⟨h1, a, ha, ed⟩⟩ := h i sl hi
    · subst e
      obtain ⟨v, g1, g2⟩ := N.st.at_ i _ h1
      exact ⟨v, g1, h2 v g2⟩
    · subst e
      obtain ⟨v, g1, b, g2, g3⟩ := N.st.at_ i _ h1
      rw [ha] at g2
      cases g2
      subst ed
      exact ⟨v, g1, g3⟩
  · obtain ⟨d', e, _⟩ := h i _ h1
    cases e
/-- a list of n of T -/
def Tl (T : Dat → Prop) (n : Nat) : Dat → Prop := fun d => ∃ ds, d = .lst ds ∧ ds.length = n ∧ ∀ x ∈ ds, T x
theorem thaw_reps {T : Dat → Prop} : ∀ {ds : List Dat} {vs : List V}, (∀ x v, x ∈ ds → Rep K G x v → ∃ d', T d' ∧ Rep K G2 d' v ∧ ∃ b, v = .ref b) → Reps K G ds vs →
    ∃ ds', ds'.length = ds.length ∧ (∀ x ∈ ds', T x) ∧ Reps K G2 ds' vs ∧ ∀ v ∈ vs, ∃ b, v = .ref b
  | [], vs, _, r => ⟨[], rfl, (fun _ h => nomatch h), r, by rw [show vs = [] from r]; exact fun _ h => nomatch h⟩
  | d :: ds, vs, h, r => by
    obtain ⟨v, us, e, h1, h2⟩ := (show ∃ v us, vs = v :: us ∧ Rep K G d v ∧ Reps K G ds us from r)
    obtain ⟨d', t1, r1, hb⟩ := h d v List.mem_cons_self h1
    obtain ⟨ds', l, t2, r2, hb2⟩ := thaw_reps (fun x v hx => h x v (List.mem_cons_of_mem d hx)) h2
    rw [e]
    refine ⟨d' :: ds', by rw [List.length_cons, List.length_cons, l], fun x hx => ?_, Reps.cons r1 r2, fun u hu => ?_⟩
    · rcases List.mem_cons.mp hx with z | z
      · rw [z]
        exact t1
      · exact t2 x z
    · rcases List.mem_cons.mp hu with z | z
      · rw [z]
        exact hb
      · exact hb2 u z
theorem thaw_lst {T : Dat → Prop} {ds : List Dat} {v : V} (hS : ∀ a vs, G a = some (.lst vs) → (∀ u ∈ vs, ∃ b, u = V.ref b) → G2 a = some (.lst vs)) (h : ∀ x v, x ∈ ds → Rep K G x v → ∃ d', T d' ∧ Rep K G2 d' v ∧ ∃ b, v = .ref b) (r : Rep K G (.lst ds) v) :
    ∃ d', Tl T ds.length d' ∧ Rep K G2 d' v ∧ ∃ b, v = .ref b := by
  obtain ⟨a, vs, ev, ha, rs⟩ := rep_lst r
  obtain ⟨ds', l, t, r2, hb⟩ := thaw_reps h rs
  exact ⟨.lst ds', ⟨ds', rfl, l, t⟩, ⟨a, vs, ev, hS a vs ha hb, r2⟩, a, ev⟩
theorem reps_of {D : Nat → Dat} : ∀ {vs : List V} {n : Nat}, vs.length = n → (∀ (i : Nat) v, vs[i]? = some v → Rep K G (D i) v) → Reps K G ((List.range n).map D) vs := fun {vs} => by
  intro n
  induction n generalizing vs with
  | zero =>
    intro h _
    rw [List.length_eq_zero_iff.mp h]
    exact Reps.nil
  | succ n ih =>
    intro h hv
    rw [List.range_succ, List.map_append]
    obtain ⟨us, u, e⟩ : ∃ us u, vs = us ++ [u] := ⟨vs.dropLast, vs.getLast (fun z => by rw [z] at h; cases h), (List.dropLast_concat_getLast _).symm⟩
    subst e
    rw [List.length_append, List.length_singleton] at h
    refine Reps.append (ih (by omega) fun i v hi => hv i v ?_) (Reps.one (hv n _ ?_))
    · rw [List.getElem?_append_left (List.getElem?_eq_some_iff.mp hi).1]
      exact hi
    · rw [List.getElem?_append_right (by omega), show n - us.length = 0 by omega]
      rfl
theorem un_lst {Y : Type} [Inhabited Y] {T : Dat → Prop} {Q : Y → Prop} {D : Y → Dat} {n : Nat} (ex : Ex G Gu) (h : ∀ d v, T d → Rep K G d v → ∃ y, Q y ∧ Rep K Gu (D y) v) (d : Dat) (v : V) (t : Tl T n d) (r : Rep K G d v) :
    ∃ ys : Nat → Y, (∀ i, i < n → Q (ys i)) ∧ Rep K Gu (.lst ((List.range n).map fun i => D (ys i))) v := by
  obtain ⟨ds, e, hl, ht⟩ := t
  subst e
  obtain ⟨a, vs, ev, ha, rs⟩ := rep_lst r
  have hlv := rs.length
  have each : ∀ i, i < n → ∃ y, Q y ∧ ∀ v, vs[i]? = some v → Rep K Gu (D y) v := fun i hi => by
    have h1 : ds[i]? = some (ds[i]'(by omega)) := List.getElem?_eq_getElem (by omega)
    obtain ⟨u, hu, ru⟩ := rs.get h1
    obtain ⟨y, hy, ry⟩ := h _ u (ht _ (List.mem_of_getElem? h1)) ru
    exact ⟨y, hy, fun v hv => by rw [hu] at hv; rw [← Option.some.inj hv]; exact ry⟩
  have pick : ∀ i, ∃ y : Y, i < n → Q y ∧ ∀ v, vs[i]? = some v → Rep K Gu (D y) v := fun i => by
    by_cases hi : i < n
    · obtain ⟨y, h1⟩ := each i hi
      exact ⟨y, fun _ => h1⟩
    · exact ⟨default, fun z => absurd z hi⟩
  refine ⟨fun i => Classical.choose (pick i), fun i hi => (Classical.choose_spec (pick i) hi).1, a, vs, ev, ex _ _ ha, reps_of (by omega) fun i v hv => ?_⟩
  have hi : i < n := by
    have := (List.getElem?_eq_some_iff.mp hv).1
    omega
  exact (Classical.choose_spec (pick i) hi).2 v hv
end
end PJ
namespace PW
open PySem PySem.Spec PyProof.Rows L2 PJ PF PX
theorem oD_rep {K : PySem.W.Frag} {G : Hp} {o : Option Int} {v : V} : Rep K G (oD o) v ↔ v = oV o := by
  cases o with
  | none => exact Iff.rfl
  | some i => exact Iff.rfl
theorem rowD_vals {K : PySem.W.Frag} {G : Hp} {k : Nat} {f : Nat → Option Int} {vs : List V} (r : Reps K G (rowD k f) vs) : vs = ((List.range k).map f).map oV := by
  refine List.ext_getElem? fun i => ?_
  have hl := r.length
  rw [rowD_len] at hl
  by_cases hi : i < k
  · obtain ⟨v, hv, rv⟩ := r.get (rowD_get (f := f) hi)
    rw [hv, List.getElem?_map, List.getElem?_map, List.getElem?_range hi, oD_rep.mp rv]
    rfl
  · rw [List.getElem?_eq_none (by omega), List.getElem?_eq_none (by simp; omega)]
/-- a row of the bag: k numbers within the bound -/
def RG (k c : Nat) (u : Option HO) : Prop := ∃ os : List (Option Int), u = some (.lst (os.map oV)) ∧ os.length = k ∧ ∀ o ∈ os, small c o
def T0 (S : Addr → Prop) : Dat → Prop := fun d => ∃ a, d = .mrow a 0 0 ∧ S a
/-- rows that are still written -/
def bagR (en : En) (S : Addr → Prop) (k : Nat) : BagT en.da Nat where
  B := fun c G H => ∀ a, S a → G a = none ∧ en.H0 a = none ∧ en.da ≠ some a ∧ RG k c (H a)
  st := fun c G H G' H' f h a ha => by
    obtain ⟨h1, h2, h3, os, h4, h5⟩ := h a ha
    exact ⟨by rw [f.new a _ h4]; exact h1, h2, h3, os, f.hh a _ h3 (nomk_none h1) h4, h5⟩
theorem bnd_le {c : Nat} (h : c < 10000000) : bnd c + 12 ≤ bnd (c + 1) := by
  unfold bnd
  rw [if_pos h]
  split
  · omega
  · omega
theorem bnd_nn (c : Nat) : 0 ≤ bnd c ∧ bnd c ≤ 10 ^ 100 - 1 := by
  unfold bnd
  split
  · omega
  · omega
theorem small_mono {c c' : Nat} {o : Option Int} (h : small c o) (l : bnd c ≤ bnd c') : small c' o := fun i e => by
  have := h i e
  omega
def nextC (w c : Nat) : Nat := if w = 3 then 10000000 else c + 1
theorem next_le {w c : Nat} (h : c < 10000000) : bnd c ≤ bnd (nextC w c) := by
  have h1 := bnd_le h
  unfold nextC
  split
  · show bnd c ≤ bnd 10000000
    unfold bnd
    rw [if_pos h, if_neg (by omega)]
    omega
  · omega
theorem next_ok {w c : Nat} {o : Option Int} (h : c < 10000000) (t : turnOk w (bnd c) o) : small (nextC w c) o := fun i e => by
  have h1 := bnd_le h
  rcases t i e with ⟨h2, h3⟩ | ⟨h2, h3⟩
  · unfold nextC
    split
    · show -(bnd 10000000) ≤ i ∧ i ≤ bnd 10000000
      unfold bnd at h2 h3 ⊢
      rw [if_pos h] at h2 h3
      rw [if_neg (by omega)]
      omega
    · omega
  · unfold nextC
    rw [if_pos h2, h3]
    show -(bnd 10000000) ≤ _ ∧ _ ≤ bnd 10000000
    unfold bnd
    rw [if_neg (by omega)]
    omega
section
variable {X : Cx} {en : En} {δ : Lv} {p1 p2 p3 p4 p5 p6 p7 p8 p9 p10 p11 p12 : Pos} {P : PoX Nat}
theorem xs_turn {S : Addr → Prop} {k c a j w x : Nat} (F : DefJ X.prog X.w X.K X.mg X.base "_law_turned_entry" 2 ["_law_draws_here", "_law_entry", "_law_word", "_law_extra"] W__law_turned_entry) (hr : Room 2 X.A) (pl : PlainL δ)
    (h0 : δ[0]? = some (some .drw)) (h3 : δ[3]? = some (some (.dat (.int (w : Int))))) (h7 : δ[7]? = some (some (.dat (.int (x : Int))))) (h10 : δ[10]? = some (some (.dat (.mrow a 0 0)))) (h11 : δ[11]? = some (some (.dat (.int (j : Int)))))
    (ha : S a) (hj : j < k) (hw : w ≤ 3) (hx1 : 1 ≤ x) (hx2 : x ≤ 12) (hc : c < 10000000) (hk : P.nx δ (nextC w c)) (n0 : X.N[0]? = some ("_law_draws_here" : Str) := by rfl) (n3 : X.N[3]? = some ("_law_word" : Str) := by rfl) (n7 : X.N[7]? = some ("_law_extra" : Str) := by rfl) (n10 : X.N[10]? = some ("_law_row" : Str) := by rfl) (n11 : X.N[11]? = some ("_law_at" : Str) := by rfl)
    (v0 : Vis X.env.scope "_law_draws_here" := by exact Or.inl rfl) (v3 : Vis X.env.scope "_law_word" := by exact Or.inl rfl) (v7 : Vis X.env.scope "_law_extra" := by exact Or.inl rfl) (v10 : Vis X.env.scope "_law_row" := by exact Or.inl rfl) (v11 : Vis X.env.scope "_law_at" := by exact Or.inl rfl)
    (hg : Gl X "_law_turned_entry" := by rfl)
    (e1 : starEach [.Name "_law_extra" p10] X.env = (false, eval (.Name "_law_extra" p10) X.env) :: starEach [] X.env := by rfl)
    (e2 : starEach [.Name "_law_word" p9, .Name "_law_extra" p10] X.env = (false, eval (.Name "_law_word" p9) X.env) :: starEach [.Name "_law_extra" p10] X.env := by rfl)
    (e3 : starEach [.Subscript (.Name "_law_row" p6) (.Name "_law_at" p7) p8, .Name "_law_word" p9, .Name "_law_extra" p10] X.env = (false, eval (.Subscript (.Name "_law_row" p6) (.Name "_law_at" p7) p8) X.env) :: starEach [.Name "_law_word" p9, .Name "_law_extra" p10] X.env := by rfl)
    (e4 : starEach [.Name "_law_draws_here" p5, .Subscript (.Name "_law_row" p6) (.Name "_law_at" p7) p8, .Name "_law_word" p9, .Name "_law_extra" p10] X.env = (false, eval (.Name "_law_draws_here" p5) X.env) :: starEach [.Subscript (.Name "_law_row" p6) (.Name "_law_at" p7) p8, .Name "_law_word" p9, .Name "_law_extra" p10] X.env := by rfl)
    (hpl : (backTo p11 (starEach [.Subscript (.Name "_law_row" p6) (.Name "_law_at" p7) p8, .Name "_law_word" p9, .Name "_law_extra" p10] X.env)).any (·.1) = false := by rfl)
    (has : ∀ v, assign (.Subscript (.Name "_law_row" p1) (.Name "_law_at" p2) p3) X.env v = (do
      let ov ← holding [v] (eval (.Name "_law_row" p1) X.env)
      let iv ← holding [v, ov] (eval (.Name "_law_at" p2) X.env)
      standAt p3
      holding [v, ov, iv] (setItem ov iv v)
      release [v, ov, iv] []) := by intro _; rfl)
    (hs : swapsWithSole [.Subscript (.Name "_law_row" p1) (.Name "_law_at" p2) p3] (.Call (.Name "_law_turned_entry" p4) [.Name "_law_draws_here" p5, .Subscript (.Name "_law_row" p6) (.Name "_law_at" p7) p8, .Name "_law_word" p9, .Name "_law_extra" p10] [] p11) p12.line X.env = pure false := by rfl)
    (hsw : swappedStores [.Subscript (.Name "_law_row" p1) (.Name "_law_at" p2) p3] (.Call (.Name "_law_turned_entry" p4) [.Name "_law_draws_here" p5, .Subscript (.Name "_law_row" p6) (.Name "_law_at" p7) p8, .Name "_law_word" p9, .Name "_law_extra" p10] [] p11) X.env = pure none := by rfl)
    (h1 : (assignEach [.Subscript (.Name "_law_row" p1) (.Name "_law_at" p2) p3] X.env).map (·.2) = [assign (.Subscript (.Name "_law_row" p1) (.Name "_law_at" p2) p3) X.env] := by rfl) :
    XS X en (bagR en S k) (.Assign [.Subscript (.Name "_law_row" p1) (.Name "_law_at" p2) p3] (.Call (.Name "_law_turned_entry" p4) [.Name "_law_draws_here" p5, .Subscript (.Name "_law_row" p6) (.Name "_law_at" p7) p8, .Name "_law_word" p9, .Name "_law_extra" p10] [] p11) p12) δ c P := by
  obtain ⟨fd, F1, hb, hm, hkp⟩ := F
  refine PS.weak (ps_asg (pe_call F1 hr hg hm hkp hb .nil passL (pa_cons (pe_var n0 v0) (pa_cons (pe_ix ix_list (pe_var n10 v10) (pe_var n11 v11) (fun _ _ => rfl)) (pa_cons (pe_var n3 v3) (pa_cons (pe_var n7 v7) pa_nil e1) e2) e3) e4) (by decide) e4 hpl) (pg_sub (pe_var n10 v10) (pe_var n11 v11) set_list has) hs hsw h1) fun D σ H ⟨G, N, B, k1, _⟩ => ?_
  obtain ⟨u0, s0, ad, ead, ev0⟩ := N.at_ 0 _ h0
  obtain ⟨u3, s3, r3⟩ := N.at_ 3 _ h3
  obtain ⟨u7, s7, r7⟩ := N.at_ 7 _ h7
  obtain ⟨u10, s10, r10⟩ := N.at_ 10 _ h10
  obtain ⟨u11, s11, r11⟩ := N.at_ 11 _ h11
  have q3 : u3 = .int (w : Int) := r3
  have q7 : u7 = .int (x : Int) := r7
  have q10 : u10 = .ref a := r10
  have q11 : u11 = .int (j : Int) := r11
  subst q3 q7 q10 q11 ev0
  obtain ⟨hGa, hH0, hda, os, hos, hl, hsm⟩ := B a ha
  have hj2 : os[j]? = some (os[j]'(by omega)) := List.getElem?_eq_getElem (by omega)
  refine ⟨_, s0, .ref a, s10, .int (j : Int), s11, a, os.map oV, (j : Int), oV (os[j]'(by omega)), rfl, rfl, sqL hos, atI_nat (by rw [List.getElem?_map, hj2]; rfl), _, s3, _, s7, ?_⟩
  refine ⟨en.da, G, [.drw, .dat (oD (os[j]'(by omega))), .dat (.int (w : Int)), .dat (.int (x : Int))], fun d => ∃ o', turnOk w (bnd c) o' ∧ d = oD o', fun _ _ => False, N.gh, N.drw, ⟨ad, _, rfl, ead, _, _, rfl, oD_rep.mpr rfl, _, _, rfl, rfl, _, _, rfl, rfl, rfl⟩, ⟨_, w, x, bnd c, rfl, hw, hx1, hx2, (bnd_nn c).1, fun i e => hsm _ (List.getElem_mem _) i e, fun o' ho' => ⟨o', ho', rfl⟩⟩, fun v G' H' d f ⟨o', ho', ed⟩ rd => ?_, fun _ _ _ _ _ _ z => z.elim⟩
  rw [ed] at rd
  have ev := oD_rep.mp rd
  subst ev
  have N1 := N.step f
  have B1 := (bagR en S k).st c f B
  obtain ⟨hGa1, _, _, os1, hos1, hl1, hsm1⟩ := B1 a ha
  refine ⟨.ref a, s10, .int (j : Int), s11, a, os1.map oV, (j : Int), j, rfl, rfl, hos1, ?_, ?_⟩
  · unfold ixN
    rw [List.length_map, hl1]
    have c1 : ¬ ((j : Int) < 0) := by omega
    first
      | (simp only [c1, if_false]; simp; omega)
      | (split <;> first | omega | (simp; omega) | rfl)
  · refine k1 σ G' _ δ (nextC w c) f.gg (now_write N1 pl hGa1 hH0) (fun b hb => ?_) hk
    obtain ⟨g1, g2, g3, os2, g4, g5, g6⟩ := B1 b hb
    refine ⟨g1, g2, g3, ?_⟩
    by_cases e : b = a
    · subst e
      rw [upd_same]
      refine ⟨os1.set j o', by rw [List.map_set], by rw [List.length_set, hl1], fun o ho => ?_⟩
      rcases List.mem_or_eq_of_mem_set ho with h | h
      · exact small_mono (hsm1 o h) (next_le hc)
      · rw [h]
        exact next_ok hc ho'
    · rw [upd_ne e]
      exact ⟨os2, g4, g5, fun o ho => small_mono (g6 o ho) (next_le hc)⟩
end
end PW
end
section
set_option maxHeartbeats 4000000
namespace PJ
open PySem PySem.Spec PyProof.Rows L2
section
variable {K : PySem.W.Frag} {en : En} {G G2 H H2 : Hp} {σ σ2 : L2.St} {δ δ2 : Lv} {S : Addr → Prop}
theorem now_mk {δ3 : Lv} (N : Now K en G H [] []) (hl : σ.length = δ3.length) (h : ∀ (i : Nat) sl, δ3[i]? = some (some sl) → ∃ v, σ[i]? = some (some v) ∧ ((∃ d, sl = .dat d ∧ Rep K G d v) ∨ (sl = .drw ∧ ∃ a, en.da = some a ∧ v = .ref a))) : Now K en G H σ δ3 := by
  refine ⟨⟨N.st.gh, N.st.dr, hl, fun i sl hi => ?_, fun i j ds es a h1 _ _ _ => ?_⟩, N.f0⟩
  · obtain ⟨v, h1, ⟨d, e, r⟩ | ⟨e, a, ea, ev⟩⟩ := h i sl hi
    · subst e
      exact ⟨v, h1, r⟩
    · subst e
      exact ⟨v, h1, a, ea, ev⟩
  · obtain ⟨v, _, ⟨d, e, _⟩ | ⟨e, _⟩⟩ := h i _ h1 <;> cases e
noncomputable def thG (S : Addr → Prop) (G G2 : Hp) : Hp := fun a => open Classical in if S a then none else match G a with
  | some o => some o
  | none => G2 a
/-- what was made since then and is to be written leaves what stands still -/
theorem thaw_now (N : Now K en G H σ δ) (N2 : Now K ⟨none, noLst G, H⟩ G2 H2 σ2 δ2) (hS : ∀ a, S a → H a = none) : Now K en (thG S G G2) H2 [] [] ∧ ∀ a o, ¬ S a → G2 a = some o → thG S G G2 a = some o := by
  have inH : ∀ {a o}, G a = some o → ∃ u, H a = some u := fun {a o} h => (N.gh a o h).ex
  have notS : ∀ {a o}, G a = some o → ¬ S a := fun {a o} h hs => by
    obtain ⟨u, hu⟩ := inH h
    rw [hS a hs] at hu
    cases hu
  have old : ∀ {a o}, H a = some o → (∀ n, G a ≠ some (.own n)) → H2 a = some o := fun {a o} h m => N2.f0.hh a o (fun z => nomatch z) (fun n z => m n (noLst_ex a _ z)) h
  have tG : ∀ {a o}, G a = some o → thG S G G2 a = some o := fun {a o} h => by
    unfold thG
    rw [if_neg (notS h), h]
  have t2 : ∀ {a o}, G2 a = some o → ¬ S a → thG S G G2 a = some o := fun {a o} h hs => by
    unfold thG
    rw [if_neg hs]
    cases e : G a with
    | none => exact h
    | some u =>
      obtain ⟨x, hx⟩ := inH e
      have h3 : G2 a = noLst G a := N2.f0.new a x hx
      rw [h3] at h
      have h4 := noLst_ex a o h
      rw [e] at h4
      exact h4
  have gh : Gh (thG S G G2) H2 := fun a o h => by
    have h2 : (open Classical in if S a then none else match G a with | some o => some o | none => G2 a) = some o := h
    by_cases hs : S a
    · rw [if_pos hs] at h2
      cases h2
    · rw [if_neg hs] at h2
      cases e : G a with
      | none =>
        rw [e] at h2
        exact N2.gh a o h2
      | some u =>
        rw [e] at h2
        have eu : u = o := Option.some.inj h2
        subst eu
        by_cases m : ∃ n, u = .own n
        · obtain ⟨n, em⟩ := m
          subst em
          exact N2.gh a _ (N2.f0.gg a _ (noLst_exN a _ e (fun xs z => nomatch z)))
        · have h3 := N.gh a u e
          have h4 : H a = some u := by
            cases u with
            | own n => exact absurd ⟨n, rfl⟩ m
            | _ => exact h3
          rw [old h4 (fun n z => by rw [e] at z; exact m ⟨n, Option.some.inj z⟩)]
          exact HoOk.same fun n z => m ⟨n, z⟩
  have dr : ∀ a, en.da = some a → (∃ o, en.H0 a = some o) ∧ DrwOk (thG S G G2) H2 a := fun a ea => by
    obtain ⟨h0, pos, nb, ns, h1, h2, h3, h4⟩ := N.st.dr a ea
    refine ⟨h0, pos, nb, ns, old h1 (fun n z => by rw [h3] at z; cases z), h2, ?_, tG h4⟩
    have e2 : G2 a = noLst G a := N2.f0.new a _ h1
    have e3 : noLst G a = none := by
      cases e : noLst G a with
      | none => rfl
      | some u =>
        have := noLst_ex a u e
        rw [h3] at this
        cases this
    unfold thG
    split
    · rfl
    · rw [h3]
      show G2 a = none
      rw [e2, e3]
  refine ⟨⟨⟨gh, dr, rfl, fun i sl h => by simp at h, fun i j ds es a h _ _ _ => by simp at h⟩, fun a o h => tG (N.f0.gg a o h), gh, fun b o e m h => ?_, fun b o h => ?_, dr⟩, fun a o hs h => t2 h hs⟩
  · have h1 := N.f0.hh b o e m h
    refine old h1 (fun n z => ?_)
    rw [N.f0.new b o h] at z
    exact m n z
  · obtain ⟨u, hu⟩ := N.f0.some_ h
    have e1 := N.f0.new b o h
    have hs : ¬ S b := fun hs => by
      rw [hS b hs] at hu
      cases hu
    cases e : G b with
    | some x => rw [tG e, ← e1, e]
    | none =>
      rw [← e1, e]
      unfold thG
      rw [if_neg hs, e]
      show G2 b = none
      rw [N2.f0.new b u hu]
      cases e3 : noLst G b with
      | none => exact e3
      | some x =>
        have := noLst_ex b x e3
        rw [e] at this
        cases this
end
end PJ
namespace PW
open PySem PySem.Spec PyProof.Rows L2 PJ PF PX
/-- a paper of tuples, of lists -/
def papT (k n : Nat) (f : Nat → Nat → Gr) (g h : Nat → Gr) : Dat :=
  .tup [.tup ((List.range n).map fun i => .tup ((List.range k).map fun p => .tup (gridT k (f i p)))), .tup ((List.range (n + 1)).map fun i => .tup (gridT k (g i))), .tup ((List.range n).map fun i => .tup (gridT k (h i)))]
def papL (k n : Nat) (f : Nat → Nat → Gr) (g h : Nat → Gr) : Dat :=
  .lst [.lst ((List.range n).map fun i => .lst (gridsL k k (f i))), .lst (gridsL k (n + 1) g), .lst (gridsL k n h)]
def GB (c k : Nat) (g : Gr) : Prop := ∀ x y, x < k → y < k → small c (g x y)
/-- entries of less than 100 digits -/
def GX (k : Nat) (g : Gr) : Prop := ∀ x y, x < k → y < k → ∀ i, g x y = some i → -(10 ^ 100 - 1) ≤ i ∧ i ≤ 10 ^ 100 - 1
theorem nl_row (k : Nat) (f : Nat → Option Int) : nl (.tup (rowD k f)) = true := nls_all fun d hd => by
  obtain ⟨i, _, e⟩ := List.mem_map.mp hd
  rw [← e]
  cases f i <;> rfl
theorem nl_map {n : Nat} {f : Nat → Dat} (h : ∀ i, nl (f i) = true) : nl (.tup ((List.range n).map f)) = true := nls_all fun d hd => by
  obtain ⟨i, _, e⟩ := List.mem_map.mp hd
  rw [← e]
  exact h i
theorem nl_papT (k n : Nat) (f : Nat → Nat → Gr) (g h : Nat → Gr) : nl (papT k n f g h) = true := nls_all fun d hd => by
  simp only [List.mem_cons, List.not_mem_nil, or_false] at hd
  rcases hd with e | e | e <;> rw [e]
  · exact nl_map fun i => nl_map fun p => nl_map fun x => nl_row _ _
  · exact nl_map fun i => nl_map fun x => nl_row _ _
  · exact nl_map fun i => nl_map fun x => nl_row _ _
theorem isGrid_tt {k : Nat} {g : Gr} : IsGrid k g (.tup (gridT k g)) := isGrid_t
section
variable {K : PySem.W.Frag} {en : En} {G G2 H H2 : Hp}
def thS (G2 H : Hp) (k : Nat) : Addr → Prop := fun a => H a = none ∧ RG k 0 (G2 a)
theorem th_row {k : Nat} {f : Nat → Option Int} {v : V} (hS : ∀ a vs, G2 a = some (.lst vs) → H a = none) (hb : ∀ y, y < k → small 0 (f y)) (r : Rep K G2 (.lst (rowD k f)) v) : ∃ d', T0 (thS G2 H k) d' ∧ Rep K G d' v ∧ ∃ b, v = .ref b := by
  obtain ⟨a, vs, ev, ha, rs⟩ := rep_lst r
  refine ⟨.mrow a 0 0, ⟨a, rfl, hS a vs ha, (List.range k).map f, ?_, by simp, fun o ho => ?_⟩, ev, a, ev⟩
  · rw [ha, rowD_vals rs]
  · obtain ⟨y, hy, e⟩ := List.mem_map.mp ho
    rw [← e]
    exact hb y (List.mem_range.mp hy)
theorem th_grid {k : Nat} {g : Gr} {v : V} (hS : ∀ a vs, G2 a = some (.lst vs) → H a = none) (hL : ∀ a vs, G2 a = some (.lst vs) → (∀ u ∈ vs, ∃ b, u = V.ref b) → G a = some (.lst vs)) (hb : GB 0 k g) (r : Rep K G2 (.lst (gridL k g)) v) :
    ∃ d', Tl (T0 (thS G2 H k)) k d' ∧ Rep K G d' v ∧ ∃ b, v = .ref b := by
  obtain ⟨d', t, q⟩ := thaw_lst (T := T0 (thS G2 H k)) hL (fun x v hx rx => by
    obtain ⟨i, hi, e⟩ := List.mem_map.mp hx
    rw [← e] at rx
    exact th_row hS (fun y hy => hb i y (List.mem_range.mp hi) hy) rx) r
  rw [gridL_len] at t
  exact ⟨d', t, q⟩
theorem th_grids {k n : Nat} {g : Nat → Gr} {v : V} (hS : ∀ a vs, G2 a = some (.lst vs) → H a = none) (hL : ∀ a vs, G2 a = some (.lst vs) → (∀ u ∈ vs, ∃ b, u = V.ref b) → G a = some (.lst vs)) (hb : ∀ i, i < n → GB 0 k (g i)) (r : Rep K G2 (.lst (gridsL k n g)) v) :
    ∃ d', Tl (Tl (T0 (thS G2 H k)) k) n d' ∧ Rep K G d' v ∧ ∃ b, v = .ref b := by
  obtain ⟨d', t, q⟩ := thaw_lst (T := Tl (T0 (thS G2 H k)) k) hL (fun x v hx rx => by
    obtain ⟨i, hi, e⟩ := List.mem_map.mp hx
    rw [← e] at rx
    exact th_grid hS hL (hb i (List.mem_range.mp hi)) rx) r
  rw [show (gridsL k n g).length = n by unfold gridsL; simp] at t
  exact ⟨d', t, q⟩
/-! back -/
variable {S : Addr → Prop}
theorem un_row {k c : Nat} {Gf : Hp} (hB : ∀ a, S a → RG k c (Gf a)) : ∀ d v, T0 S d → Rep K G d v → ∃ f : Nat → Option Int, (∀ y, y < k → small c (f y)) ∧ Rep K Gf (.lst (rowD k f)) v := fun d v ⟨a, e, ha⟩ r => by
  subst e
  have ev : v = .ref a := r
  obtain ⟨os, h1, h2, h3⟩ := hB a ha
  refine ⟨fun y => os.getD y none, fun y hy => ?_, a, os.map oV, ev, h1, reps_of (D := fun y => oD (os.getD y none)) (by rw [List.length_map, h2]) fun i u hu => ?_⟩
  · have e1 : os[y]? = some (os[y]'(by omega)) := List.getElem?_eq_getElem (by omega)
    show small c (os.getD y none)
    rw [getD_of e1]
    exact h3 _ (List.getElem_mem _)
  · rw [List.getElem?_map] at hu
    cases e1 : os[i]? with
    | none => rw [e1] at hu; cases hu
    | some o =>
      rw [e1] at hu
      rw [getD_of e1]
      exact oD_rep.mpr (Option.some.inj hu).symm
theorem un_grid {k c : Nat} {Gf : Hp} (ex : Ex G Gf) (hB : ∀ a, S a → RG k c (Gf a)) : ∀ d v, Tl (T0 S) k d → Rep K G d v → ∃ g : Gr, GB c k g ∧ Rep K Gf (.lst (gridL k g)) v := fun d v t r => by
  obtain ⟨ys, h1, h2⟩ := un_lst (Y := Nat → Option Int) (Q := fun f => ∀ y, y < k → small c (f y)) (D := fun f => .lst (rowD k f)) ex (un_row hB) d v t r
  exact ⟨ys, fun x y hx hy => h1 x hx y hy, h2⟩
theorem un_grids {k n c : Nat} {Gf : Hp} (ex : Ex G Gf) (hB : ∀ a, S a → RG k c (Gf a)) : ∀ d v, Tl (Tl (T0 S) k) n d → Rep K G d v → ∃ g : Nat → Gr, (∀ i, i < n → GB c k (g i)) ∧ Rep K Gf (.lst (gridsL k n g)) v := fun d v t r =>
  un_lst (Y := Gr) (Q := GB c k) (D := fun g => .lst (gridL k g)) ex (un_grid ex hB) d v t r
theorem gb_gx {c k : Nat} {g : Gr} (h : GB c k g) : GX k g := fun x y hx hy i e => by
  have h1 := h x y hx hy i e
  have := (bnd_nn c).2
  omega
end
end PW
end
section
set_option maxHeartbeats 4000000
/-! The mathematics of walks: what walk_costs finds is kept, and least. -/
namespace PW
open PySem PySem.Spec PyProof.Rows L2 PJ PF PX

/-- at most, none above all -/
def le (a b : Option Int) : Prop := ∀ j, b = some j → ∃ i, a = some i ∧ i ≤ j
theorem le_iff {a b : Option Int} : notAb a b = true ↔ le a b := by
  cases b with
  | none => exact ⟨(fun _ j h => nomatch h), (fun _ => by cases a <;> rfl)⟩
  | some j =>
    cases a with
    | none => exact ⟨(fun h => nomatch h), fun h => by obtain ⟨i, hi, _⟩ := h j rfl; cases hi⟩
    | some i =>
      refine ⟨fun h j' hj => ⟨i, rfl, ?_⟩, fun h => ?_⟩
      · have h2 : i ≤ j := of_decide_eq_true h
        rw [← Option.some.inj hj]
        exact h2
      · obtain ⟨i', hi, h2⟩ := h j rfl
        rw [← Option.some.inj hi] at h2
        exact decide_eq_true h2
theorem le_rfl {a : Option Int} : le a a := fun j h => ⟨j, h, Int.le_refl j⟩
theorem le.trans {a b c : Option Int} (h : le a b) (h2 : le b c) : le a c := fun j hj => by
  obtain ⟨i, hi, l⟩ := h2 j hj
  obtain ⟨m, hm, l2⟩ := h i hi
  exact ⟨m, hm, Int.le_trans l2 l⟩
theorem csum_some {a b : Option Int} {j : Int} (h : cSum a b = some j) : ∃ x y, a = some x ∧ b = some y ∧ j = x + y := by
  cases a with
  | none => cases h
  | some x =>
    cases b with
    | none => cases h
    | some y => exact ⟨x, y, rfl, rfl, (Option.some.inj h).symm⟩
theorem le.sum {a b c d : Option Int} (h : le a c) (h2 : le b d) : le (cSum a b) (cSum c d) := fun j hj => by
  obtain ⟨x, y, hx, hy, e⟩ := csum_some hj
  obtain ⟨i, hi, l⟩ := h x hx
  obtain ⟨m, hm, l2⟩ := h2 y hy
  exact ⟨i + m, by rw [hi, hm]; rfl, by omega⟩
theorem lesr_or (a b : Option Int) : lesr a b = a ∨ lesr a b = b := by
  unfold lesr
  split
  · exact .inl rfl
  · exact .inr rfl
theorem lesr_l (a b : Option Int) : le (lesr a b) a := by
  unfold lesr
  split
  · exact le_rfl
  · rename_i h
    intro j hj
    cases b with
    | none => exact absurd (by cases a <;> rfl) h
    | some m =>
      refine ⟨m, rfl, ?_⟩
      rw [hj] at h
      have h2 : ¬ (decide (j ≤ m) = true) := h
      rw [decide_eq_true_eq] at h2
      omega
theorem lesr_r (a b : Option Int) : le (lesr a b) b := by
  unfold lesr
  split
  · rename_i h
    exact le_iff.mp h
  · exact le_rfl
theorem le_lesr {a b c : Option Int} (h : le c a) (h2 : le c b) : le c (lesr a b) := by
  rcases lesr_or a b with e | e <;> rw [e]
  · exact h
  · exact h2
theorem sh_le {row : Nat → Option Int} {T : Gr} {p : Nat} : ∀ {n q : Nat}, q < n → le (shAcc row T p n) (cSum (row q) (T q p))
  | n + 1, q, h => by
    show le (lesr (shAcc row T p n) (cSum (row n) (T n p))) _
    rcases Nat.lt_or_ge q n with h1 | h1
    · exact (lesr_l _ _).trans (sh_le h1)
    · have e : q = n := by omega
      rw [e]
      exact lesr_r _ _
theorem sh_att {row : Nat → Option Int} {T : Gr} {p : Nat} {v : Int} : ∀ {n : Nat}, shAcc row T p n = some v → ∃ q, q < n ∧ cSum (row q) (T q p) = some v
  | 0, h => nomatch h
  | n + 1, h => by
    have h1 : lesr (shAcc row T p n) (cSum (row n) (T n p)) = some v := h
    rcases lesr_or (shAcc row T p n) (cSum (row n) (T n p)) with e | e
    · rw [e] at h1
      obtain ⟨q, hq, hv⟩ := sh_att h1
      exact ⟨q, Nat.lt_succ_of_lt hq, hv⟩
    · rw [e] at h1
      exact ⟨n, Nat.lt_succ_self n, h1⟩

/-- a table of least costs -/
structure Good (k : Nat) (T : Gr) : Prop where
  d : ∀ o, o < k → T o o = some 0
  tr : ∀ a b c, a < k → b < k → c < k → le (T a c) (cSum (T a b) (T b c))
  nn : ∀ a b v, a < k → b < k → T a b = some v → 0 ≤ v
def Shc (k : Nat) (T B : Gr) : Prop := ∀ x p q, x < k → p < k → q < k → le (B x q) (cSum (B x p) (T p q))
theorem shG_shc {k : Nat} {T S : Gr} (g : Good k T) : Shc k T (shG k T S) := fun x p q hx hp hq j hj => by
  obtain ⟨v, t, hv, ht, e⟩ := csum_some hj
  obtain ⟨m, hm, hs⟩ := sh_att (show shAcc (S x) T p k = some v from hv)
  obtain ⟨s, t2, h1, h2, e2⟩ := csum_some hs
  obtain ⟨u, hu, l⟩ := g.tr m p q hm hp hq (t2 + t) (by rw [h2, ht]; rfl)
  obtain ⟨i, hi, l2⟩ := sh_le (row := S x) (T := T) (p := q) hm (s + u) (by rw [h1, hu]; rfl)
  exact ⟨i, hi, by omega⟩
theorem relax_le {T : Gr} {a : Arr} {B : Gr} {x p : Nat} : le (relax T a B x p) (B x p) := by
  unfold relax
  split
  · exact le_rfl
  · show le (if x = a.t then _ else _) _
    split
    · rename_i e
      rw [e]
      exact lesr_r _ _
    · exact le_rfl
theorem relax_t {T : Gr} {a : Arr} {B : Gr} (h : ¬ notAb (B a.t a.g) (nearM B a) = true) (p : Nat) : relax T a B a.t p = lesr (cSum (nearM B a) (T a.g p)) (B a.t p) := by
  unfold relax
  rw [if_neg h]
  exact if_pos rfl
theorem relax_shc {k : Nat} {T B : Gr} {a : Arr} (g : Good k T) (ha : a.In k) (h : Shc k T B) : Shc k T (relax T a B) := fun x p q hx hp hq => by
  by_cases hn : notAb (B a.t a.g) (nearM B a) = true
  · rw [show relax T a B = B from if_pos hn]
    exact h x p q hx hp hq
  · by_cases e : x = a.t
    · subst e
      rw [relax_t hn, relax_t hn]
      rcases lesr_or (cSum (nearM B a) (T a.g p)) (B a.t p) with e2 | e2 <;> rw [e2]
      · refine (lesr_l _ _).trans fun j hj => ?_
        obtain ⟨v, t, hv, ht, e3⟩ := csum_some hj
        obtain ⟨n, t2, hn2, ht2, e4⟩ := csum_some hv
        obtain ⟨u, hu, l⟩ := g.tr a.g p q ha.g hp hq (t2 + t) (by rw [ht2, ht]; rfl)
        exact ⟨n + u, by rw [hn2, hu]; rfl, by omega⟩
      · exact (lesr_r _ _).trans (h _ p q hx hp hq)
    · have f : ∀ y, relax T a B x y = B x y := fun y => by
        unfold relax
        rw [if_neg hn]
        exact if_neg e
      rw [f, f]
      exact h x p q hx hp hq
/-- one step covers its arrow -/
theorem relax_cover {k : Nat} {T B : Gr} {a : Arr} {v : Int} {q : Nat} (ha : a.In k) (hq : q < k) (h : Shc k T B) (hv : le (B a.s a.g) (some v)) : le (relax T a B a.t q) (cSum (some (v + a.c)) (T a.g q)) := by
  have hn : le (nearM B a) (some (v + a.c)) := hv.sum (le_rfl (a := some a.c))
  by_cases h1 : notAb (B a.t a.g) (nearM B a) = true
  · rw [show relax T a B = B from if_pos h1]
    exact (h _ a.g q ha.t ha.g hq).trans (((le_iff.mp h1).trans hn).sum le_rfl)
  · rw [relax_t h1]
    exact (lesr_l _ _).trans (hn.sum le_rfl)
theorem fold_ind {T : Gr} (Pr : Gr → Prop) : ∀ (as : List Arr) (p : Gr × Bool), Pr p.1 → (∀ a ∈ as, ∀ B, Pr B → Pr (relax T a B)) → Pr (as.foldl (stepM T) p).1
  | [], _, h, _ => h
  | a :: as, p, h, f => fold_ind Pr as (stepM T p a) (f a List.mem_cons_self p.1 h) fun b hb => f b (List.mem_cons_of_mem a hb)
theorem fold_le {T : Gr} {x q : Nat} : ∀ (as : List Arr) (p : Gr × Bool), le ((as.foldl (stepM T) p).1 x q) (p.1 x q)
  | [], _ => le_rfl
  | a :: as, p => (fold_le as (stepM T p a)).trans (relax_le (a := a))
theorem fold_cover {k : Nat} {T : Gr} {a : Arr} {v : Int} {q : Nat} (g : Good k T) (hq : q < k) : ∀ (as : List Arr) (p : Gr × Bool), (∀ b ∈ as, b.In k) → a ∈ as → Shc k T p.1 → le (p.1 a.s a.g) (some v) → le ((as.foldl (stepM T) p).1 a.t q) (cSum (some (v + a.c)) (T a.g q))
  | b :: as, p, hin, hm, h, hv => by
    have hb := hin b List.mem_cons_self
    rcases List.mem_cons.mp hm with e | h1
    · subst e
      exact (fold_le as (stepM T p a)).trans (relax_cover hb hq h hv)
    · exact fold_cover g hq as (stepM T p b) (fun c hc => hin c (List.mem_cons_of_mem b hc)) h1 (relax_shc g hb h) (relax_le.trans hv)

/-- a chain of steps and shifts: the pegs it was on, its end, its cost -/
inductive Ch (k : Nat) (as : List Arr) (T S : Gr) : List Nat → Nat → Nat → Int → Prop
  | one {x q p : Nat} {v w : Int} : x < k → q < k → p < k → S x q = some v → T q p = some w → Ch k as T S [x] x p (v + w)
  | step {l : List Nat} {a : Arr} {p : Nat} {v w : Int} : a ∈ as → p < k → Ch k as T S l a.s a.g v → T a.g p = some w → Ch k as T S (a.t :: l) a.t p (v + a.c + w)
section
variable {k : Nat} {as : List Arr} {T S : Gr}
theorem Ch.p_lt {l : List Nat} {x p : Nat} {v : Int} (h : Ch k as T S l x p v) : p < k := by
  cases h with
  | one _ _ h _ _ => exact h
  | step _ h _ _ => exact h
theorem Ch.lt (hin : ∀ a ∈ as, a.In k) {l : List Nat} {x p : Nat} {v : Int} (h : Ch k as T S l x p v) : ∀ y ∈ l, y < k := by
  induction h with
  | one h _ _ _ _ =>
    intro y hy
    rw [List.mem_singleton.mp hy]
    exact h
  | step ha _ _ _ ih =>
    intro y hy
    rcases List.mem_cons.mp hy with e | h
    · rw [e]
      exact (hin _ ha).t
    · exact ih y h
theorem Ch.cut (g : Good k T) (hc : ∀ a ∈ as, 0 ≤ a.c) {l : List Nat} {x γ : Nat} {v : Int} (h : Ch k as T S l x γ v) : ∀ (t : Nat), t ∈ l → ∀ (p : Nat) (w : Int), p < k → T γ p = some w → ∃ l' v', Ch k as T S l' t p v' ∧ v' ≤ v + w ∧ l'.Sublist l := by
  induction h with
  | @one x q γ v w0 hx hq hγ hs ht =>
    intro t hm p w hp hw
    rw [List.mem_singleton.mp hm]
    obtain ⟨u, hu, l⟩ := g.tr q γ p hq hγ hp (w0 + w) (by rw [ht, hw]; rfl)
    exact ⟨_, _, .one hx hq hp hs hu, by omega, List.Sublist.refl _⟩
  | @step l a γ v w0 ha hγ hch ht ih =>
    intro t hm p w hp hw
    have hag := hch.p_lt
    obtain ⟨u, hu, l1⟩ := g.tr a.g γ p hag hγ hp (w0 + w) (by rw [ht, hw]; rfl)
    rcases List.mem_cons.mp hm with e | h1
    · rw [e]
      exact ⟨_, _, .step ha hp hch hu, by omega, List.Sublist.refl _⟩
    · obtain ⟨l', v', h2, h3, h4⟩ := ih t h1 p u hp hu
      have := hc a ha
      exact ⟨l', v', h2, by omega, h4.cons _⟩
theorem Ch.short (g : Good k T) (hc : ∀ a ∈ as, 0 ≤ a.c) {l : List Nat} {x p : Nat} {v : Int} (h : Ch k as T S l x p v) : ∃ l' v', Ch k as T S l' x p v' ∧ v' ≤ v ∧ l'.Nodup := by
  induction h with
  | @one x q p v w hx hq hp hs ht => exact ⟨_, _, .one hx hq hp hs ht, Int.le_refl _, by simp⟩
  | @step l a p v w ha hp hch ht ih =>
    obtain ⟨l', v', h1, h2, h3⟩ := ih
    by_cases hm : a.t ∈ l'
    · obtain ⟨l2, v2, h4, h5, h6⟩ := h1.cut g hc a.t hm p w hp ht
      have := hc a ha
      exact ⟨l2, v2, h4, by omega, h3.sublist h6⟩
    · exact ⟨_, _, .step ha hp h1 ht, by omega, List.nodup_cons.mpr ⟨hm, h3⟩⟩
theorem nodup_len : ∀ {k : Nat} {l : List Nat}, l.Nodup → (∀ y ∈ l, y < k) → l.length ≤ k
  | 0, [], _, _ => Nat.le_refl 0
  | 0, y :: l, _, h => absurd (h y List.mem_cons_self) (Nat.not_lt_zero y)
  | k + 1, l, hn, h => by
    have h1 : (l.erase k).Nodup := hn.erase k
    have h2 : ∀ y ∈ l.erase k, y < k := fun y hy => by
      obtain ⟨ne, hm⟩ := (List.Nodup.mem_erase_iff hn).mp hy
      have := h y hm
      omega
    have h3 := nodup_len h1 h2
    by_cases hm : k ∈ l
    · rw [List.length_erase_of_mem hm] at h3
      omega
    · rw [List.erase_of_not_mem hm] at h3
      omega
/-- what stands in a grid on the way is the cost of a chain -/
def AllCh (k : Nat) (as : List Arr) (T S B : Gr) : Prop := ∀ x p v, x < k → p < k → B x p = some v → ∃ l, Ch k as T S l x p v
theorem shG_ch : AllCh k as T S (shG k T S) := fun x p v hx hp hv => by
  obtain ⟨q, hq, hs⟩ := sh_att (show shAcc (S x) T p k = some v from hv)
  obtain ⟨s, t, h1, h2, e⟩ := csum_some hs
  rw [e]
  exact ⟨_, .one hx hq hp h1 h2⟩
theorem relax_ch {a : Arr} {B : Gr} (ha : a ∈ as) (hi : a.In k) (h : AllCh k as T S B) : AllCh k as T S (relax T a B) := fun x p v hx hp hv => by
  by_cases hn : notAb (B a.t a.g) (nearM B a) = true
  · rw [show relax T a B = B from if_pos hn] at hv
    exact h x p v hx hp hv
  · by_cases e : x = a.t
    · subst e
      rw [relax_t hn] at hv
      rcases lesr_or (cSum (nearM B a) (T a.g p)) (B a.t p) with e2 | e2 <;> rw [e2] at hv
      · obtain ⟨n, t, hn2, ht, e3⟩ := csum_some hv
        obtain ⟨s, c, hs, hc, e4⟩ := csum_some (show cSum (B a.s a.g) (some a.c) = some n from hn2)
        obtain ⟨l, hl⟩ := h _ _ _ hi.s hi.g hs
        rw [e3, e4, ← Option.some.inj hc]
        exact ⟨_, .step ha hp hl ht⟩
      · exact h _ p v hx hp hv
    · have f : relax T a B x p = B x p := by
        unfold relax
        rw [if_neg hn]
        exact if_neg e
      rw [f] at hv
      exact h x p v hx hp hv
theorem itM_shc (g : Good k T) (hin : ∀ a ∈ as, a.In k) : ∀ n, Shc k T (itM T as (shG k T S) n)
  | 0 => shG_shc g
  | n + 1 => fold_ind (Shc k T) as _ (itM_shc g hin n) fun a ha B h => relax_shc g (hin a ha) h
theorem itM_ch (hin : ∀ a ∈ as, a.In k) : ∀ n, AllCh k as T S (itM T as (shG k T S) n)
  | 0 => shG_ch
  | n + 1 => fold_ind (AllCh k as T S) as _ (itM_ch hin n) fun a ha B h => relax_ch ha (hin a ha) h
theorem itM_le {x p : Nat} (n : Nat) : le (itM T as (shG k T S) (n + 1) x p) (itM T as (shG k T S) n x p) := fold_le as _
theorem Ch.cover (g : Good k T) (hin : ∀ a ∈ as, a.In k) {l : List Nat} {x p : Nat} {v : Int} (h : Ch k as T S l x p v) : ∀ n, l.length ≤ n + 1 → le (itM T as (shG k T S) n x p) (some v) := by
  induction h with
  | @one x q p v w hx hq hp hs ht =>
    intro n _
    have h0 : le (itM T as (shG k T S) 0 x p) (some (v + w)) := by
      have := sh_le (row := S x) (T := T) (p := p) hq
      rw [hs, ht] at this
      exact this
    induction n with
    | zero => exact h0
    | succ n ih => exact (itM_le n).trans (ih (by simp))
  | @step l a p v w ha hp hch ht ih =>
    intro n hn
    match n, hn with
    | 0, hn =>
      have : l = [] := by
        rw [List.length_cons] at hn
        exact List.length_eq_zero_iff.mp (by omega)
      subst this
      cases hch
    | n + 1, hn =>
      have h1 := ih n (by rw [List.length_cons] at hn; omega)
      have h2 := fold_cover g hp as (itM T as (shG k T S) n, false) hin ha (itM_shc g hin n) h1
      rw [ht] at h2
      exact h2
theorem walk_ch (hin : ∀ a ∈ as, a.In k) : AllCh k as T S (walkM k as T S) := itM_ch hin k
/-- all chains are above what was found -/
theorem walk_le (g : Good k T) (hin : ∀ a ∈ as, a.In k) (hc : ∀ a ∈ as, 0 ≤ a.c) (hk : 0 < k) {l : List Nat} {x p : Nat} {v : Int} (h : Ch k as T S l x p v) : le (walkM k as T S x p) (some v) := by
  obtain ⟨l', v', h1, h2, h3⟩ := h.short g hc
  have h4 := nodup_len h3 (h1.lt hin)
  have h5 := h1.cover g hin (k - 1) (by omega)
  have h6 : le (walkM k as T S x p) (itM T as (shG k T S) (k - 1) x p) := by
    have := itM_le (k := k) (as := as) (T := T) (S := S) (x := x) (p := p) (k - 1)
    rw [show k - 1 + 1 = k by omega] at this
    exact this
  refine (h6.trans h5).trans fun j hj => ⟨v', rfl, ?_⟩
  rw [← Option.some.inj hj]
  exact h2
theorem walk_kept (g : Good k T) (hin : ∀ a ∈ as, a.In k) (hc : ∀ a ∈ as, 0 ≤ a.c) (hk : 0 < k) : keptB k as T (walkM k as T S) = true := by
  have h1 : as.all (okA (walkM k as T S)) = true := List.all_eq_true.mpr fun a ha => le_iff.mpr fun j hj => by
    obtain ⟨v, c, hv, hcc, e⟩ := csum_some hj
    have hi := hin a ha
    obtain ⟨l, hl⟩ := walk_ch hin _ _ _ hi.s hi.g hv
    have h2 := walk_le g hin hc hk (.step ha hi.g hl (g.d _ hi.g))
    refine (h2.trans fun j' hj' => ⟨_, rfl, ?_⟩) j rfl
    rw [← Option.some.inj hj', e, ← Option.some.inj hcc]
    omega
  have h2 : (List.range k).all (okRow k T (walkM k as T S)) = true := range_all fun x hx => range_all fun o ho => range_all fun o2 ho2 => by
    have e : notAb (walkM k as T S x o2) (cSum (walkM k as T S x o) (T o o2)) = true := le_iff.mpr (itM_shc g hin k x o o2 hx ho ho2)
    unfold okS
    rw [e, Bool.or_true]
  unfold keptB
  rw [h1, h2]
  rfl
theorem walk_start (g : Good k T) (hin : ∀ a ∈ as, a.In k) {x p : Nat} (hx : x < k) (hp : p < k) : le (walkM k as T S x p) (S x p) := fun j hj => by
  have h := (Ch.one (as := as) hx hp hp hj (g.d p hp)).cover g hin k (by simp)
  rw [Int.add_zero] at h
  exact h j rfl
theorem walk_nn (g : Good k T) (hin : ∀ a ∈ as, a.In k) (hc : ∀ a ∈ as, 0 ≤ a.c) (hS : ∀ x p v, x < k → p < k → S x p = some v → 0 ≤ v) : ∀ x p v, x < k → p < k → walkM k as T S x p = some v → 0 ≤ v := fun x p v hx hp hv => by
  obtain ⟨l, hl⟩ := walk_ch hin x p v hx hp hv
  have : ∀ {l x p v}, Ch k as T S l x p v → 0 ≤ v := fun h => by
    induction h with
    | one hx hq hp hs ht =>
      have := hS _ _ _ hx hq hs
      have := g.nn _ _ _ hq hp ht
      omega
    | step ha hp hch ht ih =>
      have := hc _ ha
      have := g.nn _ _ _ hch.p_lt hp ht
      omega
  exact this hl
theorem walk_bnd (g : Good k T) (hin : ∀ a ∈ as, a.In k) (hc : ∀ a ∈ as, 0 ≤ a.c) (hk : 0 < k) {s t C : Int} (ht : 0 ≤ t) (hC : 0 ≤ C) (hc2 : ∀ a ∈ as, a.c ≤ C) (hS : ∀ x p v, x < k → p < k → S x p = some v → v ≤ s) (hT : ∀ x p v, x < k → p < k → T x p = some v → v ≤ t) :
    ∀ x p v, x < k → p < k → walkM k as T S x p = some v → v ≤ s + t + ((k : Int) - 1) * (C + t) := fun x p v hx hp hv => by
  obtain ⟨l, hl⟩ := walk_ch hin x p v hx hp hv
  obtain ⟨l', v', h1, h2, h3⟩ := hl.short g hc
  have h4 := nodup_len h3 (h1.lt hin)
  obtain ⟨i, hi, h5⟩ := walk_le g hin hc hk h1 v' rfl
  rw [hv] at hi
  rw [← Option.some.inj hi] at h5
  have key : ∀ {l x p v}, Ch k as T S l x p v → 1 ≤ l.length ∧ v ≤ s + t + ((l.length : Int) - 1) * (C + t) := fun h => by
    induction h with
    | one hx hq hp hs ht =>
      have := hS _ _ _ hx hq hs
      have := hT _ _ _ hq hp ht
      refine ⟨Nat.le_refl 1, ?_⟩
      simp
      omega
    | @step l a p v w ha hp hch ht ih =>
      have := hc2 _ ha
      have := hT _ _ _ hch.p_lt hp ht
      refine ⟨by simp, ?_⟩
      have e : (((a.t :: l).length : Int) - 1) * (C + t) = ((l.length : Int) - 1) * (C + t) + (C + t) := by
        rw [List.length_cons]
        have : ((l.length + 1 : Nat) : Int) - 1 = ((l.length : Int) - 1) + 1 := by omega
        rw [this, Int.add_mul, Int.one_mul]
      rw [e]
      have := ih.2
      omega
  have h6 := (key h1).2
  have h7 : ((l'.length : Int) - 1) * (C + t) ≤ ((k : Int) - 1) * (C + t) := Int.mul_le_mul_of_nonneg_right (by omega) (by omega)
  omega
/-- what is kept and at most the start is at most what was found -/
theorem walk_min {T' f : Gr} (g : Good k T) (hin : ∀ a ∈ as, a.In k) (hA : ∀ a ∈ as, le (f a.t a.g) (cSum (f a.s a.g) (some a.c))) (hB : ∀ x o o2, x < k → o < k → o2 < k → o ≠ o2 → le (f x o2) (cSum (f x o) (T' o o2)))
    (hT : ∀ x y, x < k → y < k → le (T' x y) (T x y)) (hS : ∀ x y, x < k → y < k → le (f x y) (S x y)) : ∀ x p, x < k → p < k → le (f x p) (walkM k as T S x p) := fun x p hx hp v hv => by
  obtain ⟨l, hl⟩ := walk_ch hin x p v hx hp hv
  have key : ∀ {l x p v}, Ch k as T S l x p v → le (f x p) (some v) := fun h => by
    induction h with
    | @one x q p v w hx hq hp hs ht =>
      have h0 := hS x q hx hq
      rw [hs] at h0
      by_cases e : q = p
      · subst e
        rw [g.d _ hq] at ht
        rw [← Option.some.inj ht, Int.add_zero]
        exact h0
      · have h1 := (hB x q p hx hq hp e).trans (h0.sum (hT q p hq hp))
        rw [ht] at h1
        exact h1
    | @step l a p v w ha hp hch ht ih =>
      have hi := hin a ha
      have h0 : le (f a.t a.g) (some (v + a.c)) := (hA a ha).trans (ih.sum (le_rfl (a := some a.c)))
      by_cases e : a.g = p
      · subst e
        rw [g.d _ hi.g] at ht
        rw [← Option.some.inj ht, Int.add_zero]
        exact h0
      · have h1 := (hB a.t a.g p hi.t hi.g hp e).trans (h0.sum (hT a.g p hi.g hp))
        rw [ht] at h1
        exact h1
  exact key hl v rfl
theorem kept_A {g : Gr} {T' : Gr} (h : keptB k as T' g = true) : ∀ a ∈ as, le (g a.t a.g) (cSum (g a.s a.g) (some a.c)) := fun a ha => by
  unfold keptB at h
  exact le_iff.mp (List.all_eq_true.mp (Bool.and_eq_true_iff.mp h).1 a ha)
theorem kept_B {g : Gr} {T' : Gr} (h : keptB k as T' g = true) : ∀ x o o2, x < k → o < k → o2 < k → o ≠ o2 → le (g x o2) (cSum (g x o) (T' o o2)) := fun x o o2 hx ho ho2 ne => by
  unfold keptB at h
  have h1 := range_get (range_get (range_get (Bool.and_eq_true_iff.mp h).2 hx) ho) ho2
  unfold okS at h1
  rw [decide_eq_false ne, Bool.false_or] at h1
  exact le_iff.mp h1
/-- one disc more -/
theorem tab_good (g : Good k T) (hin : ∀ a ∈ as, a.In k) (hc : ∀ a ∈ as, 0 ≤ a.c) (hk : 0 < k) : Good k (tabM k as T) := by
  have hS : ∀ m x p v, x < k → p < k → beginF m m x p = some v → 0 ≤ v := fun m x p v _ _ h => by
    unfold beginF at h
    split at h
    · rw [← Option.some.inj h]
      exact Int.le_refl 0
    · cases h
  have hn : ∀ m x p v, x < k → p < k → walkM k as T (beginF m m) x p = some v → 0 ≤ v := fun m => walk_nn g hin hc (hS m)
  refine ⟨fun o ho => ?_, fun a b c ha hb hc' j hj => ?_, fun a b v ha hb h => hn a b b v hb hb h⟩
  · have h1 := walk_start (S := beginF o o) g hin ho ho
    rw [show beginF o o o o = some 0 from if_pos ⟨rfl, rfl⟩] at h1
    obtain ⟨i, hi, l⟩ := h1 0 rfl
    have := hn o o o i ho ho hi
    show walkM k as T (beginF o o) o o = _
    rw [hi]
    congr 1
    omega
  · obtain ⟨u, w, hu, hw, e⟩ := csum_some hj
    have hu' : walkM k as T (beginF a a) b b = some u := hu
    have hw' : walkM k as T (beginF b b) c c = some w := hw
    have hkp := walk_kept (S := beginF a a) g hin hc hk
    have sub : ∀ {x y z : Option Int}, le x (cSum y z) → le (x.map (· - u)) (cSum (y.map (· - u)) z) := fun {x y z} h j hj => by
      obtain ⟨y', z', hy, hz, e⟩ := csum_some hj
      cases y with
      | none => cases hy
      | some y0 =>
        obtain ⟨i, hi, l⟩ := h (y0 + z') (by rw [hz]; rfl)
        have hy2 : y0 - u = y' := Option.some.inj hy
        exact ⟨i - u, by rw [hi]; rfl, by omega⟩
    have h1 := walk_min (T' := T) (S := beginF b b) (f := fun x y => (walkM k as T (beginF a a) x y).map (· - u)) g hin (fun a' ha' => sub (kept_A hkp a' ha')) (fun x o o2 hx ho ho2 ne => sub (kept_B hkp x o o2 hx ho ho2 ne)) (fun _ _ _ _ => le_rfl) (fun x y hx hy => by
      unfold beginF
      split
      · rename_i e
        show le ((walkM k as T (beginF a a) x y).map (· - u)) (some 0)
        rw [e.1, e.2, hu']
        intro j hj
        exact ⟨u - u, rfl, by rw [← Option.some.inj hj]; omega⟩
      · exact fun _ h => nomatch h) c c hc' hc'
    obtain ⟨i, hi, l⟩ := h1 w hw'
    show ∃ i, walkM k as T (beginF a a) c c = some i ∧ i ≤ j
    cases hx : walkM k as T (beginF a a) c c with
    | none =>
      rw [hx] at hi
      cases hi
    | some x0 =>
      rw [hx] at hi
      have : x0 - u = i := Option.some.inj hi
      exact ⟨x0, rfl, by omega⟩
theorem Good.turn (g : Good k T) : Good k (fun x y => T y x) := ⟨g.d, fun a b c ha hb hc j hj => by
  obtain ⟨u, w, hu, hw, e⟩ := csum_some hj
  exact g.tr c b a hc hb ha j (by rw [hu, hw]; show some (w + u) = some j; rw [e, Int.add_comm]), fun a b v ha hb h => g.nn b a v hb ha h⟩
end
end PW
end
section
set_option maxHeartbeats 4000000
/-! The game's tables, the least paper, and what any kept paper is worth. -/
namespace PW
open PySem PySem.Spec PyProof.Rows L2 PJ PF PX

theorem all_perm {α : Type} {p : α → Bool} {l m : List α} (h : l.Perm m) : l.all p = m.all p := by
  cases e : m.all p with
  | true => exact List.all_eq_true.mpr fun x hx => List.all_eq_true.mp e x (h.mem_iff.mp hx)
  | false =>
    cases e2 : l.all p with
    | false => rfl
    | true =>
      have : m.all p = true := List.all_eq_true.mpr fun x hx => List.all_eq_true.mp e2 x (h.mem_iff.mpr hx)
      rw [e] at this
      cases this
theorem kept_perm {k : Nat} {as bs : List Arr} {T g : Gr} (h : as.Perm bs) : keptB k as T g = keptB k bs T g := by
  unfold keptB
  rw [all_perm h]
theorem all_congr {k : Nat} {p q : Nat → Bool} (h : ∀ x, x < k → p x = q x) : (List.range k).all p = (List.range k).all q := by
  cases e : (List.range k).all q with
  | true => exact range_all fun x hx => by rw [h x hx]; exact range_get e hx
  | false =>
    cases e2 : (List.range k).all p with
    | false => rfl
    | true =>
      have : (List.range k).all q = true := range_all fun x hx => by rw [← h x hx]; exact range_get e2 hx
      rw [e] at this
      cases this
theorem kept_congr {k : Nat} {as : List Arr} {T T' g g' : Gr} (hin : ∀ a ∈ as, a.In k) (hT : ∀ x y, x < k → y < k → T x y = T' x y) (hg : ∀ x y, x < k → y < k → g x y = g' x y) : keptB k as T g = keptB k as T' g' := by
  have e1 : as.all (okA g) = as.all (okA g') := by
    have f : ∀ a ∈ as, okA g a = okA g' a := fun a ha => by
      have h := hin a ha
      unfold okA
      rw [hg _ _ h.t h.g, hg _ _ h.s h.g]
    cases e : as.all (okA g') with
    | true => exact List.all_eq_true.mpr fun a ha => by rw [f a ha]; exact List.all_eq_true.mp e a ha
    | false =>
      cases e2 : as.all (okA g) with
      | false => rfl
      | true =>
        have : as.all (okA g') = true := List.all_eq_true.mpr fun a ha => by rw [← f a ha]; exact List.all_eq_true.mp e2 a ha
        rw [e] at this
        cases this
  unfold keptB
  rw [e1]
  congr 1
  refine all_congr fun x hx => all_congr fun o ho => all_congr fun o2 ho2 => ?_
  unfold okS
  rw [hg x o2 hx ho2, hg x o hx ho, hT o o2 ho ho2]

/-! ### by functions -/
def tabF (f : Nat → Nat → Gr) : Nat → Gr
  | 0 => fun _ _ => some 0
  | i + 1 => fun p q => f i p q q
def bndF (g : Nat → Gr) : Nat → Nat → Option Int
  | 0 => fun _ => some 0
  | i + 1 => fun q => g i q q
def accF (k : Nat) (L : List (List Arr)) (f : Nat → Nat → Gr) (i : Nat) : Bool := (List.range k).all fun p => okFp k (L.getD i []) (tabF f i) (f i p) p
def accH (k : Nat) (L : List (List Arr)) (f : Nat → Nat → Gr) (b : Bool) (g : Nat → Gr) (ps : List Nat) (i : Nat) : Bool :=
  keptB k (bkA b (L.getD i [])) (bkT b (tabF f i)) (g i) && (List.range k).all fun q => notAb (g i (ps.getD i 0) q) (bndF g i q)
def numF (k n : Nat) (qs : List Nat) (g h : Nat → Gr) : Option Int := lsM (g n (qs.getD n 0)) (bndF h n) k
theorem lsM_mono {f g f' g' : Nat → Option Int} : ∀ {n : Nat}, (∀ i, i < n → le (f i) (f' i)) → (∀ i, i < n → le (g i) (g' i)) → le (lsM f g n) (lsM f' g' n)
  | 0, _, _ => le_rfl
  | n + 1, h1, h2 => by
    show le (lesr (lsM f g n) (cSum (f n) (g n))) (lesr (lsM f' g' n) (cSum (f' n) (g' n)))
    have ih := lsM_mono (n := n) (fun i hi => h1 i (Nat.lt_succ_of_lt hi)) (fun i hi => h2 i (Nat.lt_succ_of_lt hi))
    exact le_lesr ((lesr_l _ _).trans ih) ((lesr_r _ _).trans ((h1 n (Nat.lt_succ_self n)).sum (h2 n (Nat.lt_succ_self n))))

/-! ### a game's webs -/
structure GmOk (k : Nat) (M : List (List Arr)) : Prop where
  h3 : 3 ≤ k
  h5 : k ≤ 5
  len : M.length ≤ 40
  ok : ∀ i, ∀ a ∈ M.getD i [], a.In k ∧ 1 ≤ a.c ∧ a.c ≤ 10 ^ 9
section
variable {k : Nat} {M : List (List Arr)}
theorem GmOk.hin (h : GmOk k M) (i : Nat) : ∀ a ∈ M.getD i [], a.In k := fun a ha => (h.ok i a ha).1
theorem GmOk.hc (h : GmOk k M) (i : Nat) : ∀ a ∈ M.getD i [], 0 ≤ a.c := fun a ha => by have := (h.ok i a ha).2.1; omega
theorem GmOk.hc2 (h : GmOk k M) (i : Nat) : ∀ a ∈ M.getD i [], a.c ≤ 10 ^ 9 := fun a ha => (h.ok i a ha).2.2
theorem GmOk.k0 (h : GmOk k M) : 0 < k := by have := h.h3; omega
theorem bkA_in {b : Bool} {as : List Arr} (h : ∀ a ∈ as, a.In k) : ∀ a ∈ bkA b as, a.In k := fun a ha => by
  cases b with
  | false => exact h a ha
  | true =>
    obtain ⟨x, hx, e⟩ := List.mem_map.mp (show a ∈ as.map turnA from ha)
    rw [← e]
    exact turnA_in (h x hx)
theorem bkA_c {b : Bool} {as : List Arr} {p : Int → Prop} (h : ∀ a ∈ as, p a.c) : ∀ a ∈ bkA b as, p a.c := fun a ha => by
  cases b with
  | false => exact h a ha
  | true =>
    obtain ⟨x, hx, e⟩ := List.mem_map.mp (show a ∈ as.map turnA from ha)
    rw [← e]
    exact h x hx
theorem bkT_good {b : Bool} {T : Gr} (h : Good k T) : Good k (bkT b T) := by
  cases b with
  | false => exact h
  | true => exact h.turn
theorem zero_good : Good k (fun _ _ => some 0) := ⟨fun _ _ => rfl, fun a b c _ _ _ j hj => ⟨0, rfl, by rw [← Option.some.inj hj]; decide⟩, fun a b v _ _ h => by rw [← Option.some.inj h]; decide⟩
theorem tabs_good (h : GmOk k M) : ∀ i, Good k (tabsM k M i)
  | 0 => zero_good
  | i + 1 => tab_good (tabs_good h i) (h.hin i) (h.hc i) h.k0
theorem begin_le {p : Nat} {x y : Nat} {v : Int} (h : beginF p p x y = some v) : v = 0 := by
  unfold beginF at h
  split at h
  · exact (Option.some.inj h).symm
  · cases h
theorem ten_pos (i : Nat) : (1 : Int) ≤ 10 ^ i := by
  induction i with
  | zero => decide
  | succ i ih => rw [Int.pow_succ]; omega
theorem k1_mul (h : GmOk k M) {z : Int} (hz : 0 ≤ z) : ((k : Int) - 1) * z ≤ 4 * z := Int.mul_le_mul_of_nonneg_right (by have := h.h5; omega) hz
theorem tabs_bnd (h : GmOk k M) : ∀ i x y v, x < k → y < k → tabsM k M i x y = some v → v ≤ 1000000000 * 10 ^ i
  | 0, x, y, v, _, _, e => by
    have e1 : some 0 = some v := e
    rw [← Option.some.inj e1]
    decide
  | i + 1, x, y, v, hx, hy, e => by
    have hp := ten_pos i
    have h1 := walk_bnd (S := beginF x x) (tabs_good h i) (h.hin i) (h.hc i) h.k0 (s := 0) (t := 1000000000 * 10 ^ i) (C := 10 ^ 9) (by omega) (by decide) (h.hc2 i) (fun a b v _ _ q => by rw [begin_le q]; decide) (tabs_bnd h i) y y v hy hy e
    have h2 := k1_mul h (z := 10 ^ 9 + 1000000000 * 10 ^ i) (by omega)
    rw [Int.pow_succ]
    omega
theorem flor_bnd (h : GmOk k M) (i p : Nat) : ∀ x y v, x < k → y < k → walkM k (M.getD i []) (tabsM k M i) (beginF p p) x y = some v → v ≤ 1000000000 * 10 ^ (i + 1) := fun x y v hx hy e => by
  have hp := ten_pos i
  have h1 := walk_bnd (tabs_good h i) (h.hin i) (h.hc i) h.k0 (s := 0) (t := 1000000000 * 10 ^ i) (C := 10 ^ 9) (by omega) (by decide) (h.hc2 i) (fun a b v _ _ q => by rw [begin_le q]; decide) (tabs_bnd h i) x y v hx hy e
  have h2 := k1_mul h (z := 10 ^ 9 + 1000000000 * 10 ^ i) (by omega)
  rw [Int.pow_succ]
  omega
/-- the sides of the game -/
def sdM (k : Nat) (M : List (List Arr)) (b : Bool) : SideM := if b then (sideM k M M.length).map turnS else sideM k M M.length
theorem sdM_get {b : Bool} {i : Nat} (hi : i < M.length) : (sdM k M b).getD i ([], fun _ _ => none) = (bkA b (M.getD i []), bkT b (tabsM k M i)) := by
  have e : (sideM k M M.length)[i]? = some (M.getD i [], tabsM k M i) := by
    unfold sideM
    rw [List.getElem?_map, List.getElem?_range hi]
    rfl
  cases b with
  | false => exact getD_of e
  | true =>
    refine getD_of ?_
    show ((sideM k M M.length).map turnS)[i]? = _
    rw [List.getElem?_map, e]
    rfl
theorem into_eq {b : Bool} {ps : List Nat} {i : Nat} (hi : i < M.length) : intoW k (sdM k M b) ps i = walkM k (bkA b (M.getD i [])) (bkT b (tabsM k M i)) (begunF (ps.getD i 0) (intoR k (sdM k M b) ps i)) := by
  unfold intoW
  rw [sdM_get hi]
theorem intoR_bnd (SL : SideM) (ps : List Nat) : ∀ i, intoR k SL ps i = bndF (intoW k SL ps) i
  | 0 => rfl
  | i + 1 => rfl
theorem begun_le {p : Nat} {f : Nat → Option Int} {x y : Nat} {v : Int} (h : begunF p f x y = some v) : f y = some v := by
  unfold begunF at h
  split at h
  · exact h
  · cases h
theorem bkT_bnd {b : Bool} {i : Nat} {B : Int} (h : ∀ x y v, x < k → y < k → tabsM k M i x y = some v → v ≤ B) : ∀ x y v, x < k → y < k → bkT b (tabsM k M i) x y = some v → v ≤ B := fun x y v hx hy e => by
  cases b with
  | false => exact h x y v hx hy e
  | true => exact h y x v hy hx e
theorem into_bnd (h : GmOk k M) {b : Bool} {ps : List Nat} : ∀ i, i < M.length → ∀ x y v, x < k → y < k → intoW k (sdM k M b) ps i x y = some v → 0 ≤ v ∧ v ≤ 2000000000 * 10 ^ (i + 1)
  | i, hi, x, y, v, hx, hy, e => by
    have row : ∀ y v, y < k → intoR k (sdM k M b) ps i y = some v → 0 ≤ v ∧ v ≤ 2000000000 * 10 ^ i := by
      cases i with
      | zero =>
        intro y v _ q
        have q1 : some 0 = some v := q
        rw [← Option.some.inj q1]
        decide
      | succ i =>
        intro y v hy q
        exact into_bnd h i (by omega) y y v hy hy q
    rw [into_eq hi] at e
    have hp := ten_pos i
    have g := bkT_good (b := b) (tabs_good h i)
    have hc := bkA_c (b := b) (p := fun c => 0 ≤ c) (h.hc i)
    have h1 := walk_bnd g (bkA_in (h.hin i)) hc h.k0 (s := 2000000000 * 10 ^ i) (t := 1000000000 * 10 ^ i) (C := 10 ^ 9) (by omega) (by decide) (bkA_c (p := fun c => c ≤ 10 ^ 9) (h.hc2 i)) (fun a b v _ hb q => (row b v hb (begun_le q)).2) (bkT_bnd (tabs_bnd h i)) x y v hx hy e
    have h0 := walk_nn g (bkA_in (h.hin i)) hc (fun a b v _ hb q => (row b v hb (begun_le q)).1) x y v hx hy e
    have h2 := k1_mul h (z := 10 ^ 9 + 1000000000 * 10 ^ i) (by omega)
    refine ⟨h0, ?_⟩
    rw [Int.pow_succ]
    omega
theorem ten_mono {i j : Nat} (h : i ≤ j) : (10 : Int) ^ i ≤ 10 ^ j := by
  induction h with
  | refl => exact Int.le_refl _
  | @step m h ih =>
    have := ten_pos m
    rw [Int.pow_succ]
    omega
theorem small_of {o : Option Int} {i : Nat} (hi : i ≤ 50) (h : ∀ v, o = some v → 0 ≤ v ∧ v ≤ 2000000000 * 10 ^ i) : small 0 o := fun v e => by
  obtain ⟨h1, h2⟩ := h v e
  have h3 : (10 : Int) ^ i ≤ 10 ^ 50 := ten_mono hi
  have h4 : (10 : Int) ^ 97 = 10 ^ 50 * 10 ^ 47 := by decide +kernel
  show -bnd 0 ≤ v ∧ v ≤ bnd 0
  unfold bnd
  rw [if_pos (by decide)]
  omega

/-! ### the least paper -/
def cF (k n : Nat) (M : List (List Arr)) : Nat → Nat → Gr := florM k (M.take n)
def cG (k n : Nat) (M : List (List Arr)) (ps : List Nat) : Nat → Gr := intoW k (sdM k M false) (ps.take (n + 1))
def cH (k n : Nat) (M : List (List Arr)) (qs : List Nat) : Nat → Gr := intoW k (sdM k M true) (qs.take n)
theorem paper_papT (ps qs : List Nat) (n : Nat) : paperD k M ps qs n = papT k n (cF k n M) (cG k n M ps) (cH k n M qs) := rfl
theorem tabs_take {n : Nat} : ∀ {i}, i ≤ n → tabsM k (M.take n) i = tabsM k M i
  | 0, _ => rfl
  | i + 1, h => by
    show tabM k ((M.take n).getD i []) (tabsM k (M.take n) i) = tabM k (M.getD i []) (tabsM k M i)
    rw [take_getD (show i < n by omega), tabs_take (show i ≤ n by omega)]
theorem cF_eq {n i : Nat} (h : i < n) (p : Nat) : cF k n M i p = walkM k (M.getD i []) (tabsM k M i) (beginF p p) := by
  unfold cF florM
  rw [take_getD h, tabs_take (Nat.le_of_lt h)]
theorem tabF_c {n : Nat} : ∀ {i}, i ≤ n → tabF (cF k n M) i = tabsM k M i
  | 0, _ => rfl
  | i + 1, h => by
    show (fun p q => cF k n M i p q q) = tabM k (M.getD i []) (tabsM k M i)
    funext p q
    rw [cF_eq (show i < n by omega)]
    rfl
theorem cG_eq {n i : Nat} {ps : List Nat} (h : i < n + 1) (hi : i < M.length) : cG k n M ps i = walkM k (M.getD i []) (tabsM k M i) (begunF (ps.getD i 0) (bndF (cG k n M ps) i)) := by
  show intoW k (sdM k M false) (ps.take (n + 1)) i = _
  rw [into_eq hi, intoR_bnd, take_getD h]
  rfl
theorem cH_eq {n i : Nat} {qs : List Nat} (h : i < n) (hi : i < M.length) : cH k n M qs i = walkM k (bkA true (M.getD i [])) (bkT true (tabsM k M i)) (begunF (qs.getD i 0) (bndF (cH k n M qs) i)) := by
  show intoW k (sdM k M true) (qs.take n) i = _
  rw [into_eq hi, intoR_bnd, take_getD h]
  rfl
variable {L : List (List Arr)} {n : Nat} {ps qs : List Nat}
theorem c_bounds (h : GmOk k M) (hn : n < M.length) : (∀ i p, i < n → p < k → GB 0 k (cF k n M i p)) ∧ (∀ i, i < n + 1 → GB 0 k (cG k n M ps i)) ∧ (∀ i, i < n → GB 0 k (cH k n M qs i)) := by
  have hl := h.len
  refine ⟨fun i p hi hp x y hx hy => small_of (i := i + 1) (by omega) fun v e => ?_, fun i hi x y hx hy => small_of (i := i + 1) (by omega) fun v e => into_bnd h i (by omega) x y v hx hy e, fun i hi x y hx hy => small_of (i := i + 1) (by omega) fun v e => into_bnd h i (by omega) x y v hx hy e⟩
  rw [cF_eq hi] at e
  have h1 := flor_bnd h i p x y v hx hy e
  have h2 := walk_nn (tabs_good h i) (h.hin i) (h.hc i) (fun a b v _ _ q => by rw [begin_le q]; decide) x y v hx hy e
  have := ten_pos (i + 1)
  exact ⟨h2, by omega⟩
theorem bkA_perm {b : Bool} {as bs : List Arr} (h : as.Perm bs) : (bkA b as).Perm (bkA b bs) := by
  cases b with
  | false => exact h
  | true => exact h.map turnA
theorem c_accF (h : GmOk k M) (hp : PermL L M) {i : Nat} (hi : i < n) : accF k L (cF k n M) i = true := by
  refine range_all fun p hpk => ?_
  unfold okFp
  rw [tabF_c (Nat.le_of_lt hi), cF_eq hi, kept_perm (hp.2 i).symm, walk_kept (tabs_good h i) (h.hin i) (h.hc i) h.k0, Bool.and_true]
  have h1 := walk_start (S := beginF p p) (tabs_good h i) (h.hin i) hpk hpk
  rw [show beginF p p p p = some 0 from if_pos ⟨rfl, rfl⟩] at h1
  exact le_iff.mpr h1
theorem walk_begun (h : GmOk k M) {b : Bool} {p i : Nat} {r : Nat → Option Int} (hp : p < k) : ((List.range k).all fun q => notAb (walkM k (bkA b (M.getD i [])) (bkT b (tabsM k M i)) (begunF p r) p q) (r q)) = true := range_all fun q hq => by
  have h1 := walk_start (S := begunF p r) (bkT_good (b := b) (tabs_good h i)) (bkA_in (b := b) (h.hin i)) hp hq
  rw [show begunF p r p q = r q from if_pos rfl] at h1
  exact le_iff.mpr h1
theorem c_accG (h : GmOk k M) (hp : PermL L M) (hn : n < M.length) {i : Nat} (hi : i < n + 1) (hps : ps.getD i 0 < k) : accH k L (cF k n M) false (cG k n M ps) ps i = true := by
  unfold accH
  rw [tabF_c (show i ≤ n by omega), cG_eq hi (by omega)]
  have e1 : keptB k (bkA false (L.getD i [])) (bkT false (tabsM k M i)) (walkM k (M.getD i []) (tabsM k M i) (begunF (ps.getD i 0) (bndF (cG k n M ps) i))) = true := by
    rw [kept_perm (bkA_perm (b := false) (hp.2 i).symm)]
    exact walk_kept (tabs_good h i) (h.hin i) (h.hc i) h.k0
  rw [e1]
  exact walk_begun h (b := false) hps
theorem c_accH (h : GmOk k M) (hp : PermL L M) (hn : n < M.length) {i : Nat} (hi : i < n) (hqs : qs.getD i 0 < k) : accH k L (cF k n M) true (cH k n M qs) qs i = true := by
  unfold accH
  rw [tabF_c (show i ≤ n by omega), cH_eq hi (by omega)]
  have e1 : keptB k (bkA true (L.getD i [])) (bkT true (tabsM k M i)) (walkM k (bkA true (M.getD i [])) (bkT true (tabsM k M i)) (begunF (qs.getD i 0) (bndF (cH k n M qs) i))) = true := by
    rw [kept_perm (bkA_perm (b := true) (hp.2 i).symm)]
    exact walk_kept (bkT_good (b := true) (tabs_good h i)) (bkA_in (h.hin i)) (bkA_c (p := fun c => 0 ≤ c) (h.hc i)) h.k0
  rw [e1]
  exact walk_begun h (b := true) hqs

/-! ### no kept paper is worth more -/
variable {f : Nat → Nat → Gr} {g hh : Nat → Gr}
theorem f_le (h : GmOk k M) (hp : PermL L M) (hf : ∀ i, i < n → accF k L f i = true) : ∀ i, i ≤ n → ∀ x y, x < k → y < k → le (tabF f i x y) (tabsM k M i x y)
  | 0, _, x, y, _, _ => le_rfl
  | i + 1, hi, x, y, hx, hy => by
    have h1 := range_get (hf i (by omega)) hx
    unfold okFp at h1
    obtain ⟨h2, h3⟩ := Bool.and_eq_true_iff.mp h1
    rw [kept_perm (hp.2 i).symm] at h3
    exact walk_min (tabs_good h i) (h.hin i) (kept_A h3) (kept_B h3) (f_le h hp hf i (by omega)) (fun a b ha hb => by
      unfold beginF
      split
      · rename_i e
        rw [e.1, e.2]
        exact le_iff.mp h2
      · exact fun _ z => nomatch z) y y hy hy
theorem g_le (h : GmOk k M) (hp : PermL L M) (hf : ∀ i, i < n → accF k L f i = true) {b : Bool} {rs : List Nat} {c : Nat → Gr} {m : Nat} (hm : m ≤ n + 1)
    (hc : ∀ i, i < m → c i = walkM k (bkA b (M.getD i [])) (bkT b (tabsM k M i)) (begunF (rs.getD i 0) (bndF c i))) (hg : ∀ i, i < m → accH k L f b g rs i = true) :
    ∀ i, i < m → ∀ x y, x < k → y < k → le (g i x y) (c i x y) := fun i => by
  induction i with
  | zero =>
    intro hi x y hx hy
    obtain ⟨h1, h2⟩ := Bool.and_eq_true_iff.mp (hg 0 hi)
    rw [kept_perm (bkA_perm (hp.2 0).symm)] at h1
    rw [hc 0 hi]
    refine walk_min (bkT_good (tabs_good h 0)) (bkA_in (h.hin 0)) (kept_A h1) (kept_B h1) (fun a d ha hd => ?_) (fun a d ha hd => ?_) x y hx hy
    · cases b with
      | false => exact f_le h hp hf 0 (by omega) a d ha hd
      | true => exact f_le h hp hf 0 (by omega) d a hd ha
    · unfold begunF
      split
      · rename_i e
        rw [e]
        exact le_iff.mp (range_get h2 hd)
      · exact fun _ z => nomatch z
  | succ i ih =>
    intro hi x y hx hy
    obtain ⟨h1, h2⟩ := Bool.and_eq_true_iff.mp (hg (i + 1) hi)
    rw [kept_perm (bkA_perm (hp.2 (i + 1)).symm)] at h1
    rw [hc (i + 1) hi]
    refine walk_min (bkT_good (tabs_good h (i + 1))) (bkA_in (h.hin (i + 1))) (kept_A h1) (kept_B h1) (fun a d ha hd => ?_) (fun a d ha hd => ?_) x y hx hy
    · cases b with
      | false => exact f_le h hp hf (i + 1) (by omega) a d ha hd
      | true => exact f_le h hp hf (i + 1) (by omega) d a hd ha
    · unfold begunF
      split
      · rename_i e
        rw [e]
        exact (le_iff.mp (range_get h2 hd)).trans (ih (by omega) d d hd hd)
      · exact fun _ z => nomatch z
theorem num_le (h : GmOk k M) (hp : PermL L M) (hn : n < M.length) (hq : qs.getD n 0 < k) (hf : ∀ i, i < n → accF k L f i = true) (hg : ∀ i, i < n + 1 → accH k L f false g ps i = true) (hhh : ∀ i, i < n → accH k L f true hh qs i = true) :
    notAb (numF k n qs g hh) (numF k n qs (cG k n M ps) (cH k n M qs)) = true := le_iff.mpr (by
  refine lsM_mono (fun i hi => ?_) (fun i hi => ?_)
  · exact g_le h hp hf (b := false) (m := n + 1) (Nat.le_refl _) (fun i hi => cG_eq hi (by omega)) hg n (Nat.lt_succ_self n) _ i hq hi
  · cases n with
    | zero => exact le_rfl
    | succ n => exact g_le h hp hf (b := true) (m := n + 1) (by omega) (fun i hi => cH_eq hi (by omega)) hhh n (Nat.lt_succ_self n) i i hi hi)
end
end PW
end
section
set_option maxHeartbeats 4000000
/-! Papers as data: what is told of them. -/
namespace PW
open PySem PySem.Spec PyProof.Rows L2 PJ PF PX

def mk (b : Bool) (ds : List Dat) : Dat := if b then .tup ds else .lst ds
theorem seqs_mk (b : Bool) (ds : List Dat) : seqs (mk b ds) = ds := by cases b <;> rfl
theorem isSeq_mk (b : Bool) (ds : List Dat) : isSeq (mk b ds) = true := by cases b <;> rfl
theorem ty_mk (b : Bool) (ds : List Dat) : (tyN (mk b ds)).isSome = true := by cases b <;> rfl
def rowM (b : Bool) (k : Nat) (f : Nat → Option Int) : Dat := mk b (rowD k f)
def gridM (b : Bool) (k : Nat) (g : Gr) : Dat := mk b ((List.range k).map fun x => rowM b k (g x))
def partM (b : Bool) (k : Nat) (f : Nat → Gr) : Dat := mk b ((List.range k).map fun p => gridM b k (f p))
def papM (b : Bool) (k n : Nat) (f : Nat → Nat → Gr) (g h : Nat → Gr) : Dat :=
  mk b [mk b ((List.range n).map fun i => partM b k (f i)), mk b ((List.range (n + 1)).map fun i => gridM b k (g i)), mk b ((List.range n).map fun i => gridM b k (h i))]
theorem papM_T (k n : Nat) (f : Nat → Nat → Gr) (g h : Nat → Gr) : papM true k n f g h = papT k n f g h := rfl
theorem papM_L (k n : Nat) (f : Nat → Nat → Gr) (g h : Nat → Gr) : papM false k n f g h = papL k n f g h := rfl
theorem tyOk_o (o : Option Int) : ∀ n, tyOk n (oD o) = true
  | 0 => by cases o <;> rfl
  | n + 1 => by cases o <;> rfl
theorem tyOk_mk {b : Bool} {ds : List Dat} {n : Nat} (h : ∀ d ∈ ds, tyOk n d = true) : tyOk (n + 1) (mk b ds) = true := by
  show ((tyN (mk b ds)).isSome && (seqs (mk b ds)).all (tyOk n)) = true
  rw [ty_mk, seqs_mk]
  exact List.all_eq_true.mpr h
theorem tyOk_row {b : Bool} {k n : Nat} {f : Nat → Option Int} : tyOk (n + 1) (rowM b k f) = true := tyOk_mk fun d hd => by
  obtain ⟨i, _, e⟩ := List.mem_map.mp hd
  rw [← e]
  exact tyOk_o _ _
theorem tyOk_grid {b : Bool} {k n : Nat} {g : Gr} : tyOk (n + 2) (gridM b k g) = true := tyOk_mk fun d hd => by
  obtain ⟨i, _, e⟩ := List.mem_map.mp hd
  rw [← e]
  exact tyOk_row
theorem tyOk_part {b : Bool} {k n : Nat} {f : Nat → Gr} : tyOk (n + 3) (partM b k f) = true := tyOk_mk fun d hd => by
  obtain ⟨i, _, e⟩ := List.mem_map.mp hd
  rw [← e]
  exact tyOk_grid
theorem entB_o {o : Option Int} (h : ∀ i, o = some i → -(10 ^ 100 - 1) ≤ i ∧ i ≤ 10 ^ 100 - 1) : entB (oD o) = true := by
  cases o with
  | none => rfl
  | some i =>
    have := h i rfl
    refine decide_eq_true ?_
    split <;> omega
theorem rowB_M {b : Bool} {k : Nat} {f : Nat → Option Int} (h : ∀ y, y < k → ∀ i, f y = some i → -(10 ^ 100 - 1) ≤ i ∧ i ≤ 10 ^ 100 - 1) : rowB k (rowM b k f) = true := by
  unfold rowB rowM
  rw [isSeq_mk, seqs_mk, rowD_len, decide_eq_true rfl, Bool.true_and, Bool.true_and]
  refine List.all_eq_true.mpr fun d hd => ?_
  obtain ⟨i, hi, e⟩ := List.mem_map.mp hd
  rw [← e]
  exact entB_o (h i (List.mem_range.mp hi))
theorem gridB_M {b : Bool} {k : Nat} {g : Gr} (h : GX k g) : gridB k (gridM b k g) = true := by
  unfold gridB gridM
  rw [isSeq_mk, seqs_mk, List.length_map, List.length_range, decide_eq_true rfl, Bool.true_and, Bool.true_and]
  refine List.all_eq_true.mpr fun d hd => ?_
  obtain ⟨i, hi, e⟩ := List.mem_map.mp hd
  rw [← e]
  exact rowB_M fun y hy => h i y (List.mem_range.mp hi) hy
theorem partB_M {b : Bool} {k : Nat} {f : Nat → Gr} (h : ∀ p, p < k → GX k (f p)) : partB k (partM b k f) = true := by
  unfold partB partM
  rw [isSeq_mk, seqs_mk, List.length_map, List.length_range, decide_eq_true rfl, Bool.true_and, Bool.true_and]
  refine List.all_eq_true.mpr fun d hd => ?_
  obtain ⟨i, hi, e⟩ := List.mem_map.mp hd
  rw [← e]
  exact gridB_M (h i (List.mem_range.mp hi))
theorem map_getDr {n i : Nat} {f : Nat → Dat} (h : i < n) : ((List.range n).map f).getD i .non = f i := getD_of (map_range_get h)
theorem nth_mk {b : Bool} {n i : Nat} {f : Nat → Dat} (h : i < n) : nth (mk b ((List.range n).map f)) i = f i := by
  unfold nth
  rw [seqs_mk, map_getDr h]
theorem entO_o (o : Option Int) : entO (oD o) = o := by cases o <;> rfl
theorem grF_M {b : Bool} {k : Nat} {g : Gr} {x y : Nat} (hx : x < k) (hy : y < k) : grF (gridM b k g) x y = g x y := by
  unfold grF gridM
  rw [nth_mk hx]
  unfold rowM
  rw [show nth (mk b (rowD k (g x))) y = oD (g x y) from nth_mk hy, entO_o]

/-- a paper in data and by functions -/
structure PapIs (k n : Nat) (xd : Dat) (f : Nat → Nat → Gr) (g h : Nat → Gr) : Prop where
  ty : tyOk 5 xd = true
  sh : shB n xd = true
  pB : ∀ d ∈ seqs (nth xd 0), partB k d = true
  g1 : ∀ d ∈ seqs (nth xd 1), gridB k d = true
  g2 : ∀ d ∈ seqs (nth xd 2), gridB k d = true
  f_ : ∀ i p x y, i < n → p < k → x < k → y < k → fg (seqs (nth xd 0)) i p x y = f i p x y
  g_ : ∀ i x y, i < n + 1 → x < k → y < k → grF ((seqs (nth xd 1)).getD i .non) x y = g i x y
  h_ : ∀ i x y, i < n → x < k → y < k → grF ((seqs (nth xd 2)).getD i .non) x y = h i x y
theorem shB_3 {b : Bool} {n : Nat} {A B C : List Dat} (h1 : A.length = n) (h2 : B.length = n + 1) (h3 : C.length = n) : shB n (mk b [mk b A, mk b B, mk b C]) = true := by
  unfold shB sh1
  rw [isSeq_mk, seqs_mk]
  have e : ∀ i, i < 3 → (isSeq (nth (mk b [mk b A, mk b B, mk b C]) i) && decide ((seqs (nth (mk b [mk b A, mk b B, mk b C]) i)).length = shM n i)) = true := fun i hi => by
    unfold nth
    rw [seqs_mk]
    have hc : i = 0 ∨ i = 1 ∨ i = 2 := by omega
    rcases hc with e | e | e <;> subst e
    · show (isSeq (mk b A) && decide ((seqs (mk b A)).length = n)) = true
      rw [isSeq_mk, seqs_mk, h1, decide_eq_true rfl]
      rfl
    · show (isSeq (mk b B) && decide ((seqs (mk b B)).length = n + 1)) = true
      rw [isSeq_mk, seqs_mk, h2, decide_eq_true rfl]
      rfl
    · show (isSeq (mk b C) && decide ((seqs (mk b C)).length = n)) = true
      rw [isSeq_mk, seqs_mk, h3, decide_eq_true rfl]
      rfl
  rw [range_all e]
  rfl
theorem pap_is (b : Bool) {k n : Nat} {f : Nat → Nat → Gr} {g h : Nat → Gr} (hf : ∀ i p, i < n → p < k → GX k (f i p)) (hg : ∀ i, i < n + 1 → GX k (g i)) (hh : ∀ i, i < n → GX k (h i)) : PapIs k n (papM b k n f g h) f g h := by
  have n0 : nth (papM b k n f g h) 0 = mk b ((List.range n).map fun i => partM b k (f i)) := by unfold nth papM; rw [seqs_mk]; rfl
  have n1 : nth (papM b k n f g h) 1 = mk b ((List.range (n + 1)).map fun i => gridM b k (g i)) := by unfold nth papM; rw [seqs_mk]; rfl
  have n2 : nth (papM b k n f g h) 2 = mk b ((List.range n).map fun i => gridM b k (h i)) := by unfold nth papM; rw [seqs_mk]; rfl
  refine ⟨?_, shB_3 (by simp) (by simp) (by simp), fun d hd => ?_, fun d hd => ?_, fun d hd => ?_, fun i p x y hi hp hx hy => ?_, fun i x y hi hx hy => ?_, fun i x y hi hx hy => ?_⟩
  · refine tyOk_mk fun d hd => ?_
    simp only [List.mem_cons, List.not_mem_nil, or_false] at hd
    rcases hd with e | e | e <;> rw [e]
    · refine tyOk_mk fun d hd => ?_
      obtain ⟨i, _, e⟩ := List.mem_map.mp hd
      rw [← e]
      exact tyOk_part
    · refine tyOk_mk fun d hd => ?_
      obtain ⟨i, _, e⟩ := List.mem_map.mp hd
      rw [← e]
      exact tyOk_grid
    · refine tyOk_mk fun d hd => ?_
      obtain ⟨i, _, e⟩ := List.mem_map.mp hd
      rw [← e]
      exact tyOk_grid
  · rw [n0, seqs_mk] at hd
    obtain ⟨i, hi, e⟩ := List.mem_map.mp hd
    rw [← e]
    exact partB_M fun p hp => hf i p (List.mem_range.mp hi) hp
  · rw [n1, seqs_mk] at hd
    obtain ⟨i, hi, e⟩ := List.mem_map.mp hd
    rw [← e]
    exact gridB_M (hg i (List.mem_range.mp hi))
  · rw [n2, seqs_mk] at hd
    obtain ⟨i, hi, e⟩ := List.mem_map.mp hd
    rw [← e]
    exact gridB_M (hh i (List.mem_range.mp hi))
  · unfold fg
    rw [n0, seqs_mk, map_getDr hi]
    unfold partM
    rw [nth_mk hp, grF_M hx hy]
  · rw [n1, seqs_mk, map_getDr hi, grF_M hx hy]
  · rw [n2, seqs_mk, map_getDr hi, grF_M hx hy]
section
variable {k n : Nat} {xd : Dat} {f : Nat → Nat → Gr} {g h : Nat → Gr} {L M : List (List Arr)} {ps qs : List Nat}
theorem PapIs.tab (P : PapIs k n xd f g h) : ∀ {i}, i ≤ n → ∀ x y, x < k → y < k → ftab (seqs (nth xd 0)) i x y = tabF f i x y
  | 0, _, _, _, _, _ => rfl
  | i + 1, hi, x, y, hx, hy => P.f_ i x y y (by omega) hx hy hy
theorem PapIs.okF_ (P : PapIs k n xd f g h) {i : Nat} (hi : i < n) (hin : ∀ a ∈ L.getD i [], a.In k) : okF k L (seqs (nth xd 0)) i = accF k L f i := by
  unfold okF accF
  refine all_congr fun p hp => ?_
  unfold okFp
  rw [P.f_ i p p p hi hp hp hp, kept_congr hin (fun x y hx hy => P.tab (Nat.le_of_lt hi) x y hx hy) (fun x y hx hy => P.f_ i p x y hi hp hx hy)]
theorem bkT_eq {b : Bool} {T T' : Gr} (h : ∀ x y, x < k → y < k → T x y = T' x y) : ∀ x y, x < k → y < k → bkT b T x y = bkT b T' x y := fun x y hx hy => by
  cases b with
  | false => exact h x y hx hy
  | true => exact h y x hy hx
def gsel (b : Bool) (g h : Nat → Gr) : Nat → Gr := if b then h else g
theorem PapIs.gr (P : PapIs k n xd f g h) {b : Bool} {i : Nat} (hi : i < (if b then n else n + 1)) : ∀ x y, x < k → y < k → grF ((sideN b xd).getD i .non) x y = gsel b g h i x y := fun x y hx hy => by
  cases b with
  | false => exact P.g_ i x y hi hx hy
  | true => exact P.h_ i x y hi hx hy
theorem PapIs.bn (P : PapIs k n xd f g h) {b : Bool} : ∀ {i : Nat}, i ≤ (if b then n else n + 1) → ∀ q, q < k → bnd0 (sideN b xd) i q = bndF (gsel b g h) i q
  | 0, _, q, _ => rfl
  | i + 1, hi, q, hq => P.gr (by omega) q q hq hq
theorem PapIs.okH_ (P : PapIs k n xd f g h) {b : Bool} {i : Nat} {rs : List Nat} (hi : i < (if b then n else n + 1)) (hin : ∀ a ∈ L.getD i [], a.In k) (hr : rs.getD i 0 < k) :
    okH k (sideB b L (seqs (nth xd 0)) (n + 1)) (sideN b xd) rs i = accH k L f b (gsel b g h) rs i := by
  have hi2 : i < n + 1 := by cases b <;> simp at hi <;> omega
  unfold okH accH
  rw [sideB_get hi2]
  rw [kept_congr (bkA_in hin) (bkT_eq fun x y hx hy => P.tab (show i ≤ n by omega) x y hx hy) (fun x y hx hy => P.gr hi x y hx hy)]
  congr 1
  refine all_congr fun q hq => ?_
  rw [P.gr hi _ q hr hq, P.bn (Nat.le_of_lt hi) q hq]
theorem okG_H {b : Bool} {i : Nat} {rs : List Nat} : okG k (sideB b L (seqs (nth xd 0)) (n + 1)) (sideN b xd) rs i = (gridB k ((sideN b xd).getD i .non) && okH k (sideB b L (seqs (nth xd 0)) (n + 1)) (sideN b xd) rs i) := rfl
theorem lsM_congr {f g f' g' : Nat → Option Int} : ∀ {n : Nat}, (∀ i, i < n → f i = f' i) → (∀ i, i < n → g i = g' i) → lsM f g n = lsM f' g' n
  | 0, _, _ => rfl
  | n + 1, h1, h2 => by
    show lesr _ _ = lesr _ _
    rw [lsM_congr (n := n) (fun i hi => h1 i (Nat.lt_succ_of_lt hi)) (fun i hi => h2 i (Nat.lt_succ_of_lt hi)), h1 n (Nat.lt_succ_self n), h2 n (Nat.lt_succ_self n)]
theorem PapIs.num (P : PapIs k n xd f g h) (hq : qs.getD n 0 < k) : lsM (grF ((seqs (nth xd 1)).getD n .non) (qs.getD n 0)) (bndN (seqs (nth xd 2)) n) k = numF k n qs g h :=
  lsM_congr (fun i hi => P.g_ n _ i (Nat.lt_succ_self n) hq hi) (fun i hi => P.bn (b := true) (i := n) (Nat.le_refl n) i hi)
theorem accF_perm (hp : PermL L M) (i : Nat) : accF k M f i = accF k L f i := by
  unfold accF
  refine all_congr fun p _ => ?_
  unfold okFp
  rw [kept_perm (hp.2 i)]
theorem accH_perm {b : Bool} {rs : List Nat} (hp : PermL L M) (i : Nat) : accH k M f b g rs i = accH k L f b g rs i := by
  unfold accH
  rw [kept_perm (bkA_perm (hp.2 i))]
/-! what is told, by one result -/
def nmE (kd : Nat) : Str := if kd = 0 then "position" else if kd = 1 then "floor" else "paper"
def Rtd (D : Dat) : Dat → Prop := fun d => Dat.tup [.str "number", d] = D
def Ztd (D : Dat) : Nat → Int → Prop := fun kd n => kd < 3 ∧ Dat.tup [.str (nmE kd), .int n] = D
def resD (res : Str × Option Int) : Dat := .tup [.str res.1, oD res.2]
theorem ne_pn : ("paper" : Str) ≠ "number" := by decide +kernel
theorem ne_fn : ("floor" : Str) ≠ "number" := by decide +kernel
theorem first_false (p : Nat → Bool) : ∀ n, (∀ i, i < n → p i = true) ∨ ∃ i, i < n ∧ p i = false ∧ ∀ j, j < i → p j = true
  | 0 => .inl fun i h => absurd h (Nat.not_lt_zero i)
  | n + 1 => by
    rcases first_false p n with h | ⟨i, h1, h2, h3⟩
    · cases e : p n with
      | true =>
        refine .inl fun i hi => ?_
        rcases Nat.lt_or_ge i n with h4 | h4
        · exact h i h4
        · rw [show i = n by omega]
          exact e
      | false => exact .inr ⟨n, Nat.lt_succ_self n, e, h⟩
    · exact .inr ⟨i, by omega, h2, h3⟩
theorem first_uniq {p : Nat → Bool} {i j : Nat} (h1 : p i = false) (h2 : ∀ m, m < i → p m = true) (h3 : p j = false) (h4 : ∀ m, m < j → p m = true) : i = j := by
  rcases Nat.lt_trichotomy i j with h | h | h
  · rw [h4 i h] at h1
    cases h1
  · exact h
  · rw [h2 j h] at h3
    cases h3
theorem not_ff {p : Nat → Bool} {n i : Nat} (hi : i < n) (h : p i = false) : ¬ ∀ i, i < n → p i = true := fun z => by
  rw [z i hi] at h
  cases h
theorem fit_ex (P : PapIs k n xd f g h) (hp : PermL L M) (hin : ∀ i, ∀ a ∈ L.getD i [], a.In k) (hps : ∀ i, i < n + 1 → ps.getD i 0 < k) (hqs : ∀ i, i < n + 1 → qs.getD i 0 < k) :
    ∃ res : Str × Option Int, (∀ R : Dat → Prop, R (resD res) → VN k L ps qs n xd R) ∧ PN k M ps qs n xd (Rtd (resD res)) (Ztd (resD res)) ∧
      (res.1 = "number" → (∀ i, i < n → accF k L f i = true) ∧ (∀ i, i < n + 1 → accH k L f false g ps i = true) ∧ (∀ i, i < n → accH k L f true h qs i = true) ∧ res.2 = numF k n qs g h) ∧
      ((∀ i, i < n → accF k L f i = true) → (∀ i, i < n + 1 → accH k L f false g ps i = true) → (∀ i, i < n → accH k L f true h qs i = true) → res = (("number" : Str), numF k n qs g h)) := by
  have hinM : ∀ i, ∀ a ∈ M.getD i [], a.In k := fun i a ha => hin i a ((hp.2 i).mem_iff.mp ha)
  have eF : ∀ i, i < n → okF k L (seqs (nth xd 0)) i = accF k L f i := fun i hi => P.okF_ hi (hin i)
  have eFM : ∀ i, i < n → okF k M (seqs (nth xd 0)) i = accF k L f i := fun i hi => (P.okF_ hi (hinM i)).trans (accF_perm hp i)
  have eG : ∀ i, i < n + 1 → okH k (sideB false L (seqs (nth xd 0)) (n + 1)) (seqs (nth xd 1)) ps i = accH k L f false g ps i := fun i hi => P.okH_ (b := false) hi (hin i) (hps i hi)
  have eH : ∀ i, i < n → okH k (sideB true L (seqs (nth xd 0)) (n + 1)) (seqs (nth xd 2)) qs i = accH k L f true h qs i := fun i hi => P.okH_ (b := true) hi (hin i) (hqs i (by omega))
  have len1 : (seqs (nth xd 1)).length = n + 1 := of_decide_eq_true (Bool.and_eq_true_iff.mp (range_get (Bool.and_eq_true_iff.mp P.sh).2 (i := 1) (by decide))).2
  have len2 : (seqs (nth xd 2)).length = n := of_decide_eq_true (Bool.and_eq_true_iff.mp (range_get (Bool.and_eq_true_iff.mp P.sh).2 (i := 2) (by decide))).2
  have gb1 : ∀ i, i < n + 1 → gridB k ((seqs (nth xd 1)).getD i .non) = true := fun i hi => by
    have e1 : (seqs (nth xd 1))[i]? = some ((seqs (nth xd 1))[i]'(by omega)) := List.getElem?_eq_getElem (by omega)
    rw [getD_of e1]
    exact P.g1 _ (List.getElem_mem _)
  have gb2 : ∀ i, i < n → gridB k ((seqs (nth xd 2)).getD i .non) = true := fun i hi => by
    have e1 : (seqs (nth xd 2))[i]? = some ((seqs (nth xd 2))[i]'(by omega)) := List.getElem?_eq_getElem (by omega)
    rw [getD_of e1]
    exact P.g2 _ (List.getElem_mem _)
  have eGM : ∀ i, i < n + 1 → okG k (sideF M (seqs (nth xd 0)) (n + 1)) (seqs (nth xd 1)) ps i = accH k L f false g ps i := fun i hi => by
    have h1 := okG_H (k := k) (n := n) (xd := xd) (L := M) (b := false) (i := i) (rs := ps)
    have h2 := P.okH_ (L := M) (b := false) hi (hinM i) (hps i hi)
    rw [h2, accH_perm hp i, show gridB k ((sideN false xd).getD i .non) = true from gb1 i hi, Bool.true_and] at h1
    exact h1
  have eHM : ∀ i, i < n → okG k ((sideF M (seqs (nth xd 0)) (n + 1)).map turnS) (seqs (nth xd 2)) qs i = accH k L f true h qs i := fun i hi => by
    have h1 := okG_H (k := k) (n := n) (xd := xd) (L := M) (b := true) (i := i) (rs := qs)
    have h2 := P.okH_ (L := M) (b := true) hi (hinM i) (hqs i (by omega))
    rw [h2, accH_perm hp i, show gridB k ((sideN true xd).getD i .non) = true from gb2 i hi, Bool.true_and] at h1
    exact h1
  have num := P.num (hqs n (Nat.lt_succ_self n))
  have bad : shB n xd = false → False := fun z => by rw [P.sh] at z; cases z
  have noB : ∀ {i : Nat} {d : Dat} {A : Prop}, (seqs (nth xd 0))[i]? = some d → partB k d = false → A := fun {i d A} h1 h2 => by
    rw [P.pB d (List.mem_of_getElem? h1)] at h2
    cases h2
  have ne1 : ∀ {x y : Str}, x ≠ y → ∀ {A : Prop}, x = y → A := fun h _ e => absurd e h
  rcases first_false (accF k L f) n with hF | ⟨i, hi, f1, f2⟩
  · rcases first_false (accH k L f false g ps) (n + 1) with hG | ⟨i, hi, f1, f2⟩
    · rcases first_false (accH k L f true h qs) n with hH | ⟨i, hi, f1, f2⟩
      · refine ⟨("number", numF k n qs g h), fun R r => ⟨fun i hi z _ => ?_, fun _ i hi z _ => ?_, fun _ _ i hi z _ => ?_, fun _ _ _ => ?_⟩, ⟨P.ty, fun z => (bad z).elim, fun _ i d h1 h2 _ => noB h1 h2, fun _ _ i hi z _ => ?_, fun _ _ _ i hi z _ => ?_, fun _ _ _ _ i hi z _ => ?_, fun _ _ _ _ _ => ?_⟩, fun _ => ⟨hF, hG, hH, Eq.refl _⟩, fun _ _ _ => Eq.refl _⟩
        · rw [eF i hi, hF i hi] at z; cases z
        · rw [eG i hi, hG i hi] at z; cases z
        · rw [eH i hi, hH i hi] at z; cases z
        · rw [num]; exact r
        · rw [eFM i hi, hF i hi] at z; cases z
        · rw [eGM i hi, hG i hi] at z; cases z
        · rw [eHM i hi, hH i hi] at z; cases z
        · rw [num]; exact Eq.refl _
      · refine ⟨("paper", some ((i + 100 : Nat) : Int)), fun R r => ⟨fun i hi z _ => ?_, fun _ i hi z _ => ?_, fun _ _ j hj z z2 => ?_, fun _ _ a => ?_⟩, ⟨P.ty, fun z => (bad z).elim, fun _ i d h1 h2 _ => noB h1 h2, fun _ _ i hi z _ => ?_, fun _ _ _ i hi z _ => ?_, fun _ _ _ _ j hj z z2 => ?_, fun _ _ _ _ a => ?_⟩, ne1 ne_pn, fun _ _ a => absurd a (not_ff hi f1)⟩
        · rw [eF i hi, hF i hi] at z; cases z
        · rw [eG i hi, hG i hi] at z; cases z
        · rw [eH j hj] at z
          have e := first_uniq (p := accH k L f true h qs) z (fun m hm => by rw [← eH m (by omega)]; exact z2 m hm) f1 f2
          rw [e]; exact r
        · exact absurd (fun i hi => by rw [← eH i hi]; exact a i hi) (not_ff hi f1)
        · rw [eFM i hi, hF i hi] at z; cases z
        · rw [eGM i hi, hG i hi] at z; cases z
        · rw [eHM j hj] at z
          have e := first_uniq (p := accH k L f true h qs) z (fun m hm => by rw [← eHM m (by omega)]; exact z2 m hm) f1 f2
          rw [e]; exact ⟨by decide, Eq.refl _⟩
        · exact absurd (fun i hi => by rw [← eHM i hi]; exact a i hi) (not_ff hi f1)
    · refine ⟨("paper", some ((i + 0 : Nat) : Int)), fun R r => ⟨fun i hi z _ => ?_, fun _ j hj z z2 => ?_, fun _ a => ?_, fun _ a => ?_⟩, ⟨P.ty, fun z => (bad z).elim, fun _ i d h1 h2 _ => noB h1 h2, fun _ _ i hi z _ => ?_, fun _ _ _ j hj z z2 => ?_, fun _ _ _ a => ?_, fun _ _ _ a => ?_⟩, ne1 ne_pn, fun _ a => absurd a (not_ff hi f1)⟩
      · rw [eF i hi, hF i hi] at z; cases z
      · rw [eG j hj] at z
        have e := first_uniq (p := accH k L f false g ps) z (fun m hm => by rw [← eG m (by omega)]; exact z2 m hm) f1 f2
        rw [e]; exact r
      · exact absurd (fun i hi => by rw [← eG i hi]; exact a i hi) (not_ff hi f1)
      · exact absurd (fun i hi => by rw [← eG i hi]; exact a i hi) (not_ff hi f1)
      · rw [eFM i hi, hF i hi] at z; cases z
      · rw [eGM j hj] at z
        have e := first_uniq (p := accH k L f false g ps) z (fun m hm => by rw [← eGM m (by omega)]; exact z2 m hm) f1 f2
        rw [e]; exact ⟨by decide, Eq.refl _⟩
      · exact absurd (fun i hi => by rw [← eGM i hi]; exact a i hi) (not_ff hi f1)
      · exact absurd (fun i hi => by rw [← eGM i hi]; exact a i hi) (not_ff hi f1)
  · refine ⟨("floor", some (i : Int)), fun R r => ⟨fun j hj z z2 => ?_, fun a => ?_, fun a => ?_, fun a => ?_⟩, ⟨P.ty, fun z => (bad z).elim, fun _ i d h1 h2 _ => noB h1 h2, fun _ _ j hj z z2 => ?_, fun _ _ a => ?_, fun _ _ a => ?_, fun _ _ a => ?_⟩, ne1 ne_fn, fun a => absurd a (not_ff hi f1)⟩
    · rw [eF j hj] at z
      have e := first_uniq (p := accF k L f) z (fun m hm => by rw [← eF m (by omega)]; exact z2 m hm) f1 f2
      rw [e]; exact r
    · exact absurd (fun i hi => by rw [← eF i hi]; exact a i hi) (not_ff hi f1)
    · exact absurd (fun i hi => by rw [← eF i hi]; exact a i hi) (not_ff hi f1)
    · exact absurd (fun i hi => by rw [← eF i hi]; exact a i hi) (not_ff hi f1)
    · rw [eFM j hj] at z
      have e := first_uniq (p := accF k L f) z (fun m hm => by rw [← eFM m (by omega)]; exact z2 m hm) f1 f2
      rw [e]; exact ⟨by decide, Eq.refl _⟩
    · exact absurd (fun i hi => by rw [← eFM i hi]; exact a i hi) (not_ff hi f1)
    · exact absurd (fun i hi => by rw [← eFM i hi]; exact a i hi) (not_ff hi f1)
    · exact absurd (fun i hi => by rw [← eFM i hi]; exact a i hi) (not_ff hi f1)
/-! papers of a wrong form -/
theorem pn_bad {R : Dat → Prop} {Z : Nat → Int → Prop} (ty : tyOk 5 xd = true) (h : shB n xd = false) (z : Z 2 (-1)) : PN k M ps qs n xd R Z := by
  have no : ∀ {A : Prop}, shB n xd = true → A := fun {A} e => by
    rw [h] at e
    cases e
  exact ⟨ty, fun _ => z, fun e => no e, fun e => no e, fun e => no e, fun e => no e, fun e => no e⟩
theorem pn_part {R : Dat → Prop} {Z : Nat → Int → Prop} {i : Nat} {d : Dat} (ty : tyOk 5 xd = true) (h : shB n xd = true) (hd : (seqs (nth xd 0))[i]? = some d) (hb : partB k d = false) (hlt : ∀ (j : Nat) d, j < i → (seqs (nth xd 0))[j]? = some d → partB k d = true) (z : Z 1 i) : PN k M ps qs n xd R Z := by
  have no : ∀ {A : Prop}, (∀ d ∈ seqs (nth xd 0), partB k d = true) → A := fun {A} e => by
    rw [e d (List.mem_of_getElem? hd)] at hb
    cases hb
  refine ⟨ty, fun e => (by rw [h] at e; cases e), fun _ j d' hd' hb' hlt' => ?_, fun _ e => no e, fun _ e => no e, fun _ e => no e, fun _ e => no e⟩
  rcases Nat.lt_trichotomy i j with q | q | q
  · rw [hlt' i d q hd] at hb
    cases hb
  · rw [← q]
    exact z
  · rw [hlt j d' q hd'] at hb'
    cases hb'
theorem pn_grid {R : Dat → Prop} {Z : Nat → Int → Prop} {i : Nat} (ty : tyOk 5 xd = true) (h : shB n xd = true) (hp : ∀ d ∈ seqs (nth xd 0), partB k d = true) (hF : ∀ i, i < n → okF k M (seqs (nth xd 0)) i = true) (hi : i < n + 1)
    (hb : gridB k ((seqs (nth xd 1)).getD i .non) = false) (hlt : ∀ j, j < i → okG k (sideF M (seqs (nth xd 0)) (n + 1)) (seqs (nth xd 1)) ps j = true) (z : Z 2 (i + 0 : Nat)) : PN k M ps qs n xd R Z := by
  have f1 : okG k (sideF M (seqs (nth xd 0)) (n + 1)) (seqs (nth xd 1)) ps i = false := by
    unfold okG
    rw [hb]
    rfl
  refine ⟨ty, fun e => (by rw [h] at e; cases e), fun _ j d hd hb' _ => ?_, fun _ _ j hj hz _ => ?_, fun _ _ _ j hj z1 z2 => ?_, fun _ _ _ a => absurd a (not_ff hi f1), fun _ _ _ a => absurd a (not_ff hi f1)⟩
  · rw [hp d (List.mem_of_getElem? hd)] at hb'
    cases hb'
  · rw [hF j hj] at hz
    cases hz
  · rw [first_uniq (p := okG k (sideF M (seqs (nth xd 0)) (n + 1)) (seqs (nth xd 1)) ps) z1 z2 f1 hlt]
    exact z
end
end PW
end
section
set_option maxHeartbeats 4000000
namespace PW
open PySem PySem.Spec PyProof.Rows L2 PJ PF PX
section
variable {P : Program} {w : World} {K : PySem.W.Frag} {mg : Str → Option Value} {base : Heap}
theorem plain_opt {z : Option Dat} {δ : Lv} (h : PlainL δ) : PlainL (z.map Sl.dat :: δ) := by
  cases z with
  | none => exact plain_none h
  | some d => exact plain_dat h
def W__law_turned_paper : Wf := fun ss R _ => ∃ (k n w : Nat) (f : Nat → Nat → Gr) (g h : Nat → Gr), ss = [.drw, .dat (papT k n f g h), .dat (.int (k : Int)), .dat (.int (w : Int))] ∧ 3 ≤ k ∧ k ≤ 5 ∧ n ≤ 40 ∧ w ≤ 3 ∧
  (∀ i p, i < n → p < k → GB 0 k (f i p)) ∧ (∀ i, i < n + 1 → GB 0 k (g i)) ∧ (∀ i, i < n → GB 0 k (h i)) ∧
  ∀ f' g' h', (∀ i p, i < n → p < k → GX k (f' i p)) → (∀ i, i < n + 1 → GX k (g' i)) → (∀ i, i < n → GX k (h' i)) → R (papL k n f' g' h')
/-- what comes back: lists of rows of the bag -/
def rtX (S : Addr → Prop) (k n : Nat) : Dat → Prop := fun d => ∃ A B C, d = .lst [A, B, C] ∧ Tl (Tl (Tl (T0 S) k) k) n A ∧ Tl (Tl (T0 S) k) (n + 1) B ∧ Tl (Tl (T0 S) k) n C
def pxL (k w : Nat) (A B C : Dat) (z1 z5 : Option Sl) (r : Lv) : Lv := some .drw :: z1 :: some (.dat (.int (k : Int))) :: some (.dat (.int (w : Int))) :: some (.dat A) :: z5 :: some (.dat (.lst [B, C])) :: r
set_option maxHeartbeats 8000000 in
theorem ok__law_turned_paper (c : Fc K mg) : DefJ P w K mg base "_law_turned_paper" 3 ["_law_draws_here", "_law_paper", "_law_pegs", "_law_word"] W__law_turned_paper := by
  obtain ⟨fd, F⟩ := c.f__law_turned_paper
  refine ⟨fd, defj _ F sc__law_turned_paper (fun ss R Z ⟨k, n, w, f, g, h, e, _⟩ => by rw [e]; rfl) (fun cdv A outer s H E en ss R Z hr ⟨k, n, w, f, g, h, e, h3, h5, hn, hw, bf, bg, bh, q⟩ hZ => ?_), F.bindsN (fun _ _ _ _ _ _ us hl => match us, hl with | [_, _, _, _], _ => rfl), c.g__law_turned_paper, F.kp⟩
  subst e
  have nd := sc__law_turned_paper.nd
  have hr2 : Room 2 _ := hr
  have hr1 : Room 1 _ := hr.mono (by decide)
  have hk0 : 0 < k := by omega
  refine PSs.weak (pss_cons (PS.any fun (q : En × Addr) => js_datLcN (en := q.1) (δ := some (.dat (.mrow q.2 0 0)) :: some (.dat (papT k n f g h)) :: some (.dat (.int (k : Int))) :: some (.dat (.int (w : Int))) :: List.replicate 9 none) (Po' := { nx := fun δ' => δ' = some (.dat (.mrow q.2 0 0)) :: some (.dat (papT k n f g h)) :: some (.dat (.int (k : Int))) :: some (.dat (.int (w : Int))) :: some (.dat (.lst ((List.range n).map fun i => .lst (gridsL k k (f i))))) :: List.replicate 8 none, rt := fun _ => False }) 4 nd
      (lc_sq 5 (fun i => .lst (gridsL k k (f i))) (.inr rfl) (je_ixT (je_var 1 rfl) je_int (j := 0) rfl) (by simp; omega) (blkOk_by (by kernel_rfl)) (fun s H C cl fp => jg_nm 5 nd) (fun i d hd s H C cl fp => ?_)) (fun ds e => ?_))
    (pss_cons (PS.any fun (q : En × Addr) => js_set (en := q.1) (δ := some (.dat (.mrow q.2 0 0)) :: some (.dat (papT k n f g h)) :: some (.dat (.int (k : Int))) :: some (.dat (.int (w : Int))) :: some (.dat (.lst ((List.range n).map fun i => .lst (gridsL k k (f i))))) :: List.replicate 8 none)
      (P := { nx := fun δ' => δ' = some (.dat (.mrow q.2 0 0)) :: some (.dat (papT k n f g h)) :: some (.dat (.int (k : Int))) :: some (.dat (.int (w : Int))) :: some (.dat (.lst ((List.range n).map fun i => .lst (gridsL k k (f i))))) :: none :: some (.dat (.lst [.lst (gridsL k (n + 1) g), .lst (gridsL k n h)])) :: List.replicate 6 none, rt := fun _ => False }) 6 nd
      ((jf_lstI (ds := [.lst (gridsL k (n + 1) g), .lst (gridsL k n h)]) (ja_c (je_callI (ok__law_copied c) (ja_c (je_ixT (je_var 1 rfl) je_int (j := 1) rfl) ja_nil) ⟨k, n + 1, _, _, g, rfl, by omega, by omega, .inr rfl, by simp, fun i hi => ⟨_, map_range_get hi, isGrid_tt⟩, Is.self⟩ hr1)
        (ja_c (je_callI (ok__law_copied c) (ja_c (je_ixT (je_var 1 rfl) je_int (j := 2) rfl) ja_nil) ⟨k, n, _, _, h, rfl, by omega, by omega, .inr rfl, by simp, fun i hi => ⟨_, map_range_get hi, isGrid_tt⟩, Is.self⟩ hr1) ja_nil)) (szl rfl)).je1) (fun d e => by rw [show d = _ from e]; rfl))
    (PSs.any fun (q : { q : En × (Addr → Prop) × Dat × Dat × Dat // Tl (Tl (Tl (T0 q.2.1) k) k) n q.2.2.1 ∧ Tl (Tl (T0 q.2.1) k) (n + 1) q.2.2.2.1 ∧ Tl (Tl (T0 q.2.1) k) n q.2.2.2.2 }) =>
      (show XB _ q.1.1 (bagR q.1.1 q.1.2.1 k) _ (pxL k w q.1.2.2.1 q.1.2.2.2.1 q.1.2.2.2.2 none none (List.replicate 6 none)) 0 { nx := fun _ _ => False, rt := rtX q.1.2.1 k n } from ?_)))) (fun D σ H ⟨G, N, k1, k2, _⟩ => ?_)
  · have hi : i < n := by
      have h1 := (List.getElem?_eq_some_iff.mp hd).1
      rw [List.length_map, List.length_range] at h1
      exact h1
    rw [map_range_get hi] at hd
    have ed := (Option.some.inj hd).symm
    subst ed
    exact je_callI (ok__law_copied c) (ja_c (je_var 5 rfl) ja_nil) ⟨k, k, _, _, f i, rfl, by omega, by omega, .inr rfl, by simp, fun p hp => ⟨_, map_range_get hp, isGrid_tt⟩, Is.self⟩ hr1
  · rw [show ds = _ from e, List.length_map, List.length_range]
    rfl
  · obtain ⟨⟨en', S, A, B, C⟩, tA, tB, tC⟩ := q
    obtain ⟨as, eA, lA, tA'⟩ := tA
    obtain ⟨bs, eB, lB, tB'⟩ := tB
    obtain ⟨cs, eC, lC, tC'⟩ := tC
    have tA : Tl (Tl (Tl (T0 S) k) k) n A := ⟨as, eA, lA, tA'⟩
    have tB : Tl (Tl (T0 S) k) (n + 1) B := ⟨bs, eB, lB, tB'⟩
    have tC : Tl (Tl (T0 S) k) n C := ⟨cs, eC, lC, tC'⟩
    dsimp only at eA eB eC
    subst eA eB eC
    show XB _ en' (bagR en' S k) _ (pxL k w (.lst as) (.lst bs) (.lst cs) none none (List.replicate 6 none)) 0 { nx := fun _ _ => False, rt := rtX S k n }
    refine xb_setN 7 nd (R := fun d => ∃ x : Nat, 1 ≤ x ∧ x ≤ 12 ∧ d = .int (x : Int)) (je_addN je_int (je_take 0 (ok__law_take c) rfl (n := 12) je_int (by decide) hr1) fun d ⟨r, hr', e⟩ => ⟨_, e, 1 + r, by omega, by omega, by congr 1⟩) (fun d ⟨x, x1, x2, e⟩ => ?_)
    subst e
    refine xb_cons (M := fun δ' c' => c' = 0 ∧ δ' = pxL k w (.lst as) (.lst bs) (.lst cs) none none [some (.dat (.int (x : Int))), some (.dat (.lst bs)), none, none, none, none]) (xs_datLcN 8 nd (lc_sqm 9 (fun d => d) (.inl rfl) (je_ixL (je_var 6 rfl) je_int (j := 0) rfl) (by omega) (blkOk_by (by kernel_rfl)) (fun s H C cl fp => jg_nm 9 nd) (fun j x hx s H C cl fp => je_var 9 rfl)) (fun ds e => ⟨rfl, by rw [show ds = _ from e, List.map_id']; rfl⟩)) ?_
    rintro δ' c' ⟨ec, e⟩
    subst ec e
    refine xb_cons (M := fun δ' c' => c' = 0 ∧ ∃ (ev : List Dat) (z5 : Option Dat), 1 ≤ ev.length ∧ ev.length ≤ 300 ∧ (∀ e ∈ ev, Tl (T0 S) k e) ∧ δ' = pxL k w (.lst as) (.lst bs) (.lst cs) none (z5.map Sl.dat) [some (.dat (.int (x : Int))), some (.dat (.lst ev)), none, none, none, none])
      (xs_if (jt_gt (je_var 3 rfl) je_int) (fun _ => ?_) (fun _ => xb_nil ⟨rfl, bs, none, by omega, by omega, tB', rfl⟩)) ?_
    · refine xb_set 8 nd ((jf_cat (je_var 8 rfl) (je_ixL (je_var 6 rfl) je_int (j := 1) rfl) (by rw [sizeLine_eq]; omega)).je1) (xb_one (xs_forI (fun i δ' c' => c' = 0 ∧ ∃ (ev : List Dat) (z5 : Option Dat), ev.length = (n + 1) + n + k * i ∧ (∀ e ∈ ev, Tl (T0 S) k e) ∧ δ' = pxL k w (.lst as) (.lst bs) (.lst cs) none (z5.map Sl.dat) [some (.dat (.int (x : Int))), some (.dat (.lst ev)), none, none, none, none])
        (ji_list (je_var 4 rfl)) (jg_nm 5 nd) ⟨rfl, bs ++ cs, none, by rw [List.length_append]; omega, fun e he => (List.mem_append.mp he).elim (tB' e) (tC' e), rfl⟩ (fun i d δ' c' hd ⟨ec, ev, z5, hl, ht, e⟩ => ?_) (fun δ' c' ⟨ec, ev, z5, hl, ht, e⟩ => ⟨ec, ev, z5, by omega, by rw [lA] at hl; have : k * n ≤ 5 * 40 := Nat.mul_le_mul h5 hn; omega, ht, e⟩)))
      subst ec e
      have hi : i < n := by rw [← lA]; exact (List.getElem?_eq_some_iff.mp hd).1
      obtain ⟨gs, eg, lg, tg⟩ := tA' d (List.mem_of_getElem? hd)
      subst eg
      have hkn : k * i ≤ 5 * 40 := Nat.mul_le_mul h5 (by omega)
      refine ⟨_, rfl, xb_one (xs_setN 8 nd ((jf_cat (je_var 8 rfl) (je_var 5 rfl) (by rw [sizeLine_eq]; omega)).je1) fun d e => ?_)⟩
      rw [show d = _ from e]
      exact ⟨rfl, ev ++ gs, some (.lst gs), by rw [List.length_append, Nat.mul_succ]; omega, fun e he => (List.mem_append.mp he).elim (ht e) (tg e), rfl⟩
    rintro δ' c' ⟨ec, ev, z5, hl1, hl2, ht, e⟩
    subst ec e
    refine xb_cons (M := fun δ' c' => ∃ z5 r, δ' = pxL k w (.lst as) (.lst bs) (.lst cs) none z5 r) (xs_if (jt_eq (je_var 3 rfl) je_int) (fun z => ?_) (fun z => ?_)) ?_
    · refine xb_setN 9 nd (R := Tl (T0 S) k) (je_ixLN (je_var 8 rfl) (je_take 0 (ok__law_take c) rfl (je_len (.inl rfl) (je_var 8 rfl) c.b_len) (by omega) hr1) fun d ⟨r, hr', e⟩ => ⟨r, _, e, List.getElem?_eq_getElem hr', ht _ (List.getElem_mem _)⟩) (fun d ⟨rs, e, lr, tr⟩ => ?_)
      subst e
      refine xb_setN 10 nd (R := T0 S) (je_ixLN (je_var 9 rfl) (je_take 0 (ok__law_take c) rfl (je_var 2 rfl) hk0 hr1) fun d ⟨r, hr', e⟩ => ⟨r, _, e, List.getElem?_eq_getElem (by omega), tr _ (List.getElem_mem _)⟩) (fun d ⟨a, e, ha⟩ => ?_)
      subst e
      refine xb_setN 11 nd (je_take 0 (ok__law_take c) rfl (je_var 2 rfl) hk0 hr1) (fun d ⟨j, hj, e⟩ => ?_)
      subst e
      exact xb_one (xs_turn (ok__law_turned_entry c) hr2 (plain_drw (plain_none (plain_dat (plain_dat (plain_dat (plain_opt (plain_dat (plain_dat (plain_dat (plain_dat (plain_dat (plain_dat (plain_none plain_nil))))))))))))) rfl rfl rfl rfl rfl ha hj hw x1 x2 (by decide) ⟨_, _, rfl⟩)
    · have hw3 : w ≠ 3 := fun e => by
        have z2 := of_decide_eq_false (show false = _ from z).symm
        exact z2 (by rw [e]; rfl)
      have hNk : ev.length * k ≤ 300 * 5 := Nat.mul_le_mul hl2 h5
      refine xb_one (xs_forI (fun i δ' c' => c' = i * k ∧ ∃ z9 z10 z11 z12 : Option Dat, δ' = pxL k w (.lst as) (.lst bs) (.lst cs) none (z5.map Sl.dat) [some (.dat (.int (x : Int))), some (.dat (.lst ev)), z9.map Sl.dat, z10.map Sl.dat, z11.map Sl.dat, z12.map Sl.dat])
        (ji_range (n := ev.length * k) ((je_mulR (je_len (.inl rfl) (je_var 8 rfl) c.b_len) (je_var 2 rfl) (by omega)).is (by rw [Int.natCast_mul])) (by omega) c.b_range) (jg_nm 12 nd) ⟨(Nat.zero_mul k).symm, none, none, none, none, rfl⟩ (fun i d δ' c' hd ⟨ec, z9, z10, z11, z12, e⟩ => ?_) (fun δ' c' ⟨ec, z9, z10, z11, z12, e⟩ => ⟨_, _, e⟩))
      obtain ⟨hi, ed⟩ := intsD_back hd
      subst ec e ed
      have hik : i / k < ev.length := Nat.div_lt_of_lt_mul (by rw [Nat.mul_comm]; exact hi)
      have him : i % k < k := Nat.mod_lt i hk0
      have hev : ev[i / k]? = some (ev[i / k]'hik) := List.getElem?_eq_getElem hik
      obtain ⟨rs, er, lr, tr⟩ := ht _ (List.getElem_mem hik)
      rw [er] at hev
      have hrs : rs[i % k]? = some (rs[i % k]'(by omega)) := List.getElem?_eq_getElem (by omega)
      obtain ⟨a, ea, ha⟩ := tr _ (List.getElem_mem (show i % k < rs.length by omega))
      rw [ea] at hrs
      have hik2 : i * k ≤ (300 * 5) * 5 := Nat.mul_le_mul (by omega) h5
      refine ⟨_, rfl, xb_set 9 nd (d := .lst rs) (je_ixL (j := i / k) (je_var 8 rfl) (je_fdiv (je_var 12 rfl) (je_var 2 rfl) (by omega)) hev rfl) (xb_set 10 nd (d := .mrow a 0 0) (je_ixL (j := i % k) (je_var 9 rfl) (je_mod (je_intc (je_var 12 rfl) c.b_int) (je_var 2 rfl) (by omega)) hrs rfl) ?_)⟩
      refine xb_one (xs_forI (fun j δ' c' => c' = i * k + j ∧ ∃ z11 : Option Dat, δ' = pxL k w (.lst as) (.lst bs) (.lst cs) none (z5.map Sl.dat) [some (.dat (.int (x : Int))), some (.dat (.lst ev)), some (.dat (.lst rs)), some (.dat (.mrow a 0 0)), z11.map Sl.dat, some (.dat (.int (i : Int)))])
        (ji_range (je_var 2 rfl) (by omega) c.b_range) (jg_nm 11 nd) ⟨rfl, z11, rfl⟩ (fun j d δ' c' hd ⟨ec, z11, e⟩ => ?_) (fun δ' c' ⟨ec, z11, e⟩ => ⟨by rw [ec, intsD_len, Nat.succ_mul], some (.lst rs), some (.mrow a 0 0), z11, some (.int (i : Int)), e⟩))
      obtain ⟨hj, ed⟩ := intsD_back hd
      subst ec e ed
      refine ⟨_, rfl, xb_one (xs_turn (ok__law_turned_entry c) hr2 (plain_drw (plain_none (plain_dat (plain_dat (plain_dat (plain_opt (plain_dat (plain_dat (plain_dat (plain_dat (plain_dat (plain_dat (plain_dat plain_nil))))))))))))) rfl rfl rfl rfl rfl ha hj hw x1 x2 (by omega) ⟨?_, some (.int (j : Int)), rfl⟩)⟩
      unfold nextC
      rw [if_neg hw3]
      rfl
    · rintro δ' c' ⟨z5, r, e⟩
      subst e
      exact xb_one (xs_ret ((jf_lstI (ds := [.lst as, .lst bs, .lst cs]) (ja_c (je_var 4 rfl) (ja_c (je_ixL (je_var 6 rfl) je_int (j := 0) rfl) (ja_c (je_ixL (je_var 6 rfl) je_int (j := 1) rfl) ja_nil))) (szl rfl)).je fun ds e => by rw [show ds = _ from e]; exact ⟨_, _, _, rfl, tA, tB, tC⟩))
  · obtain ⟨v0, hs0, a, ea, ev0⟩ := N.at_ 0 .drw rfl
    refine ⟨(⟨none, noLst G, H⟩, a), noLst G, now_fresh N noLst_ex rfl (fun i sl hi => ?_), fun σ1 G1 H1 δ1 e1 N1 m1 => ⟨(⟨none, noLst G, H⟩, a), G1, m1 ▸ N1, fun σ2 G2 H2 δ2 e2 N2 m2 => ?_, fun _ _ _ _ _ z _ => z.elim, fun _ _ _ _ _ _ z => z.elim, fun _ _ _ _ _ _ z => z.elim⟩, fun _ _ _ _ _ z _ => z.elim, fun _ _ _ _ _ _ z => z.elim, fun _ _ _ _ _ _ z => z.elim⟩
    · match i, hi with
      | 0, hi => exact ⟨_, (Option.some.inj (Option.some.inj hi)).symm, .inr ⟨rfl, a, ea, rfl⟩⟩
      | 1, hi => exact ⟨_, (Option.some.inj (Option.some.inj hi)).symm, .inl ⟨_, rfl, fun v r => nl_rep noLst_exN (nl_papT k n f g h) r⟩⟩
      | 2, hi => exact ⟨_, (Option.some.inj (Option.some.inj hi)).symm, .inl ⟨_, rfl, fun v r => r⟩⟩
      | 3, hi => exact ⟨_, (Option.some.inj (Option.some.inj hi)).symm, .inl ⟨_, rfl, fun v r => r⟩⟩
      | i + 4, hi =>
        have h2 : (List.replicate 9 (none : Option Sl))[i]? = some (some sl) := hi
        rw [List.getElem?_replicate] at h2
        split at h2 <;> cases h2
    subst m2
    have hS2 : ∀ a vs, G2 a = some (.lst vs) → H a = none := fun a vs h => by
      cases e : H a with
      | none => rfl
      | some u =>
        have h2 : G2 a = noLst G a := N2.f0.new a u e
        rw [h] at h2
        exact absurd h2.symm noLst_no
    obtain ⟨NB, t2⟩ := thaw_now (S := thS G2 H k) N N2 (fun a h => h.1)
    have hL : ∀ a vs, G2 a = some (.lst vs) → (∀ u ∈ vs, ∃ b, u = V.ref b) → thG (thS G2 H k) G G2 a = some (.lst vs) := fun a vs h hu => t2 a _ (fun ⟨_, os, h1, h2, _⟩ => by
      rw [h] at h1
      injection h1 with h1
      injection h1 with h1
      cases os with
      | nil => rw [← h2] at hk0; exact Nat.lt_irrefl 0 hk0
      | cons o os =>
        rw [h1] at hu
        obtain ⟨b, hb⟩ := hu (oV o) List.mem_cons_self
        cases o <;> cases hb) h
    obtain ⟨v4, s4, r4⟩ := N2.at_ 4 _ rfl
    obtain ⟨A, tA, rA, _⟩ := thaw_lst (T := Tl (Tl (T0 (thS G2 H k)) k) k) hL (fun x v hx rx => by
      obtain ⟨i, hi, e⟩ := List.mem_map.mp hx
      rw [← e] at rx
      exact th_grids hS2 hL (fun p hp => bf i p (List.mem_range.mp hi) hp) rx) r4
    rw [List.length_map, List.length_range] at tA
    obtain ⟨v6, s6, r6⟩ := N2.at_ 6 _ rfl
    obtain ⟨p6, vs6, ev6, hp6, rs6⟩ := rep_lst r6
    obtain ⟨vb, vc, evs, rb, rc⟩ := reps2 rs6
    obtain ⟨B, tB, rB, hb⟩ := th_grids hS2 hL bg rb
    obtain ⟨C, tC, rC, hc⟩ := th_grids hS2 hL bh rc
    have rBC : Rep K (thG (thS G2 H k) G G2) (.lst [B, C]) v6 := ⟨p6, vs6, ev6, hL p6 vs6 hp6 (by rw [evs]; intro u hu; simp only [List.mem_cons, List.not_mem_nil, or_false] at hu; rcases hu with z | z <;> rw [z] <;> assumption), by rw [evs]; exact Reps.cons rB (Reps.one rC)⟩
    obtain ⟨v0', s0', r0'⟩ := N2.at_ 0 _ rfl
    obtain ⟨v2', s2', r2'⟩ := N2.at_ 2 _ rfl
    obtain ⟨v3', s3', r3'⟩ := N2.at_ 3 _ rfl
    haveI : DecidablePred (thS G2 H k) := fun a => Classical.propDecidable _
    refine ⟨⟨(en, thS G2 H k, A, B, C), tA, tB, tC⟩, thG (thS G2 H k) G G2, now_mk NB N2.st.len (fun i sl hi => ?_), fun a' ha' => ⟨?_, N.f0.none_of ha'.1, fun z => ?_, ?_⟩, fun _ _ _ _ _ _ _ _ z => z.elim, fun v G' H' d c' N' B' ⟨A', B2, C', ed, tA', tB', tC'⟩ r => ?_⟩
    · match i, hi with
      | 0, hi => exact ⟨v0', s0', .inr ⟨(Option.some.inj (Option.some.inj hi)).symm, a, ea, r0'⟩⟩
      | 1, hi => cases hi
      | 2, hi => exact ⟨v2', s2', .inl ⟨_, (Option.some.inj (Option.some.inj hi)).symm, r2'⟩⟩
      | 3, hi => exact ⟨v3', s3', .inl ⟨_, (Option.some.inj (Option.some.inj hi)).symm, r3'⟩⟩
      | 4, hi => exact ⟨v4, s4, .inl ⟨_, (Option.some.inj (Option.some.inj hi)).symm, rA⟩⟩
      | 5, hi => cases hi
      | 6, hi => exact ⟨v6, s6, .inl ⟨_, (Option.some.inj (Option.some.inj hi)).symm, rBC⟩⟩
      | i + 7, hi =>
        have h2 : (List.replicate 6 (none : Option Sl))[i]? = some (some sl) := hi
        rw [List.getElem?_replicate] at h2
        split at h2 <;> cases h2
    · unfold thG
      rw [if_pos ha']
    · obtain ⟨pos, nb, ns, h1, _⟩ := N.drw a' z
      rw [ha'.1] at h1
      cases h1
    · obtain ⟨os, h1, h2, h3⟩ := ha'.2
      refine ⟨os, ?_, h2, h3⟩
      have h4 := N2.gh a' _ h1
      exact h4
    · subst ed
      have hS : ∀ a, thS G2 H k a → G' a = none ∧ en.H0 a = none ∧ ∃ xs, H' a = some (.lst xs) := fun a ha => by
        obtain ⟨h1, h2, _, os, h4, _⟩ := B' a ha
        exact ⟨h1, h2, _, h4⟩
      obtain ⟨fm, ex⟩ := now_frozen N' hS
      have hB : ∀ a, thS G2 H k a → RG k c' ((fun a => if thS G2 H k a then H' a else G' a) a) := fun a ha => by
        show RG k c' (if thS G2 H k a then H' a else G' a)
        rw [if_pos ha]
        exact (B' a ha).2.2.2
      obtain ⟨p, vs, ev, hp, rs⟩ := rep_lst r
      obtain ⟨x1, r1, e1, y1, rs1⟩ := (show ∃ v r, vs = v :: r ∧ Rep K G' A' v ∧ Reps K G' [B2, C'] r from rs)
      obtain ⟨x2, x3, e2, y2, y3⟩ := reps2 rs1
      obtain ⟨f', hf', ry1⟩ := un_lst (Y := Nat → Gr) (Q := fun f => ∀ p, p < k → GB c' k (f p)) (D := fun f => .lst (gridsL k k f)) ex (un_grids ex hB) A' x1 tA' y1
      obtain ⟨g', hg', ry2⟩ := un_grids ex hB B2 x2 tB' y2
      obtain ⟨h', hh', ry3⟩ := un_grids ex hB C' x3 tC' y3
      refine k2 v _ H' (papL k n f' g' h') fm (q f' g' h' (fun i p hi hp => gb_gx (hf' i hi p hp)) (fun i hi => gb_gx (hg' i hi)) (fun i hi => gb_gx (hh' i hi))) ⟨p, vs, ev, ex _ _ hp, ?_⟩
      rw [e1, e2]
      exact Reps.cons ry1 (Reps.cons ry2 (Reps.one ry3))
end
end PW
end
section
set_option maxHeartbeats 4000000
namespace PW
open PySem PySem.Spec PyProof.Rows L2 PJ PF PX

theorem case_gm {k : Nat} {L M : List (List Arr)} {ps qs : List Nat} (h : CaseOk k L ps qs) (hp : PermL L M) : GmOk k M ∧ (∀ i, ∀ a ∈ L.getD i [], a.In k) := by
  have hL : ∀ i, ∀ a ∈ L.getD i [], a.In k ∧ 1 ≤ a.c ∧ a.c ≤ 10 ^ 9 := fun i a ha => by
    by_cases hi : i < L.length
    · have e : L[i]? = some L[i] := List.getElem?_eq_getElem hi
      rw [getD_of e] at ha
      have hw := h.cs.web _ (List.mem_of_getElem? e)
      have ho := hw.ok a ha
      exact ⟨ho.in_, ho.c1, hw.c9 a ha⟩
    · rw [List.getD_eq_getElem?_getD, List.getElem?_eq_none (by omega)] at ha
      cases ha
  exact ⟨⟨h.cs.h3, h.cs.h5, by rw [hp.1]; exact h.cs.len, fun i a ha => hL i a ((hp.2 i).mem_iff.mp ha)⟩, fun i a ha => (hL i a ha).1⟩
theorem getD_lt {ps : List Nat} {k i : Nat} (h : ∀ p ∈ ps, p < k) (hi : i < ps.length) : ps.getD i 0 < k := by
  have e : ps[i]? = some ps[i] := List.getElem?_eq_getElem hi
  rw [getD_of e]
  exact h _ (List.getElem_mem _)
theorem shB_no {n i : Nat} {xd : Dat} (hi : i < 3) (h : (seqs (nth xd i)).length ≠ shM n i) : shB n xd = false := by
  unfold shB
  have e : ((List.range 3).all fun i => sh1 (shM n i) (nth xd i)) = false := range_not hi (by
    unfold sh1
    rw [decide_eq_false h, Bool.and_false])
  rw [e, Bool.and_false]
theorem shB_short {n : Nat} {xd : Dat} (h : (seqs xd).length ≠ 3) : shB n xd = false := by
  unfold shB sh1
  rw [decide_eq_false h, Bool.and_false]
  rfl
def tdD (s : Str) (n : Int) : Dat := .tup [.str s, .int n]
theorem eqv_pm : PyData.eqv (pyD (tdD "paper" (-1))) (pyD (.tup [.str "paper", .int (-1)])) = true := by decide +kernel
section
variable {P : Program} {w : World} {K : PySem.W.Frag} {mg : Str → Option Value} {base : Heap}
/-- what the law's helper tells, by one result -/
theorem told_of {ss : List Sl} {D : Dat} (h : W_paper_number ss (Rtd D) (Ztd D)) : W__law_told ss (Is D) (fun _ _ => False) :=
  ⟨Rtd D, Ztd D, h, fun d e => e, fun n e => e.2, fun n e => e.2, fun n e => e.2, fun kd n e => e.1⟩
def W__law_papers_fit : Wf := fun ss R _ => ∃ (k : Nat) (L M : List (List Arr)) (gd : Dat) (ps qs : List Nat), ss = [.drw, .dat gd, .dat (.int (k : Int)), .dat (.lst (L.map webD)), .dat (.tup (natsD ps)), .dat (.tup (natsD qs))] ∧ CaseOk k L ps qs ∧ PermL L M ∧ IsGame k M gd ∧ ps ≠ qs ∧ R (.bl true)
theorem ok__law_papers_fit (c : Fc K mg) : DefJ P w K mg base "_law_papers_fit" 10 ["_law_draws_here", "_law_game", "_law_pegs", "_law_webs_here", "_law_here", "_law_there"] W__law_papers_fit := by
  obtain ⟨fd, F⟩ := c.f__law_papers_fit
  refine ⟨fd, defj _ F sc__law_papers_fit (fun ss R Z ⟨k, L, M, gd, ps, qs, e, _⟩ => by rw [e]; rfl) (fun cdv A outer s H E en ss R Z hr ⟨k, L, M, gd, ps, qs, e, hC, hp, hG, hne, q⟩ hZ => ?_), F.bindsN (fun _ _ _ _ _ _ us hl => match us, hl with | [_, _, _, _, _, _], _ => rfl), c.g__law_papers_fit, F.kp⟩
  subst e
  have nd := sc__law_papers_fit.nd
  have hr9 : Room 9 _ := hr
  have hr7 : Room 7 _ := hr.mono (by decide)
  have hr4 : Room 4 _ := hr.mono (by decide)
  have hr3 : Room 3 _ := hr.mono (by decide)
  have hr2 : Room 2 _ := hr.mono (by decide)
  obtain ⟨hM, hin⟩ := case_gm hC hp
  obtain ⟨n, hn⟩ := isTop_ex (hC.pl.trans hC.ql.symm) hne
  have hnp : n < ps.length := hn.1
  have hnL : n < L.length := by rw [← hC.pl]; exact hnp
  have hnM : n < M.length := by rw [hp.1]; exact hnL
  have hnq : n < qs.length := by rw [hC.ql]; exact hnL
  have hl40 := hC.cs.len
  have h3 := hC.cs.h3
  have h5 := hC.cs.h5
  have hps : ∀ i, i < n + 1 → ps.getD i 0 < k := fun i hi => getD_lt hC.pk (by omega)
  have hqs : ∀ i, i < n + 1 → qs.getD i 0 < k := fun i hi => getD_lt hC.qk (by omega)
  obtain ⟨bF, bG, bH⟩ := c_bounds (ps := ps) (qs := qs) hM hnM
  have P0 := pap_is true (fun i p hi hpk => gb_gx (bF i p hi hpk)) (fun i hi => gb_gx (bG i hi)) (fun i hi => gb_gx (bH i hi))
  have e0 : paperD k M ps qs n = papM true k n (cF k n M) (cG k n M ps) (cH k n M qs) := rfl
  have uniq : ∀ n', IsTop ps qs n' → n' = n := fun n' h => h.uniq hn
  have hWL : ∀ (i : Nat) as, L[i]? = some as → ∃ d, (L.map webD)[i]? = some d ∧ Seqd d (as.map arrD) := fun i as h => ⟨webD as, webD_at h, .inl rfl⟩
  have hinL : ∀ as ∈ L, ∀ a ∈ as, a.In k := fun as h a ha => ((hC.cs.web as h).ok a ha).in_
  have num : ∀ {pd qd xd : Dat} {D : Dat}, Seqd pd (natsD ps) → Seqd qd (natsD qs) → PN k M ps qs n xd (Rtd D) (Ztd D) → W_paper_number [.dat gd, .dat pd, .dat qd, .dat xd] (Rtd D) (Ztd D) := fun {pd qd xd D} s1 s2 pn =>
    ⟨k, M, gd, pd, qd, xd, ps, qs, rfl, hG, s1, s2, hC.pk, hC.qk, fun _ _ n' h => by rw [uniq n' h]; exact pn, fun z => z.elim (fun z => absurd (hC.pl.trans hp.1.symm) z) fun z => z.elim (fun z => absurd (hC.ql.trans hp.1.symm) z) fun z => absurd z hne⟩
  refine jb_set 6 nd (d := papM true k n (cF k n M) (cG k n M ps) (cH k n M qs)) (je_callI (ok_paper_for c) (ja_c (je_var 1 rfl) (ja_c (je_var 4 rfl) (ja_c ((jf_list (ds := natsD qs) (.inr rfl) (je_var 5 rfl) c.b_list).je1) ja_nil))) ⟨k, M, gd, _, _, ps, qs, rfl, hG, .inr rfl, .inl rfl, hC.pk, hC.qk, hC.pl.trans hp.1.symm, hC.ql.trans hp.1.symm, fun n' h => by rw [uniq n' h]; exact e0, fun z => absurd z hne⟩ hr9) ?_
  obtain ⟨res0, v0, _, _, r0⟩ := fit_ex P0 hp hin hps hqs
  have er0 := r0 (fun i hi => c_accF hM hp hi) (fun i hi => c_accG hM hp hnM hi (hps i hi)) (fun i hi => c_accH hM hp hnM hi (hqs i (by omega)))
  subst er0
  refine jb_set 7 nd (d := .tup [.str "number", oD (numF k n qs (cG k n M ps) (cH k n M qs))]) (je_callI (ok__law_verdict c) (ja_c (je_var 2 rfl) (ja_c (je_var 3 rfl) (ja_c (je_var 4 rfl) (ja_c (je_var 5 rfl) (ja_c (je_var 6 rfl) ja_nil))))) ⟨k, n, L, _, _, ps, qs, rfl, by omega, by omega, hWL, hinL, hnL, hnp, hnq, hC.pk, hC.qk, P0.sh, P0.pB, P0.g1, P0.g2, v0 _ rfl⟩ hr4) ?_
  refine jb_ifX ((jt_neS (je_ixT (je_var 7 rfl) je_int (j := 0) rfl) je_str).is (d' := false) (by decide +kernel)) (fun z => nomatch (show true = false from z)) (fun _ => ?_)
  refine jb_cons (M := fun δ' => ∃ z8 z9 z10 z11, δ' = [some .drw, some (.dat gd), some (.dat (.int (k : Int))), some (.dat (.lst (L.map webD))), some (.dat (.tup (natsD ps))), some (.dat (.tup (natsD qs))), some (.dat (papM true k n (cF k n M) (cG k n M ps) (cH k n M qs))), some (.dat (.tup [.str "number", oD (numF k n qs (cG k n M ps) (cH k n M qs))])), z8, z9, z10, z11, none, none, none])
    (js_forI (items := natsD [0, 1, 2, 3, 3, 3]) (fun i δ' => ∃ z8 z9 z10 z11, δ' = [some .drw, some (.dat gd), some (.dat (.int (k : Int))), some (.dat (.lst (L.map webD))), some (.dat (.tup (natsD ps))), some (.dat (.tup (natsD qs))), some (.dat (papM true k n (cF k n M) (cG k n M ps) (cH k n M qs))), some (.dat (.tup [.str "number", oD (numF k n qs (cG k n M ps) (cH k n M qs))])), z8, z9, z10, z11, none, none, none])
      (ji_list ((jf_lstI (ds := [.int 0, .int 1, .int 2, .int 3, .int 3, .int 3]) (ja_c je_int (ja_c je_int (ja_c je_int (ja_c je_int (ja_c je_int (ja_c je_int ja_nil)))))) (szl rfl)).je1)) (jg_nm 8 nd) ⟨none, none, none, none, rfl⟩ (fun i d δ' hd ⟨z8, z9, z10, z11, e⟩ => ?_) (fun δ' e => e)) ?_
  · obtain ⟨wd, hwd, ed⟩ := natsD_get hd
    have hw3 : wd ≤ 3 := by
      have := List.mem_of_getElem? hwd
      simp only [List.mem_cons, List.not_mem_nil, or_false] at this
      omega
    subst e ed
    refine ⟨_, rfl, ?_⟩
    refine jb_setN 9 nd (je_call (ok__law_turned_paper c) (ja_drw 0 rfl (ja_c (je_var 6 rfl) (ja_c (je_var 2 rfl) (ja_c (je_var 8 rfl) ja_nil)))) (R := fun d => ∃ f g h, (∀ i p, i < n → p < k → GX k (f i p)) ∧ (∀ i, i < n + 1 → GX k (g i)) ∧ (∀ i, i < n → GX k (h i)) ∧ d = papM false k n f g h)
      (fun ss ⟨r, e1, e2⟩ => ⟨k, n, wd, _, _, _, by rw [e1, show r = _ from e2]; rfl, h3, h5, by omega, hw3, bF, bG, bH, fun f g h a1 a2 a3 => ⟨f, g, h, a1, a2, a3, rfl⟩⟩) hr3) (fun d ⟨f, g, h, a1, a2, a3, e⟩ => ?_)
    subst e
    have P1 := pap_is false a1 a2 a3
    obtain ⟨⟨rs, ro⟩, v1, p1, n1, _⟩ := fit_ex P1 hp hin hps hqs
    refine jb_set 10 nd (d := .tup [.str rs, oD ro]) (je_callI (ok__law_verdict c) (ja_c (je_var 2 rfl) (ja_c (je_var 3 rfl) (ja_c (je_var 4 rfl) (ja_c (je_var 5 rfl) (ja_c (je_var 9 rfl) ja_nil))))) ⟨k, n, L, _, _, ps, qs, rfl, by omega, by omega, hWL, hinL, hnL, hnp, hnq, hC.pk, hC.qk, P1.sh, P1.pB, P1.g1, P1.g2, v1 _ rfl⟩ hr4) ?_
    refine jb_set 11 nd (d := .tup [.str rs, oD ro]) (je_callI (ok__law_told c) (ja_c (je_var 1 rfl) (ja_c ((jf_list (ds := natsD ps) (.inr rfl) (je_var 4 rfl) c.b_list).je1) (ja_c (je_var 5 rfl) (ja_c (je_var 9 rfl) ja_nil)))) (told_of (num (.inl rfl) (.inr rfl) p1)) hr7) ?_
    refine jb_ifX (Rt := Is false) ((JW.jt (jw_orI (x := false) (y := false) ((jt_neS (je_ixT (je_var 11 rfl) je_int (j := 0) rfl) (je_ixT (je_var 10 rfl) je_int (j := 0) rfl)).is (by simp)) fun _ => jw_or1 ((jt_not (jt_v (je_callI (ok__law_same c) (ja_c (je_ixT (je_var 11 rfl) je_int (j := 1) rfl) (ja_c (je_ixT (je_var 10 rfl) je_int (j := 1) rfl) ja_nil)) ⟨ro, ro, rfl, Is.self⟩ hr2))).is (by simp))))) (fun z => nomatch (show true = false from z)) (fun _ => ?_)
    have e2 : decide (rs = ("number" : Str)) = true → notAb ro (numF k n qs (cG k n M ps) (cH k n M qs)) = true := fun z => by
      obtain ⟨b1, b2, b3, b4⟩ := n1 (of_decide_eq_true z)
      rw [show ro = _ from b4]
      exact num_le hM hp hnM (hqs n (Nat.lt_succ_self n)) b1 b2 b3
    refine jb_ifX (Rt := Is false) ((JW.jt (jw_andI (y := false) (jt_eqS (je_ixT (je_var 11 rfl) je_int (j := 0) rfl) je_str) fun z => jw_and1 ((jt_not (jt_v (je_callI (ok__law_at_most c) (ja_c (je_ixT (je_var 11 rfl) je_int (j := 1) rfl) (ja_c (je_ixT (je_var 7 rfl) je_int (j := 1) rfl) ja_nil)) ⟨ro, _, rfl, Is.self⟩ hr2))).is (by rw [e2 z]; rfl)))).is (by rw [Bool.and_false])) (fun z => nomatch (show true = false from z)) (fun _ => jb_nil ⟨_, _, _, _, rfl⟩)
  rintro δ' ⟨z8, z9, z10, z11, e⟩
  subst e
  generalize hA0 : ((List.range n).map fun i => partM true k (cF k n M i)) = A0
  generalize hA1 : ((List.range (n + 1)).map fun i => gridM true k (cG k n M ps i)) = A1
  generalize hA2 : ((List.range n).map fun i => gridM true k (cH k n M qs i)) = A2
  have eX : papM true k n (cF k n M) (cG k n M ps) (cH k n M qs) = .tup [.tup A0, .tup A1, .tup A2] := by rw [← hA0, ← hA1, ← hA2]; rfl
  have l0 : A0.length = n := by rw [← hA0]; simp
  have l1 : A1.length = n + 1 := by rw [← hA1]; simp
  have l2 : A2.length = n := by rw [← hA2]; simp
  have ty0 : tyOk 5 (.tup [.tup A0, .tup A1, .tup A2]) = true := by rw [← eX]; exact P0.ty
  rw [eX]
  have tyA : ∀ j, j < 3 → ∀ d ∈ ([A0, A1, A2] : List (List Dat)).getD j [], tyOk 3 d = true := fun j hj d hd => by
    have t0 : tyOk 4 (.tup A0) = true := tyOk_in (i := 0) ty0 rfl
    have t1 : tyOk 4 (.tup A1) = true := tyOk_in (i := 1) ty0 rfl
    have t2 : tyOk 4 (.tup A2) = true := tyOk_in (i := 2) ty0 rfl
    have hc : j = 0 ∨ j = 1 ∨ j = 2 := by omega
    rcases hc with e | e | e <;> subst e
    · exact List.all_eq_true.mp (Bool.and_eq_true_iff.mp t0).2 d hd
    · exact List.all_eq_true.mp (Bool.and_eq_true_iff.mp t1).2 d hd
    · exact List.all_eq_true.mp (Bool.and_eq_true_iff.mp t2).2 d hd
  have ty4 : ∀ {ds : List Dat}, (∀ d ∈ ds, tyOk 3 d = true) → tyOk 4 (.lst ds) = true := fun {ds} h => List.all_eq_true.mpr h
  refine jb_cons (M := fun δ' => ∃ z8 z9 z10 z11 z12 z13 z14, δ' = [some .drw, some (.dat gd), some (.dat (.int (k : Int))), some (.dat (.lst (L.map webD))), some (.dat (.tup (natsD ps))), some (.dat (.tup (natsD qs))), some (.dat (.tup [.tup A0, .tup A1, .tup A2])), z8, z9, z10, z11, z12, z13, z14, none])
    (js_forI (items := intsD 3) (fun i δ' => ∃ z7 z8 z9 z10 z11 z12 z13, δ' = [some .drw, some (.dat gd), some (.dat (.int (k : Int))), some (.dat (.lst (L.map webD))), some (.dat (.tup (natsD ps))), some (.dat (.tup (natsD qs))), some (.dat (.tup [.tup A0, .tup A1, .tup A2])), z7, z8, z9, z10, z11, z12, z13, none])
      (ji_range (n := 3) je_int (by decide) c.b_range) (jg_nm 12 nd) ⟨_, _, _, _, _, none, none, rfl⟩ (fun i d δ' hd ⟨z7, z8, z9, z10, z11, z12, z13, e⟩ => ?_) (fun δ' e => e)) ?_
  · obtain ⟨hi, ed⟩ := intsD_back hd
    subst e ed
    refine ⟨_, rfl, ?_⟩
    refine jb_ownLc 13 nd (lc_sqm 14 (fun d => .lst (seqs d)) (.inr rfl) (je_var 6 rfl) (by show 3 ≤ 10000; decide) (blkOk_by (by kernel_rfl)) (fun s H C cl fp => jg_nm 14 nd) (fun j x hx s H C cl fp => ?_)) ?_
    · have hS : Seqd x (seqs x) := by
        have := List.mem_of_getElem? hx
        simp only [List.mem_cons, List.not_mem_nil, or_false] at this
        rcases this with e | e | e <;> rw [e] <;> exact .inr rfl
      exact (jf_list hS (je_var 14 rfl) c.b_list).je1
    have hsq : ([Dat.tup A0, .tup A1, .tup A2])[i]? = some (.tup (([A0, A1, A2] : List (List Dat)).getD i [])) := by
      have hc : i = 0 ∨ i = 1 ∨ i = 2 := by omega
      rcases hc with e | e | e <;> subst e <;> rfl
    have hll : (([A0, A1, A2] : List (List Dat)).getD i []).length = shM n i := by
      have hc : i = 0 ∨ i = 1 ∨ i = 2 := by omega
      rcases hc with e | e | e <;> subst e
      · exact l0
      · exact l1
      · exact l2
    have htA := tyA i hi
    generalize ([A0, A1, A2] : List (List Dat)).getD i [] = Ai at hsq hll htA
    have hsm : shM n i ≤ n + 1 := by unfold shM; split <;> omega
    refine jb_cons (M := Is [some .drw, some (.dat gd), some (.dat (.int (k : Int))), some (.dat (.lst (L.map webD))), some (.dat (.tup (natsD ps))), some (.dat (.tup (natsD qs))), some (.dat (.tup [.tup A0, .tup A1, .tup A2])), z7, z8, z9, z10, z11, some (.dat (.int (i : Int))), some (.own (([Dat.lst A0, .lst A1, .lst A2]).set i (.lst (Ai ++ [.int 0])))), none])
      (js_put 13 (j := i) rfl ((jf_cat ((jf_list (ds := Ai) (.inr rfl) (je_ixT (je_var 6 rfl) (je_var 12 rfl) hsq) c.b_list).je1) ((jf_lstI (ds := [.int 0]) (ja_c je_int ja_nil) (szl rfl)).je1) (by rw [hll, sizeLine_eq]; simp; omega)).je1) (je_var 12 rfl) (by show i < 3; exact hi) (fun d e => by rw [show d = _ from e]; exact Is.self)) (fun δ' e => ?_)
    rw [show δ' = _ from e]
    refine jb_freeze 13 rfl ?_
    have ns : nth (.lst (([Dat.lst A0, .lst A1, .lst A2]).set i (.lst (Ai ++ [.int 0])))) i = .lst (Ai ++ [.int 0]) := by
      unfold nth
      exact getD_of (List.getElem?_set_self (by show i < 3; exact hi))
    have hsh : shB n (.lst (([Dat.lst A0, .lst A1, .lst A2]).set i (.lst (Ai ++ [.int 0])))) = false := shB_no hi (by
      rw [ns]
      show (Ai ++ [Dat.int 0]).length ≠ _
      rw [List.length_append, hll]
      simp)
    have hty : tyOk 5 (.lst (([Dat.lst A0, .lst A1, .lst A2]).set i (.lst (Ai ++ [.int 0])))) = true := List.all_eq_true.mpr fun x hx => by
      rcases List.mem_or_eq_of_mem_set hx with h | h
      · simp only [List.mem_cons, List.not_mem_nil, or_false] at h
        rcases h with e | e | e <;> rw [e]
        · exact ty4 (tyA 0 (by decide))
        · exact ty4 (tyA 1 (by decide))
        · exact ty4 (tyA 2 (by decide))
      · rw [h]
        refine ty4 fun d hd => ?_
        rcases List.mem_append.mp hd with h | h
        · exact htA d h
        · rw [List.mem_singleton.mp h]
          rfl
    refine jb_ifX ((jt_neD hr.units (je_callI (ok__law_told c) (ja_c (je_var 1 rfl) (ja_c (je_var 4 rfl) (ja_c (je_var 5 rfl) (ja_c (je_var 13 rfl) ja_nil)))) (told_of (D := tdD "paper" (-1)) (num (.inr rfl) (.inr rfl) (pn_bad hty hsh ⟨by decide, rfl⟩))) hr7) (je_tupI (ds := [.str "paper", .int (-1)]) (ja_c je_str (ja_c (je_neg je_int) ja_nil)) (szl rfl)) (by decide +kernel) (by decide +kernel)).is (d' := false) (by decide +kernel)) (fun z => nomatch (show true = false from z)) (fun _ => jb_nil ⟨_, _, _, _, _, _, _, rfl⟩)
  rintro δ' ⟨z8, z9, z10, z11, z12, z13, z14, e⟩
  subst e
  have hqd : (natsD qs).drop 1 = natsD (qs.drop 1) := List.map_drop.symm
  refine jb_ifX (Rt := Is false) ((JW.jt (jw_andI (y := false) (jt_gt (je_len (ds := L.map webD) (.inl rfl) (je_var 3 rfl) c.b_len) je_int) fun _ => jw_and1 ((jt_neD hr.units (je_callI (ok__law_told c) (ja_c (je_var 1 rfl) (ja_c (je_var 4 rfl) (ja_c ((je_slT (je_var 5 rfl) (jo_some (i := ((1 : Nat) : Int)) je_int) jo_none).is (d' := .tup (natsD (qs.drop 1))) (by rw [cut_from, hqd])) (ja_c je_non ja_nil)))) (told_of (D := tdD "position" (-1)) ⟨k, M, gd, _, _, .non, ps, qs.drop 1, rfl, hG, .inr rfl, .inr rfl, hC.pk, fun p h => hC.qk p (List.mem_of_mem_drop h), fun _ z => by have h1 := hC.ql; have h2 := hp.1; rw [List.length_drop] at z; omega, fun _ => ⟨by decide, rfl⟩⟩) hr7)
    (je_tupI (ds := [.str "position", .int (-1)]) (ja_c je_str (ja_c (je_neg je_int) ja_nil)) (szl rfl)) (by decide +kernel) (by decide +kernel)).is (d' := false) (by decide +kernel)))).is (by rw [Bool.and_false])) (fun z => nomatch (show true = false from z)) (fun _ => ?_)
  refine jb_one (js_retI ((je_eqD hr.units (je_callI (ok__law_told c) (ja_c (je_var 1 rfl) (ja_c (je_var 4 rfl) (ja_c (je_var 5 rfl) (ja_c ((je_slT (je_var 6 rfl) jo_none (jo_some (i := ((2 : Nat) : Int)) je_int)).is (d' := .tup [.tup A0, .tup A1]) (by rw [cut_to]; rfl)) ja_nil)))) (told_of (D := tdD "paper" (-1)) (num (.inr rfl) (.inr rfl) (pn_bad (List.all_eq_true.mpr fun x hx => ?_) (shB_short (by show 2 ≠ 3; decide)) ⟨by decide, rfl⟩))) hr7) (je_tupI (ds := [.str "paper", .int (-1)]) (ja_c je_str (ja_c (je_neg je_int) ja_nil)) (szl rfl)) (by decide +kernel) (by decide +kernel)).is (d' := .bl true) (congrArg Dat.bl eqv_pm)) q)
  have hx' : x ∈ [Dat.tup A0, .tup A1] := hx
  simp only [List.mem_cons, List.not_mem_nil, or_false] at hx'
  rcases hx' with e | e <;> rw [e]
  · exact tyOk_in (i := 0) ty0 rfl
  · exact tyOk_in (i := 1) ty0 rfl
end
end PW
end
section
set_option maxHeartbeats 4000000
namespace PJ
open PySem PySem.Spec PyProof.Rows L2
/-! ### a def of which only the answer True counts -/
section
variable {X : Cx} {en : En} {δ : Lv} {e : Expr} {es : List Expr} {R : Dat → Prop} {pos p1 : Pos} {st : Stmt} {rest : List Stmt}
def tL (K : PySem.W.Frag) (en : En) (δ : Lv) : TS := fun D σ H => (∀ H', D.rt (.bl true) H') ∧ ∃ G, Now K en G H σ δ
def LB (X : Cx) (en : En) (st : List Stmt) (δ : Lv) : Prop := PSs X st (tL X.K en δ)
theorem lb_cons {M : Lv → Prop} (h1 : JS X en st δ { nx := M, rt := Is (.bl true) }) (h2 : ∀ δ', M δ' → LB X en rest δ') : LB X en (st :: rest) δ :=
  PSs.weak (pss_cons h1 (PSs.any fun δ' => PSs.cond (h2 δ'))) fun D σ H ⟨r, G, S⟩ => ⟨G, S, fun σ' G' H' δ' e S' m => ⟨δ', m, r, G', S'⟩, fun v G' H' d f rd rp => by
    rw [show d = .bl true from rd] at rp
    rw [show v = .bl true from rp]
    exact r H', fun _ _ _ _ _ _ z => z.elim, fun _ _ _ _ _ _ z => z.elim⟩
theorem lb_one (h1 : JS X en st δ { nx := fun _ => False, rt := Is (.bl true) }) : LB X en [st] δ := lb_cons (M := fun _ => False) h1 fun _ z => z.elim
theorem lb_setN (i : Nat) {x : Str} {p' : Pos} (hN : X.N.Nodup) (he : JE X en e δ R) (k : ∀ d, R d → LB X en rest (δ.set i (some (.dat d)))) (hi : X.N[i]? = some x := by rfl) (hx : Loc X.env.scope x := by first | exact .inl rfl | exact .inr rfl)
    (hs : swapsWith e (some (.Name x p')) pos.line X.env = pure false := by rfl) (hf : X.fn x = true ∨ X.env.scope.names.lookup x = some .local := by first | exact .inl rfl | exact .inr rfl) : LB X en (.Assign [.Name x p'] e pos :: rest) δ :=
  lb_cons (M := fun δ' => ∃ d, R d ∧ δ' = δ.set i (some (.dat d))) (js_set i hN he (fun d r => ⟨d, r, rfl⟩) hi hx hs hf) fun δ' ⟨d, r, e⟩ => e ▸ k d r
theorem lb_set (i : Nat) {x : Str} {p' : Pos} {d : Dat} (hN : X.N.Nodup) (he : JE X en e δ (Is d)) (k : LB X en rest (δ.set i (some (.dat d)))) (hi : X.N[i]? = some x := by rfl) (hx : Loc X.env.scope x := by first | exact .inl rfl | exact .inr rfl)
    (hs : swapsWith e (some (.Name x p')) pos.line X.env = pure false := by rfl) (hf : X.fn x = true ∨ X.env.scope.names.lookup x = some .local := by first | exact .inl rfl | exact .inr rfl) : LB X en (.Assign [.Name x p'] e pos :: rest) δ :=
  lb_setN i hN he (fun d' r => by rw [show d' = d from r]; exact k) hi hx hs hf
/-- the promise of such a def -/
def SpT (K : PySem.W.Frag) (W : List Sl → Prop) : Sp := fun vs H Q _ => ∃ (da : Option Addr) (G : Hp) (ss : List Sl), Gh G H ∧ (∀ a, da = some a → DrwOk G H a) ∧ ArgsOk K da G ss vs ∧ W ss ∧ ∀ H', Q (.bl true) H'
theorem defT {P : Program} {w : World} {K : PySem.W.Frag} {mg : Str → Option Value} {base : Heap} {x qual : Str} {params : Arguments} {body : List Stmt} {scope : Scope} {fd : FuncData} {N ps : List Str} {k : Nat} {W : List Sl → Prop} (f : Addr)
    (F : FunD K x qual params body scope [] [] f fd) (S : FnScope N ps scope) (hl : ∀ ss, W ss → ss.length = ps.length)
    (hb : ∀ (cdv : Value) (A : Around) (outer : List Env) (s : Shared) (H : Hp) (E : XK) (en : En) (ss : List Sl), Room k (A.deeper (envOfC qual scope s.heap.objs.size f cdv)) → W ss →
      LB (cxOf (L2.CX P w) P w K mg base N qual scope f cdv A outer s H E) en body (startL N ss)) : FnOk P w K mg base (L2.CX P w) (k + 1) f fd ps (SpT K W) :=
  F.ok S (fun vs H Q E ⟨da, G, ss, e, d, ha, hw, _⟩ => by rw [← ha.start.1]; exact hl ss hw) (fun cdv A outer s H vs Q E hr ⟨da, G, ss, e, d, ha, hw, q⟩ => ⟨_, hb cdv A outer s H E ⟨da, G, H⟩ ss hr hw, q, G, now_start e d ha⟩)
end
/-! ### three lists of the bag, told exactly -/
section
variable {K : PySem.W.Frag} {S : Addr → Prop} {a0 a1 a2 : Addr}
abbrev C3 : Type := List Dat × List Dat × List Dat
def bag3 (K : PySem.W.Frag) (S : Addr → Prop) (a0 a1 a2 : Addr) : BagT none C3 where
  B := fun c G H => (∀ a, S a → G a = none ∧ ∃ xs, H a = some (.lst xs)) ∧ (∃ vs, H a0 = some (.lst vs) ∧ Reps K G c.1 vs) ∧ (∃ vs, H a1 = some (.lst vs) ∧ Reps K G c.2.1 vs) ∧ (∃ vs, H a2 = some (.lst vs) ∧ Reps K G c.2.2 vs) ∧ S a0 ∧ S a1 ∧ S a2
  st := fun c G H G' H' f ⟨h, ⟨v0, e0, r0⟩, ⟨v1, e1, r1⟩, ⟨v2, e2, r2⟩, s0, s1, s2⟩ => by
    have keep : ∀ {a xs}, S a → H a = some (.lst xs) → H' a = some (.lst xs) := fun {a xs} hs hx => f.hh a _ (fun z => nomatch z) (nomk_none (h a hs).1) hx
    refine ⟨fun a hs => ?_, ⟨v0, keep s0 e0, r0.mono f.gg⟩, ⟨v1, keep s1 e1, r1.mono f.gg⟩, ⟨v2, keep s2 e2, r2.mono f.gg⟩, s0, s1, s2⟩
    obtain ⟨g, xs, hx⟩ := h a hs
    exact ⟨by rw [f.new a _ hx]; exact g, xs, keep hs hx⟩
noncomputable def gOn (S : Addr → Prop) (G H : Hp) : Hp := fun a => open Classical in if S a then H a else G a
noncomputable def gOff (S : Addr → Prop) (G : Hp) : Hp := fun a => open Classical in if S a then none else G a
theorem gOn_ex {G H : Hp} (h : ∀ a, S a → G a = none) : Ex G (gOn S G H) := fun a o q => by
  unfold gOn
  rw [if_neg (fun hs => by rw [h a hs] at q; cases q)]
  exact q
theorem gOn_at {G H : Hp} {a : Addr} (h : S a) : gOn S G H a = H a := by
  unfold gOn
  rw [if_pos h]
/-- the names are read with the bag told -/
theorem now_on {en : En} {G H : Hp} {σ : L2.St} {δ δt : Lv} (N : Now K en G H σ δ) (hS : ∀ a, S a → G a = none ∧ ∃ xs, H a = some (.lst xs)) (hl : δt.length = δ.length)
    (h : ∀ (i : Nat) sl, δt[i]? = some (some sl) → ∃ d d', sl = .dat d' ∧ δ[i]? = some (some (.dat d)) ∧ ∀ v, Rep K G d v → Rep K (gOn S G H) d' v) : Now K ⟨none, gOn S G H, H⟩ (gOn S G H) H σ δt := by
  have gh : Gh (gOn S G H) H := fun a o q => by
    by_cases hs : S a
    · rw [gOn_at hs] at q
      obtain ⟨_, xs, hx⟩ := hS a hs
      rw [hx] at q ⊢
      rw [← Option.some.inj q]
      exact HoOk.same nomk_l
    · unfold gOn at q
      rw [if_neg hs] at q
      exact N.gh a o q
  refine ⟨⟨gh, (fun a e => nomatch e), by rw [hl]; exact N.st.len, fun i sl hi => ?_, fun i j ds es a h1 _ _ _ => ?_⟩, Fm.same gh⟩
  · obtain ⟨d, d', e, h1, h2⟩ := h i sl hi
    subst e
    obtain ⟨v, g1, g2⟩ := N.st.at_ i _ h1
    exact ⟨v, g1, h2 v g2⟩
  · obtain ⟨d, d', e, _⟩ := h i _ h1
    cases e
section
variable {X : Cx} {G0 H0 : Hp} {δ δt : Lv} {c c' : C3} {t e ix : Expr} {pos p1 p2 p3 p4 : Pos} {sa sb : List Stmt} {P : PoX C3}
/-- what the names stand for while the bag is told -/
def TldOk (X : Cx) (S : Addr → Prop) (a0 a1 a2 : Addr) (δ : Lv) (c : C3) (δt : Lv) : Prop := δt.length = δ.length ∧ ∀ G H, (∀ a, S a → G a = none) → Rep X.K (gOn S G H) (.lst c.1) (.ref a0) → Rep X.K (gOn S G H) (.lst c.2.1) (.ref a1) → Rep X.K (gOn S G H) (.lst c.2.2) (.ref a2) →
  ∀ (i : Nat) sl, δt[i]? = some (some sl) → ∃ d d', sl = .dat d' ∧ δ[i]? = some (some (.dat d)) ∧ ∀ v, Rep X.K G d v → Rep X.K (gOn S G H) d' v
theorem tld_now {G H : Hp} {σ : L2.St} (T : TldOk X S a0 a1 a2 δ c δt) (N : Now X.K ⟨none, G0, H0⟩ G H σ δ) (B : (bag3 X.K S a0 a1 a2).B c G H) : Now X.K ⟨none, gOn S G H, H⟩ (gOn S G H) H σ δt := by
  obtain ⟨h, ⟨v0, e0, r0⟩, ⟨v1, e1, r1⟩, ⟨v2, e2, r2⟩, s0, s1, s2⟩ := B
  have ex := gOn_ex (H := H) fun a hs => (h a hs).1
  exact now_on N h T.1 (T.2 G H (fun a hs => (h a hs).1) ⟨a0, v0, rfl, by rw [gOn_at s0]; exact e0, r0.mono ex⟩ ⟨a1, v1, rfl, by rw [gOn_at s1]; exact e1, r1.mono ex⟩ ⟨a2, v2, rfl, by rw [gOn_at s2]; exact e2, r2.mono ex⟩)
theorem PT.any {X : Cx} {e : Expr} {ι : Type} {t : ι → TT} (h : ∀ i, PT X e (t i)) : PT X e (fun σ H Q => ∃ i, t i σ H Q) := ⟨fun pins s σ H Q I ⟨i, q⟩ => (h i).run pins s σ H Q I q⟩
theorem fm_off (K : PySem.W.Frag) {G H G1 H1 : Hp} (f : Fm none (gOn S G H) H G1 H1) (hS : ∀ a, S a → G a = none ∧ ∃ xs, H a = some (.lst xs)) : Fm none G H (gOff S G1) H1 := by
  haveI : DecidablePred S := fun a => Classical.propDecidable _
  have h := now_off (K := K) (S := S) (G := G) (H := H) (G1 := G1) (H1 := H1) (by
    have e : (fun a => if S a then H a else G a) = gOn S G H := by
      funext a
      unfold gOn
      by_cases hs : S a
      · rw [if_pos hs, if_pos hs]
      · rw [if_neg hs, if_neg hs]
    rw [e]
    exact f) hS
  have e : (fun a => if S a then none else G1 a) = gOff S G1 := by
    funext a
    unfold gOff
    by_cases hs : S a
    · rw [if_pos hs, if_pos hs]
    · rw [if_neg hs, if_neg hs]
  rw [← e]
  exact h.1
theorem xs_ifT {Rt : Bool → Prop} (T : TldOk X S a0 a1 a2 δ c δt) (hc : ∀ G' H', JT X ⟨none, G', H'⟩ t δt Rt) (ha : Rt true → XB X ⟨none, G0, H0⟩ (bag3 X.K S a0 a1 a2) sa δ c P) (hb : Rt false → XB X ⟨none, G0, H0⟩ (bag3 X.K S a0 a1 a2) sb δ c P) : XS X ⟨none, G0, H0⟩ (bag3 X.K S a0 a1 a2) (.If t sa sb pos) δ c P :=
  PS.weak (ps_if (PT.any fun (q : Hp × Hp) => hc q.1 q.2) (PSs.cond ha) (PSs.cond hb)) fun D σ H ⟨G, N, B, k1, k2⟩ => ⟨(gOn S G H, H), gOn S G H, tld_now T N B, fun b G1 H1 f r => by
    have f2 := fm_off X.K f B.1
    have q : tX X.K ⟨none, G0, H0⟩ (bag3 X.K S a0 a1 a2) δ c P D σ H1 := ⟨gOff S G1, N.step f2, (bag3 X.K S a0 a1 a2).st c f2 B, fun s2 G2 H2 d2 c2 e2 => k1 s2 G2 H2 d2 c2 (f2.gg.trans e2), k2⟩
    cases b with
    | true => exact ⟨r, q⟩
    | false => exact ⟨r, q⟩⟩
theorem xs_retT {b : Bool} (T : TldOk X S a0 a1 a2 δ c δt) (he : ∀ G' H', JE X ⟨none, G', H'⟩ e δt (Is (.bl b))) (hb : P.rt (.bl b)) : XS X ⟨none, G0, H0⟩ (bag3 X.K S a0 a1 a2) (.Return (some e) pos) δ c P :=
  PS.weak (ps_ret (PE.any fun (q : Hp × Hp) => he q.1 q.2)) fun D σ H ⟨G, N, B, _, k2⟩ => ⟨(gOn S G H, H), gOn S G H, tld_now T N B, fun v G1 H1 d f r rp => by
    have f2 := fm_off X.K f B.1
    rw [show d = .bl b from r] at rp
    exact k2 v (gOff S G1) H1 (.bl b) c (now_bare (N.step f2)) ((bag3 X.K S a0 a1 a2).st c f2 B) hb rp⟩
/-- row[ix] = bad -/
theorem xs_put3 (i ib : Nat) {x xb : Str} {a : Addr} {j : Nat} {bd : Dat} {ti : TE} (pl : PlainL δ) (hδ : δ[i]? = some (some (.dat (.mrow a 0 0)))) (hδb : δ[ib]? = some (some (.dat bd))) (hix : PE X ix ti)
    (hw : ∀ G H σ (Q : VK), Now X.K ⟨none, G0, H0⟩ G H σ δ → (bag3 X.K S a0 a1 a2).B c G H → Q (.int (j : Int)) H → ti σ H Q) (hS0 : S a → H0 a = none) (ha : S a)
    (hB : ∀ G H xs v, (bag3 X.K S a0 a1 a2).B c G H → H a = some (.lst xs) → Rep X.K G bd v → j < xs.length ∧ (bag3 X.K S a0 a1 a2).B c' G (upd H a (.lst (xs.set j v)))) (k : P.nx δ c')
    (hN : X.N[i]? = some x := by rfl) (hNb : X.N[ib]? = some xb := by rfl) (hv : Vis X.env.scope x := by exact Or.inl rfl) (hvb : Vis X.env.scope xb := by exact Or.inl rfl)
    (hd : (x == ("__debug__" : Str)) = false := by decide) (hcd : (x == ("__classdict__" : Str)) = false := by decide) (hdb : (xb == ("__debug__" : Str)) = false := by decide) (hcdb : (xb == ("__classdict__" : Str)) = false := by decide)
    (has : ∀ v, assign (.Subscript (.Name x p1) ix p2) X.env v = (do
      let ov ← holding [v] (eval (.Name x p1) X.env)
      let iv ← holding [v, ov] (eval ix X.env)
      standAt p2
      holding [v, ov, iv] (setItem ov iv v)
      release [v, ov, iv] []) := by intro _; rfl)
    (hs : swapsWithSole [.Subscript (.Name x p1) ix p2] (.Name xb p3) pos.line X.env = pure false := by rfl) (hsw : swappedStores [.Subscript (.Name x p1) ix p2] (.Name xb p3) X.env = pure none := by rfl) (h1 : (assignEach [.Subscript (.Name x p1) ix p2] X.env).map (·.2) = [assign (.Subscript (.Name x p1) ix p2) X.env] := by rfl) :
    XS X ⟨none, G0, H0⟩ (bag3 X.K S a0 a1 a2) (.Assign [.Subscript (.Name x p1) ix p2] (.Name xb p3) pos) δ c P :=
  PS.weak (ps_asg (pe_var hNb hvb hdb hcdb) (pg_sub (pe_var hN hv hd hcd) hix set_list has) hs hsw h1) fun D σ H ⟨G, N, B, k1, _⟩ => by
    obtain ⟨vb, sb, rb⟩ := N.at_ ib _ hδb
    obtain ⟨va, sa, ra⟩ := N.at_ i _ hδ
    have ea : va = .ref a := ra
    subst ea
    obtain ⟨g, xs, hx⟩ := B.1 a ha
    obtain ⟨hj, B'⟩ := hB G H xs vb B hx rb
    refine ⟨vb, sb, .ref a, sa, hw G H σ _ N B ⟨a, xs, (j : Int), j, rfl, rfl, hx, ?_, ?_⟩⟩
    · unfold ixN
      have c1 : ¬ ((j : Int) < 0) := by omega
      first
        | (simp only [c1, if_false]; simp; omega)
        | (split <;> first | omega | (simp; omega) | rfl)
    · exact k1 σ G _ δ c' (Ex.refl G) (now_write N pl g (hS0 ha)) B' k
end
end
end PJ
end
section
set_option maxHeartbeats 4000000
namespace PJ
open PySem PySem.Spec PyProof.Rows L2
section
variable {K : PySem.W.Frag} {G G3 H : Hp} {S : Addr → Prop} {a0 a1 a2 : Addr} {A B C : List Dat}
theorem bag3_h {H : Hp} {a : Addr} {us : List V} (h : ∀ a, S a → G a = none ∧ ∃ xs, H a = some (.lst xs)) : ∀ b, S b → G b = none ∧ ∃ xs, upd H a (.lst us) b = some (.lst xs) := fun b hb => by
  obtain ⟨g, xs, hx⟩ := h b hb
  refine ⟨g, ?_⟩
  by_cases e : b = a
  · rw [e]
    exact ⟨us, upd_same⟩
  · rw [upd_ne e]
    exact ⟨xs, hx⟩
theorem bag3_w0 {j : Nat} {bd : Dat} (n1 : a1 ≠ a0) (n2 : a2 ≠ a0) (hj : j < A.length) : ∀ G H xs v, (bag3 K S a0 a1 a2).B (A, B, C) G H → H a0 = some (.lst xs) → Rep K G bd v → j < xs.length ∧ (bag3 K S a0 a1 a2).B (A.set j bd, B, C) G (upd H a0 (.lst (xs.set j v))) :=
  fun G H xs v ⟨h, ⟨v0, e0, r0⟩, ⟨v1, e1, r1⟩, ⟨v2, e2, r2⟩, s⟩ hx rv => by
    rw [hx] at e0
    injection e0 with e0
    injection e0 with e0
    subst e0
    exact ⟨by rw [r0.length]; exact hj, bag3_h h, ⟨_, upd_same, r0.set j rv⟩, ⟨v1, by rw [upd_ne n1]; exact e1, r1⟩, ⟨v2, by rw [upd_ne n2]; exact e2, r2⟩, s⟩
theorem bag3_w1 {j : Nat} {bd : Dat} (n1 : a0 ≠ a1) (n2 : a2 ≠ a1) (hj : j < B.length) : ∀ G H xs v, (bag3 K S a0 a1 a2).B (A, B, C) G H → H a1 = some (.lst xs) → Rep K G bd v → j < xs.length ∧ (bag3 K S a0 a1 a2).B (A, B.set j bd, C) G (upd H a1 (.lst (xs.set j v))) :=
  fun G H xs v ⟨h, ⟨v0, e0, r0⟩, ⟨v1, e1, r1⟩, ⟨v2, e2, r2⟩, s⟩ hx rv => by
    rw [hx] at e1
    injection e1 with e1
    injection e1 with e1
    subst e1
    exact ⟨by rw [r1.length]; exact hj, bag3_h h, ⟨v0, by rw [upd_ne n1]; exact e0, r0⟩, ⟨_, upd_same, r1.set j rv⟩, ⟨v2, by rw [upd_ne n2]; exact e2, r2⟩, s⟩
theorem bag3_w2 {j : Nat} {bd : Dat} (n1 : a0 ≠ a2) (n2 : a1 ≠ a2) (hj : j < C.length) : ∀ G H xs v, (bag3 K S a0 a1 a2).B (A, B, C) G H → H a2 = some (.lst xs) → Rep K G bd v → j < xs.length ∧ (bag3 K S a0 a1 a2).B (A, B, C.set j bd) G (upd H a2 (.lst (xs.set j v))) :=
  fun G H xs v ⟨h, ⟨v0, e0, r0⟩, ⟨v1, e1, r1⟩, ⟨v2, e2, r2⟩, s⟩ hx rv => by
    rw [hx] at e2
    injection e2 with e2
    injection e2 with e2
    subst e2
    exact ⟨by rw [r2.length]; exact hj, bag3_h h, ⟨v0, by rw [upd_ne n1]; exact e0, r0⟩, ⟨v1, by rw [upd_ne n2]; exact e1, r1⟩, ⟨_, upd_same, r2.set j rv⟩, s⟩
/-- lists of tuples -/
def tupL (G : Hp) : Addr → Prop := fun a => ∃ vs, G a = some (.lst vs) ∧ ∀ u ∈ vs, ∃ b ts, u = V.ref b ∧ G b = some (.tup ts)
def isT (G : Hp) (v : V) : Prop := ∃ b ts, v = V.ref b ∧ G b = some (.tup ts)
theorem gOff_exN : ExN G (gOff (tupL G) G) := fun a o h n => by
  unfold gOff
  rw [if_neg]
  · exact h
  · rintro ⟨vs, h1, _⟩
    rw [h] at h1
    exact n vs (Option.some.inj h1)
theorem gOff_ex : Ex (gOff S G) G := fun a o h => by
  unfold gOff at h
  split at h
  · cases h
  · exact h
theorem gOff_at {a : Addr} {o : HO} (h : G a = some o) (hs : ¬ S a) : gOff S G a = some o := by
  unfold gOff
  rw [if_neg hs]
  exact h
theorem gOff_none {a : Addr} (hs : S a) : gOff S G a = none := by
  unfold gOff
  rw [if_pos hs]
def Sf (K : PySem.W.Frag) (G G3 : Hp) (d : Dat) : Prop := ∀ v, Rep K G d v → Rep K G3 d v
theorem sf_reps : ∀ {ds : List Dat} {vs : List V}, (∀ x ∈ ds, Sf K G G3 x) → Reps K G ds vs → Reps K G3 ds vs
  | [], _, _, r => r
  | d :: ds, vs, h, r => by
    obtain ⟨v, us, e, h1, h2⟩ := (show ∃ v us, vs = v :: us ∧ Rep K G d v ∧ Reps K G ds us from r)
    rw [e]
    exact Reps.cons (h d List.mem_cons_self v h1) (sf_reps (fun x hx => h x (List.mem_cons_of_mem d hx)) h2)
theorem sf_lst {ds : List Dat} {x : Dat} (hx : x ∈ ds) (hn : ∀ v, Rep K G x v → ¬ isT G v) (h : ∀ x ∈ ds, Sf K G (gOff (tupL G) G) x) : Sf K G (gOff (tupL G) G) (.lst ds) := fun v r => by
  obtain ⟨a, vs, ev, ha, rs⟩ := rep_lst r
  refine ⟨a, vs, ev, gOff_at ha ?_, sf_reps h rs⟩
  rintro ⟨us, h1, h2⟩
  rw [ha] at h1
  injection h1 with h1
  injection h1 with h1
  subst h1
  obtain ⟨i, hi⟩ := List.getElem?_of_mem hx
  obtain ⟨u, hu, ru⟩ := rs.get hi
  exact hn u ru (h2 u (List.mem_of_getElem? hu))
theorem nt_int {i : Int} : ∀ v, Rep K G (.int i) v → ¬ isT G v := fun v r ⟨b, ts, e, _⟩ => by
  have e1 : v = .int i := r
  rw [e1] at e
  cases e
theorem nt_bl {i : Bool} : ∀ v, Rep K G (.bl i) v → ¬ isT G v := fun v r ⟨b, ts, e, _⟩ => by
  have e1 : v = .bl i := r
  rw [e1] at e
  cases e
theorem nt_lst {ds : List Dat} : ∀ v, Rep K G (.lst ds) v → ¬ isT G v := fun v r ⟨b, ts, e, h⟩ => by
  obtain ⟨a, vs, ev, ha, _⟩ := rep_lst r
  rw [ev] at e
  injection e with e
  rw [e, h] at ha
  cases ha
theorem sf_nl {d : Dat} (h : nl d = true) : Sf K G (gOff (tupL G) G) d := fun v r => nl_rep gOff_exN h r
theorem reps_tup : ∀ {ds : List Dat} {vs : List V}, (∀ x ∈ ds, ∃ us, x = .tup us) → Reps K G ds vs → ∀ u ∈ vs, isT G u
  | [], vs, _, r => by rw [show vs = [] from r]; exact fun _ h => nomatch h
  | d :: ds, vs, h, r => by
    obtain ⟨v, us, e, h1, h2⟩ := (show ∃ v us, vs = v :: us ∧ Rep K G d v ∧ Reps K G ds us from r)
    obtain ⟨ts, ed⟩ := h d List.mem_cons_self
    subst ed
    obtain ⟨b, ws, eb, hb, _⟩ := rep_tup h1
    intro u hu
    rw [e] at hu
    rcases List.mem_cons.mp hu with z | z
    · rw [z]
      exact ⟨b, ws, eb, hb⟩
    · exact reps_tup (fun x hx => h x (List.mem_cons_of_mem _ hx)) h2 u z
theorem reps_all {ds : List Dat} : ∀ {vs : List V}, vs.length = ds.length → (∀ (i : Nat) d u, ds[i]? = some d → vs[i]? = some u → Rep K G d u) → Reps K G ds vs := by
  induction ds with
  | nil =>
    intro vs hl _
    rw [List.length_eq_zero_iff.mp hl]
    exact Reps.nil
  | cons d ds ih =>
    intro vs hl h
    cases vs with
    | nil => cases hl
    | cons v vs => exact Reps.cons (h 0 d v rfl rfl) (ih (by simpa using hl) fun i d' u h1 h2 => h (i + 1) d' u h1 h2)
end
end PJ
namespace PW
open PySem PySem.Spec PyProof.Rows L2 PJ PF PX
/-! ### a row of a wrong form -/
def rowZ (k : Nat) : Dat := .lst (List.replicate k (.int 0))
def zsD (k : Nat) : List Dat := List.replicate (k - 1) (rowZ k)
def rowTr (k : Nat) : Dat := .lst (List.replicate k (.bl true))
def BadD (k : Nat) (d : Dat) : Prop := d = rowZ k ∨ d = .non ∨ d = .lst (zsD k) ∨ d = .lst (zsD k ++ [rowTr k])
theorem bad_facts {k : Nat} {d : Dat} (h3 : 3 ≤ k) (h5 : k ≤ 5) (h : BadD k d) : gridB k d = false ∧ partB k d = false ∧ tyOk 3 d = true := by
  have hc : k = 3 ∨ k = 4 ∨ k = 5 := by omega
  rcases hc with e | e | e <;> subst e <;> rcases h with e | e | e | e <;> subst e <;> exact ⟨rfl, rfl, rfl⟩
theorem bad_sf {K : PySem.W.Frag} {G : Hp} {k : Nat} {d : Dat} (h3 : 3 ≤ k) (h : BadD k d) : Sf K G (gOff (tupL G) G) d := by
  have z : Sf K G (gOff (tupL G) G) (rowZ k) := sf_lst (x := .int 0) (List.mem_replicate.mpr ⟨by omega, rfl⟩) nt_int fun x hx v r => by
    rw [(List.mem_replicate.mp hx).2] at r ⊢
    exact r
  have t : Sf K G (gOff (tupL G) G) (rowTr k) := sf_lst (x := .bl true) (List.mem_replicate.mpr ⟨by omega, rfl⟩) nt_bl fun x hx v r => by
    rw [(List.mem_replicate.mp hx).2] at r ⊢
    exact r
  have zm : rowZ k ∈ zsD k := List.mem_replicate.mpr ⟨by omega, rfl⟩
  rcases h with e | e | e | e
  · rw [e]
    exact z
  · rw [e]
    exact fun v r => r
  · rw [e]
    exact sf_lst zm nt_lst fun x hx => by
      rw [(List.mem_replicate.mp hx).2]
      exact z
  · rw [e]
    refine sf_lst (List.mem_append_left _ zm) nt_lst fun x hx => ?_
    rcases List.mem_append.mp hx with h | h
    · rw [(List.mem_replicate.mp h).2]
      exact z
    · rw [List.mem_singleton.mp h]
      exact t
/-! ### the game without what is not needed -/
def wbA (k : Nat) (as : List Arr) : Dat := .ins 0 [.int (k : Int), .any, .tup (as.map arrD)]
theorem nl_arr (as : List Arr) : nl (.tup (as.map arrD)) = true := nls_all fun d hd => by
  obtain ⟨a, _, e⟩ := List.mem_map.mp hd
  rw [← e]
  rfl
theorem game_sf {K : PySem.W.Frag} {G : Hp} {k : Nat} {M : List (List Arr)} {gd : Dat} (h : IsGame k M gd) : IsGame k M (gameD k (M.map (wbA k))) ∧ ∀ v, Rep K G gd v → Rep K (gOff (tupL G) G) (gameD k (M.map (wbA k))) v := by
  obtain ⟨ws, e, hW, h3, h5, hl⟩ := h
  refine ⟨⟨_, rfl, ⟨List.length_map .., fun i as hi => ?_⟩, h3, h5, hl⟩, fun v r => ?_⟩
  · obtain ⟨d, _, _, h2, h4⟩ := hW.at_ i as hi
    exact ⟨wbA k as, by rw [List.getElem?_map, hi]; rfl, ⟨_, rfl⟩, h2, h4⟩
  · rw [e] at r
    obtain ⟨a, dx, vs, ev, ha, rs⟩ := (show ∃ a dx vs, v = .ref a ∧ G a = some (.ins (cA K 1) dx ((PJ.cF 1).zip vs)) ∧ Reps K G [.int (k : Int), .tup ws, .int (ws.length : Int)] vs from r)
    obtain ⟨v1, us, e1, r1, rs1⟩ := (show ∃ v us, vs = v :: us ∧ Rep K G (.int (k : Int)) v ∧ Reps K G [.tup ws, .int (ws.length : Int)] us from rs)
    obtain ⟨v2, v3, e2, r2, r3⟩ := reps2 rs1
    obtain ⟨b, xs, eb, hb, rw_⟩ := rep_tup r2
    refine ⟨a, dx, vs, ev, gOff_exN a _ ha (fun _ z => nomatch z), ?_⟩
    rw [e1, e2]
    refine Reps.cons r1 (Reps.cons ⟨b, xs, eb, gOff_exN b _ hb (fun _ z => nomatch z), reps_all (by rw [rw_.length, hW.len, List.length_map]) fun i d u hd hu => ?_⟩ (Reps.one (by rw [List.length_map, ← hW.len]; exact r3)))
    obtain ⟨d0, hd0, rd0⟩ := rw_.back hu
    obtain ⟨as, has, ⟨x, ed0⟩, _, _⟩ := hW.back hd0
    rw [List.getElem?_map, has] at hd
    have ed := (Option.some.inj hd).symm
    subst ed ed0
    obtain ⟨a', dx', vs', ev', ha', rs'⟩ := (show ∃ a dx vs, u = .ref a ∧ G a = some (.ins (cA K 0) dx ((PJ.cF 0).zip vs)) ∧ Reps K G [.int (k : Int), x, .tup (as.map arrD)] vs from rd0)
    obtain ⟨w1, us', f1, q1, rs2⟩ := (show ∃ v us, vs' = v :: us ∧ Rep K G (.int (k : Int)) v ∧ Reps K G [x, .tup (as.map arrD)] us from rs')
    obtain ⟨w2, w3, f2, q2, q3⟩ := reps2 rs2
    refine ⟨a', dx', vs', ev', gOff_exN a' _ ha' (fun _ z => nomatch z), ?_⟩
    rw [f1, f2]
    exact Reps.cons q1 (Reps.cons trivial (Reps.one (sf_nl (nl_arr as) w3 q3)))
/-- a part is no grid -/
theorem part_grid {K : PySem.W.Frag} {G : Hp} {k : Nat} {f : Nat → Gr} {g : Gr} {v : V} (hk : 0 < k) (h1 : Rep K G (partM true k f) v) (h2 : Rep K G (gridM true k g) v) : False := by
  obtain ⟨a, vs, e1, ha, r1⟩ := rep_tup h1
  obtain ⟨b, us, e2, hb, r2⟩ := rep_tup h2
  rw [e1] at e2
  injection e2 with e2
  rw [← e2, ha] at hb
  injection hb with hb
  injection hb with hb
  subst hb
  obtain ⟨u, hu, ru⟩ := r1.get (map_range_get hk)
  obtain ⟨u', hu', ru'⟩ := r2.get (map_range_get hk)
  rw [hu] at hu'
  have eu := Option.some.inj hu'
  subst eu
  obtain ⟨c, ws, e3, hc, r3⟩ := rep_tup ru
  obtain ⟨c', xs, e4, hc', r4⟩ := rep_tup ru'
  rw [e3] at e4
  injection e4 with e4
  rw [← e4, hc] at hc'
  injection hc' with hc'
  injection hc' with hc'
  subst hc'
  obtain ⟨y, hy, ry⟩ := r3.get (map_range_get hk)
  obtain ⟨y', hy', ry'⟩ := r4.get (rowD_get hk)
  rw [hy] at hy'
  have ey := Option.some.inj hy'
  subst ey
  obtain ⟨p, zs, e5, _⟩ := rep_tup ry
  have := oD_rep.mp ry'
  rw [e5] at this
  cases hgo : g 0 0 <;> rw [hgo] at this <;> cases this
theorem okD_paper (n : Int) : okD 60 (tdD "paper" n) = true := by
  show (okD 59 (.str "paper") && (okD 59 (.int n) && okDs 59 [])) = true
  rw [show okD 59 (.str "paper") = true from by decide +kernel]
  rfl
theorem okD_floor (n : Int) : okD 60 (tdD "floor" n) = true := by
  show (okD 59 (.str "floor") && (okD 59 (.int n) && okDs 59 [])) = true
  rw [show okD 59 (.str "floor") = true from by decide +kernel]
  rfl
theorem eqv_td (s : Str) (n : Int) : PyData.eqv (pyD (tdD s n)) (pyD (tdD s n)) = true := by
  simp [tdD, pyD, pyDs, PyData.eqv, PyData.eqvAll]
theorem set_getD {α : Type} {l : List α} {i j : Nat} {x z : α} (h : i ≠ j) : (l.set i x).getD j z = l.getD j z := by
  rw [List.getD_eq_getElem?_getD, List.getD_eq_getElem?_getD, List.getElem?_set_ne h]
theorem okG_set {k : Nat} {SL : SideM} {ts : List Dat} {ps : List Nat} {i j : Nat} {x : Dat} (h : j < i) : okG k SL (ts.set i x) ps j = okG k SL ts ps j := by
  have e : ∀ q, bnd0 (ts.set i x) j q = bnd0 ts j q := fun q => by
    cases j with
    | zero => rfl
    | succ j =>
      show grF ((ts.set i x).getD j .non) q q = grF (ts.getD j .non) q q
      rw [set_getD (by omega)]
  have e2 : bnd0 (ts.set i x) j = bnd0 ts j := funext e
  unfold okG
  rw [set_getD (by omega), e2]
end PW
end
section
set_option maxHeartbeats 4000000
namespace PW
open PySem PySem.Spec PyProof.Rows L2 PJ PF PX
def W__law_forms_fit : List Sl → Prop := fun ss => ∃ (k : Nat) (L M : List (List Arr)) (gd : Dat) (ps qs : List Nat), ss = [.drw, .dat gd, .dat (.int (k : Int)), .dat (.tup (natsD ps)), .dat (.tup (natsD qs))] ∧ CaseOk k L ps qs ∧ PermL L M ∧ IsGame k M gd ∧ ps ≠ qs
/-- the names in the bag's part -/
def dfL (k p : Nat) (gd bd : Dat) (ps qs : List Nat) (a0 a1 a2 : Addr) (z : Option Sl) : Lv :=
  [none, some (.dat gd), none, some (.dat (.tup (natsD ps))), some (.dat (.tup (natsD qs))), none, none, some (.dat bd), some (.dat (.lst [.mrow a0 0 0, .mrow a1 0 0, .mrow a2 0 0])), none, some (.dat (.int (p : Int))), z]
def dfT (k p : Nat) (gd : Dat) (ps qs : List Nat) (A B C : List Dat) (z : Option Sl) : Lv :=
  [none, some (.dat gd), none, some (.dat (.tup (natsD ps))), some (.dat (.tup (natsD qs))), none, none, none, some (.dat (.lst [.lst A, .lst B, .lst C])), none, some (.dat (.int (p : Int))), z]
theorem df_tld {X : Cx} {S : Addr → Prop} {a0 a1 a2 : Addr} {k p : Nat} {gd bd : Dat} {ps qs : List Nat} {A B C : List Dat} {z zt : Option Sl} (hz : zt = none ∨ (z = some (.dat (.mrow a0 0 0)) ∧ zt = some (.dat (.lst A)))) :
    TldOk X S a0 a1 a2 (dfL k p gd bd ps qs a0 a1 a2 z) (A, B, C) (dfT k p gd ps qs A B C zt) := by
  refine ⟨rfl, fun G H hS r0 r1 r2 i sl hi => ?_⟩
  have ex := gOn_ex (H := H) hS
  have same : ∀ d v, Rep X.K G d v → Rep X.K (gOn S G H) d v := fun d v r => r.mono ex
  match i, hi with
  | 0, hi => cases hi
  | 1, hi => exact ⟨gd, gd, (Option.some.inj (Option.some.inj hi)).symm, rfl, same _⟩
  | 2, hi => cases hi
  | 3, hi => exact ⟨_, _, (Option.some.inj (Option.some.inj hi)).symm, rfl, same _⟩
  | 4, hi => exact ⟨_, _, (Option.some.inj (Option.some.inj hi)).symm, rfl, same _⟩
  | 5, hi => cases hi
  | 6, hi => cases hi
  | 7, hi => cases hi
  | 8, hi =>
    refine ⟨_, _, (Option.some.inj (Option.some.inj hi)).symm, rfl, fun v r => ?_⟩
    obtain ⟨q, vs, ev, hq, rs⟩ := rep_lst r
    obtain ⟨v0, us, e1, x0, rs1⟩ := (show ∃ v us, vs = v :: us ∧ Rep X.K G (.mrow a0 0 0) v ∧ Reps X.K G [.mrow a1 0 0, .mrow a2 0 0] us from rs)
    obtain ⟨v1, v2, e2, x1, x2⟩ := reps2 rs1
    have y0 : v0 = .ref a0 := x0
    have y1 : v1 = .ref a1 := x1
    have y2 : v2 = .ref a2 := x2
    refine ⟨q, vs, ev, ex _ _ hq, ?_⟩
    rw [e1, e2, y0, y1, y2]
    exact Reps.cons r0 (Reps.cons r1 (Reps.one r2))
  | 9, hi => cases hi
  | 10, hi => exact ⟨_, _, (Option.some.inj (Option.some.inj hi)).symm, rfl, same _⟩
  | 11, hi =>
    rcases hz with e | ⟨e, e2⟩
    · subst e
      cases hi
    · subst e e2
      refine ⟨_, _, (Option.some.inj (Option.some.inj hi)).symm, rfl, fun v r => ?_⟩
      have y : v = .ref a0 := r
      rw [y]
      exact r0
  | i + 12, hi => cases hi
theorem df_plain {k p : Nat} {gd bd : Dat} {ps qs : List Nat} {a0 a1 a2 : Addr} {z : Option Dat} : PlainL (dfL k p gd bd ps qs a0 a1 a2 (z.map Sl.dat)) :=
  plain_none (plain_dat (plain_none (plain_dat (plain_dat (plain_none (plain_none (plain_dat (plain_dat (plain_none (plain_dat (plain_opt plain_nil)))))))))))
section
variable {P : Program} {w : World} {K : PySem.W.Frag} {mg : Str → Option Value} {base : Heap}
set_option maxHeartbeats 8000000 in
theorem ok__law_forms_fit (c : Fc K mg) : ∃ fd : FuncData, FnOk P w K mg base (L2.CX P w) 10 (gA K "_law_forms_fit") fd ["_law_draws_here", "_law_game", "_law_pegs", "_law_here", "_law_there"] (SpT K W__law_forms_fit) ∧ Binds K fd ["_law_draws_here", "_law_game", "_law_pegs", "_law_here", "_law_there"] [] ∧ mg "_law_forms_fit" = some (.ref (gA K "_law_forms_fit")) ∧ PySem.W.keepIn K (.ref (gA K "_law_forms_fit")) = true := by
  obtain ⟨fd, F⟩ := c.f__law_forms_fit
  refine ⟨fd, defT _ F sc__law_forms_fit (fun ss ⟨k, L, M, gd, ps, qs, e, _⟩ => by rw [e]; rfl) (fun cdv A outer s H E en ss hr ⟨k, L, M, gd, ps, qs, e, hC, hp, hG, hne⟩ => ?_), F.bindsN (fun _ _ _ _ _ _ us hl => match us, hl with | [_, _, _, _, _], _ => rfl), c.g__law_forms_fit, F.kp⟩
  subst e
  have nd := sc__law_forms_fit.nd
  have hr9 : Room 9 _ := hr
  have hr7 : Room 7 _ := hr.mono (by decide)
  have hr1 : Room 1 _ := hr.mono (by decide)
  obtain ⟨hM, hin⟩ := case_gm hC hp
  obtain ⟨n, hn⟩ := isTop_ex (hC.pl.trans hC.ql.symm) hne
  have hnp : n < ps.length := hn.1
  have hnL : n < L.length := by rw [← hC.pl]; exact hnp
  have hnM : n < M.length := by rw [hp.1]; exact hnL
  have hl40 := hC.cs.len
  have h3 := hC.cs.h3
  have h5 := hC.cs.h5
  have hk0 : 0 < k := by omega
  have hps : ∀ i, i < n + 1 → ps.getD i 0 < k := fun i hi => getD_lt hC.pk (by omega)
  obtain ⟨bF, bG, bH⟩ := c_bounds (ps := ps) (qs := qs) hM hnM
  have P0 := pap_is true (fun i p hi hpk => gb_gx (bF i p hi hpk)) (fun i hi => gb_gx (bG i hi)) (fun i hi => gb_gx (bH i hi))
  have e0 : paperD k M ps qs n = papM true k n (cF k n M) (cG k n M ps) (cH k n M qs) := rfl
  have uniq : ∀ n', IsTop ps qs n' → n' = n := fun n' h => h.uniq hn
  have hinM : ∀ i, ∀ a ∈ M.getD i [], a.In k := hM.hin
  have hA0 : ∀ i, i < n → okF k M ((List.range n).map fun i => partM true k (cF k n M i)) i = true := fun i hi => (P0.okF_ hi (hinM i)).trans ((accF_perm hp i).trans (c_accF hM hp hi))
  have hA1 : ∀ i, i < n + 1 → okG k (sideF M ((List.range n).map fun i => partM true k (cF k n M i)) (n + 1)) ((List.range (n + 1)).map fun i => gridM true k (cG k n M ps i)) ps i = true := fun i hi => by
    have h1 := okG_H (k := k) (n := n) (xd := papM true k n (cF k n M) (cG k n M ps) (cH k n M qs)) (L := M) (b := false) (i := i) (rs := ps)
    have h2 := P0.okH_ (L := M) (b := false) hi (hinM i) (hps i hi)
    have h4 : gridB k ((sideN false (papM true k n (cF k n M) (cG k n M ps) (cH k n M qs))).getD i .non) = true := P0.g1 _ (by
      have e1 : (seqs (nth (papM true k n (cF k n M) (cG k n M ps) (cH k n M qs)) 1))[i]? = some (gridM true k (cG k n M ps i)) := map_range_get hi
      show (seqs (nth (papM true k n (cF k n M) (cG k n M ps) (cH k n M qs)) 1)).getD i .non ∈ _
      rw [getD_of e1]
      exact List.mem_of_getElem? e1)
    rw [h2, accH_perm hp i, h4, Bool.true_and] at h1
    exact h1.trans (c_accG hM hp hnM hi (hps i hi))
  have pB0 : ∀ d ∈ (List.range n).map fun i => partM true k (cF k n M i), partB k d = true := P0.pB
  have ty0 : tyOk 5 (papM true k n (cF k n M) (cG k n M ps) (cH k n M qs)) = true := P0.ty
  have x0 : ∀ x ∈ (List.range n).map fun i => partM true k (cF k n M i), ∃ us, x = .tup us := fun x hx => by
    obtain ⟨i, _, e⟩ := List.mem_map.mp hx
    exact ⟨_, e.symm⟩
  have x1 : ∀ x ∈ (List.range (n + 1)).map fun i => gridM true k (cG k n M ps i), ∃ us, x = .tup us := fun x hx => by
    obtain ⟨i, _, e⟩ := List.mem_map.mp hx
    exact ⟨_, e.symm⟩
  have x2 : ∀ x ∈ (List.range n).map fun i => gridM true k (cH k n M qs i), ∃ us, x = .tup us := fun x hx => by
    obtain ⟨i, _, e⟩ := List.mem_map.mp hx
    exact ⟨_, e.symm⟩
  have nlx : nl (papM true k n (cF k n M) (cG k n M ps) (cH k n M qs)) = true := nl_papT k n _ _ _
  have pg : ∀ {G : Hp} {v : V}, 0 < n → Rep K G ((((List.range n).map fun i => partM true k (cF k n M i))).getD 0 .non) v → Rep K G ((((List.range n).map fun i => gridM true k (cH k n M qs i))).getD 0 .non) v → False := fun {G v} h r1 r2 => by
    rw [map_getDr h] at r1 r2
    exact part_grid hk0 r1 r2
  have eX : papM true k n (cF k n M) (cG k n M ps) (cH k n M qs) = .tup [.tup ((List.range n).map fun i => partM true k (cF k n M i)), .tup ((List.range (n + 1)).map fun i => gridM true k (cG k n M ps i)), .tup ((List.range n).map fun i => gridM true k (cH k n M qs i))] := rfl
  have l0 : ((List.range n).map fun i => partM true k (cF k n M i)).length = n := by simp
  have l1 : ((List.range (n + 1)).map fun i => gridM true k (cG k n M ps i)).length = n + 1 := by simp
  have l2 : ((List.range n).map fun i => gridM true k (cH k n M qs i)).length = n := by simp
  rw [eX] at e0 ty0 nlx
  clear eX P0
  generalize hh0 : ((List.range n).map fun i => partM true k (cF k n M i)) = A0 at *
  generalize hh1 : ((List.range (n + 1)).map fun i => gridM true k (cG k n M ps i)) = A1 at *
  generalize hh2 : ((List.range n).map fun i => gridM true k (cH k n M qs i)) = A2 at *
  clear hh0 hh1 hh2
  have tyA : ∀ {j : Nat} {ds : List Dat}, ([Dat.tup A0, .tup A1, .tup A2])[j]? = some (.tup ds) → ∀ d ∈ ds, tyOk 3 d = true := fun {j ds} hj d hd => List.all_eq_true.mp (Bool.and_eq_true_iff.mp (show tyOk 4 (.tup ds) = true from tyOk_in ty0 hj)).2 d hd
  have ty4 : ∀ {ds : List Dat}, (∀ d ∈ ds, tyOk 3 d = true) → tyOk 4 (.lst ds) = true := fun {ds} h => List.all_eq_true.mpr h
  refine lb_set 5 nd (d := .tup [.tup A0, .tup A1, .tup A2]) (je_callI (ok_paper_for c) (ja_c (je_var 1 rfl) (ja_c (je_var 3 rfl) (ja_c (je_var 4 rfl) ja_nil))) ⟨k, M, gd, _, _, ps, qs, rfl, hG, .inr rfl, .inr rfl, hC.pk, hC.qk, hC.pl.trans hp.1.symm, hC.ql.trans hp.1.symm, fun n' h => by rw [uniq n' h]; exact e0, fun z => absurd z hne⟩ hr9) ?_
  refine lb_set 6 nd (d := .lst (zsD k)) ((jf_rep1 (d := rowZ k) (n := k - 1) ((jf_lstI (ds := [rowZ k]) (ja_c ((jf_rep1 (d := .int 0) ((jf_lstI (ds := [.int 0]) (ja_c je_int ja_nil) (szl rfl)).je1) (je_var 2 rfl) (by omega)).je1) ja_nil) (szl rfl)).je1) ((je_sub (je_var 2 rfl) je_int).is (by congr 1; omega)) (by omega)).je1) ?_
  refine lb_setN 7 nd (R := BadD k) (je_ixLN (ds := [rowZ k, .non, .lst (zsD k), .lst (zsD k ++ [rowTr k])]) ((jf_lstI (ds := [rowZ k, .non, .lst (zsD k), .lst (zsD k ++ [rowTr k])]) (ja_c ((jf_rep1 (d := .int 0) ((jf_lstI (ds := [.int 0]) (ja_c je_int ja_nil) (szl rfl)).je1) (je_var 2 rfl) (by omega)).je1) (ja_c je_non (ja_c (je_var 6 rfl)
    (ja_c ((jf_cat (je_var 6 rfl) ((jf_lstI (ds := [rowTr k]) (ja_c ((jf_rep1 (d := .bl true) ((jf_lstI (ds := [.bl true]) (ja_c je_bl ja_nil) (szl rfl)).je1) (je_var 2 rfl) (by omega)).je1) ja_nil) (szl rfl)).je1) (by unfold zsD; rw [List.length_replicate, sizeLine_eq]; simp; omega)).je1) ja_nil)))) (szl rfl)).je1) (je_take 0 (ok__law_take c) rfl (n := 4) je_int (by decide) hr1) fun d ⟨r, hr', e⟩ => ?_) (fun bd hbd => ?_)
  · have hc : r = 0 ∨ r = 1 ∨ r = 2 ∨ r = 3 := by omega
    rcases hc with e2 | e2 | e2 | e2
    · exact ⟨r, _, e, by rw [e2]; rfl, .inl rfl⟩
    · exact ⟨r, _, e, by rw [e2]; rfl, .inr (.inl rfl)⟩
    · exact ⟨r, _, e, by rw [e2]; rfl, .inr (.inr (.inl rfl))⟩
    · exact ⟨r, _, e, by rw [e2]; rfl, .inr (.inr (.inr rfl))⟩
  obtain ⟨bd1, bd2, bd3⟩ := bad_facts h3 h5 hbd
  refine lb_cons (M := fun δ' => δ' = [some .drw, some (.dat gd), some (.dat (.int (k : Int))), some (.dat (.tup (natsD ps))), some (.dat (.tup (natsD qs))), some (.dat (.tup [.tup A0, .tup A1, .tup A2])), some (.dat (.lst (zsD k))), some (.dat bd), some (.dat (.lst [.lst A0, .lst A1, .lst A2])), none, none, none])
    (js_datLcN 8 nd (lc_sqm 9 (fun d => .lst (seqs d)) (.inr rfl) (je_var 5 rfl) (by show 3 ≤ 10000; decide) (blkOk_by (by kernel_rfl)) (fun s H C cl fp => jg_nm 9 nd) (fun j x hx s H C cl fp => ?_)) (fun ds e => by rw [show ds = _ from e]; rfl)) ?_
  · have hS : Seqd x (seqs x) := by
      have := List.mem_of_getElem? hx
      simp only [List.mem_cons, List.not_mem_nil, or_false] at this
      rcases this with e | e | e <;> rw [e] <;> exact .inr rfl
    exact (jf_list hS (je_var 9 rfl) c.b_list).je1
  rintro δ' e
  subst e
  refine lb_setN 10 nd (je_take 0 (ok__law_take c) rfl (je_len (.inl rfl) (je_ixL (je_var 8 rfl) je_int (j := 1) rfl) c.b_len) (by omega) hr1) (fun d ⟨p, hpl, e⟩ => ?_)
  subst e
  rw [l1] at hpl
  have dl : ∀ {j : Nat} {ds : List Dat} {bd : Dat}, (∀ d ∈ ds, tyOk 3 d = true) → tyOk 3 bd = true → ∀ d ∈ ds.set j bd, tyOk 3 d = true := fun {j ds bd} h1 h2 d hd => by
    rcases List.mem_or_eq_of_mem_set hd with h | h
    · exact h1 d h
    · rw [h]
      exact h2
  have t0 := tyA (j := 0) (ds := A0) rfl
  have t1 := tyA (j := 1) (ds := A1) rfl
  have t2 := tyA (j := 2) (ds := A2) rfl
  refine PSs.weak (PSs.any fun (q : { q : (Hp × Hp) × Dat × (Addr → Prop) × Addr × Addr × Addr // IsGame k M q.2.1 ∧ q.2.2.2.2.1 ≠ q.2.2.2.1 ∧ q.2.2.2.2.1 ≠ q.2.2.2.2.2 ∧ (0 < n → q.2.2.2.1 ≠ q.2.2.2.2.2) ∧ q.2.2.1 q.2.2.2.1 ∧ q.2.2.1 q.2.2.2.2.1 ∧ q.2.2.1 q.2.2.2.2.2 ∧ ∀ a, q.2.2.1 a → q.1.2 a = none }) =>
    (show XB _ ⟨none, q.1.1.1, q.1.1.2⟩ (bag3 K q.1.2.2.1 q.1.2.2.2.1 q.1.2.2.2.2.1 q.1.2.2.2.2.2) _ (dfL k p q.1.2.1 bd ps qs q.1.2.2.2.1 q.1.2.2.2.2.1 q.1.2.2.2.2.2 none) (A0, A1, A2) { nx := fun _ _ => False, rt := Is (.bl true) } from ?_)) (fun D σ H ⟨r, G, N⟩ => ?_)
  · obtain ⟨⟨⟨G0, H0⟩, gd', S, a0, a1, a2⟩, hG', n10, n12, n02, s0, s1, s2, hH⟩ := q
    dsimp only at hG' n10 n12 n02 s0 s1 s2 hH ⊢
    have num : ∀ {xd : Dat} {D : Dat}, PN k M ps qs n xd (Rtd D) (Ztd D) → W_paper_number [.dat gd', .dat (.tup (natsD ps)), .dat (.tup (natsD qs)), .dat xd] (Rtd D) (Ztd D) := fun {xd D} pn =>
      ⟨k, M, gd', _, _, xd, ps, qs, rfl, hG', .inr rfl, .inr rfl, hC.pk, hC.qk, fun _ _ n' h => by rw [uniq n' h]; exact pn, fun z => z.elim (fun z => absurd (hC.pl.trans hp.1.symm) z) fun z => z.elim (fun z => absurd (hC.ql.trans hp.1.symm) z) fun z => absurd z hne⟩
    refine xb_set 11 nd (d := .mrow a1 0 0) (je_ixL (je_var 8 rfl) je_int (j := 1) rfl) ?_
    refine xb_cons (M := fun δ' c' => δ' = dfL k p gd' bd ps qs a0 a1 a2 (some (.dat (.mrow a1 0 0))) ∧ c' = (A0, A1.set p bd, A2)) (xs_put3 (c' := (A0, A1.set p bd, A2)) 11 7 (a := a1) (j := p) (df_plain (k := k) (z := some (.mrow a1 0 0))) rfl rfl (pe_var (i := 10) rfl (.inl rfl)) (fun G H σ Q N B hq => ?_) (hH a1) s1 (bag3_w1 n10.symm n12.symm (by omega)) ⟨rfl, rfl⟩) ?_
    · obtain ⟨v, hs, hv⟩ := N.at_ 10 _ rfl
      have ev : v = .int (p : Int) := hv
      exact ⟨v, hs, by rw [ev]; exact hq⟩
    rintro δ' c' ⟨e, ec⟩
    subst e ec
    refine xb_cons (M := fun δ' c' => ∃ (z : Option Dat) (c2 : List Dat), c2.length = n ∧ (∀ d ∈ c2, tyOk 3 d = true) ∧ δ' = dfL k p gd' bd ps qs a0 a1 a2 (z.map Sl.dat) ∧ c' = (A0, A1.set p bd, c2))
      (xs_ifT (Rt := Is (decide ((A2.length : Int) > 0))) (df_tld (k := k) (zt := none) (.inl rfl)) (fun G' H' => jt_gt (je_len (ds := A2) (.inl rfl) (je_ixL (je_var 8 rfl) je_int (j := 2) rfl) c.b_len) je_int) (fun z => ?_) (fun z => xb_nil ⟨some (.mrow a1 0 0), A2, l2, t2, rfl, rfl⟩)) ?_
    · have hn0 : 0 < n := by
        have := of_decide_eq_true (show true = _ from z).symm
        omega
      refine xb_set 11 nd (d := .mrow a2 0 0) (je_ixL (je_var 8 rfl) je_int (j := 2) rfl) (xb_one (xs_put3 (c' := (A0, A1.set p bd, A2.set 0 bd)) 11 7 (a := a2) (j := 0) (df_plain (k := k) (z := some (.mrow a2 0 0))) rfl rfl pe_int (fun G H σ Q N B hq => hq) (hH a2) s2 (bag3_w2 (n02 hn0) n12 (by omega)) ⟨some (.mrow a2 0 0), A2.set 0 bd, by rw [List.length_set, l2], dl t2 bd3, rfl, rfl⟩))
    rintro δ' c' ⟨z, c2, lc2, tc2, e, ec⟩
    subst e ec
    have ta1 := dl (j := p) t1 bd3
    have la1 : (A1.set p bd).length = n + 1 := by rw [List.length_set, l1]
    have tyX : ∀ {A B C : List Dat}, (∀ d ∈ A, tyOk 3 d = true) → (∀ d ∈ B, tyOk 3 d = true) → (∀ d ∈ C, tyOk 3 d = true) → tyOk 5 (.lst [.lst A, .lst B, .lst C]) = true := fun {A B C} h1 h2 h3 => List.all_eq_true.mpr fun x hx => by
      have hx' : x ∈ [Dat.lst A, .lst B, .lst C] := hx
      simp only [List.mem_cons, List.not_mem_nil, or_false] at hx'
      rcases hx' with e | e | e <;> rw [e]
      · exact ty4 h1
      · exact ty4 h2
      · exact ty4 h3
    have pn1 : PN k M ps qs n (.lst [.lst A0, .lst (A1.set p bd), .lst c2]) (Rtd (tdD "paper" (p : Int))) (Ztd (tdD "paper" (p : Int))) :=
      pn_grid (i := p) (tyX t0 ta1 tc2) (shB_3 (b := false) l0 la1 lc2) pB0 hA0 hpl (by
        show gridB k ((A1.set p bd).getD p .non) = false
        rw [show (A1.set p bd).getD p .non = bd from getD_of (List.getElem?_set_self (by omega))]
        exact bd1) (fun j hj => (okG_set hj).trans (hA1 j (by omega))) ⟨by decide, rfl⟩
    refine xb_cons (M := fun δ' c' => δ' = dfL k p gd' bd ps qs a0 a1 a2 (z.map Sl.dat) ∧ c' = (A0, A1.set p bd, c2))
      (xs_ifT (Rt := Is false) (df_tld (k := k) (zt := none) (.inl rfl)) (fun G' H' => (jt_neD hr.units (je_callI (ok__law_told c) (ja_c (je_var 1 rfl) (ja_c (je_var 3 rfl) (ja_c (je_var 4 rfl) (ja_c (je_var 8 rfl) ja_nil)))) (told_of (num pn1)) hr7) (je_tupI (ds := [.str "paper", .int (p : Int)]) (ja_c je_str (ja_c (je_var 10 rfl) ja_nil)) (szl rfl)) (okD_paper p) (okD_paper p)).is (by rw [show PyData.eqv (pyD (tdD "paper" (p : Int))) (pyD (.tup [.str "paper", .int (p : Int)])) = true from eqv_td _ _]; rfl)) (fun z => nomatch (show true = false from z)) (fun _ => xb_nil ⟨rfl, rfl⟩)) ?_
    rintro δ' c' ⟨e, ec⟩
    subst e ec
    refine xb_cons (M := fun δ' c' => 0 < n ∧ δ' = dfL k p gd' bd ps qs a0 a1 a2 (z.map Sl.dat) ∧ c' = (A0, A1.set p bd, c2))
      (xs_ifT (Rt := Is (decide ((A0.length : Int) = 0))) (df_tld (k := k) (zt := none) (.inl rfl)) (fun G' H' => jt_eq (je_len (ds := A0) (.inl rfl) (je_ixL (je_var 8 rfl) je_int (j := 0) rfl) c.b_len) je_int) (fun _ => xb_one (xs_ret je_bl)) (fun z => xb_nil ⟨?_, rfl, rfl⟩)) ?_
    · have := of_decide_eq_false (show false = _ from z).symm
      omega
    rintro δ' c' ⟨hn0, e, ec⟩
    subst e ec
    refine xb_set 11 nd (d := .mrow a0 0 0) (je_ixL (je_var 8 rfl) je_int (j := 0) rfl) ?_
    refine xb_cons (M := fun δ' c' => δ' = dfL k p gd' bd ps qs a0 a1 a2 (some (.dat (.mrow a0 0 0))) ∧ c' = (A0.set (n - 1) bd, A1.set p bd, c2)) (xs_put3 (c' := (A0.set (n - 1) bd, A1.set p bd, c2)) 11 7 (a := a0) (j := n - 1) (df_plain (k := k) (z := some (.mrow a0 0 0))) rfl rfl (pe_op op_sub (pe_callB call_len_seq rfl c.b_len PySem.boot_len (pa_cons (pe_var (i := 11) rfl (.inl rfl)) pa_nil) (by decide) (by decide)) pe_int) (fun G H σ Q N B hq => ?_) (hH a0) s0 (bag3_w0 n10 (n02 hn0).symm (by omega)) ⟨rfl, rfl⟩) ?_
    · obtain ⟨v, hs, hv⟩ := N.at_ 11 _ rfl
      have ev : v = .ref a0 := hv
      subst ev
      obtain ⟨_, ⟨v0, e0, r0⟩, _⟩ := B
      refine ⟨.ref a0, hs, a0, v0, rfl, .inl (sqL e0), (v0.length : Int), 1, rfl, rfl, ?_⟩
      rw [r0.length, l0]
      show Q (.int ((n : Int) - 1)) H
      rw [show ((n : Int) - 1) = ((n - 1 : Nat) : Int) by omega]
      exact hq
    rintro δ' c' ⟨e, ec⟩
    subst e ec
    have pn2 : PN k M ps qs n (.lst [.lst (A0.set (n - 1) bd), .lst (A1.set p bd), .lst c2]) (Rtd (tdD "floor" ((n - 1 : Nat) : Int))) (Ztd (tdD "floor" ((n - 1 : Nat) : Int))) :=
      pn_part (i := n - 1) (d := bd) (tyX (dl t0 bd3) ta1 tc2) (shB_3 (b := false) (by rw [List.length_set, l0]) la1 lc2) (List.getElem?_set_self (by omega)) bd2 (fun j d hj hd => by
        have hd2 : (A0.set (n - 1) bd)[j]? = some d := hd
        rw [List.getElem?_set_ne (by omega)] at hd2
        exact pB0 d (List.mem_of_getElem? hd2)) ⟨by decide, rfl⟩
    refine xb_one (xs_retT (b := true) (df_tld (k := k) (zt := some (.dat (.lst (A0.set (n - 1) bd)))) (.inr ⟨rfl, rfl⟩)) (fun G' H' => (je_eqD hr.units (je_callI (ok__law_told c) (ja_c (je_var 1 rfl) (ja_c (je_var 3 rfl) (ja_c (je_var 4 rfl) (ja_c (je_var 8 rfl) ja_nil)))) (told_of (num pn2)) hr7)
      (je_tupI (ds := [.str "floor", .int ((n - 1 : Nat) : Int)]) (ja_c je_str (ja_c ((je_sub (je_len (ds := A0.set (n - 1) bd) (.inl rfl) (je_var 11 rfl) c.b_len) je_int).is (by rw [List.length_set, l0]; congr 1; omega)) ja_nil)) (szl rfl)) (okD_floor _) (okD_floor _)).is (congrArg Dat.bl (eqv_td "floor" _))) rfl)
  · obtain ⟨v1, s1, r1⟩ := N.at_ 1 _ rfl
    obtain ⟨v3, s3, r3⟩ := N.at_ 3 _ rfl
    obtain ⟨v4, s4, r4⟩ := N.at_ 4 _ rfl
    obtain ⟨v7, s7, r7⟩ := N.at_ 7 _ rfl
    obtain ⟨v8, s8, r8⟩ := N.at_ 8 _ rfl
    obtain ⟨v10, s10, r10⟩ := N.at_ 10 _ rfl
    obtain ⟨hG', gs⟩ := game_sf (K := K) (G := G) hG
    obtain ⟨q8, vs8, ev8, hq8, rs8⟩ := rep_lst r8
    obtain ⟨u0, us, e1, x00, rs1⟩ := (show ∃ v us, vs8 = v :: us ∧ Rep K G (.lst A0) v ∧ Reps K G [.lst A1, .lst A2] us from rs8)
    obtain ⟨u1, u2, e2, x11, x22⟩ := reps2 rs1
    obtain ⟨a0, w0, f0, h0, y0⟩ := rep_lst x00
    obtain ⟨a1, w1, f1, h1, y1⟩ := rep_lst x11
    obtain ⟨a2, w2, f2, h2, y2⟩ := rep_lst x22
    have S0 : tupL G a0 := ⟨w0, h0, reps_tup x0 y0⟩
    have S1 : tupL G a1 := ⟨w1, h1, reps_tup x1 y1⟩
    have S2 : tupL G a2 := ⟨w2, h2, reps_tup x2 y2⟩
    have n10 : a1 ≠ a0 := fun e => by
      rw [e, h0] at h1
      injection h1 with h1
      injection h1 with h1
      have z0 := y0.length
      have z1 := y1.length
      rw [h1] at z0
      omega
    have n12 : a1 ≠ a2 := fun e => by
      rw [e, h2] at h1
      injection h1 with h1
      injection h1 with h1
      have z0 := y2.length
      have z1 := y1.length
      rw [h1] at z0
      omega
    have n02 : 0 < n → a0 ≠ a2 := fun hn0 e => by
      rw [e, h2] at h0
      injection h0 with h0
      injection h0 with h0
      subst h0
      have i0 : A0[0]? = some (A0.getD 0 .non) := by
        have e1 : A0[0]? = some (A0[0]'(by omega)) := List.getElem?_eq_getElem (by omega)
        rw [e1, getD_of e1]
      have i2 : A2[0]? = some (A2.getD 0 .non) := by
        have e1 : A2[0]? = some (A2[0]'(by omega)) := List.getElem?_eq_getElem (by omega)
        rw [e1, getD_of e1]
      obtain ⟨v, hv, rv⟩ := y0.get i0
      obtain ⟨v', hv', rv'⟩ := y2.get i2
      rw [hv] at hv'
      rw [← Option.some.inj hv'] at rv'
      exact pg hn0 rv rv'
    have nlA : nls A0 = true ∧ nls A1 = true ∧ nls A2 = true := by
      have z : (nls A0 && (nls A1 && (nls A2 && true))) = true := nlx
      obtain ⟨z0, z1⟩ := Bool.and_eq_true_iff.mp z
      obtain ⟨z2, z3⟩ := Bool.and_eq_true_iff.mp z1
      exact ⟨z0, z2, (Bool.and_eq_true_iff.mp z3).1⟩
    have nq8 : ¬ tupL G q8 := fun ⟨us', k1, k2⟩ => by
      rw [hq8] at k1
      injection k1 with k1
      injection k1 with k1
      rw [← k1, e1] at k2
      obtain ⟨b, ts, e3, e4⟩ := k2 u0 List.mem_cons_self
      rw [f0] at e3
      injection e3 with e3
      rw [← e3, h0] at e4
      cases e4
    have nlps : ∀ rs : List Nat, nl (.tup (natsD rs)) = true := fun rs => nls_all fun d hd => by
      obtain ⟨i, _, e⟩ := List.mem_map.mp hd
      rw [← e]
      rfl
    have gh3 : Gh (gOff (tupL G) G) H := gOff_ex.gh N.gh
    refine ⟨⟨((gOff (tupL G) G, gOff (tupL G) H), gameD k (M.map (wbA k)), tupL G, a0, a1, a2), hG', n10, n12, n02, S0, S1, S2, fun a ha => gOff_none ha⟩, gOff (tupL G) G, ⟨⟨gh3, (fun a e => nomatch e), N.st.len, fun i sl hi => ?_, fun i j ds es a hi _ _ _ => ?_⟩, Ex.refl _, gh3, fun b o _ _ h => gOff_ex b o h, fun b o _ => rfl, (fun a e => nomatch e)⟩, ⟨fun a ⟨vs, hv, _⟩ => ⟨gOff_none ⟨vs, hv, by assumption⟩, vs, N.gh a _ hv⟩, ⟨w0, N.gh _ _ h0, nls_rep gOff_exN nlA.1 y0⟩, ⟨w1, N.gh _ _ h1, nls_rep gOff_exN nlA.2.1 y1⟩, ⟨w2, N.gh _ _ h2, nls_rep gOff_exN nlA.2.2 y2⟩, S0, S1, S2⟩, fun _ _ _ _ _ _ _ _ z => z.elim, fun v G' H' d c' _ _ rd rp => ?_⟩
    · match i, hi with
      | 0, hi => cases hi
      | 1, hi =>
        have e := (Option.some.inj (Option.some.inj hi)).symm
        subst e
        exact ⟨v1, s1, gs v1 r1⟩
      | 2, hi => cases hi
      | 3, hi =>
        have e := (Option.some.inj (Option.some.inj hi)).symm
        subst e
        exact ⟨v3, s3, sf_nl (nlps ps) v3 r3⟩
      | 4, hi =>
        have e := (Option.some.inj (Option.some.inj hi)).symm
        subst e
        exact ⟨v4, s4, sf_nl (nlps qs) v4 r4⟩
      | 5, hi => cases hi
      | 6, hi => cases hi
      | 7, hi =>
        have e := (Option.some.inj (Option.some.inj hi)).symm
        subst e
        exact ⟨v7, s7, bad_sf h3 hbd v7 r7⟩
      | 8, hi =>
        have e := (Option.some.inj (Option.some.inj hi)).symm
        subst e
        refine ⟨v8, s8, q8, vs8, ev8, gOff_at hq8 nq8, ?_⟩
        rw [e1, e2, f0, f1, f2]
        exact Reps.cons (show V.ref a0 = .ref a0 from rfl) (Reps.cons (show V.ref a1 = .ref a1 from rfl) (Reps.one (show V.ref a2 = .ref a2 from rfl)))
      | 9, hi => cases hi
      | 10, hi =>
        have e := (Option.some.inj (Option.some.inj hi)).symm
        subst e
        exact ⟨v10, s10, r10⟩
      | 11, hi => cases hi
      | i + 12, hi => cases hi
    · match i, hi with
      | 0, hi => cases hi
      | 1, hi => cases hi
      | 2, hi => cases hi
      | 3, hi => cases hi
      | 4, hi => cases hi
      | 5, hi => cases hi
      | 6, hi => cases hi
      | 7, hi => cases hi
      | 8, hi => cases hi
      | 9, hi => cases hi
      | 10, hi => cases hi
      | 11, hi => cases hi
      | i + 12, hi => cases hi
    · rw [show d = .bl true from rd] at rp
      rw [show v = .bl true from rp]
      exact r H'
end
end PW
end
section
set_option maxHeartbeats 4000000
namespace PJ
open PySem PySem.Spec PyProof.Rows L2
section
variable {X : Cx} {en : En} {δ : Lv} {b : Expr} {pos p1 p2 : Pos} {a : Addr} {ns : List Int} {t : Expr} {sa rest : List Stmt}
theorem sql_now {G H : Hp} {σ : L2.St} (N : Now X.K en G H σ δ) (hda : en.da = none) (hm : ∀ n, en.G0 a ≠ some (.own n)) {xs : List V} (h : SqL X.K en.H0 a xs) : SqL X.K H a xs := by
  rcases h with (h | ⟨o, h⟩) | h
  · exact .inl (.inl (N.f0.hh a _ (fun z => by rw [hda] at z; cases z) hm h))
  · exact .inl (.inr ⟨o, N.f0.hh a _ (fun z => by rw [hda] at z; cases z) hm h⟩)
  · exact .inr h
/-- len of the script -/
theorem je_lenS (i : Nat) {y : Str} (hδ : δ[i]? = some (some (.dat (.mrow a 0 0)))) (hS : SqL X.K en.H0 a (ns.map V.int)) (hda : en.da = none) (hm0 : ∀ n, en.G0 a ≠ some (.own n)) (hm : X.mg "len" = none) (hN : X.N[i]? = some y := by rfl) (hv : Vis X.env.scope y := by exact Or.inl rfl)
    (hg : Gl X "len" := by rfl) (hd : (y == ("__debug__" : Str)) = false := by decide) (hcd : (y == ("__classdict__" : Str)) = false := by decide) (he : starEach [.Name y p2] X.env = (false, eval (.Name y p2) X.env) :: starEach [] X.env := by rfl) :
    JE X en (.Call (.Name "len" p1) [.Name y p2] [] pos) δ (Is (.int (ns.length : Int))) :=
  PE.weak (pe_callB call_len_seq hg hm PySem.boot_len (pa_cons (pe_var hN hv hd hcd) pa_nil he) (by decide) (by decide) he) fun σ H Q ⟨G, S, k⟩ => by
    obtain ⟨v, h1, h2⟩ := S.at_ i _ hδ
    have ev : v = .ref a := h2
    exact ⟨v, h1, a, ns.map V.int, by rw [ev], .inl (sql_now S hda hm0 hS), k _ G H _ S.fm rfl (show V.int _ = V.int _ by rw [List.length_map])⟩
/-- an item of the script -/
theorem je_ixSc (i : Nat) {y : Str} {z : Int} {j : Nat} {x : Int} (hδ : δ[i]? = some (some (.dat (.mrow a 0 0)))) (hS : SqL X.K en.H0 a (ns.map V.int)) (hda : en.da = none) (hm0 : ∀ n, en.G0 a ≠ some (.own n)) (hb : JE X en b δ (Is (.int z))) (hx : ns[j]? = some x) (ei : z = (j : Int) := by rfl) (hN : X.N[i]? = some y := by rfl) (hv : Vis X.env.scope y := by exact Or.inl rfl)
    (hs : PlainIx b := by exact fun _ _ => rfl) (hd : (y == ("__debug__" : Str)) = false := by decide) (hcd : (y == ("__classdict__" : Str)) = false := by decide) : JE X en (.Subscript (.Name y p1) b pos) δ (Is (.int x)) :=
  PE.weak (pe_ix ix_list (pe_var hN hv hd hcd) hb hs) fun σ H Q ⟨G, S, k⟩ => by
    obtain ⟨v, h1, h2⟩ := S.at_ i _ hδ
    have ev : v = .ref a := h2
    refine ⟨v, h1, G, S, fun vy G1 H1 y f1 ry py => ?_⟩
    rw [show y = .int z from ry] at py
    exact ⟨a, ns.map V.int, z, .int x, ev, py, sql_now (S.step f1) hda hm0 hS, by rw [ei]; exact atI_nat (by rw [List.getElem?_map, hx]; rfl), k _ G1 H1 _ f1 rfl rfl⟩
theorem lb_ifX {Rt : Bool → Prop} (hc : JT X en t δ Rt) (ha : Rt true → LB X en sa δ) (hr : Rt false → LB X en rest δ) : LB X en (.If t sa [] pos :: rest) δ :=
  PSs.weak (pss_cons (ps_if hc (PSs.cond ha) pss_nil) (PSs.cond (c := Rt false) hr)) fun D σ H ⟨r, G, S⟩ => ⟨G, S, fun b G' H' f rb => by
    cases b with
    | true => exact ⟨rb, r, G', S.step f⟩
    | false => exact ⟨rb, r, G', S.step f⟩⟩
end
end PJ
namespace PW
open PySem PySem.Spec PyProof.Rows L2 PJ PF PX
section
variable {P : Program} {w : World} {K : PySem.W.Frag} {mg : Str → Option Value} {base : Heap}
/-- the draws: a new list of a place and a list of numbers -/
def SpD (K : PySem.W.Frag) : Sp := fun vs H Q _ => ∃ (a : Addr) (ns : List Int), vs = [.ref a] ∧ SqL K H a (ns.map V.int) ∧ ns.length ≤ 63 ∧
  ∀ (b nb : Addr) (ms : List Int) (H' : Hp), H' b = some (.lst [.int 0, .ref nb]) → H' nb = some (.lst (ms.map V.int)) → Q (.ref b) H'
theorem ok_draws (c : Fc K mg) : ∃ fd : FuncData, FnOk P w K mg base (L2.CX P w) 1 (gA K "_law_draws") fd ["_law_script"] (SpD K) ∧ Binds K fd ["_law_script"] [] ∧ mg "_law_draws" = some (.ref (gA K "_law_draws")) ∧ PySem.W.keepIn K (.ref (gA K "_law_draws")) = true := by
  obtain ⟨fd, F⟩ := c.f__law_draws
  have nd := sc__law_draws.nd
  refine ⟨fd, F.ok sc__law_draws (fun vs H Q E ⟨a, ns, e, _⟩ => by rw [e]; rfl) (fun cdv A outer s H vs Q E hr ⟨a, zs, e, hS, hz, q⟩ => ⟨_, (show JB _ ⟨none, fun _ => none, H⟩ (defBody s__law_draws) [some (.dat (.mrow a 0 0)), none, none, none, none, none, none] { nx := fun _ => False, rt := fun d => ∃ ms : List Int, d = .lst [.int 0, .lst (intsI ms)] } from ?_), ?_⟩), F.bindsN (fun _ _ _ _ _ _ us hl => match us, hl with | [_], _ => rfl), c.g__law_draws, F.kp⟩
  · have hn : ∀ m n : Nat, (if ((63 : Nat) : Int) < (m : Int) then ((63 : Nat) : Int) else (m : Int)) = ((min m 63 : Nat) : Int) := fun m n => by
      split <;> omega
    have hm0 : ∀ n, (fun _ : Addr => (none : Option HO)) a ≠ some (.own n) := fun n z => nomatch z
    refine jb_own 1 nd (jf_lstI (ds := []) ja_nil (Nat.zero_le _)) ?_
    refine jb_cons (M := fun δ' => ∃ (ns : List Int) (z2 z3 z4 z5 z6 : Option Sl), δ' = [some (.dat (.mrow a 0 0)), some (.own (intsI ns)), z2, z3, z4, z5, z6])
      (js_forI (fun i δ' => ∃ (ns : List Int) (z2 z3 z4 z5 z6 : Option Sl), ns.length ≤ 40 * i ∧ δ' = [some (.dat (.mrow a 0 0)), some (.own (intsI ns)), z2, z3, z4, z5, z6])
        (ji_range (n := min zs.length 63) (je_min2 (je_lenS 0 rfl hS rfl hm0 c.b_len) je_int (hn _ 0) c.b_min) (by omega) c.b_range) (jg_nm 2 nd) ⟨[], none, none, none, none, none, Nat.zero_le _, rfl⟩ (fun i d δ' hd ⟨ns, z2, z3, z4, z5, z6, hl, e⟩ => ?_) (fun δ' ⟨ns, z2, z3, z4, z5, z6, hl, e⟩ => ⟨ns, z2, z3, z4, z5, z6, e⟩)) ?_
    · obtain ⟨hi, ed⟩ := intsD_back hd
      have hi2 : i < zs.length := by omega
      subst e ed
      refine ⟨_, rfl, jb_set 3 nd (d := .int zs[i]) (je_intc (je_ixSc 0 (j := i) rfl hS rfl hm0 (je_var 2 rfl) (List.getElem?_eq_getElem hi2)) c.b_int) ?_⟩
      generalize zs[i] = z
      refine jb_set 4 nd je_int ?_
      refine jb_cons (M := fun δ' => ∃ (z0 f : Int), δ' = [some (.dat (.mrow a 0 0)), some (.own (intsI ns)), some (.dat (.int (i : Int))), some (.dat (.int z0)), some (.dat (.int f)), z5, z6]) (js_if (jt_lt (je_var 3 rfl) je_int) (fun _ => ?_) (fun _ => jb_nil ⟨_, _, rfl⟩)) ?_
      · exact jb_set 3 nd (je_neg (je_var 3 rfl)) (jb_set 4 nd je_int (jb_nil ⟨_, _, rfl⟩))
      rintro δ' ⟨z0, f, e⟩
      subst e
      refine jb_one (js_if (jt_ge (je_var 3 rfl) (je_pow je_int je_int (by decide))) (fun _ => ?_) (fun _ => ?_))
      · refine jb_one (js_forI (fun t δ' => ∃ (ms : List Int) (z0 : Int) (z5 : Option Sl), ms.length ≤ 40 * i + t ∧ δ' = [some (.dat (.mrow a 0 0)), some (.own (intsI ms)), some (.dat (.int (i : Int))), some (.dat (.int z0)), some (.dat (.int f)), z5, z6])
          (ji_range (n := 40) je_int (by decide) c.b_range) (jg_nm 5 nd) ⟨ns, z0, z5, by omega, rfl⟩ (fun t d δ' hd ⟨ms, z0, z5, hl, e⟩ => ?_) (fun δ' ⟨ms, z0, z5, hl, e⟩ => ⟨ms, _, _, _, _, _, by rw [intsD_len] at hl; omega, e⟩))
        obtain ⟨ht, ed⟩ := intsD_back hd
        subst e ed
        refine ⟨_, rfl, jb_one (js_if (jt_gt (je_var 3 rfl) je_int) (fun _ => ?_) (fun _ => jb_nil ⟨ms, _, _, by omega, rfl⟩))⟩
        refine jb_cons (M := fun δ' => δ' = [some (.dat (.mrow a 0 0)), some (.own (intsI (ms ++ [z0 % 36]))), some (.dat (.int (i : Int))), some (.dat (.int z0)), some (.dat (.int f)), some (.dat (.int (t : Int))), z6]) (js_app 1 rfl (je_mod (je_intc (je_var 3 rfl) c.b_int) je_int (by decide)) (by unfold intsI; rw [List.length_map, sizeLine_eq]; omega) fun d e2 => ?_) (fun δ' e => ?_)
        · rw [show d = .int (z0 % 36) from e2, show intsI ms ++ [.int (z0 % 36)] = intsI (ms ++ [z0 % 36]) from by unfold intsI; rw [List.map_append]; rfl]
          rfl
        · subst e
          exact jb_set 3 nd (je_fdiv (je_var 3 rfl) je_int (by decide)) (jb_nil ⟨ms ++ [z0 % 36], _, _, by rw [List.length_append, List.length_singleton]; omega, rfl⟩)
      · refine jb_set 6 nd (je_mod (je_intc (je_add (je_add (je_add (je_mulR (je_var 3 rfl) je_int (by decide)) (je_mulR (je_var 4 rfl) je_int (by decide))) (je_mulR (je_var 2 rfl) je_int (by decide))) je_int) c.b_int) je_int (by decide)) ?_
        generalize ((z0 * 40014 + f * 52774 + (i : Int) * 3791 + 11) % 2147483563 : Int) = sd
        refine jb_one (js_forI (fun t δ' => ∃ (ms : List Int) (sd : Int) (z5 : Option Sl), ms.length ≤ 40 * i + t ∧ δ' = [some (.dat (.mrow a 0 0)), some (.own (intsI ms)), some (.dat (.int (i : Int))), some (.dat (.int z0)), some (.dat (.int f)), z5, some (.dat (.int sd))])
          (ji_range (n := 6) je_int (by decide) c.b_range) (jg_nm 5 nd) ⟨ns, sd, z5, by omega, rfl⟩ (fun t d δ' hd ⟨ms, sd, z5, hl, e⟩ => ?_) (fun δ' ⟨ms, sd, z5, hl, e⟩ => ⟨ms, _, _, _, _, _, by rw [intsD_len] at hl; omega, e⟩))
        obtain ⟨ht, ed⟩ := intsD_back hd
        subst e ed
        refine ⟨_, rfl, jb_set 6 nd (je_mod (je_intc (je_add (je_add (je_add (je_mulR (je_var 6 rfl) je_int (by decide)) (je_fdiv (je_var 6 rfl) je_int (by decide))) (je_mulR (je_var 5 rfl) je_int (by decide))) je_int) c.b_int) je_int (by decide)) ?_⟩
        generalize ((sd * 40692 + sd / 53668 + (t : Int) * 97 + 5) % 2147483399 : Int) = sd2
        refine jb_one (js_app 1 rfl (je_fdiv (je_var 6 rfl) je_int (by decide)) (by unfold intsI; rw [List.length_map, sizeLine_eq]; omega) fun d e2 => ?_)
        rw [show d = .int (sd2 / 16) from e2, show intsI ms ++ [.int (sd2 / 16)] = intsI (ms ++ [sd2 / 16]) from by unfold intsI; rw [List.map_append]; rfl]
        exact ⟨ms ++ [sd2 / 16], _, _, by rw [List.length_append, List.length_singleton]; omega, rfl⟩
    · rintro δ' ⟨ns, z2, z3, z4, z5, z6, e⟩
      subst e
      exact jb_freeze 1 rfl (jb_one (js_ret ((jf_lstI (ds := [.int 0, .lst (intsI ns)]) (ja_c je_int (ja_c (je_var 1 rfl) ja_nil)) (szl rfl)).je fun ds e => by rw [show ds = _ from e]; exact ⟨ns, rfl⟩)))
  · subst e
    have gh : Gh (fun _ => none) H := fun a o z => nomatch z
    refine ⟨fun _ => none, ⟨⟨gh, (fun a z => nomatch z), rfl, fun i sl hi => ?_, fun i j ds es a hi _ _ _ => ?_⟩, Fm.same gh⟩, fun _ _ _ _ _ _ z => z.elim, fun v G' H' d f ⟨ms, ed⟩ r => ?_, fun _ _ _ _ _ _ z => z.elim, fun _ _ _ _ _ _ z => z.elim⟩
    · match i, hi with
      | 0, hi =>
        have e := (Option.some.inj (Option.some.inj hi)).symm
        subst e
        exact ⟨.ref a, rfl, rfl⟩
      | 1, hi => cases hi
      | 2, hi => cases hi
      | 3, hi => cases hi
      | 4, hi => cases hi
      | 5, hi => cases hi
      | 6, hi => cases hi
      | i + 7, hi => cases hi
    · match i, hi with
      | 0, hi => cases hi
      | 1, hi => cases hi
      | 2, hi => cases hi
      | 3, hi => cases hi
      | 4, hi => cases hi
      | 5, hi => cases hi
      | 6, hi => cases hi
      | i + 7, hi => cases hi
    · subst ed
      obtain ⟨b, vs, ev, hb, rs⟩ := rep_lst r
      obtain ⟨v1, v2, e1, r1, r2⟩ := reps2 rs
      obtain ⟨nb, us, e2, hnb, rs2⟩ := rep_lst r2
      have e3 : v1 = .int 0 := r1
      have e4 := Reps.ints (ns := ms) rs2
      subst ev e1 e2 e3 e4
      exact q b nb ms H' (f.gh _ _ hb) (f.gh _ _ hnb)
end
end PW
end
section
set_option maxHeartbeats 4000000
namespace PJ
open PySem PySem.Spec PyProof.Rows L2
theorem lb_retT {X : Cx} {en : En} {δ : Lv} {e : Expr} {es : List Expr} {pos p1 pos2 : Pos} {x : Str} {k : Nat} {ps : List Str} {W : List Sl → Prop} {Rs : List Sl → Prop} {fd : FuncData} (F1 : FnOk X.prog X.w X.K X.mg X.base (L2.CX X.prog X.w) k (gA X.K x) fd ps (SpT X.K W)) (hb : Binds X.K fd ps []) (hm : X.mg x = some (.ref (gA X.K x))) (hk : PySem.W.keepIn X.K (.ref (gA X.K x)) = true)
    (ha : JA X en (e :: es) δ Rs) (h : ∀ ss, Rs ss → W ss) (hr : Room k X.A) (hg : Gl X x := by rfl) (hdb : (x == ("__debug__" : Str)) = false := by decide) (he : starEach (e :: es) X.env = (false, eval e X.env) :: starEach es X.env := by rfl) (hpl : (backTo pos (starEach es X.env)).any (·.1) = false := by rfl) :
    LB X en [.Return (some (.Call (.Name x p1) (e :: es) [] pos)) pos2] δ :=
  PSs.weak (pss_one (ps_ret (pe_call F1 hr hg hm hk hb .nil passL ha hdb he hpl))) fun D σ H ⟨r, G, N⟩ => ⟨G, N, fun vs G1 H1 ss f rs ps1 => by
    show SpT X.K W (vs ++ []) H1 _ _
    rw [List.append_nil]
    exact ⟨en.da, G1, ss, f.gh, f.drw, ps1, h ss rs, fun H' => r H'⟩⟩
end PJ
namespace PW
open PySem PySem.Spec PyProof.Rows L2 PJ PF PX
/-- the law's promise -/
def SpLaw (K : PySem.W.Frag) : Sp := fun vs H Q _ => ∃ (a : Addr) (ns : List Int), vs = [.ref a] ∧ SqL K H a (ns.map V.int) ∧ ns.length ≤ 63 ∧ ∀ H', Q (.bl true) H'
theorem no_top {ps : List Nat} {n : Nat} (h : IsTop ps ps n) : False := h.2.1 (Eq.refl _)
def lawL (gd : Dat) (k : Nat) (L : List (List Arr)) (ps qs : List Nat) (z2 z8 z9 : Option Sl) : Lv :=
  [none, some .drw, z2, some (.dat (.int (k : Int))), some (.dat (.lst (L.map webD))), some (.dat (.tup (natsD ps))), some (.dat (.tup (natsD qs))), some (.dat gd), z8, z9]
section
variable {P : Program} {w : World} {K : PySem.W.Frag} {mg : Str → Option Value} {base : Heap}
set_option maxHeartbeats 8000000 in
theorem ok_law (c : Fc K mg) : ∃ fd : FuncData, (∀ base : Heap, FnOk P w K mg base (L2.CX P w) 12 (gA K "law") fd ["_law_script"] (SpLaw K)) ∧ (∀ (s : Shared) (u : Value), BindsTo s fd ⟨[u], []⟩ [("_law_script", u)]) := by
  obtain ⟨fd, F⟩ := c.f_law
  have nd := sc_law.nd
  have bA := FunD.bindsA (ps := ["_law_script"]) F fun _ _ _ _ _ _ us hl => match us, hl with | [_], _ => rfl
  refine ⟨fd, fun base => ?_, fun s v => bA s [v] rfl⟩
  obtain ⟨fdD, FD, bD, mD, kD⟩ := ok_draws (P := P) (w := w) (base := base) c
  obtain ⟨fdF, FF, bF, mF, kF⟩ := ok__law_forms_fit (P := P) (w := w) (base := base) c
  refine F.ok sc_law (fun vs H Q E ⟨a, ns, e, _⟩ => by rw [e]; rfl) (fun cdv A outer s H vs Q E hr ⟨a, zs, e, hS, hz, q⟩ => ⟨_, pss_cons (ps_set (i := 1) nd rfl (.inl rfl) (pe_call FD (hr.mono (by decide)) rfl mD kD bD .nil passL (pa_cons (pe_var (i := 0) rfl (.inl rfl)) pa_nil) (by decide)) rfl)
    (PSs.any fun (en : En) => (show LB _ en _ [none, some .drw, none, none, none, none, none, none, none, none] from ?_)), ?_⟩)
  · have hr10 : Room 10 _ := hr.mono (by decide)
    have hr9 : Room 9 _ := hr.mono (by decide)
    have hr7 : Room 7 _ := hr.mono (by decide)
    have hr6 : Room 6 _ := hr.mono (by decide)
    have hr1 : Room 1 _ := hr.mono (by decide)
    refine lb_setN 2 nd (je_call (ok__law_case c) (ja_drw 1 rfl ja_nil) (R := fun d => ∃ (k : Nat) (L : List (List Arr)) (ps qs : List Nat), CaseOk k L ps qs ∧ d = .lst [.int (k : Int), .lst (L.map webD), .tup (natsD ps), .tup (natsD qs)]) (fun ss ⟨r, e1, e2⟩ => ⟨by rw [e1, show r = _ from e2], fun k L ps qs h => ⟨k, L, ps, qs, h, rfl⟩⟩) hr6) (fun d ⟨k, L, ps, qs, hC, e⟩ => ?_)
    subst e
    refine lb_set 3 nd (je_ixL (je_var 2 rfl) je_int (j := 0) rfl) ?_
    refine lb_set 4 nd (je_ixL (je_var 2 rfl) je_int (j := 1) rfl) ?_
    refine lb_set 5 nd (je_ixL (je_var 2 rfl) je_int (j := 2) rfl) ?_
    refine lb_set 6 nd (je_ixL (je_var 2 rfl) je_int (j := 3) rfl) ?_
    refine lb_setN 7 nd (R := fun d => ∃ M, PermL L M ∧ IsGame k M d) (je_callI (ok__law_built c) (ja_c (je_var 3 rfl) (ja_c (je_var 4 rfl) ja_nil)) ⟨k, L, rfl, hC.cs, fun M d h1 h2 => ⟨M, h1, h2⟩⟩ hr9) (fun gd ⟨M, hp, hG⟩ => ?_)
    have hl40 := hC.cs.len
    have h3 := hC.cs.h3
    have hk0 : 0 < k := by omega
    refine lb_cons (M := fun δ' => ∃ (qs' : List Nat) (z2 : Option Dat), CaseOk k L ps qs' ∧ δ' = lawL gd k L ps qs' (z2.map Sl.dat) none none)
      (js_if (Rt := fun b => b = true → 0 < L.length) (JW.jt (jw_and (Rt1 := Is (decide ((0 : Int) < ((L.map webD).length : Int)))) (jt_gt (je_len (ds := L.map webD) (.inl rfl) (je_var 4 rfl) c.b_len) je_int) (fun h => jw_and (Rt1 := fun _ => True) ((jt_eqD hr.units (je_var 5 rfl) (je_var 6 rfl) (ok_nats ps) (ok_nats qs)).imp fun _ _ => trivial)
        (fun _ => jw_and1 ((jt_cmpI op_lt (je_take 1 (ok__law_take c) rfl (n := 4) je_int (by decide) hr1) je_int drawn_any (fun d e => ⟨_, e⟩) (nomark _)).imp fun b _ _ => by
          have h2 := of_decide_eq_true (show decide ((0 : Int) < ((L.map webD).length : Int)) = true from (show true = _ from h).symm)
          rw [List.length_map] at h2
          omega)) (fun _ z => nomatch z)) (fun _ z => nomatch z))) (fun z => ?_) (fun _ => jb_nil ⟨qs, some (.lst [.int (k : Int), .lst (L.map webD), .tup (natsD ps), .tup (natsD qs)]), hC, rfl⟩)) ?_
    · have hn0 := z rfl
      have hq1 : qs.length - 1 < qs.length := by rw [hC.ql]; omega
      have e1 : ((L.map webD).length : Int) - 1 = ((qs.length - 1 : Nat) : Int) := by rw [List.length_map, hC.ql]; omega
      refine jb_one (js_set 6 nd (je_catT (ds := natsD (qs.take (qs.length - 1))) (es := [.int (((qs.getD (qs.length - 1) 0 + 1) % k : Nat) : Int)]) ((je_slT (ds := natsD qs) (je_var 6 rfl) jo_none (jo_some (i := ((qs.length - 1 : Nat) : Int)) ((je_sub (je_len (ds := L.map webD) (.inl rfl) (je_var 4 rfl) c.b_len) je_int).is (by rw [e1])))).is (by rw [cut_to, natsD_take]))
        (je_tupI (ds := [.int (((qs.getD (qs.length - 1) 0 + 1) % k : Nat) : Int)]) (ja_c ((je_mod (je_intc (je_add (je_ixT (ds := natsD qs) (j := qs.length - 1) (je_var 6 rfl) ((je_sub (je_len (ds := L.map webD) (.inl rfl) (je_var 4 rfl) c.b_len) je_int).is (d' := .int ((qs.length - 1 : Nat) : Int)) (by rw [e1])) (natsD_at2 hq1)) je_int) c.b_int) (je_var 3 rfl) (by omega)).is (by rw [Int.natCast_emod]; rfl)) ja_nil) (szl rfl)) (by rw [natsD_len, sizeLine_eq, List.length_take, hC.ql]; simp; omega)) fun d e => ?_)
      rw [show d = _ from e, natsD_snoc]
      refine ⟨qs.take (qs.length - 1) ++ [(qs.getD (qs.length - 1) 0 + 1) % k], some (.lst [.int (k : Int), .lst (L.map webD), .tup (natsD ps), .tup (natsD qs)]), ⟨hC.cs, hC.pl, ?_, hC.pk, mem_snoc (fun p h => hC.qk p (List.mem_of_mem_take h)) (Nat.mod_lt _ hk0)⟩, rfl⟩
      rw [List.length_append, List.length_take, List.length_singleton, hC.ql]
      omega
    clear hC
    rintro δ' ⟨qs', z2, hC, e⟩
    subst e
    refine lb_ifX (Rt := Is (decide (ps = qs'))) ((jt_eqD hr.units (je_var 5 rfl) (je_var 6 rfl) (ok_nats ps) (ok_nats qs')).is (eq_nats ps qs')) (fun z => ?_) (fun z => ?_)
    · have eq := of_decide_eq_true (show decide (ps = qs') = true from (show true = _ from z).symm)
      subst eq
      have pl : PlainL (lawL gd k L ps ps (z2.map Sl.dat) (some (.dat (.int 0))) none) := plain_none (plain_drw (plain_opt (plain_dat (plain_dat (plain_dat (plain_dat (plain_dat (plain_dat (plain_none plain_nil)))))))))
      refine lb_set 8 nd je_int ?_
      refine lb_cons (M := fun δ' => δ' = lawL gd k L ps ps (z2.map Sl.dat) (some (.dat (.int (-1)))) none) (PS.weak (ps_try_manyAs rfl rfl nd (tb := fun W D σ H => ∃ en : En, (∀ kd m dd G' H' σ', (kd = 0 ∧ m = -1) → Now K en G' H' σ' (lawL gd k L ps ps (z2.map Sl.dat) (some (.dat (.int 0))) none) → en.H0 dd = none → H' dd = some (.xd [(("disc" : Str), .int m)]) → W (.ref (eA K kd)) (some dd) σ' H') ∧ tS K en (lawL gd k L ps ps (z2.map Sl.dat) (some (.dat (.int 0))) none) { nx := fun _ => False, rt := fun _ => False } D σ H)
        (fun W pn xe tk hpo => PSs.any fun en => PSs.cond fun hW => jb_one (js_expr (R := fun _ => False) (je_callX (fun kd m => kd = 0 ∧ m = -1) (ok_paper_for c) (ja_c (je_var 7 rfl) (ja_c (je_var 5 rfl) (ja_c ((jf_list (ds := natsD ps) (.inr rfl) (je_var 6 rfl) c.b_list).je1) ja_nil))) ⟨k, M, gd, _, _, ps, ps, rfl, hG, .inr rfl, .inl rfl, hC.pk, hC.pk, hC.pl.trans hp.1.symm, hC.pl.trans hp.1.symm, fun n' h => (no_top h).elim, fun _ => ⟨rfl, rfl⟩⟩ hr9 tk hW) (fun _ z => z.elim)))
        (HdsAs.cons (i := 9) (c := .ref (eA K 0)) (ts := fun a cls d D σ H => ∃ en : En, tSu K en (lawL gd k L ps ps (z2.map Sl.dat) (some (.dat (.int 0))) none) 9 0 (fun kd m => kd = 0 ∧ m = -1) (fun δ' => δ' = lawL gd k L ps ps (z2.map Sl.dat) (some (.dat (.int (-1)))) none) a cls d D σ H) rfl rfl ⟨rfl, by decide, .inl c.g_BadPosition⟩ (fun a oe cls d pn hz hf => PSs.weak (pss_one (ps_set (i := 8) nd rfl (.inl rfl) (pe_disc (ext_0 c) hz hf (pe_var (i := 9) rfl (.inl rfl))) rfl)) fun D σ H ⟨en, G, dd, m, ec, ed, hdd, hz, hs, S, kk⟩ => ?_) HdsAs.nil)) (fun D σ H ⟨G, S, k1, k2, k3, k4⟩ => ?_)) ?_
      · refine ⟨.ref a, hs, rfl, ec, dd, .int m, ed, hdd, ?_⟩
        rw [hz.2]
        exact kk _ G H _ ⟨S.st.set (d := .int (-1)) rfl 8, S.f0⟩ rfl
      · refine ⟨⟨en.da, G, H⟩, fun kd m dd G' H' σ' hz S' _ hdd => ?_, G, now_restart S pl, fun _ _ _ _ _ _ z => z.elim, fun _ _ _ _ _ z => z.elim, fun _ _ _ _ _ _ z => z.elim, fun _ _ _ _ _ _ z => z.elim⟩
        obtain ⟨ek, em⟩ := hz
        subst ek em
        refine ⟨true, c.exm_BadPosition_BadPosition, fun _ a _ => ⟨⟨en.da, G, H⟩, G', dd, -1, rfl, rfl, hdd, ⟨rfl, rfl⟩, set_eq ?_, ⟨S'.st.lose 9 (some (.ref a)), S'.f0⟩, fun σ2 G2 H2 δ2 S2 e => ?_⟩, (fun z => nomatch z)⟩
        · rw [S'.st.len]
          exact (by decide : 9 < 10)
        · subst e
          exact k1 _ G2 H2 _ S2.f0.gg (now_back S ⟨S2.st.lose 9 none, S2.f0⟩) rfl
      · rintro δ' e
        subst e
        exact lb_one (js_ret ((je_andI (x := true) (y := true) ((je_eq (je_var 8 rfl) (je_neg je_int)).is rfl) fun _ => je_one ((je_eqD hr.units (je_callI (ok__law_told c) (ja_c (je_var 7 rfl) (ja_c (je_var 5 rfl) (ja_c (je_var 6 rfl) (ja_c je_non ja_nil)))) (told_of (D := tdD "position" (-1)) ⟨k, M, gd, _, _, .non, ps, ps, rfl, hG, .inr rfl, .inr rfl, hC.pk, hC.pk, fun _ _ n' h => (no_top h).elim, fun _ => ⟨by decide, rfl⟩⟩) hr7) (je_tupI (ds := [.str "position", .int (-1)]) (ja_c je_str (ja_c (je_neg je_int) ja_nil)) (szl rfl)) (by decide +kernel) (by decide +kernel)).is (congrArg Dat.bl (eqv_td "position" (-1))))).imp fun d e => e))
    · have hne : ps ≠ qs' := of_decide_eq_false (show decide (ps = qs') = false from (show false = _ from z).symm)
      refine lb_ifX (Rt := Is false) (jt_not (k := true) (jt_v (je_call (ok__law_papers_fit c) (ja_drw 1 rfl (ja_c (je_var 7 rfl) (ja_c (je_var 3 rfl) (ja_c (je_var 4 rfl) (ja_c (je_var 5 rfl) (ja_c (je_var 6 rfl) ja_nil)))))) (R := Is (.bl true)) (fun ss ⟨r, e1, e2⟩ => ⟨k, L, M, gd, ps, qs', by rw [e1, show r = _ from e2], hC, hp, hG, hne, Is.self⟩) hr10))) (fun z => nomatch (show true = false from z)) (fun _ => ?_)
      exact lb_retT FF bF mF kF (ja_drw 1 rfl (ja_c (je_var 7 rfl) (ja_c (je_var 3 rfl) (ja_c (je_var 5 rfl) (ja_c (je_var 6 rfl) ja_nil))))) (fun ss ⟨r2, e1, e2⟩ => ⟨k, L, M, gd, ps, qs', by rw [e1, show r2 = _ from e2], hC, hp, hG, hne⟩) hr10
  · subst e
    refine ⟨.ref a, rfl, a, zs, rfl, hS, hz, fun b nb ms H' hb hnb => ?_⟩
    have nbb : nb ≠ b := fun e => by
      rw [e, hb] at hnb
      injection hnb with hnb
      injection hnb with hnb
      cases ms with
      | nil => cases hnb
      | cons m1 r1 =>
        cases r1 with
        | nil => cases hnb
        | cons m2 r2 =>
          injection hnb with h1 h2
          injection h2 with h3 h4
          cases h3
    have gAt : (fun x : Addr => if x = nb then some (HO.lst (ms.map V.int)) else none) nb = some (HO.lst (ms.map V.int)) := if_pos rfl
    have gh : Gh (fun x : Addr => if x = nb then some (HO.lst (ms.map V.int)) else none) H' := fun x o hx => by
      have hx2 : (if x = nb then some (HO.lst (ms.map V.int)) else none) = some o := hx
      by_cases e : x = nb
      · rw [if_pos e] at hx2
        rw [e, hnb, ← Option.some.inj hx2]
        exact HoOk.same nomk_l
      · rw [if_neg e] at hx2
        cases hx2
    have dr : ∀ x, some b = some x → DrwOk (fun x : Addr => if x = nb then some (HO.lst (ms.map V.int)) else none) H' x := fun x ex => by
      cases ex
      exact ⟨0, nb, ms, hb, Int.le_refl 0, if_neg (fun e => nbb e.symm), gAt⟩
    refine ⟨⟨some b, fun x => if x = nb then some (.lst (ms.map V.int)) else none, H'⟩, q, fun x => if x = nb then some (.lst (ms.map V.int)) else none, ⟨gh, fun x ex => ⟨?_, dr x ex⟩, rfl, fun i sl hi => ?_, fun i j ds es a hi _ _ _ => ?_⟩, Fm.refl gh dr⟩
    · cases ex
      exact ⟨_, hb⟩
    · match i, hi with
      | 0, hi => cases hi
      | 1, hi =>
        have e := (Option.some.inj (Option.some.inj hi)).symm
        subst e
        exact ⟨.ref b, rfl, b, rfl, rfl⟩
      | 2, hi => cases hi
      | 3, hi => cases hi
      | 4, hi => cases hi
      | 5, hi => cases hi
      | 6, hi => cases hi
      | 7, hi => cases hi
      | 8, hi => cases hi
      | 9, hi => cases hi
      | i + 10, hi => cases hi
    · match i, hi with
      | 0, hi => cases hi
      | 1, hi => cases hi
      | 2, hi => cases hi
      | 3, hi => cases hi
      | 4, hi => cases hi
      | 5, hi => cases hi
      | 6, hi => cases hi
      | 7, hi => cases hi
      | 8, hi => cases hi
      | 9, hi => cases hi
      | i + 10, hi => cases hi
end
end PW
end
set_option maxHeartbeats 0
namespace L2
open PySem PySem.Spec PyProof.Rows
/-- a law's end, what may be let out by the world -/
theorem walk_ofF {l : PySem.W.OpenLaw} {n k : Nat} {q : Program} {loose : List Str} {XP : (Str → Option Value) → Heap → Prop} {YP : World → Heap → Prop} {d : DefRec} {CX : World → CXT} {x : Str}
    (hn : l.most = some n) (hn2 : n ≤ sizeLine) (hdf : d.params.defaults = []) (hr : Room k callerA)
    (F : ∀ (w : World) (mg : Str → Option Value) (fa : Addr) (h : Heap), YP w h → h.Ns mainGlobals mg → mg d.name = some (.ref fa) →
      ∃ (K : PySem.W.Frag) (fd : FuncData) (sp : Sp), K.In h ∧ (∀ (s : Shared) (u : Value), BindsTo s fd ⟨[u], []⟩ [(x, u)]) ∧
        (∀ (H : Hp) (a : Addr) (ns : List Int), ns.length ≤ n → Only H → SqL K H a (ns.map V.int) → sp [.ref a] H (fun v _ => v = .bl true) fun _ _ _ => False) ∧
        ∀ base : Heap, K.In base → base.Ns mainGlobals mg → FnOk l.prog w K mg base (CX w) k fa fd [x] sp)
    (hCX : ∀ (w : World) (H : Hp) (s : Shared) (e : Value) (s' : Shared), CX w [] H s (fun _ _ _ => False) e s' → False) :
    PySem.W.WalkO q loose XP YP l.row.toRowW d [] (fun f vs => PySem.call f vs) := by
  refine Att.attach_call hn hdf fun w s₀ s₁ mg mb fa o pm cd doc a vs ns G Y ho hd hcd hmg hobj hints hlen hg => ?_
  obtain ⟨K, fd, sp, KX, hb, hsp, hF⟩ := F w mg fa _ Y G.T.g hmg
  exact law_call KX G.T.g G.T.b G.T.builtins G.T.nolimit hg hobj hints (Nat.le_trans hlen hn2) hr hF hb (fun H hO hS => hsp H a ns hlen hO hS) fun H e s' => hCX w H s₁ e s'
end L2
open PySem PySem.W PySem.Calls PyProof.Rows
theorem PySem.Challenge.cw_pegwebs_k71_whole_papers_judged_holds : PySem.Challenge.rw_pegwebs_k71_whole_papers_judged.Holds := by
  w_on; o_law
  refine HandSHeadRun.head_any (r := OpenLaw.row PySem.Challenge.rw_pegwebs_k71_whole_papers_judged) (q := PH.qv) (H := PF.hookM) (ob := PH.ob) (M := 9000) (loose := PH.names) (d := HandSHeadRun.topDef (OpenLaw.row PySem.Challenge.rw_pegwebs_k71_whole_papers_judged).prog 101) (kwd := []) PH.ob_eq
    (by kernel_rfl) (fun s => by kernel_rfl) PH.run (by kernel_rfl) (by kernel_rfl) (by kernel_rfl) (by rfl) (by first | assumption | decide +kernel) (by decide +kernel) ⟨rfl, rfl, rfl, rfl, rfl, by decide +kernel⟩ ?hw ?hc
  case hw => w_witness2
  case hc =>
    refine L2.walk_ofF (l := PySem.Challenge.rw_pegwebs_k71_whole_papers_judged) (n := 63) (k := 12) (x := "_law_script") (CX := fun w => L2.CX (PySem.Challenge.rw_pegwebs_k71_whole_papers_judged).prog w) rfl (by decide) (by kernel_rfl) ⟨rfl, by decide, by decide⟩ ?F (fun _ _ _ _ _ z => by
      obtain ⟨_, _, _, _, _, _, _, _, _, _, _, _, z⟩ := z
      exact z)
    intro w mg fa h Y G hmg0
    obtain ⟨K, KX, c⟩ := Y
    have hmg : mg ("law" : PySem.Str) = some (.ref fa) := by
      have e : (HandSHeadRun.topDef (OpenLaw.row PySem.Challenge.rw_pegwebs_k71_whole_papers_judged).prog 101).name = ("law" : PySem.Str) := by kernel_rfl
      rw [← e]
      exact hmg0
    have cc : PF.Fc K mg := ⟨c, h, KX, G⟩
    obtain ⟨fd0, F0, b0⟩ := PW.ok_law (P := (PySem.Challenge.rw_pegwebs_k71_whole_papers_judged).prog) (w := w) cc
    have efa : fa = PJ.gA K "law" := by
      have e := cc.g_law
      rw [e] at hmg
      cases hmg
      rfl
    subst efa
    exact ⟨K, fd0, PW.SpLaw K, KX, b0, fun H a ns hl _ hS => ⟨a, ns, rfl, hS, hl, fun _ => rfl⟩, fun base _ _ => F0 base⟩
