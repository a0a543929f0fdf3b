import PyProof.Rows.All
import Wide.All
import OpenK.AllK
import Wide.FinOn
import HandS.ForMost
import HandS.ForExc
import HandS.Deep
import HandS.TupAny
import HandS.SortInts
import HandS.Wide
import HandS.Walk
import HandS.Zip
import HandS.Conv
import KE.GoesEnum
import KE.GoesMore
import HandS.Style
import HandS.WordsExc
import HandS.Defaults
import HandS.Property
import HandS.MakeKw
import HandS.IsInst
import HandS.WordsDict
import HandS.Dict
import HandS.OwnEq
import HandS.ExcOwn
import PyProof.InstNe
import HandS.SetFor
import KE.KStateDown
import HandS.Head0
import HandS.Head1
import HandS.Head2
import HandS.HeadEnd
import HandS.HeadHook1
import HandS.HeadHook2
import HandS.EndBits
import HandS.ExcInit
import HandS.ExcField
import HandS.ExcIs
import HandS.RaiseMore
import HandS.TupMul
import PyProof.ReprRoads
import PyProof.ReprReads
import HandS.FStrTup
import PyProof.ReprLen
import PyProof.CallFns
import HandS.More
import HandS.Remove
import KE.SortData
import HandS.Small
import HandS.Sort
import HandS.Exc
import PyProof.SetRoads
import HandS.Codes
import PySem.Challenge.RW_flippedpoints_k17_whole_any_text_as_a_se
set_option Elab.async false
section
set_option Elab.async false
set_option linter.all false
set_option autoImplicit false
set_option maxRecDepth 100000
set_option maxHeartbeats 4000000
/-! # Mir: a layer over HandS: deep data, environments, combinators -/
namespace MM
open PySem PySem.Spec L2

/-! ### deep data -/
inductive D where
  | non | bl (b : Bool) | int (i : Int) | str (x : Str)
  | lst (xs : List D) | tup (xs : List D) | obj (c : Nat) (xs : List D) | dic (ks : List Key) (xs : List D) | scr (ns : List Int) | rng (lo hi : Int)
/-- the attributes of the package's classes, in the order in which they are first stored -/
def clsNames : Nat → List Str
  | 0 => ["own_ends", "own_exits", "own_targets", "own_firsts"]
  | 1 => ["own_net", "own_setting", "own_starts", "own_lot", "own_sequence", "own_guesses"]
  | 2 => ["own_net", "own_setting", "own_entrances"]
  | 3 => ["own_points", "own_lines", "own_later", "own_papers"]
  | n => if 100 ≤ n ∧ n < 200 then ["value"] else if 200 ≤ n ∧ n < 220 then ["position"] else if n = 220 then ["line"] else if n = 230 then ["label"] else if n = 240 then ["name"] else if n = 250 then ["point"] else if n = 260 then ["limit", "what"] else []
/-- the written part, the addresses of the classes -/
structure Kc where
  K : PySem.W.Frag
  ct : Nat → Addr

mutual
inductive Rp (k : Kc) (G : Hp) : V → D → Prop
  | non : Rp k G .non .non
  | bl (b : Bool) : Rp k G (.bl b) (.bl b)
  | int (i : Int) : Rp k G (.int i) (.int i)
  | str (x : Str) : Rp k G (.str x) (.str x)
  | lst {a : Addr} {vs : List V} {ds : List D} : G a = some (.lst vs) → Rps k G vs ds → Rp k G (.ref a) (.lst ds)
  | scr {a : Addr} {ns : List Int} : SqL k.K G a (ns.map V.int) → Rp k G (.ref a) (.scr ns)
  | rng {a : Addr} {lo hi : Int} : G a = some (.rng lo hi) → Rp k G (.ref a) (.rng lo hi)
  | tup {a : Addr} {vs : List V} {ds : List D} : SqT k.K G a vs → Rps k G vs ds → Rp k G (.ref a) (.tup ds)
  | obj {a dx : Addr} {c : Nat} {fs : List (Str × V)} {ds : List D} : G a = some (.ins (k.ct c) dx fs) → fs.map (·.1) = clsNames c → Rps k G (fs.map (·.2)) ds → Rp k G (.ref a) (.obj c ds)
  | dic {a : Addr} {kvs : List (Key × V)} {ks : List Key} {ds : List D} : G a = some (.dK kvs) → kvs.map (·.1) = ks → Rps k G (kvs.map (·.2)) ds → Rp k G (.ref a) (.dic ks ds)
inductive Rps (k : Kc) (G : Hp) : List V → List D → Prop
  | nil : Rps k G [] []
  | cons {v : V} {vs : List V} {d : D} {ds : List D} : Rp k G v d → Rps k G vs ds → Rps k G (v :: vs) (d :: ds)
end

theorem seqT {K : PySem.W.Frag} {H H' : Hp} {a : Addr} {xs : List V} (e : Same H H') (h : SqT K H a xs) : SqT K H' a xs := by
  rcases h with (h | ⟨o, h⟩) | h
  · exact .inl (.inl (e _ _ h))
  · exact .inl (.inr ⟨o, e _ _ h⟩)
  · exact .inr h

mutual
theorem Rp.mono {k : Kc} {G G' : Hp} (s : Same G G') : ∀ {v : V} {d : D}, Rp k G v d → Rp k G' v d
  | _, _, .non => .non
  | _, _, .bl b => .bl b
  | _, _, .int i => .int i
  | _, _, .str x => .str x
  | _, _, .lst h r => .lst (s _ _ h) (Rps.mono s r)
  | _, _, .scr h => .scr (s.seq h)
  | _, _, .rng h => .rng (s _ _ h)
  | _, _, .tup h r => .tup (seqT s h) (Rps.mono s r)
  | _, _, .obj h n r => .obj (s _ _ h) n (Rps.mono s r)
  | _, _, .dic h n r => .dic (s _ _ h) n (Rps.mono s r)
theorem Rps.mono {k : Kc} {G G' : Hp} (s : Same G G') : ∀ {vs : List V} {ds : List D}, Rps k G vs ds → Rps k G' vs ds
  | _, _, .nil => .nil
  | _, _, .cons a b => .cons (Rp.mono s a) (Rps.mono s b)
end
section
variable {k : Kc} {G : Hp}
theorem Rps.len : ∀ {vs : List V} {ds : List D}, Rps k G vs ds → vs.length = ds.length
  | _, _, .nil => rfl
  | _, _, .cons _ b => by rw [List.length_cons, List.length_cons, Rps.len b]
theorem Rps.app : ∀ {vs us : List V} {ds es : List D}, Rps k G vs ds → Rps k G us es → Rps k G (vs ++ us) (ds ++ es)
  | _, _, _, _, .nil, h => h
  | _, _, _, _, .cons a b, h => .cons a (Rps.app b h)
theorem Rps.get : ∀ {vs : List V} {ds : List D} {i : Nat} {d : D}, Rps k G vs ds → ds[i]? = some d → ∃ v, vs[i]? = some v ∧ Rp k G v d
  | _, _, _, _, .nil, h => by simp at h
  | _, _, 0, _, .cons a _, h => ⟨_, rfl, by simp at h; subst h; exact a⟩
  | _, _, i + 1, _, .cons _ b, h => by
    obtain ⟨v, h1, h2⟩ := Rps.get b (i := i) (by simpa using h)
    exact ⟨v, by simpa using h1, h2⟩
theorem Rps.getV : ∀ {vs : List V} {ds : List D} {i : Nat} {v : V}, Rps k G vs ds → vs[i]? = some v → ∃ d, ds[i]? = some d ∧ Rp k G v d
  | _, _, _, _, .nil, h => by simp at h
  | _, _, 0, _, .cons a _, h => ⟨_, rfl, by simp at h; subst h; exact a⟩
  | _, _, i + 1, _, .cons _ b, h => by
    obtain ⟨v, h1, h2⟩ := Rps.getV b (i := i) (by simpa using h)
    exact ⟨v, by simpa using h1, h2⟩
theorem Rps.take : ∀ {vs : List V} {ds : List D} (n : Nat), Rps k G vs ds → Rps k G (vs.take n) (ds.take n)
  | _, _, 0, _ => .nil
  | _, _, _ + 1, .nil => .nil
  | _, _, n + 1, .cons a b => .cons a (Rps.take n b)
theorem Rps.drop : ∀ {vs : List V} {ds : List D} (n : Nat), Rps k G vs ds → Rps k G (vs.drop n) (ds.drop n)
  | _, _, 0, h => h
  | _, _, _ + 1, .nil => .nil
  | _, _, n + 1, .cons _ b => Rps.drop n b
theorem Rps.set : ∀ {vs : List V} {ds : List D} {v : V} {d : D} (n : Nat), Rps k G vs ds → Rp k G v d → Rps k G (vs.set n v) (ds.set n d)
  | _, _, _, _, _, .nil, _ => .nil
  | _, _, _, _, 0, .cons _ b, h => .cons h b
  | _, _, _, _, n + 1, .cons a b, h => .cons a (Rps.set n b h)
theorem Rps.erase : ∀ {vs : List V} {ds : List D} (n : Nat), Rps k G vs ds → Rps k G (vs.eraseIdx n) (ds.eraseIdx n)
  | _, _, _, .nil => .nil
  | _, _, 0, .cons _ b => b
  | _, _, n + 1, .cons a b => .cons a (Rps.erase n b)
theorem Rps.rep {vs : List V} {ds : List D} (h : Rps k G vs ds) : ∀ n : Nat, Rps k G (List.replicate n vs).flatten (List.replicate n ds).flatten
  | 0 => .nil
  | n + 1 => by
    rw [List.replicate_succ, List.replicate_succ, List.flatten_cons, List.flatten_cons]
    exact h.app (Rps.rep h n)
theorem Rps.dropLast {vs : List V} {ds : List D} (h : Rps k G vs ds) : Rps k G vs.dropLast ds.dropLast := by
  rw [List.dropLast_eq_take, List.dropLast_eq_take, h.len]
  exact h.take _
theorem Rps.reverse : ∀ {vs : List V} {ds : List D}, Rps k G vs ds → Rps k G vs.reverse ds.reverse
  | _, _, .nil => .nil
  | _, _, .cons a b => by
    rw [List.reverse_cons, List.reverse_cons]
    exact (Rps.reverse b).app (.cons a .nil)
theorem Rps.ints : ∀ {vs : List V} {ns : List Int}, Rps k G vs (ns.map D.int) → vs = ns.map V.int
  | [], [], _ => rfl
  | _, [], h => by cases h; rfl
  | _, n :: ns, h => by
    cases h with
    | cons a b => cases a; rw [Rps.ints b]; rfl
theorem Rps.bls : ∀ {vs : List V} {ns : List Bool}, Rps k G vs (ns.map D.bl) → vs = ns.map V.bl
  | [], [], _ => rfl
  | _, [], h => by cases h; rfl
  | _, n :: ns, h => by
    cases h with
    | cons a b => cases a; rw [Rps.bls b]; rfl
end

/-! ### environments -/
/-- a list, a dict, an object that a local name owns -/
inductive MV where
  | lst (ds : List D) | dic (ks : List Key) (ds : List D) | obj (c : Nat) (ns : List Str) (ds : List D)
def MV.frz : MV → Option D
  | .lst ds => some (.lst ds)
  | .dic ks ds => some (.dic ks ds)
  | .obj c ns ds => if ns = clsNames c then some (.obj c ds) else none
/-- what a slot holds: data for ever; an own thing; a thing of the caller's that may be changed (p: pinned to its slot); t, never in a slot: a pair of data and an own thing that is handed out -/
inductive EV where
  | d (x : D) | m (x : MV) | p (x : MV) | t (x : D) (y : MV)
def EV.own : EV → Bool
  | .d _ => false
  | .t _ _ => false
  | _ => true
def EV.rd : EV → Option D
  | .d x => some x
  | .m x => x.frz
  | .p x => x.frz
  | .t _ _ => none
abbrev Env := List (Option EV)
structure Exn where
  cls : Nat
  fs : List D
inductive Res (α : Type) where
  | ok (a : α) (e : Env) | exc (x : Exn) (e : Env) | stuck
def Res.bind {α β : Type} : Res α → (α → Env → Res β) → Res β
  | .ok a e, f => f a e
  | .exc x e, _ => .exc x e
  | .stuck, _ => .stuck
abbrev EM (α : Type) := Env → Res α

/-- what stands at a mutable thing's address -/
def MRep (k : Kc) (G : Hp) (o : HO) : MV → Prop
  | .lst ds => ∃ vs, o = .lst vs ∧ Rps k G vs ds
  | .dic ks ds => ∃ kvs, o = .dK kvs ∧ kvs.map (·.1) = ks ∧ Rps k G (kvs.map (·.2)) ds
  | .obj c ns ds => ∃ dx fs, o = .ins (k.ct c) dx fs ∧ fs.map (·.1) = ns ∧ Rps k G (fs.map (·.2)) ds
theorem MRep.mono {k : Kc} {G G' : Hp} (s : Same G G') {o : HO} {x : MV} (h : MRep k G o x) : MRep k G' o x := by
  cases x with
  | lst ds => obtain ⟨vs, e, r⟩ := h; exact ⟨vs, e, r.mono s⟩
  | dic ks ds => obtain ⟨vs, e, n, r⟩ := h; exact ⟨vs, e, n, r.mono s⟩
  | obj c ns ds => obtain ⟨dx, fs, e, n, r⟩ := h; exact ⟨dx, fs, e, n, r.mono s⟩
/-- the frame's surroundings: what the caller tracks and may not be changed; the data at the entry; the pinned slots -/
structure Fr where
  O : Hp
  G0 : Hp
  P : Nat → Option Addr
def MAt (k : Kc) (c : Fr) (G H : Hp) (a : Addr) (x : MV) : Prop := G a = none ∧ c.O a = none ∧ ∃ o, H a = some o ∧ MRep k G o x
def EVRep (k : Kc) (c : Fr) (G H : Hp) (v : V) : EV → Prop
  | .d d => Rp k G v d
  | .m x => ∃ a, v = .ref a ∧ MAt k c G H a x
  | .p x => ∃ a, v = .ref a ∧ MAt k c G H a x
  | .t _ _ => False
structure RepS (k : Kc) (c : Fr) (G : Hp) (σ : St) (H : Hp) (e : Env) : Prop where
  g0 : Same c.G0 G
  gh : Same G H
  oh : Same c.O H
  fr : ∀ a, G a ≠ none → c.O a ≠ none → c.G0 a ≠ none
  len : e.length = σ.length
  slot : ∀ (i : Nat) (x : EV), e[i]? = some (some x) → ∃ v, σ[i]? = some (some v) ∧ EVRep k c G H v x
  dis : ∀ (i j : Nat) (a : Addr) (x y : EV), e[i]? = some (some x) → e[j]? = some (some y) → x.own = true → y.own = true → σ[i]? = some (some (.ref a)) → σ[j]? = some (some (.ref a)) → i = j
  pin : ∀ (i : Nat) (a : Addr), c.P i = some a → ∃ x, e[i]? = some (some (.p x)) ∧ σ[i]? = some (some (.ref a))

section
variable {k : Kc} {c : Fr} {G G' H H' : Hp} {σ : St} {e : Env} {p a : Addr} {o : HO}
theorem same_upd (h : H p = none) : Same H (upd H p o) := fun b u q => by rw [upd_ne (ne_of_none q h)]; exact q
theorem same_upd2 (s : Same G H) (h : H p = none) : Same (upd G p o) (upd H p o) := fun b u q => by
  by_cases hb : b = p
  · subst hb; rw [upd_same] at q ⊢; exact q
  · rw [upd_ne hb] at q ⊢; exact s _ _ q
/-- own things stay where frozen data and foreign cells are laid -/
theorem MAt.keep {x : MV} (h : MAt k c G H a x) (s : Same G G') (hg : G' a = none) (hh : H' a = H a) : MAt k c G' H' a x := by
  obtain ⟨h1, h2, o, h3, h4⟩ := h
  exact ⟨hg, h2, o, by rw [hh]; exact h3, h4.mono s⟩
/-- data laid at a new place -/
theorem RepS.lay (r : RepS k c G σ H e) (h : H p = none) : RepS k c (upd G p o) σ (upd H p o) e := by
  have gp : G p = none := r.gh.free h
  have op : c.O p = none := r.oh.free h
  refine ⟨fun b u q => ?_, same_upd2 r.gh h, fun b u q => ?_, fun b g1 g2 => ?_, r.len, fun i x hx => ?_, r.dis, r.pin⟩
  · have := r.g0 b u q
    rw [upd_ne (ne_of_none this gp)]; exact this
  · have := r.oh b u q
    rw [upd_ne (ne_of_none this h)]; exact this
  · by_cases hb : b = p
    · subst hb; exact absurd op g2
    · rw [upd_ne hb] at g1; exact r.fr b g1 g2
  · obtain ⟨v, h1, h2⟩ := r.slot i x hx
    refine ⟨v, h1, ?_⟩
    have own : ∀ {x : MV}, (∃ a, v = .ref a ∧ MAt k c G H a x) → ∃ a, v = .ref a ∧ MAt k c (upd G p o) (upd H p o) a x := fun {x} ⟨a, e1, m⟩ => by
      have na : a ≠ p := by
        obtain ⟨_, _, o', q, _⟩ := m
        exact ne_of_none q h
      exact ⟨a, e1, m.keep (same_upd gp) (by rw [upd_ne na]; exact m.1) (upd_ne na)⟩
    cases x with
    | d d => exact Rp.mono (same_upd gp) h2
    | m x => exact own h2
    | p x => exact own h2
    | t _ _ => first | exact h2.elim | exact trivial | cases hw | exact hv.elim | exact h.elim | exact hx.elim | exact hu.elim | cases hy | cases h' | cases hd' | cases h2 | cases h1 | cases hd | cases h3 | cases h4
/-- a thing laid at a new place, not (yet) data -/
theorem RepS.layM (r : RepS k c G σ H e) (h : H p = none) : RepS k c G σ (upd H p o) e := by
  refine ⟨r.g0, fun b u q => ?_, fun b u q => ?_, r.fr, r.len, fun i x hx => ?_, r.dis, r.pin⟩
  · have := r.gh b u q
    rw [upd_ne (ne_of_none this h)]; exact this
  · have := r.oh b u q
    rw [upd_ne (ne_of_none this h)]; exact this
  · obtain ⟨v, h1, h2⟩ := r.slot i x hx
    refine ⟨v, h1, ?_⟩
    have own : ∀ {x : MV}, (∃ a, v = .ref a ∧ MAt k c G H a x) → ∃ a, v = .ref a ∧ MAt k c G (upd H p o) a x := fun {x} ⟨a, e1, m⟩ => by
      have na : a ≠ p := by
        obtain ⟨_, _, o', q, _⟩ := m
        exact ne_of_none q h
      exact ⟨a, e1, m.keep (Same.refl _) m.1 (upd_ne na)⟩
    cases x with
    | d d => exact h2
    | m x => exact own h2
    | p x => exact own h2
    | t _ _ => first | exact h2.elim | exact trivial | cases hw | exact hv.elim | exact h.elim | exact hx.elim | exact hu.elim | cases hy | cases h' | cases hd' | cases h2 | cases h1 | cases hd | cases h3 | cases h4
/-- an address that no slot owns -/
def Loose (σ : St) (e : Env) (a : Addr) : Prop := ∀ (i : Nat) (x : EV), e[i]? = some (some x) → x.own = true → σ[i]? ≠ some (some (.ref a))
/-- a thing becomes data -/
theorem RepS.freeze (r : RepS k c G σ H e) (hH : H a = some o) (hG : G a = none) (hO : c.O a = none) (hl : Loose σ e a) : RepS k c (upd G a o) σ H e := by
  refine ⟨fun b u q => ?_, fun b u q => ?_, r.oh, fun b g1 g2 => ?_, r.len, fun i x hx => ?_, r.dis, r.pin⟩
  · have := r.g0 b u q
    rw [upd_ne (ne_of_none this hG)]; exact this
  · by_cases hb : b = a
    · subst hb; rw [upd_same] at q; rw [hH, ← q]
    · rw [upd_ne hb] at q; exact r.gh _ _ q
  · by_cases hb : b = a
    · subst hb; exact absurd hO g2
    · rw [upd_ne hb] at g1; exact r.fr b g1 g2
  · obtain ⟨v, h1, h2⟩ := r.slot i x hx
    refine ⟨v, h1, ?_⟩
    have own : x.own = true → ∀ {y : MV}, (∃ b, v = .ref b ∧ MAt k c G H b y) → ∃ b, v = .ref b ∧ MAt k c (upd G a o) H b y := fun hw {y} ⟨b, e1, m⟩ => by
      have na : b ≠ a := fun z => by
        subst z
        rw [e1] at h1
        exact hl i x hx hw h1
      exact ⟨b, e1, m.keep (same_upd hG) (by rw [upd_ne na]; exact m.1) rfl⟩
    cases x with
    | d d => exact Rp.mono (same_upd hG) h2
    | m x => exact own rfl h2
    | p x => exact own rfl h2
    | t _ _ => first | exact h2.elim | exact trivial | cases hw | exact hv.elim | exact h.elim | exact hx.elim | exact hu.elim | cases hy | cases h' | cases hd' | cases h2 | cases h1 | cases hd | cases h3 | cases h4
theorem set_get {α : Type} {l : List α} {i j : Nat} {x y : α} (h : (l.set i x)[j]? = some y) : (i = j ∧ y = x ∧ i < l.length) ∨ (i ≠ j ∧ l[j]? = some y) := by
  rw [List.getElem?_set] at h
  by_cases hij : i = j
  · rw [if_pos hij] at h
    by_cases hl : i < l.length
    · rw [if_pos (by omega)] at h
      exact .inl ⟨hij, (Option.some.inj h).symm, hl⟩
    · rw [if_neg (by omega)] at h; cases h
  · rw [if_neg hij] at h
    exact .inr ⟨hij, h⟩
/-- what a slot's owner knows of its address -/
theorem RepS.owner (r : RepS k c G σ H e) {i : Nat} {x : EV} (hx : e[i]? = some (some x)) (hw : x.own = true) : ∃ a y, (x = .m y ∨ x = .p y) ∧ σ[i]? = some (some (.ref a)) ∧ MAt k c G H a y := by
  obtain ⟨v, h1, h2⟩ := r.slot i x hx
  cases x with
  | d d => cases hw
  | m y => obtain ⟨a, e1, m⟩ := h2; subst e1; exact ⟨a, y, .inl rfl, h1, m⟩
  | p y => obtain ⟨a, e1, m⟩ := h2; subst e1; exact ⟨a, y, .inr rfl, h1, m⟩
  | t _ _ => first | exact h2.elim | exact trivial | cases hw | exact hv.elim | exact h.elim | exact hx.elim | exact hu.elim | cases hy | cases h' | cases hd' | cases h2 | cases h1 | cases hd | cases h3 | cases h4
/-- an owned thing is changed -/
theorem RepS.write (r : RepS k c G σ H e) {i : Nat} {x x' : EV} {y : MV} (hx : e[i]? = some (some x)) (hw : x.own = true) (ha : σ[i]? = some (some (.ref a))) (hm : MRep k G o y)
    (hx' : (x.own = true ∧ x' = .m y ∧ ∀ z, x ≠ .p z) ∨ (x' = .p y ∧ ∀ z, x ≠ .m z)) : RepS k c G σ (upd H a o) (e.set i (some x')) := by
  obtain ⟨a', y0, hy0, ha', ⟨m1, m2, o0, m3, m4⟩⟩ := r.owner hx hw
  rw [ha] at ha'
  obtain rfl : a = a' := by injection ha' with h; injection h with h; injection h
  have hil : i < e.length := (List.getElem?_eq_some_iff.mp hx).1
  refine ⟨r.g0, fun b u q => ?_, fun b u q => ?_, r.fr, by rw [List.length_set]; exact r.len, fun j z hz => ?_, fun j l b z w hz hw' z1 z2 s1 s2 => ?_, fun j b hb => ?_⟩
  · rw [upd_ne (ne_of_none q m1)]; exact r.gh _ _ q
  · rw [upd_ne (ne_of_none q m2)]; exact r.oh _ _ q
  · rcases set_get hz with ⟨rfl, q, _⟩ | ⟨hij, q⟩
    · have q' : z = x' := by injection q
      subst q'
      refine ⟨.ref a, ha, ?_⟩
      rcases hx' with ⟨_, rfl, _⟩ | ⟨rfl, _⟩ <;> exact ⟨a, rfl, m1, m2, o, upd_same, hm⟩
    · obtain ⟨v, h1, h2⟩ := r.slot j z q
      refine ⟨v, h1, ?_⟩
      have own : z.own = true → ∀ {t : MV}, (∃ b, v = .ref b ∧ MAt k c G H b t) → ∃ b, v = .ref b ∧ MAt k c G (upd H a o) b t := fun hzw {t} ⟨b, e1, m⟩ => by
        have na : b ≠ a := fun w => by
          subst w
          rw [e1] at h1
          exact hij (r.dis i j _ x z hx q hw hzw ha h1)
        exact ⟨b, e1, m.keep (Same.refl _) m.1 (upd_ne na)⟩
      cases z with
      | d d => exact h2
      | m x => exact own rfl h2
      | p x => exact own rfl h2
      | t _ _ => first | exact h2.elim | exact trivial | cases hw | exact hv.elim | exact h.elim | exact hx.elim | exact hu.elim | cases hy | cases h' | cases hd' | cases h2 | cases h1 | cases hd | cases h3 | cases h4
  · have back : ∀ {j : Nat} {z : EV}, (e.set i (some x'))[j]? = some (some z) → z.own = true → ∃ z', e[j]? = some (some z') ∧ z'.own = true := fun {j z} hz z1 => by
      rcases set_get hz with ⟨rfl, _, _⟩ | ⟨_, q⟩
      · exact ⟨x, hx, hw⟩
      · exact ⟨z, q, z1⟩
    obtain ⟨z', q1, q2⟩ := back hz z1
    obtain ⟨w', q3, q4⟩ := back hw' z2
    exact r.dis j l b z' w' q1 q3 q2 q4 s1 s2
  · obtain ⟨z, h1, h2⟩ := r.pin j b hb
    by_cases hij : i = j
    · subst hij
      rw [hx] at h1
      have ex : x = .p z := by injection h1 with h; injection h
      rcases hx' with ⟨_, _, h⟩ | ⟨h, _⟩
      · exact absurd ex (h z)
      · refine ⟨y, ?_, h2⟩
        rw [List.getElem?_set_self hil, h]
    · exact ⟨z, by rw [List.getElem?_set_ne hij]; exact h1, h2⟩
/-- a slot gets a new value; nothing is known of it any more: x = none -/
theorem RepS.put (r : RepS k c G σ H e) {i : Nat} {v : V} {x : Option EV} (hp : c.P i = none) (hv : ∀ y, x = some y → EVRep k c G H v y) (hl : ∀ y b, x = some y → y.own = true → v = .ref b → Loose σ (e.set i none) b) :
    RepS k c G (σ.set i (some v)) H (e.set i x) := by
  refine ⟨r.g0, r.gh, r.oh, r.fr, by rw [List.length_set, List.length_set]; exact r.len, fun j z hz => ?_, fun j l b z w hz hw z1 z2 s1 s2 => ?_, fun j b hb => ?_⟩
  · rcases set_get hz with ⟨rfl, q, hil⟩ | ⟨hij, q⟩
    · refine ⟨v, by rw [List.getElem?_set_self (by rw [← r.len]; exact hil)], hv z q.symm⟩
    · obtain ⟨u, h1, h2⟩ := r.slot j z q
      exact ⟨u, by rw [List.getElem?_set_ne hij]; exact h1, h2⟩
  · have other : ∀ {j l : Nat} {z w : EV}, i = j → i ≠ l → (e.set i x)[j]? = some (some z) → e[l]? = some (some w) → z.own = true → w.own = true → (σ.set i (some v))[j]? = some (some (.ref b)) → σ[l]? = some (some (.ref b)) → False := fun {j l z w} ej hl' hz hw z1 z2 s1 s2 => by
      subst ej
      rcases set_get hz with ⟨_, q, hil⟩ | ⟨h, _⟩
      · rw [List.getElem?_set_self (by rw [← r.len]; exact hil)] at s1
        have ev : v = .ref b := by injection s1 with h; injection h
        exact hl z b q.symm z1 ev l w (by rw [List.getElem?_set_ne hl']; exact hw) z2 s2
      · exact h rfl
    rcases set_get hz with ⟨rfl, q1, hil⟩ | ⟨hij, q1⟩
    · rcases set_get hw with ⟨rfl, q2, _⟩ | ⟨hil', q2⟩
      · rfl
      · rw [List.getElem?_set_ne hil'] at s2
        exact (other rfl hil' hz q2 z1 z2 s1 s2).elim
    · rw [List.getElem?_set_ne hij] at s1
      rcases set_get hw with ⟨rfl, q2, _⟩ | ⟨hil', q2⟩
      · exact (other rfl hij hw q1 z2 z1 s2 s1).elim
      · rw [List.getElem?_set_ne hil'] at s2
        exact r.dis j l b z w q1 q2 z1 z2 s1 s2
  · obtain ⟨z, h1, h2⟩ := r.pin j b hb
    have hij : i ≠ j := fun q => by subst q; rw [hp] at hb; cases hb
    exact ⟨z, by rw [List.getElem?_set_ne hij]; exact h1, by rw [List.getElem?_set_ne hij]; exact h2⟩
/-- what is known of a slot is changed -/
theorem RepS.alter (r : RepS k c G σ H e) {i : Nat} {x y : EV} (hx : e[i]? = some (some x)) (hp : ∀ z, x ≠ .p z) (hy : y.own = true → x.own = true) (hv : ∀ v, σ[i]? = some (some v) → EVRep k c G H v y) : RepS k c G σ H (e.set i (some y)) := by
  refine ⟨r.g0, r.gh, r.oh, r.fr, by rw [List.length_set]; exact r.len, fun j z hz => ?_, fun j l b z w hz hw z1 z2 s1 s2 => ?_, fun j b hb => ?_⟩
  · rcases set_get hz with ⟨rfl, q, hil⟩ | ⟨hij, q⟩
    · obtain ⟨v, h1, _⟩ := r.slot i x hx
      have ez : z = y := by injection q
      subst ez
      exact ⟨v, h1, hv v h1⟩
    · exact r.slot j z q
  · have back : ∀ {j : Nat} {z : EV}, (e.set i (some y))[j]? = some (some z) → z.own = true → ∃ z', e[j]? = some (some z') ∧ z'.own = true := fun {j z} hz z1 => by
      rcases set_get hz with ⟨rfl, q, _⟩ | ⟨_, q⟩
      · have ez : z = y := by injection q
        subst ez
        exact ⟨x, hx, hy z1⟩
      · exact ⟨z, q, z1⟩
    obtain ⟨z', q1, q2⟩ := back hz z1
    obtain ⟨w', q3, q4⟩ := back hw z2
    exact r.dis j l b z' w' q1 q3 q2 q4 s1 s2
  · obtain ⟨z, h1, h2⟩ := r.pin j b hb
    have hij : i ≠ j := fun q => by
      subst q
      rw [hx] at h1
      have ex : x = .p z := by injection h1 with h; injection h
      exact hp z ex
    exact ⟨z, by rw [List.getElem?_set_ne hij]; exact h1, h2⟩
end
section
variable {k : Kc} {c : Fr} {G G' H H' : Hp} {σ : L2.St} {e : Env} {p a : Addr} {o : HO}
/-- what was known of a slot is forgotten -/
theorem RepS.forget (r : RepS k c G σ H e) {i : Nat} (hp : c.P i = none) : RepS k c G σ H (e.set i none) := by
  have old : ∀ {j : Nat} {z : EV}, (e.set i none)[j]? = some (some z) → i ≠ j ∧ e[j]? = some (some z) := fun {j z} hz => by
    rcases set_get hz with ⟨_, q, _⟩ | q
    · cases q
    · exact q
  refine ⟨r.g0, r.gh, r.oh, r.fr, by rw [List.length_set]; exact r.len, fun j z hz => r.slot j z (old hz).2, fun j l b z w hz hw z1 z2 s1 s2 => r.dis j l b z w (old hz).2 (old hw).2 z1 z2 s1 s2, fun j b hb => ?_⟩
  obtain ⟨z, h1, h2⟩ := r.pin j b hb
  have hij : i ≠ j := fun q => by subst q; rw [hp] at hb; cases hb
  exact ⟨z, by rw [List.getElem?_set_ne hij]; exact h1, h2⟩
/-- data is known of a slot -/
theorem RepS.learn (r : RepS k c G σ H e) {i : Nat} {v : V} {d : D} (hp : c.P i = none) (hs : σ[i]? = some (some v)) (hd : Rp k G v d) : RepS k c G σ H (e.set i (some (.d d))) := by
  refine ⟨r.g0, r.gh, r.oh, r.fr, by rw [List.length_set]; exact r.len, fun j z hz => ?_, fun j l b z w hz hw z1 z2 s1 s2 => ?_, fun j b hb => ?_⟩
  · rcases set_get hz with ⟨rfl, q, _⟩ | ⟨_, q⟩
    · have ez : z = .d d := by injection q
      subst ez
      exact ⟨v, hs, hd⟩
    · exact r.slot j z q
  · have old : ∀ {j : Nat} {z : EV}, (e.set i (some (EV.d d)))[j]? = some (some z) → z.own = true → e[j]? = some (some z) := fun {j z} hz hw => by
      rcases set_get hz with ⟨_, q, _⟩ | ⟨_, q⟩
      · have ez : z = .d d := by injection q
        subst ez
        cases hw
      · exact q
    exact r.dis j l b z w (old hz z1) (old hw z2) z1 z2 s1 s2
  · obtain ⟨z, h1, h2⟩ := r.pin j b hb
    have hij : i ≠ j := fun q => by subst q; rw [hp] at hb; cases hb
    exact ⟨z, by rw [List.getElem?_set_ne hij]; exact h1, h2⟩
theorem RepS.nopin (r : RepS k c G σ H e) {i : Nat} {x : Option EV} (hx : e[i]? = some x) (hp : ∀ z, x ≠ some (.p z)) : c.P i = none := by
  cases q : c.P i with
  | none => rfl
  | some a =>
    obtain ⟨z, h1, _⟩ := r.pin i a q
    rw [hx] at h1
    exact absurd (by injection h1) (hp z)
theorem MRep.rp {x : MV} {d : D} (m : MRep k G o x) (hf : x.frz = some d) (s : Same G G') (ha : G' a = some o) : Rp k G' (.ref a) d := by
  cases x with
  | lst ds =>
    have e1 : D.lst ds = d := Option.some.inj hf
    subst e1
    obtain ⟨vs, rfl, r⟩ := m
    exact .lst ha (r.mono s)
  | dic ks ds =>
    have e1 : D.dic ks ds = d := Option.some.inj hf
    subst e1
    obtain ⟨kvs, rfl, n, r⟩ := m
    exact .dic ha n (r.mono s)
  | obj c' ns ds =>
    have hf : (if ns = clsNames c' then some (D.obj c' ds) else none) = some d := hf
    by_cases hn : ns = clsNames c'
    · rw [if_pos hn] at hf
      have e1 : D.obj c' ds = d := Option.some.inj hf
      subst e1
      obtain ⟨dx, fs, rfl, n, r⟩ := m
      exact .obj ha (n.trans hn) (r.mono s)
    · rw [if_neg hn] at hf; cases hf
/-- a name's own thing becomes data -/
theorem RepS.freezeSlot (r : RepS k c G σ H e) {i : Nat} {x : MV} {d : D} (hx : e[i]? = some (some (.m x))) (hf : x.frz = some d) :
    ∃ G' v, Same G G' ∧ σ[i]? = some (some v) ∧ Rp k G' v d ∧ RepS k c G' σ H (e.set i (some (.d d))) := by
  have hp : c.P i = none := r.nopin hx fun z q => by injection q with q; cases q
  obtain ⟨a, y, hy, ha, m1, m2, o, m3, m4⟩ := r.owner hx rfl
  have ey : y = x := by
    rcases hy with q | q
    · injection q with q; exact q.symm
    · cases q
  subst ey
  have r0 := r.forget hp
  have hl : Loose σ (e.set i none) a := fun j z hz hw q => by
    rcases set_get hz with ⟨_, q2, _⟩ | ⟨hij, q2⟩
    · cases q2
    · exact hij (r.dis i j a _ z hx q2 rfl hw ha q)
  have r1 := r0.freeze m3 m1 m2 hl
  have hd : Rp k (upd G a o) (.ref a) d := m4.rp hf (same_upd m1) upd_same
  have r2 := r1.learn hp ha hd
  rw [List.set_set] at r2
  exact ⟨_, _, same_upd m1, ha, hd, r2⟩
/-- a new thing, loose, becomes data -/
theorem RepS.freezeNew (r : RepS k c G σ H e) {x : MV} {d : D} (m : MAt k c G H a x) (hl : Loose σ e a) (hf : x.frz = some d) : ∃ G', Same G G' ∧ Rp k G' (.ref a) d ∧ RepS k c G' σ H e := by
  obtain ⟨m1, m2, o, m3, m4⟩ := m
  exact ⟨_, same_upd m1, m4.rp hf (same_upd m1) upd_same, r.freeze m3 m1 m2 hl⟩
/-- a new thing laid: it is loose -/
theorem RepS.loose (r : RepS k c G σ H e) (h : H p = none) : Loose σ e p := fun i x hx hw q => by
  obtain ⟨a, y, _, ha, _, _, o, m3, _⟩ := r.owner hx hw
  rw [q] at ha
  obtain rfl : p = a := by injection ha with z; injection z with z; injection z
  rw [h] at m3; cases m3
theorem RepS.newM (r : RepS k c G σ H e) {x : MV} (h : H p = none) (m : MRep k G o x) : RepS k c G σ (upd H p o) e ∧ MAt k c G (upd H p o) p x ∧ Loose σ e p :=
  ⟨r.layM h, ⟨r.gh.free h, r.oh.free h, o, upd_same, m⟩, r.loose h⟩
end
end MM
end
section
set_option Elab.async false
set_option linter.all false
set_option autoImplicit false
set_option maxRecDepth 100000
set_option maxHeartbeats 4000000
namespace MM
open PySem PySem.Spec L2

/-! ### what is wanted behind an evaluation -/
def RepX (k : Kc) (G H : Hp) (cls : Value) (dc : Option Addr) (x : Exn) : Prop :=
  cls = .ref (k.ct x.cls) ∧ (x.fs = [] ∨ ∃ d fs, dc = some d ∧ G d = some (.xd fs) ∧ fs.map (·.1) = clsNames x.cls ∧ Rps k G (fs.map (·.2)) x.fs)
def Post {α : Type} (k : Kc) (W : WX) (c : Fr) (G : Hp) (σ : L2.St) (K : Hp → Hp → Env → α → Prop) : Res α → Prop
  | .ok a e => ∀ G' H', Same G G' → RepS k c G' σ H' e → K G' H' e a
  | .exc x e => ∀ G' H' cls dc, Same G G' → RepS k c G' σ H' e → RepX k G' H' cls dc x → W cls dc σ H'
  | .stuck => False
section
variable {α β : Type} {k : Kc} {W : WX} {c : Fr} {G G1 H : Hp} {σ : L2.St} {e : Env} {K K' : Hp → Hp → Env → α → Prop} {L : Hp → Hp → Env → β → Prop}
theorem Post.mono {r : Res α} (h : Post k W c G σ K r) (s : Same G G1) : Post k W c G1 σ K r := by
  cases r with
  | ok a e => exact fun G' H' s' r' => h G' H' (s.trans s') r'
  | exc x e => exact fun G' H' cls dc s' r' => h G' H' cls dc (s.trans s') r'
  | stuck => exact h
theorem Post.imp {r : Res α} (h : Post k W c G σ K r) (hk : ∀ G' H' e a, Same G G' → RepS k c G' σ H' e → K G' H' e a → K' G' H' e a) : Post k W c G σ K' r := by
  cases r with
  | ok a e => exact fun G' H' s' r' => hk _ _ _ _ s' r' (h G' H' s' r')
  | exc x e => exact h
  | stuck => exact h
theorem Post.bind {r : Res α} {f : α → Env → Res β} (h : Post k W c G σ L (r.bind f)) : Post k W c G σ (fun G1 H1 e1 a => Post k W c G1 σ L (f a e1)) r := by
  cases r with
  | ok a e => exact fun G' H' s' r' => Post.mono h s'
  | exc x e => exact h
  | stuck => exact h
/-- the end of an evaluation -/
theorem Post.now {a : α} (h : Post k W c G σ K (.ok a e)) (r : RepS k c G σ H e) : K G H e a := h G H (Same.refl _) r
end

/-! ### tokens: data, or the slot of a name -/
inductive Tk where
  | val (x : D) | slot (i : Nat)
def RpK (k : Kc) (G : Hp) (σ : L2.St) (v : V) : Tk → Prop
  | .val d => Rp k G v d
  | .slot i => σ[i]? = some (some v)
def RpKs (k : Kc) (G : Hp) (σ : L2.St) : List V → List Tk → Prop
  | [], [] => True
  | v :: vs, t :: ts => RpK k G σ v t ∧ RpKs k G σ vs ts
  | _, _ => False
def rdK (e : Env) : Tk → Option D
  | .val d => some d
  | .slot i => match e[i]? with
    | some (some x) => x.rd
    | _ => none
def rdKs (e : Env) : List Tk → Option (List D)
  | [] => some []
  | t :: ts => match rdK e t, rdKs e ts with
    | some d, some ds => some (d :: ds)
    | _, _ => none
/-- v can be read as d now -/
def RB (k : Kc) (G H : Hp) (v : V) (d : D) : Prop := Rp k G v d ∨ ∃ a o x, v = .ref a ∧ H a = some o ∧ MRep k G o x ∧ x.frz = some d
inductive RBs (k : Kc) (G H : Hp) : List V → List D → Prop
  | nil : RBs k G H [] []
  | cons {v : V} {vs : List V} {d : D} {ds : List D} : RB k G H v d → RBs k G H vs ds → RBs k G H (v :: vs) (d :: ds)
/-- the value of an expression that may be a new thing -/
def RpV (k : Kc) (c : Fr) (G : Hp) (σ : L2.St) (H : Hp) (e : Env) (v : V) : EV → Prop
  | .d d => Rp k G v d
  | .m x => ∃ a, v = .ref a ∧ MAt k c G H a x ∧ Loose σ e a
  | .p _ => False
  | .t _ _ => False
section
variable {k : Kc} {c : Fr} {G G' H : Hp} {σ : L2.St} {e : Env} {v : V} {t : Tk} {d : D}
theorem RpK.mono (s : Same G G') (h : RpK k G σ v t) : RpK k G' σ v t := by
  cases t with
  | val d => exact Rp.mono s h
  | slot i => exact h
theorem RpKs.mono (s : Same G G') : ∀ {vs : List V} {ts : List Tk}, RpKs k G σ vs ts → RpKs k G' σ vs ts
  | [], [], _ => trivial
  | _ :: _, _ :: _, h => ⟨h.1.mono s, RpKs.mono s h.2⟩
  | [], _ :: _, h => h
  | _ :: _, [], h => h
theorem RB.of (r : RepS k c G σ H e) (h : RpK k G σ v t) (hd : rdK e t = some d) : RB k G H v d := by
  cases t with
  | val d' =>
    have ed : d' = d := Option.some.inj hd
    subst ed
    exact .inl h
  | slot i =>
    have h' : σ[i]? = some (some v) := h
    have hd' : (match e[i]? with | some (some x) => x.rd | _ => none) = some d := hd
    cases q : e[i]? with
    | none => rw [q] at hd'; cases hd'
    | some o =>
      cases o with
      | none => rw [q] at hd'; cases hd'
      | some x =>
        rw [q] at hd'
        obtain ⟨u, h1, h2⟩ := r.slot i x q
        rw [h'] at h1
        obtain rfl : v = u := by injection h1 with z; injection z
        cases x with
        | d y =>
          have ed : y = d := Option.some.inj hd'
          subst ed
          exact .inl h2
        | m y => obtain ⟨a, e1, _, _, o, h3, h4⟩ := h2; exact .inr ⟨a, o, y, e1, h3, h4, hd'⟩
        | p y => obtain ⟨a, e1, _, _, o, h3, h4⟩ := h2; exact .inr ⟨a, o, y, e1, h3, h4, hd'⟩
        | t _ _ => first | exact h2.elim | exact trivial | cases hw | exact hv.elim | exact h.elim | exact hx.elim | exact hu.elim | cases hy | cases h' | cases hd' | cases h2 | cases h1 | cases hd | cases h3 | cases h4
theorem RBs.of (r : RepS k c G σ H e) : ∀ {vs : List V} {ts : List Tk} {ds : List D}, RpKs k G σ vs ts → rdKs e ts = some ds → RBs k G H vs ds
  | [], [], _, _, hd => by cases hd; exact .nil
  | v :: vs, t :: ts, ds, h, hd => by
    have hd' : (match rdK e t, rdKs e ts with | some d, some ds => some (d :: ds) | _, _ => none) = some ds := hd
    cases q : rdK e t with
    | none => rw [q] at hd'; cases hd'
    | some d =>
      cases q2 : rdKs e ts with
      | none => rw [q, q2] at hd'; cases hd'
      | some es =>
        rw [q, q2] at hd'
        cases hd'
        exact .cons (.of r h.1 q) (RBs.of r h.2 q2)
  | [], _ :: _, _, h, _ => h.elim
  | _ :: _, [], _, h, _ => h.elim
-- reading
theorem RB.int {i : Int} (h : RB k G H v (.int i)) : v = .int i := by
  rcases h with h | ⟨a, o, x, _, _, _, h⟩
  · cases h; rfl
  · cases x <;> simp [MV.frz] at h
theorem RB.bl {i : Bool} (h : RB k G H v (.bl i)) : v = .bl i := by
  rcases h with h | ⟨a, o, x, _, _, _, h⟩
  · cases h; rfl
  · cases x <;> simp [MV.frz] at h
theorem RB.str {i : Str} (h : RB k G H v (.str i)) : v = .str i := by
  rcases h with h | ⟨a, o, x, _, _, _, h⟩
  · cases h; rfl
  · cases x <;> simp [MV.frz] at h
theorem RB.non (h : RB k G H v .non) : v = .non := by
  rcases h with h | ⟨a, o, x, _, _, _, h⟩
  · cases h; rfl
  · cases x <;> simp [MV.frz] at h
theorem RB.lst {ds : List D} (g : Same G H) (h : RB k G H v (.lst ds)) : ∃ a vs, v = .ref a ∧ H a = some (.lst vs) ∧ Rps k G vs ds := by
  rcases h with h | ⟨a, o, x, e1, h1, h2, h⟩
  · cases h with
    | lst h1 h2 => exact ⟨_, _, rfl, g _ _ h1, h2⟩
  · cases x with
    | lst es =>
      simp [MV.frz] at h
      subst h
      obtain ⟨vs, rfl, r⟩ := h2
      exact ⟨a, vs, e1, h1, r⟩
    | dic ks es => simp [MV.frz] at h
    | obj c ns es => simp [MV.frz] at h
theorem RB.tup {ds : List D} (g : Same G H) (h : RB k G H v (.tup ds)) : ∃ a vs, v = .ref a ∧ SqT k.K H a vs ∧ Rps k G vs ds ∧ SqT k.K G a vs := by
  rcases h with h | ⟨a, o, x, e1, h1, h2, h⟩
  · cases h with
    | tup h1 h2 => exact ⟨_, _, rfl, seqT g h1, h2, h1⟩
  · cases x <;> simp [MV.frz] at h
theorem RB.scr {ns : List Int} (g : Same G H) (h : RB k G H v (.scr ns)) : ∃ a, v = .ref a ∧ SqL k.K H a (ns.map V.int) := by
  rcases h with h | ⟨a, o, x, e1, h1, h2, h⟩
  · cases h with
    | scr h1 => exact ⟨_, rfl, g.seq h1⟩
  · cases x <;> simp [MV.frz] at h
theorem RB.dic {ks : List Key} {ds : List D} (g : Same G H) (h : RB k G H v (.dic ks ds)) : ∃ a kvs, v = .ref a ∧ H a = some (.dK kvs) ∧ kvs.map (·.1) = ks ∧ Rps k G (kvs.map (·.2)) ds := by
  rcases h with h | ⟨a, o, x, e1, h1, h2, h⟩
  · cases h with
    | dic h1 h2 h3 => exact ⟨_, _, rfl, g _ _ h1, h2, h3⟩
  · cases x with
    | lst es => simp [MV.frz] at h
    | dic k2 es =>
      simp [MV.frz] at h
      obtain ⟨rfl, rfl⟩ := h
      obtain ⟨kvs, rfl, n, r⟩ := h2
      exact ⟨a, kvs, e1, h1, n, r⟩
    | obj c ns es => simp [MV.frz] at h
theorem RB.obj {c' : Nat} {ds : List D} (g : Same G H) (h : RB k G H v (.obj c' ds)) : ∃ a dx fs, v = .ref a ∧ H a = some (.ins (k.ct c') dx fs) ∧ fs.map (·.1) = clsNames c' ∧ Rps k G (fs.map (·.2)) ds := by
  rcases h with h | ⟨a, o, x, e1, h1, h2, h⟩
  · cases h with
    | obj h1 h2 h3 => exact ⟨_, _, _, rfl, g _ _ h1, h2, h3⟩
  · cases x with
    | lst es => simp [MV.frz] at h
    | dic k2 es => simp [MV.frz] at h
    | obj c2 ns es =>
      by_cases hn : ns = clsNames c2
      · simp [MV.frz, hn] at h
        obtain ⟨rfl, rfl⟩ := h
        obtain ⟨dx, fs, rfl, n, r⟩ := h2
        exact ⟨a, dx, fs, e1, h1, n.trans hn, r⟩
      · simp [MV.frz, hn] at h
end

/-! ### the canonical transformers and the judgements -/
def TE (k : Kc) (W : WX) (f : EM D) : L2.TE := fun σ H Q => ∃ c G e, RepS k c G σ H e ∧ Post k W c G σ (fun G' H' _ d => ∀ v, Rp k G' v d → Q v H') (f e)
def TK (k : Kc) (W : WX) (f : EM Tk) : L2.TE := fun σ H Q => ∃ c G e, RepS k c G σ H e ∧ Post k W c G σ (fun G' H' _ d => ∀ v, RpK k G' σ v d → Q v H') (f e)
def TV (k : Kc) (W : WX) (f : EM EV) : L2.TE := fun σ H Q => ∃ c G e, RepS k c G σ H e ∧ Post k W c G σ (fun G' H' e' x => ∀ v, RpV k c G' σ H' e' v x → Q v H') (f e)
def TT (k : Kc) (W : WX) (f : EM Bool) : L2.TT := fun σ H Q => ∃ c G e, RepS k c G σ H e ∧ Post k W c G σ (fun G' H' _ b => Q b H') (f e)
def TA (k : Kc) (W : WX) (f : EM (List Tk)) : L2.TA := fun σ H Q => ∃ c G e, RepS k c G σ H e ∧ Post k W c G σ (fun G' H' _ ts => ∀ vs, RpKs k G' σ vs ts → Q vs H') (f e)
abbrev SE (X : Cx) (ct : Nat → Addr) (W : WX) (e : Expr) (f : EM D) : Prop := PE X e (TE ⟨X.K, ct⟩ W f)
abbrev SK (X : Cx) (ct : Nat → Addr) (W : WX) (e : Expr) (f : EM Tk) : Prop := PE X e (TK ⟨X.K, ct⟩ W f)
abbrev SV (X : Cx) (ct : Nat → Addr) (W : WX) (e : Expr) (f : EM EV) : Prop := PE X e (TV ⟨X.K, ct⟩ W f)
abbrev ST (X : Cx) (ct : Nat → Addr) (W : WX) (e : Expr) (f : EM Bool) : Prop := PT X e (TT ⟨X.K, ct⟩ W f)
abbrev SA (X : Cx) (ct : Nat → Addr) (W : WX) (es : List Expr) (f : EM (List Tk)) : Prop := PA X es (TA ⟨X.K, ct⟩ W f)
theorem PEw {X : Cx} {e : Expr} {t t' : L2.TE} (h : PE X e t) (w : ∀ σ H Q, t' σ H Q → t σ H Q) : PE X e t' := ⟨fun pins s σ H Q I q => h.run pins s σ H Q I (w σ H Q q)⟩
theorem PTw {X : Cx} {e : Expr} {t t' : L2.TT} (h : PT X e t) (w : ∀ σ H Q, t' σ H Q → t σ H Q) : PT X e t' := ⟨fun pins s σ H Q I q => h.run pins s σ H Q I (w σ H Q q)⟩
theorem PAw {X : Cx} {e : List Expr} {t t' : L2.TA} (h : PA X e t) (w : ∀ σ H Q, t' σ H Q → t σ H Q) : PA X e t' := ⟨fun pos pins s σ H Q I q => h.run pos pins s σ H Q I (w σ H Q q)⟩
theorem PSw {X : Cx} {e : Stmt} {t t' : L2.TS} (h : PS X e t) (w : ∀ D σ H, t' D σ H → t D σ H) : PS X e t' := ⟨fun pins s σ H D I q => h.run pins s σ H D I (w D σ H q)⟩
theorem PSsw {X : Cx} {e : List Stmt} {t t' : L2.TS} (h : PSs X e t) (w : ∀ D σ H, t' D σ H → t D σ H) : PSs X e t' := ⟨fun pins s σ H D I q => h.run pins s σ H D I (w D σ H q)⟩

/-! ### combinators -/
def cC (d : D) : EM D := fun e => .ok d e
def kN (i : Nat) : EM Tk := fun e => match e[i]? with
  | some (some _) => .ok (.slot i) e
  | _ => .stuck
def kE (f : EM D) : EM Tk := fun e => (f e).bind fun d e1 => .ok (.val d) e1
def vD (f : EM D) : EM EV := fun e => (f e).bind fun d e1 => .ok (.d d) e1
/-- a name whose thing escapes: it becomes data -/
def cN (i : Nat) : EM D := fun e => match e[i]? with
  | some (some (.d x)) => .ok x e
  | some (some (.m x)) => (match x.frz with
    | some d => .ok d (e.set i (some (.d d)))
    | none => .stuck)
  | _ => .stuck
def cF (f : EM EV) : EM D := fun e => (f e).bind fun x e1 => match x.rd with
  | some d => .ok d e1
  | none => .stuck
section
variable {X : Cx} {ct : Nat → Addr} {W : WX} {x : Str} {pos : Pos} {i : Nat} {ex : Expr} {fe : EM D} {fv : EM EV}
theorem k_name (h : PE X (.Name x pos) (tVar i)) : SK X ct W (.Name x pos) (kN i) := PEw h fun σ H Q q => by
  obtain ⟨c, G, e, r, p⟩ := q
  unfold kN at p
  split at p
  · rename_i y hy
    obtain ⟨v, hv, _⟩ := r.slot i y hy
    exact ⟨v, hv, p.now r v hv⟩
  · exact p.elim
theorem k_val (h : SE X ct W ex fe) : SK X ct W ex (kE fe) := PEw h fun σ H Q q => by
  obtain ⟨c, G, e, r, p⟩ := q
  refine ⟨c, G, e, r, (Post.bind p).imp fun G' H' e' d s r' h v hv => h.now r' v hv⟩
theorem v_val (h : SE X ct W ex fe) : SV X ct W ex (vD fe) := PEw h fun σ H Q q => by
  obtain ⟨c, G, e, r, p⟩ := q
  refine ⟨c, G, e, r, (Post.bind p).imp fun G' H' e' d s r' h v hv => h.now r' v hv⟩
theorem e_name (h : PE X (.Name x pos) (tVar i)) : SE X ct W (.Name x pos) (cN i) := PEw h fun σ H Q q => by
  obtain ⟨c, G, e, r, p⟩ := q
  unfold cN at p
  split at p
  · rename_i y hy
    obtain ⟨v, hv, hr⟩ := r.slot i _ hy
    exact ⟨v, hv, p.now r v hr⟩
  · rename_i y hy
    split at p
    · rename_i d hd
      obtain ⟨G', v, s, hv, hr, r'⟩ := r.freezeSlot hy hd
      exact ⟨v, hv, p G' H s r' v hr⟩
    · exact p.elim
  · exact p.elim
/-- a new thing becomes data -/
theorem e_frz (h : SV X ct W ex fv) : SE X ct W ex (cF fv) := PEw h fun σ H Q q => by
  obtain ⟨c, G, e, r, p⟩ := q
  refine ⟨c, G, e, r, (Post.bind p).imp fun G' H' e' y s r' h v hv => ?_⟩
  cases y with
  | d d => exact h.now r' v hv
  | m m =>
    obtain ⟨a, e1, hm, hl⟩ := hv
    subst e1
    have h2 : Post _ W c G' σ (fun G' H' _ d => ∀ v, Rp _ G' v d → Q v H') (match m.frz with | some d => .ok d e' | none => .stuck) := h
    cases hf : m.frz with
    | none => rw [hf] at h2; exact h2.elim
    | some d =>
      rw [hf] at h2
      obtain ⟨G2, s2, hr, r2⟩ := r'.freezeNew hm hl hf
      exact h2 G2 H' s2 r2 _ hr
  | p m => exact hv.elim
  | t _ _ => first | exact h2.elim | exact trivial | cases hw | exact hv.elim | exact h.elim | exact hx.elim | exact hu.elim | cases hy | cases h' | cases hd' | cases h2 | cases h1 | cases hd | cases h3 | cases h4
theorem e_const {v : V} {d : D} (h : PE X ex (tC v)) (hd : ∀ G, Rp ⟨X.K, ct⟩ G v d) : SE X ct W ex (cC d) := PEw h fun σ H Q q => by
  obtain ⟨c, G, e, r, p⟩ := q
  exact p.now r v (hd G)
theorem e_int {n : Int} {j : Nat} : SE X ct W (.Constant (.int n) j pos) (cC (.int n)) := e_const pe_int fun _ => .int n
theorem e_bl {b : Bool} {j : Nat} : SE X ct W (.Constant (.bool b) j pos) (cC (.bl b)) := e_const pe_bl fun _ => .bl b
theorem e_non {j : Nat} : SE X ct W (.Constant .none j pos) (cC .non) := e_const pe_non fun _ => .non
theorem e_str {y : Str} {j : Nat} : SE X ct W (.Constant (.str y) j pos) (cC (.str y)) := e_const pe_str fun _ => .str y
/-- a constant int of the module -/
theorem e_gint {n : Int} {t : Tok} (hg : Gl X x) (hm : X.mg x = some (.int n t)) (hd : (x == ("__debug__" : Str)) = false := by decide) : SE X ct W (.Name x pos) (cC (.int n)) := e_const (v := V.int n) (pe_glob hg hm ⟨t, rfl⟩ hd) fun _ => .int n
end

/-! ### two-place operations -/
def resV : Option EV → Env → Res EV
  | some x, e => .ok x e
  | none, _ => .stuck
def resB : Option Bool → Env → Res Bool
  | some x, e => .ok x e
  | none, _ => .stuck
def vBin (g : D → D → Option EV) (fa fb : EM Tk) : EM EV := fun e => (fa e).bind fun t1 e1 => (fb e1).bind fun t2 e2 => match rdK e2 t1, rdK e2 t2 with
  | some a, some b => resV (g a b) e2
  | _, _ => .stuck
def tCmpF (g : D → D → Option Bool) (fa fb : EM Tk) : EM Bool := fun e => (fa e).bind fun t1 e1 => (fb e1).bind fun t2 e2 => match rdK e2 t1, rdK e2 t2 with
  | some a, some b => resB (g a b) e2
  | _, _ => .stuck
def cB (f : EM Bool) : EM D := fun e => (f e).bind fun b e1 => .ok (.bl b) e1
/-- an operation by values gives what g says of data -/
def OpG (k : Kc) (r : R2) (g : D → D → Option EV) : Prop := ∀ (c : Fr) (G H : Hp) (σ : L2.St) (e : Env) (x y : V) (a b : D) (z : EV) (Q : VK), RepS k c G σ H e → RB k G H x a → RB k G H y b → g a b = some z →
  (∀ G' H' v, Same G G' → RepS k c G' σ H' e → RpV k c G' σ H' e v z → Q v H') → r x y H Q
/-- a comparison by values gives what g says of data -/
def OpB (k : Kc) (r : R2) (g : D → D → Option Bool) : Prop := ∀ (G H : Hp) (x y : V) (a b : D) (z : Bool) (Q : VK), Same G H → RB k G H x a → RB k G H y b → g a b = some z → Q (.bl z) H → r x y H Q
section
variable {X : Cx} {ct : Nat → Addr} {W : WX} {pos : Pos} {a b : Expr} {fa fb : EM Tk} {r : R2}
theorem two {α : Type} {k : Kc} {W : WX} {K : Hp → Hp → Env → α → Prop} {g : Tk → Tk → Env → Res α} {c : Fr} {G H : Hp} {σ : L2.St} {e : Env} {fa fb : EM Tk} {R : V → V → Hp → Prop} (r : RepS k c G σ H e)
    (p : Post k W c G σ K ((fa e).bind fun t1 e1 => (fb e1).bind fun t2 e2 => g t1 t2 e2))
    (h : ∀ G2 H2 e2 t1 t2 x y, Same G G2 → RepS k c G2 σ H2 e2 → RpK k G2 σ x t1 → RpK k G2 σ y t2 → Post k W c G2 σ K (g t1 t2 e2) → R x y H2) :
    TK k W fa σ H (fun x H1 => TK k W fb σ H1 (fun y H2 => R x y H2)) := by
  refine ⟨c, G, e, r, (Post.bind p).imp fun G1 H1 e1 t1 s1 r1 p1 x hx => ⟨c, G1, e1, r1, (Post.bind p1).imp fun G2 H2 e2 t2 s2 r2 p2 y hy => ?_⟩⟩
  exact h G2 H2 e2 t1 t2 x y (s1.trans s2) r2 (hx.mono s2) hy p2
theorem v_bin {op : Operator} {g : D → D → Option EV} (ho : OpR X (binaryOp op) r) (hg : OpG ⟨X.K, ct⟩ r g) (ha : SK X ct W a fa) (hb : SK X ct W b fb) : SV X ct W (.BinOp a op b pos) (vBin g fa fb) := PEw (pe_op ho ha hb) fun σ H Q q => by
  obtain ⟨c, G, e, re, p⟩ := q
  refine two re p fun G2 H2 e2 t1 t2 x y s r2 hx hy p2 => ?_
  split at p2
  · rename_i d1 d2 h1 h2
    cases hz : g d1 d2 with
    | none => rw [hz] at p2; exact p2.elim
    | some z =>
      rw [hz] at p2
      exact hg c G2 H2 σ e2 x y d1 d2 z Q r2 (.of r2 hx h1) (.of r2 hy h2) hz fun G' H' v s' r' hv => p2 G' H' s' r' v hv
  · exact p2.elim
theorem e_cmp {op : CmpOp} {g : D → D → Option Bool} (ho : OpR X (compareOp op) r) (hg : OpB ⟨X.K, ct⟩ r g) (ha : SK X ct W a fa) (hb : SK X ct W b fb) (hm : behindInMarks op b = false) : SE X ct W (.Compare a [op] [b] pos) (cB (tCmpF g fa fb)) := PEw (pe_cmpR ho ha hb hm) fun σ H Q q => by
  obtain ⟨c, G, e, re, p⟩ := q
  refine two re (R := fun x y H2 => r x y H2 Q) (Post.bind p) fun G2 H2 e2 t1 t2 x y s r2 hx hy p2 => ?_
  split at p2
  · rename_i d1 d2 h1 h2
    cases hz : g d1 d2 with
    | none => rw [hz] at p2; exact p2.elim
    | some z =>
      rw [hz] at p2
      exact hg G2 H2 x y d1 d2 z Q r2.gh (.of r2 hx h1) (.of r2 hy h2) hz ((p2.now r2).now r2 _ (.bl z))
  · exact p2.elim
theorem t_cmp {op : CmpOp} {g : D → D → Option Bool} (ho : OpR X (compareOp op) r) (hg : OpB ⟨X.K, ct⟩ r g) (ha : SK X ct W a fa) (hb : SK X ct W b fb) (hm : behindInMarks op b = false) : ST X ct W (.Compare a [op] [b] pos) (tCmpF g fa fb) := PTw (pt_cmpR ho ha hb hm) fun σ H Q q => by
  obtain ⟨c, G, e, re, p⟩ := q
  refine two re (R := fun x y H2 => r x y H2 (fun v H' => ∃ k, v = .bl k ∧ Q k H')) p fun G2 H2 e2 t1 t2 x y s r2 hx hy p2 => ?_
  split at p2
  · rename_i d1 d2 h1 h2
    cases hz : g d1 d2 with
    | none => rw [hz] at p2; exact p2.elim
    | some z =>
      rw [hz] at p2
      exact hg G2 H2 x y d1 d2 z _ r2.gh (.of r2 hx h1) (.of r2 hy h2) hz ⟨z, rfl, p2.now r2⟩
  · exact p2.elim
end
end MM
end
section
set_option Elab.async false
set_option linter.all false
set_option autoImplicit false
set_option maxRecDepth 100000
set_option maxHeartbeats 4000000
namespace MM
open PySem PySem.Spec L2

abbrev LIM : Nat := 1000000
theorem lim_le {n : Nat} (h : n ≤ LIM) : n ≤ sizeLine := by rw [sizeLine_eq]; exact Nat.le_trans h (by decide)
theorem lim_lt {n : Nat} (h : n ≤ LIM) : n < sizeLine := by rw [sizeLine_eq]; exact Nat.lt_of_le_of_lt h (by decide)

section
variable {k : Kc} {c : Fr} {G H : Hp} {σ : L2.St} {e : Env} {r1 r2 : R2} {Q : VK}
theorem OpG.or {g1 g2 g : D → D → Option EV} (h1 : OpG k r1 g1) (h2 : OpG k r2 g2) (h : ∀ a b z, g a b = some z → g1 a b = some z ∨ g2 a b = some z) : OpG k (fun x y H Q => r1 x y H Q ∨ r2 x y H Q) g := fun c G H σ e x y a b z Q r ra rb hz q => by
  rcases h a b z hz with w | w
  · exact .inl (h1 c G H σ e x y a b z Q r ra rb w q)
  · exact .inr (h2 c G H σ e x y a b z Q r ra rb w q)
theorem OpB.or {g1 g2 g : D → D → Option Bool} (h1 : OpB k r1 g1) (h2 : OpB k r2 g2) (h : ∀ a b z, g a b = some z → g1 a b = some z ∨ g2 a b = some z) : OpB k (fun x y H Q => r1 x y H Q ∨ r2 x y H Q) g := fun G H x y a b z Q r ra rb hz q => by
  rcases h a b z hz with w | w
  · exact .inl (h1 G H x y a b z Q r ra rb w q)
  · exact .inr (h2 G H x y a b z Q r ra rb w q)
/-- a scalar result -/
theorem fin_d {d : D} {v : V} (r : RepS k c G σ H e) (h : Rp k G v d) (q : ∀ G' H' v, Same G G' → RepS k c G' σ H' e → RpV k c G' σ H' e v (.d d) → Q v H') : Q v H := q G H v (Same.refl _) r h
/-- a new tuple -/
theorem fin_tup {ds : List D} {vs : List V} (r : RepS k c G σ H e) (h : Rps k G vs ds) (q : ∀ G' H' v, Same G G' → RepS k c G' σ H' e → RpV k c G' σ H' e v (.d (.tup ds)) → Q v H') : ∀ p, H p = none → Q (.ref p) (upd H p (.tup vs)) := fun p hp => by
  have gp := r.gh.free hp
  exact q _ _ _ (same_upd gp) (r.lay hp) (.tup (SqT.of upd_same) (h.mono (same_upd gp)))
/-- a new list -/
theorem fin_lst {ds : List D} {vs : List V} (r : RepS k c G σ H e) (h : Rps k G vs ds) (q : ∀ G' H' v, Same G G' → RepS k c G' σ H' e → RpV k c G' σ H' e v (.m (.lst ds)) → Q v H') : ∀ p, H p = none → Q (.ref p) (upd H p (.lst vs)) := fun p hp => by
  obtain ⟨r', m, l⟩ := r.newM (x := .lst ds) (o := .lst vs) hp ⟨vs, rfl, h⟩
  exact q _ _ _ (Same.refl _) r' ⟨p, rfl, m, l⟩
end

/-! ### arithmetic -/
def gI (f : Int → Int → Int) : D → D → Option EV
  | .int i, .int j => some (.d (.int (f i j)))
  | _, _ => none
def gIC (C : Int → Int → Prop) [∀ i j, Decidable (C i j)] (f : Int → Int → Int) : D → D → Option EV
  | .int i, .int j => if C i j then some (.d (.int (f i j))) else none
  | _, _ => none
theorem opG_I {k : Kc} {f : Int → Int → Int} : OpG k (rI0 fun i j => .int (f i j)) (gI f) := fun c G H σ e x y a b z Q r ra rb hz q => by
  unfold gI at hz
  split at hz
  · cases hz
    rw [ra.int, rb.int]
    exact ⟨_, _, rfl, rfl, fin_d r (.int _) q⟩
  · cases hz
theorem opG_IC {k : Kc} {C : Int → Int → Prop} [∀ i j, Decidable (C i j)] {f : Int → Int → Int} : OpG k (rI C fun i j => .int (f i j)) (gIC C f) := fun c G H σ e x y a b z Q r ra rb hz q => by
  unfold gIC at hz
  split at hz
  · split at hz
    · rename_i hc
      cases hz
      rw [ra.int, rb.int]
      exact ⟨_, _, rfl, rfl, hc, fin_d r (.int _) q⟩
    · cases hz
  · cases hz
instance : ∀ i j, Decidable (CMulW i j) := fun i j => inferInstanceAs (Decidable (_ < _))
instance : ∀ i j, Decidable (CDivW i j) := fun i j => inferInstanceAs (Decidable (_ ∧ _))
instance : ∀ i j, Decidable (CPow i j) := fun i j => inferInstanceAs (Decidable (_ ∧ _))
instance : ∀ i j, Decidable (CDiv i j) := fun i j => inferInstanceAs (Decidable (_ ∧ _))
def gAdd : D → D → Option EV
  | .int i, .int j => some (.d (.int (i + j)))
  | .str x, .str y => if x.length + y.length ≤ LIM then some (.d (.str (x ++ y))) else none
  | .lst xs, .lst ys => if xs.length + ys.length ≤ LIM then some (.m (.lst (xs ++ ys))) else none
  | .tup xs, .tup ys => if xs.length + ys.length ≤ LIM then some (.d (.tup (xs ++ ys))) else none
  | _, _ => none
def gMul : D → D → Option EV
  | .int i, .int j => if CMulW i j then some (.d (.int (i * j))) else none
  | .lst xs, .int j => if j ≤ 1000000 ∧ -1000000 ≤ j ∧ xs.length * j.toNat ≤ LIM then some (.m (.lst (List.replicate j.toNat xs).flatten)) else none
  | _, _ => none
abbrev gSub : D → D → Option EV := gI fun i j => i - j
abbrev gMod : D → D → Option EV := gIC (fun _ j => 0 < j) fun i j => i % j
abbrev gDiv : D → D → Option EV := gIC CDivW fun i j => i / j
abbrev gPow : D → D → Option EV := gIC CPow fun i j => i ^ j.toNat
section
variable {X : Cx} {ct : Nat → Addr} {W : WX} {pos : Pos} {a b : Expr} {fa fb : EM Tk}
theorem opG_add : OpG ⟨X.K, ct⟩ (fun x y H Q => (rI0 fun i j => .int (i + j)) x y H Q ∨ ((∃ i j, x = .str i ∧ y = .str j ∧ i.length + j.length ≤ sizeLine ∧ Q (.str (i ++ j)) H) ∨ (rCat x y H Q ∨ rCatA X.K x y H Q))) gAdd := fun c G H σ e x y a b z Q r ra rb hz q => by
  unfold gAdd at hz
  split at hz
  · cases hz
    rw [ra.int, rb.int]
    exact .inl ⟨_, _, rfl, rfl, fin_d r (.int _) q⟩
  · split at hz
    · rename_i hl
      cases hz
      rw [ra.str, rb.str]
      exact .inr (.inl ⟨_, _, rfl, rfl, lim_le hl, fin_d r (.str _) q⟩)
    · cases hz
  · split at hz
    · rename_i hl
      cases hz
      obtain ⟨p, vs, rfl, h1, r1⟩ := ra.lst r.gh
      obtain ⟨p', vs', rfl, h2, r2⟩ := rb.lst r.gh
      exact .inr (.inr (.inl ⟨_, _, _, _, rfl, rfl, h1, h2, by rw [r1.len, r2.len]; exact lim_le hl, fin_lst r (r1.app r2) q⟩))
    · cases hz
  · split at hz
    · rename_i hl
      cases hz
      obtain ⟨p, vs, rfl, h1, r1, g1⟩ := ra.tup r.gh
      obtain ⟨p', vs', rfl, h2, r2, g2⟩ := rb.tup r.gh
      refine .inr (.inr (.inr ⟨_, _, _, _, rfl, rfl, h1, h2, by rw [r1.len, r2.len]; exact lim_le hl, fun e1 => ?_, fun _ e2 => ?_, fun _ _ => fin_tup r (r1.app r2) q⟩))
      · subst e1
        cases r1
        exact fin_d r (.tup g2 r2) q
      · subst e2
        cases r2
        rw [List.append_nil] at q
        exact fin_d r (.tup g1 r1) q
    · cases hz
  · cases hz
theorem v_add (ha : SK X ct W a fa) (hb : SK X ct W b fb) : SV X ct W (.BinOp a .Add b pos) (vBin gAdd fa fb) := v_bin (op_add.or (op_add_str.or (op_cat.or op_catA))) opG_add ha hb
theorem v_sub (ha : SK X ct W a fa) (hb : SK X ct W b fb) : SV X ct W (.BinOp a .Sub b pos) (vBin gSub fa fb) := v_bin op_sub opG_I ha hb
theorem v_mod (ha : SK X ct W a fa) (hb : SK X ct W b fb) : SV X ct W (.BinOp a .Mod b pos) (vBin gMod fa fb) := v_bin op_mod opG_IC ha hb
theorem v_div (ha : SK X ct W a fa) (hb : SK X ct W b fb) : SV X ct W (.BinOp a .FloorDiv b pos) (vBin gDiv fa fb) := v_bin op_fdivW opG_IC ha hb
theorem v_pow (ha : SK X ct W a fa) (hb : SK X ct W b fb) : SV X ct W (.BinOp a .Pow b pos) (vBin gPow fa fb) := v_bin op_pow opG_IC ha hb
theorem opG_mul : OpG ⟨X.K, ct⟩ (fun x y H Q => (rI CMulW fun i j => .int (i * j)) x y H Q ∨ rRep x y H Q) gMul := fun c G H σ e x y a b z Q r ra rb hz q => by
  unfold gMul at hz
  split at hz
  · split at hz
    · rename_i hl
      cases hz
      rw [ra.int, rb.int]
      exact .inl ⟨_, _, rfl, rfl, hl, fin_d r (.int _) q⟩
    · cases hz
  · split at hz
    · rename_i hl
      cases hz
      obtain ⟨p, vs, rfl, h1, r1⟩ := ra.lst r.gh
      rw [rb.int]
      exact .inr ⟨_, _, _, rfl, rfl, h1, by omega, by omega, by rw [r1.len]; exact lim_le hl.2.2, fin_lst r (r1.rep _) q⟩
    · cases hz
  · cases hz
theorem v_mul (ha : SK X ct W a fa) (hb : SK X ct W b fb) : SV X ct W (.BinOp a .Mult b pos) (vBin gMul fa fb) := v_bin (op_mulW.or op_rep) opG_mul ha hb
end

/-! ### comparisons -/
mutual
/-- data as the library has it (objects and dicts are not compared so) -/
def D.py : D → PyData
  | .non => .none
  | .bl b => .bool b
  | .int i => .int i
  | .str x => .str x
  | .lst xs => .list (D.pys xs)
  | .tup xs => .tuple (D.pys xs)
  | .obj _ _ => .none
  | .dic _ _ => .none
  | .scr _ => .none
  | .rng _ _ => .none
def D.pys : List D → List PyData
  | [] => []
  | x :: xs => D.py x :: D.pys xs
end
mutual
def D.flat : D → Bool
  | .obj _ _ => false
  | .dic _ _ => false
  | .scr _ => false
  | .rng _ _ => false
  | .lst xs => D.flats xs
  | .tup xs => D.flats xs
  | _ => true
def D.flats : List D → Bool
  | [] => true
  | x :: xs => D.flat x && D.flats xs
end
mutual
theorem Rp.dp {k : Kc} {G : Hp} : ∀ {v : V} {d : D}, Rp k G v d → d.flat = true → Dp k.K G v d.py
  | _, _, .non, _ => by rw [D.py]; exact .non
  | _, _, .bl b, _ => by rw [D.py]; exact .bl b
  | _, _, .int i, _ => by rw [D.py]; exact .int i
  | _, _, .str x, _ => by rw [D.py]; exact .str x
  | _, _, .lst h r, f => by
    rw [D.py]
    rw [D.flat] at f
    exact .lst (SqL.of h) (Rps.dp r f)
  | _, _, .tup h r, f => by
    rw [D.py]
    rw [D.flat] at f
    exact .tup h (Rps.dp r f)
  | _, _, .obj _ _ _, f => by rw [D.flat] at f; cases f
  | _, _, .dic _ _ _, f => by rw [D.flat] at f; cases f
  | _, _, .scr _, f => by rw [D.flat] at f; cases f
  | _, _, .rng _, f => by rw [D.flat] at f; cases f
theorem Rps.dp {k : Kc} {G : Hp} : ∀ {vs : List V} {ds : List D}, Rps k G vs ds → D.flats ds = true → DpAll k.K G vs (D.pys ds)
  | _, _, .nil, _ => by rw [D.pys]; exact .nil
  | _, _, .cons a b, f => by
    rw [D.pys]
    rw [D.flats, Bool.and_eq_true] at f
    exact .cons (Rp.dp a f.1) (Rps.dp b f.2)
end
mutual
theorem dp_mono {K : PySem.W.Frag} {G H : Hp} (s : Same G H) : ∀ {v : V} {d : PyData}, Dp K G v d → Dp K H v d
  | _, _, .non => .non
  | _, _, .bl b => .bl b
  | _, _, .int i => .int i
  | _, _, .str x => .str x
  | _, _, .lst h r => .lst (s.seq h) (dps_mono s r)
  | _, _, .tup h r => .tup (seqT s h) (dps_mono s r)
theorem dps_mono {K : PySem.W.Frag} {G H : Hp} (s : Same G H) : ∀ {v : List V} {d : List PyData}, DpAll K G v d → DpAll K H v d
  | _, _, .nil => .nil
  | _, _, .cons a b => .cons (dp_mono s a) (dps_mono s b)
end
theorem RB.dp {k : Kc} {G H : Hp} {v : V} {d : D} (g : Same G H) (h : RB k G H v d) (f : d.flat = true) : Dp k.K H v d.py := by
  rcases h with h | ⟨a, o, x, rfl, h1, h2, h3⟩
  · exact dp_mono g (h.dp f)
  · cases x with
    | lst es =>
      have e1 : D.lst es = d := Option.some.inj h3
      subst e1
      obtain ⟨vs, rfl, r⟩ := h2
      rw [D.py]
      rw [D.flat] at f
      exact .lst (SqL.of h1) (dps_mono g (r.dp f))
    | dic ks es =>
      have e1 : D.dic ks es = d := Option.some.inj h3
      subst e1
      rw [D.flat] at f; cases f
    | obj c' ns es =>
      have h3 : (if ns = clsNames c' then some (D.obj c' es) else none) = some d := h3
      by_cases hn : ns = clsNames c'
      · rw [if_pos hn] at h3
        have e1 : D.obj c' es = d := Option.some.inj h3
        subst e1
        rw [D.flat] at f; cases f
      · rw [if_neg hn] at h3; cases h3
/-- data that == tells -/
def okD (d : D) : Bool := d.flat && SeqAt.shaped d.py
def gEq (a b : D) : Option Bool := if okD a = true ∧ okD b = true then some (PyData.eqv a.py b.py) else none
def gNe (a b : D) : Option Bool := (gEq a b).map not
def gCmpI (f : Int → Int → Bool) : D → D → Option Bool
  | .int i, .int j => some (f i j)
  | _, _ => none
abbrev gLt := gCmpI fun i j => decide (i < j)
abbrev gLe := gCmpI fun i j => decide (i ≤ j)
abbrev gGt := gCmpI fun i j => decide (j < i)
abbrev gGe := gCmpI fun i j => decide (j ≤ i)
def D.isN : D → Bool
  | .non => true
  | _ => false
def gIsN (a b : D) : Option Bool := match b with
  | .non => some a.isN
  | _ => none
def gNotN (a b : D) : Option Bool := (gIsN a b).map not
/-- scalars -/
def D.sc : D → Bool
  | .non => true
  | .bl _ => true
  | .int _ => true
  | .str _ => true
  | _ => false
def eqS : D → D → Bool
  | .non, .non => true
  | .bl a, .bl b => a == b
  | .bl a, .int b => (if a then 1 else 0) == b
  | .int a, .bl b => a == (if b then 1 else 0)
  | .int a, .int b => a == b
  | .str a, .str b => a == b
  | _, _ => false
def keyD : D → Option Key
  | .int i => some (.inl i)
  | .str x => some (.inr x)
  | _ => none
def gIn (a : D) : D → Option Bool
  | .lst xs => if a.sc = true ∧ xs.all D.sc = true then some (xs.any fun y => eqS y a) else
      if okD a = true ∧ okD (.lst xs) = true then some (xs.any fun y => PyData.eqv y.py a.py) else none
  | .tup xs => if a.sc = true ∧ xs.all D.sc = true then some (xs.any fun y => eqS y a) else none
  | _ => none
def gNotIn (a b : D) : Option Bool := (gIn a b).map not
section
variable {X : Cx} {ct : Nat → Addr} {W : WX} {pos : Pos} {a b : Expr} {fa fb : EM Tk}
theorem opB_eq {k : Kc} : OpB k (rEqD k.K) gEq := fun G H x y a b z Q g ra rb hz q => by
  unfold gEq at hz
  split at hz
  · rename_i hc
    have h1 := hc.1
    have h2 := hc.2
    unfold okD at h1 h2
    rw [Bool.and_eq_true] at h1 h2
    cases hz
    exact ⟨_, _, ra.dp g h1.1, rb.dp g h2.1, h1.2, h2.2, q⟩
  · cases hz
theorem opB_ne {k : Kc} : OpB k (rNeD k.K) gNe := fun G H x y a b z Q g ra rb hz q => by
  unfold gNe gEq at hz
  split at hz
  · rename_i hc
    have h1 := hc.1
    have h2 := hc.2
    unfold okD at h1 h2
    rw [Bool.and_eq_true] at h1 h2
    cases hz
    exact ⟨_, _, ra.dp g h1.1, rb.dp g h2.1, h1.2, h2.2, q⟩
  · cases hz
theorem opB_I {k : Kc} {f : Int → Int → Bool} : OpB k (rI0 fun i j => .bl (f i j)) (gCmpI f) := fun G H x y a b z Q g ra rb hz q => by
  unfold gCmpI at hz
  split at hz
  · cases hz
    rw [ra.int, rb.int]
    exact ⟨_, _, rfl, rfl, q⟩
  · cases hz
theorem RB.isN {k : Kc} {G H : Hp} {v : V} {d : D} (h : RB k G H v d) : decide (v = .non) = d.isN := by
  rcases h with h | ⟨a, o, x, rfl, h1, h2, h3⟩
  · cases h <;> simp [D.isN]
  · cases x with
    | lst es => cases h3; simp [D.isN]
    | dic ks es => cases h3; simp [D.isN]
    | obj c' ns es =>
      have h3 : (if ns = clsNames c' then some (D.obj c' es) else none) = some d := h3
      by_cases hn : ns = clsNames c'
      · rw [if_pos hn] at h3; cases h3; simp [D.isN]
      · rw [if_neg hn] at h3; cases h3
theorem opB_isN {k : Kc} : OpB k (fun x y H Q => y = .non ∧ Q (.bl (decide (x = .non))) H) gIsN := fun G H x y a b z Q g ra rb hz q => by
  unfold gIsN at hz
  split at hz
  · cases hz
    exact ⟨rb.non, by rw [ra.isN]; exact q⟩
  · cases hz
theorem opB_notN {k : Kc} : OpB k (fun x y H Q => y = .non ∧ Q (.bl (!decide (x = .non))) H) gNotN := fun G H x y a b z Q g ra rb hz q => by
  unfold gNotN gIsN at hz
  split at hz
  · cases hz
    exact ⟨rb.non, by rw [ra.isN]; exact q⟩
  · cases hz
theorem Rp.sc {k : Kc} {G : Hp} {v : V} {d : D} (h : Rp k G v d) (f : d.sc = true) : flatV v = true := by
  cases h <;> first | rfl | (simp [D.sc] at f)
theorem RB.sc {k : Kc} {G H : Hp} {v : V} {d : D} (h : RB k G H v d) (f : d.sc = true) : Rp k G v d := by
  rcases h with h | ⟨a, o, x, rfl, h1, h2, h3⟩
  · exact h
  · cases x with
    | lst es => cases h3; simp [D.sc] at f
    | dic ks es => cases h3; simp [D.sc] at f
    | obj c' ns es =>
      have h3 : (if ns = clsNames c' then some (D.obj c' es) else none) = some d := h3
      by_cases hn : ns = clsNames c'
      · rw [if_pos hn] at h3; cases h3; simp [D.sc] at f
      · rw [if_neg hn] at h3; cases h3
theorem eqV_sc {k : Kc} {G : Hp} {x y : V} {a b : D} (ha : Rp k G x a) (hb : Rp k G y b) (fa : a.sc = true) (fb : b.sc = true) : eqV x y = eqS a b := by
  cases ha <;> first | (simp [D.sc] at fa; done) | (cases hb <;> first | (simp [D.sc] at fb; done) | rfl)
theorem Rps.scs {k : Kc} {G : Hp} : ∀ {vs : List V} {ds : List D}, Rps k G vs ds → ds.all D.sc = true → vs.all flatV = true
  | _, _, .nil, _ => rfl
  | _, _, .cons a b, f => by
    rw [List.all_cons, Bool.and_eq_true] at f
    rw [List.all_cons, a.sc f.1, Rps.scs b f.2]
    rfl
theorem Rps.anyS {k : Kc} {G : Hp} {x : V} {a : D} (hx : Rp k G x a) (fx : a.sc = true) : ∀ {vs : List V} {ds : List D}, Rps k G vs ds → ds.all D.sc = true → inV x vs = ds.any fun y => eqS y a
  | _, _, .nil, _ => rfl
  | _, _, .cons p q, f => by
    rw [List.all_cons, Bool.and_eq_true] at f
    unfold inV
    rw [List.any_cons, List.any_cons, eqV_sc p hx f.1 fx]
    have := Rps.anyS hx fx q f.2
    unfold inV at this
    rw [this]
theorem pys_any {p : PyData → Bool} : ∀ xs : List D, (D.pys xs).any p = xs.any fun y => p y.py
  | [] => by rw [D.pys]; rfl
  | x :: xs => by rw [D.pys, List.any_cons, List.any_cons, pys_any xs]
theorem opB_in {k : Kc} : OpB k (fun x y H Q => rIn k.K false x y H Q ∨ rInD k.K x y H Q) gIn := fun G H x y a b z Q g ra rb hz q => by
  unfold gIn at hz
  split at hz
  · split at hz
    · rename_i hc
      cases hz
      obtain ⟨p, vs, rfl, h1, r1⟩ := rb.lst g
      have rx := ra.sc hc.1
      refine .inl ⟨_, _, rfl, .inl (SqL.of h1), rx.sc hc.1, r1.scs hc.2, ?_⟩
      rw [if_neg Bool.false_ne_true, r1.anyS rx hc.1 hc.2]
      exact q
    · split at hz
      · rename_i hc
        cases hz
        have h1 := hc.1
        have h2 := hc.2
        unfold okD at h1 h2
        rw [Bool.and_eq_true] at h1 h2
        have d2 := rb.dp g h2.1
        have s2 := h2.2
        rw [D.py] at d2 s2
        refine .inr ⟨_, _, ra.dp g h1.1, d2, h1.2, s2, ?_⟩
        rw [pys_any]
        exact q
      · cases hz
  · split at hz
    · rename_i hc
      cases hz
      obtain ⟨p, vs, rfl, h1, r1, _⟩ := rb.tup g
      have rx := ra.sc hc.1
      refine .inl ⟨_, _, rfl, .inr h1, rx.sc hc.1, r1.scs hc.2, ?_⟩
      rw [if_neg Bool.false_ne_true, r1.anyS rx hc.1 hc.2]
      exact q
    · cases hz
  · cases hz
theorem opB_notIn {k : Kc} : OpB k (fun x y H Q => rIn k.K true x y H Q ∨ rNotInD k.K x y H Q) gNotIn := fun G H x y a b z Q g ra rb hz q => by
  unfold gNotIn gIn at hz
  split at hz
  · split at hz
    · rename_i hc
      cases hz
      obtain ⟨p, vs, rfl, h1, r1⟩ := rb.lst g
      have rx := ra.sc hc.1
      refine .inl ⟨_, _, rfl, .inl (SqL.of h1), rx.sc hc.1, r1.scs hc.2, ?_⟩
      rw [if_pos rfl, r1.anyS rx hc.1 hc.2]
      exact q
    · split at hz
      · rename_i hc
        cases hz
        have h1 := hc.1
        have h2 := hc.2
        unfold okD at h1 h2
        rw [Bool.and_eq_true] at h1 h2
        have d2 := rb.dp g h2.1
        have s2 := h2.2
        rw [D.py] at d2 s2
        refine .inr ⟨_, _, ra.dp g h1.1, d2, h1.2, s2, ?_⟩
        rw [pys_any]
        exact q
      · cases hz
  · split at hz
    · rename_i hc
      cases hz
      obtain ⟨p, vs, rfl, h1, r1, _⟩ := rb.tup g
      have rx := ra.sc hc.1
      refine .inl ⟨_, _, rfl, .inr h1, rx.sc hc.1, r1.scs hc.2, ?_⟩
      rw [if_pos rfl, r1.anyS rx hc.1 hc.2]
      exact q
    · cases hz
  · cases hz
end
/-- a comparison's rule: its operator, what it tells of data -/
structure CmpX (X : Cx) (ct : Nat → Addr) (op : CmpOp) (g : D → D → Option Bool) : Prop where
  ex : ∃ r, OpR X (compareOp op) r ∧ OpB ⟨X.K, ct⟩ r g
section
variable {X : Cx} {ct : Nat → Addr} {W : WX} {pos : Pos} {a b : Expr} {fa fb : EM Tk} {kk : Nat}
theorem x_eq (hr : Room kk X.A) : CmpX X ct .Eq gEq := ⟨_, op_eqD hr.units, opB_eq (k := ⟨X.K, ct⟩)⟩
theorem x_ne (hr : Room kk X.A) : CmpX X ct .NotEq gNe := ⟨_, op_neD hr.units, opB_ne (k := ⟨X.K, ct⟩)⟩
theorem x_lt : CmpX X ct .Lt gLt := ⟨_, op_lt, opB_I⟩
theorem x_le : CmpX X ct .LtE gLe := ⟨_, op_le, opB_I⟩
theorem x_gt : CmpX X ct .Gt gGt := ⟨_, op_gt, opB_I⟩
theorem x_ge : CmpX X ct .GtE gGe := ⟨_, op_ge, opB_I⟩
theorem x_isN : CmpX X ct .Is gIsN := ⟨_, op_isN, opB_isN⟩
theorem x_notN : CmpX X ct .IsNot gNotN := ⟨_, op_notN, opB_notN⟩
theorem hu65 {A : Around} (hr : Room kk A) : A.units + 65 < cLine := by have := hr.un; omega
theorem x_in (hr : Room kk X.A) : CmpX X ct .In gIn := ⟨_, op_in_seq.or (op_inD (hu65 hr)), opB_in (k := ⟨X.K, ct⟩)⟩
theorem x_notIn (hr : Room kk X.A) : CmpX X ct .NotIn gNotIn := ⟨_, op_notIn_seq.or (op_notInD (hu65 hr)), opB_notIn (k := ⟨X.K, ct⟩)⟩
theorem e_cp {op : CmpOp} {g : D → D → Option Bool} (h : CmpX X ct op g) (ha : SK X ct W a fa) (hb : SK X ct W b fb) (hm : behindInMarks op b = false) : SE X ct W (.Compare a [op] [b] pos) (cB (tCmpF g fa fb)) := by
  obtain ⟨r, h1, h2⟩ := h
  exact e_cmp h1 h2 ha hb hm
theorem t_cp {op : CmpOp} {g : D → D → Option Bool} (h : CmpX X ct op g) (ha : SK X ct W a fa) (hb : SK X ct W b fb) (hm : behindInMarks op b = false) : ST X ct W (.Compare a [op] [b] pos) (tCmpF g fa fb) := by
  obtain ⟨r, h1, h2⟩ := h
  exact t_cmp h1 h2 ha hb hm
end
/-- a op b op c -/
def tChain (g g' : D → D → Option Bool) (fa fb fc : EM Tk) : EM Bool := fun e => (fa e).bind fun t1 e1 => (fb e1).bind fun t2 e2 => match rdK e2 t1, rdK e2 t2 with
  | some a, some b => (resB (g a b) e2).bind fun z e3 => if z = true then (fc e3).bind fun t3 e4 => (match rdK e4 t2, rdK e4 t3 with
      | some b', some c' => resB (g' b' c') e4
      | _, _ => .stuck) else .ok false e3
  | _, _ => .stuck
section
variable {X : Cx} {ct : Nat → Addr} {W : WX} {pos : Pos} {a b c : Expr} {fa fb fc : EM Tk} {op op' : CmpOp} {g g' : D → D → Option Bool}
theorem t_chain (h : CmpX X ct op g) (h' : CmpX X ct op' g') (ha : SK X ct W a fa) (hb : SK X ct W b fb) (hc : SK X ct W c fc) (hm : lastMarks [op, op'] [b, c] = false := by with_unfolding_all rfl) : ST X ct W (.Compare a [op, op'] [b, c] pos) (tChain g g' fa fb fc) := by
  obtain ⟨r, h1, h2⟩ := h
  obtain ⟨r', h1', h2'⟩ := h'
  refine PTw (pt_chain h1 h1' ha hb hc hm) fun σ H Q q => ?_
  obtain ⟨cc, G, e, re, p⟩ := q
  refine two re (R := fun x y H2 => r x y H2 fun z H3 => ∃ k, z = .bl k ∧ if k = true then TK ⟨X.K, ct⟩ W fc σ H3 fun w H4 => r' y w H4 (fun v H' => ∃ k, v = .bl k ∧ Q k H') else ∃ k, V.bl false = .bl k ∧ Q k H3) p fun G2 H2 e2 t1 t2 x y s r2 hx hy p2 => ?_
  split at p2
  · rename_i d1 d2 q1 q2
    cases hz : g d1 d2 with
    | none => rw [hz] at p2; exact p2.elim
    | some z =>
      rw [hz] at p2
      refine h2 G2 H2 x y d1 d2 z _ r2.gh (.of r2 hx q1) (.of r2 hy q2) hz ⟨z, rfl, ?_⟩
      have p3 : Post ⟨X.K, ct⟩ W cc G2 σ (fun G' H' x b => Q b H') (if z = true then (fc e2).bind fun t3 e4 => (match rdK e4 t2, rdK e4 t3 with | some b', some c' => resB (g' b' c') e4 | _, _ => .stuck) else .ok false e2) := p2
      cases z with
      | false => exact ⟨false, rfl, p3.now r2⟩
      | true =>
        rw [if_pos rfl] at p3 ⊢
        refine ⟨cc, G2, e2, r2, (Post.bind p3).imp fun G4 H4 e4 t3 s4 r4 p4 w hw => ?_⟩
        split at p4
        · rename_i d3 d4 q3 q4
          cases hz' : g' d3 d4 with
          | none => rw [hz'] at p4; exact p4.elim
          | some z' =>
            rw [hz'] at p4
            exact h2' G4 H4 y w d3 d4 z' _ r4.gh (.of r4 (hy.mono s4) q3) (.of r4 hw q4) hz' ⟨z', rfl, p4.now r4⟩
        · exact p4.elim
  · exact p2.elim
theorem e_chain (h : CmpX X ct op g) (h' : CmpX X ct op' g') (ha : SK X ct W a fa) (hb : SK X ct W b fb) (hc : SK X ct W c fc) (hm : lastMarks [op, op'] [b, c] = false := by with_unfolding_all rfl) : SE X ct W (.Compare a [op, op'] [b, c] pos) (cB (tChain g g' fa fb fc)) := by
  obtain ⟨r, h1, h2⟩ := h
  obtain ⟨r', h1', h2'⟩ := h'
  refine PEw (pe_chain h1 h1' ha hb hc hm) fun σ H Q q => ?_
  obtain ⟨cc, G, e, re, p⟩ := q
  refine two re (R := fun x y H2 => r x y H2 fun z H3 => ∃ k, z = .bl k ∧ if k = true then TK ⟨X.K, ct⟩ W fc σ H3 fun w H4 => r' y w H4 Q else Q (.bl false) H3) (Post.bind p) fun G2 H2 e2 t1 t2 x y s r2 hx hy p2 => ?_
  split at p2
  · rename_i d1 d2 q1 q2
    cases hz : g d1 d2 with
    | none => rw [hz] at p2; exact p2.elim
    | some z =>
      rw [hz] at p2
      refine h2 G2 H2 x y d1 d2 z _ r2.gh (.of r2 hx q1) (.of r2 hy q2) hz ⟨z, rfl, ?_⟩
      have p3 : Post ⟨X.K, ct⟩ W cc G2 σ (fun G1 H1 e1 a => Post ⟨X.K, ct⟩ W cc G1 σ (fun G' H' x d => ∀ v, Rp ⟨X.K, ct⟩ G' v d → Q v H') (Res.ok (D.bl a) e1)) (if z = true then (fc e2).bind fun t3 e4 => (match rdK e4 t2, rdK e4 t3 with | some b', some c' => resB (g' b' c') e4 | _, _ => .stuck) else .ok false e2) := p2
      cases z with
      | false => exact (p3.now r2).now r2 _ (.bl false)
      | true =>
        rw [if_pos rfl] at p3 ⊢
        refine ⟨cc, G2, e2, r2, (Post.bind p3).imp fun G4 H4 e4 t3 s4 r4 p4 w hw => ?_⟩
        split at p4
        · rename_i d3 d4 q3 q4
          cases hz' : g' d3 d4 with
          | none => rw [hz'] at p4; exact p4.elim
          | some z' =>
            rw [hz'] at p4
            exact h2' G4 H4 y w d3 d4 z' _ r4.gh (.of r4 (hy.mono s4) q3) (.of r4 hw q4) hz' ((p4.now r4).now r4 _ (.bl z'))
        · exact p4.elim
  · exact p2.elim
end
end MM
end
section
set_option Elab.async false
set_option linter.all false
set_option autoImplicit false
set_option maxRecDepth 100000
set_option maxHeartbeats 4000000
namespace MM
open PySem PySem.Spec L2

/-! ### tests -/
def D.bool? : D → Option Bool
  | .bl b => some b
  | _ => none
/-- truth -/
def D.tru : D → Option Bool
  | .non => some false
  | .bl b => some b
  | .int i => some (i != 0)
  | .lst xs => some (!xs.isEmpty)
  | .tup xs => some (!xs.isEmpty)
  | .dic ks _ => some (!ks.isEmpty)
  | _ => none
def tVal (f : EM D) : EM Bool := fun e => (f e).bind fun d e1 => resB d.bool? e1
def tTru (f : EM Tk) : EM Bool := fun e => (f e).bind fun t e1 => match rdK e1 t with
  | some d => resB d.tru e1
  | none => .stuck
def tAndF (f g : EM Bool) : EM Bool := fun e => (f e).bind fun b e1 => if b = true then g e1 else .ok false e1
def tOrF (f g : EM Bool) : EM Bool := fun e => (f e).bind fun b e1 => if b = true then .ok true e1 else g e1
def tNotF (f : EM Bool) : EM Bool := fun e => (f e).bind fun b e1 => .ok (!b) e1
def cIf (t : EM Bool) (f g : EM D) : EM D := fun e => (t e).bind fun b e1 => if b = true then f e1 else g e1
def vIf (t : EM Bool) (f g : EM EV) : EM EV := fun e => (t e).bind fun b e1 => if b = true then f e1 else g e1
abbrev SW (X : Cx) (ct : Nat → Addr) (W : WX) (e : Expr) (f : EM Bool) : Prop := PW X e (TT ⟨X.K, ct⟩ W f)
theorem PWw {X : Cx} {e : Expr} {t t' : L2.TT} (h : PW X e t) (w : ∀ σ H Q, t' σ H Q → t σ H Q) : PW X e t' := ⟨fun wh pins s σ H Q I q => h.run wh pins s σ H Q I (w σ H Q q)⟩
section
variable {X : Cx} {ct : Nat → Addr} {W : WX} {pos : Pos} {a b c : Expr} {rest : List Expr} {f g : EM Bool} {fe ge : EM D} {fk : EM Tk} {fv gv : EM EV}
theorem t_val (h : SE X ct W a fe) (he : ∀ whole, isTrue a X.env whole = (do let v ← whole; standAt a.pos; holding [v] (truthy v)) := by intro _; rfl) : ST X ct W a (tVal fe) := PTw (pt_val h he) fun σ H Q q => by
  obtain ⟨c, G, e, r, p⟩ := q
  refine ⟨c, G, e, r, (Post.bind p).imp fun G' H' e' d s r' h v hv => ?_⟩
  cases d with
  | bl b => cases hv; exact ⟨b, rfl, h.now r'⟩
  | _ => exact h.elim
theorem RB.tru {k : Kc} {G H : Hp} {v : V} {d : D} {z : Bool} (g : Same G H) (h : RB k G H v d) (hz : d.tru = some z) : TruV k.K v H z := by
  cases d with
  | non => cases hz; rw [h.non]; rfl
  | bl b => cases hz; rw [h.bl]; rfl
  | int i => cases hz; rw [h.int]; rfl
  | str x => cases hz
  | lst xs =>
    cases hz
    obtain ⟨p, vs, rfl, h1, r1⟩ := h.lst g
    exact .inl ⟨vs, SqL.of h1, by cases r1 <;> rfl⟩
  | tup xs =>
    cases hz
    obtain ⟨p, vs, rfl, h1, r1, _⟩ := h.tup g
    exact .inr (.inl ⟨vs, h1, by cases r1 <;> rfl⟩)
  | dic ks xs =>
    cases hz
    obtain ⟨p, kvs, rfl, h1, n, _⟩ := h.dic g
    refine .inr (.inr ⟨kvs, h1, ?_⟩)
    subst n
    cases kvs <;> rfl
  | obj c xs => cases hz
  | scr ns => cases hz
  | rng _ _ => cases hz
theorem t_tru (h : SK X ct W a fk) (he : ∀ whole, isTrue a X.env whole = (do let v ← whole; standAt a.pos; holding [v] (truthy v)) := by intro _; rfl) : ST X ct W a (tTru fk) := PTw (pt_truth h he) fun σ H Q q => by
  obtain ⟨c, G, e, r, p⟩ := q
  refine ⟨c, G, e, r, (Post.bind p).imp fun G' H' e' t s r' h v hv => ?_⟩
  have h2 : Post _ W c G' σ (fun G' H' x b => Q b H') (match rdK e' t with | some d => resB d.tru e' | none => .stuck) := h
  split at h2
  · rename_i d hd
    cases hz : d.tru with
    | none => rw [hz] at h2; exact h2.elim
    | some z =>
      rw [hz] at h2
      exact ⟨z, (RB.of r' hv hd).tru r'.gh hz, h2.now r'⟩
  · exact h2.elim
theorem w_and1 (h : ST X ct W a f) : SW X ct W (.BoolOp .And [a] pos) f := pw_and1 h
theorem w_or1 (h : ST X ct W a f) : SW X ct W (.BoolOp .Or [a] pos) f := pw_or1 h
theorem w_and (h : ST X ct W a f) (h2 : SW X ct W (.BoolOp .And (b :: rest) pos) g) : SW X ct W (.BoolOp .And (a :: b :: rest) pos) (tAndF f g) := PWw (pw_and h h2) fun σ H Q q => by
  obtain ⟨c, G, e, r, p⟩ := q
  refine ⟨c, G, e, r, (Post.bind p).imp fun G' H' e' d s r' h => ?_⟩
  cases d with
  | true => exact ⟨c, G', e', r', h⟩
  | false => exact h.now r'
theorem w_or (h : ST X ct W a f) (h2 : SW X ct W (.BoolOp .Or (b :: rest) pos) g) : SW X ct W (.BoolOp .Or (a :: b :: rest) pos) (tOrF f g) := PWw (pw_or h h2) fun σ H Q q => by
  obtain ⟨c, G, e, r, p⟩ := q
  refine ⟨c, G, e, r, (Post.bind p).imp fun G' H' e' d s r' h => ?_⟩
  cases d with
  | true => exact h.now r'
  | false => exact ⟨c, G', e', r', h⟩
theorem t_w (h : SW X ct W a f) : ST X ct W a f := h.pt
theorem t_not (h : ST X ct W a f) : ST X ct W (.UnaryOp .Not a pos) (tNotF f) := PTw (pt_not h) fun σ H Q q => by
  obtain ⟨c, G, e, r, p⟩ := q
  exact ⟨c, G, e, r, (Post.bind p).imp fun G' H' e' d s r' h => h.now r'⟩
-- the same as values, of bools
theorem e_one {op : BoolOp} (h : SE X ct W a fe) : SE X ct W (.BoolOp op [a] pos) fe := pe_one h
theorem e_and (h : SE X ct W a fe) (h2 : SE X ct W (.BoolOp .And (b :: rest) pos) ge) : SE X ct W (.BoolOp .And (a :: b :: rest) pos) (cIf (tVal fe) ge (cC (.bl false))) := PEw (pe_and h h2) fun σ H Q q => by
  obtain ⟨c, G, e, r, p⟩ := q
  refine ⟨c, G, e, r, (Post.bind (Post.bind p)).imp fun G' H' e' d s r' h v hv => ?_⟩
  cases d with
  | bl b =>
    cases hv
    refine ⟨b, rfl, ?_⟩
    have h2 := h.now r'
    cases b with
    | true => exact ⟨c, G', e', r', h2⟩
    | false => exact h2.now r' _ (.bl false)
  | _ => exact h.elim
theorem e_or (h : SE X ct W a fe) (h2 : SE X ct W (.BoolOp .Or (b :: rest) pos) ge) : SE X ct W (.BoolOp .Or (a :: b :: rest) pos) (cIf (tVal fe) (cC (.bl true)) ge) := PEw (pe_or h h2) fun σ H Q q => by
  obtain ⟨c, G, e, r, p⟩ := q
  refine ⟨c, G, e, r, (Post.bind (Post.bind p)).imp fun G' H' e' d s r' h v hv => ?_⟩
  cases d with
  | bl b =>
    cases hv
    refine ⟨b, rfl, ?_⟩
    have h2 := h.now r'
    cases b with
    | false => exact ⟨c, G', e', r', h2⟩
    | true => exact h2.now r' _ (.bl true)
  | _ => exact h.elim
theorem e_not (h : SE X ct W a fe) : SE X ct W (.UnaryOp .Not a pos) (cB (tNotF (tVal fe))) := PEw (pe_not h) fun σ H Q q => by
  obtain ⟨c, G, e, r, p⟩ := q
  refine ⟨c, G, e, r, (Post.bind (Post.bind (Post.bind p))).imp fun G' H' e' d s r' h v hv => ?_⟩
  cases d with
  | bl b =>
    cases hv
    exact ⟨b, rfl, ((h.now r').now r').now r' _ (.bl _)⟩
  | _ => exact h.elim
theorem e_if (h : ST X ct W c f) (ha : SE X ct W a fe) (hb : SE X ct W b ge) : SE X ct W (.IfExp c a b pos) (cIf f fe ge) := PEw (pe_ifExp h ha hb) fun σ H Q q => by
  obtain ⟨c, G, e, r, p⟩ := q
  refine ⟨c, G, e, r, (Post.bind p).imp fun G' H' e' d s r' h => ?_⟩
  cases d with
  | true => exact ⟨c, G', e', r', h⟩
  | false => exact ⟨c, G', e', r', h⟩
theorem v_if (h : ST X ct W c f) (ha : SV X ct W a fv) (hb : SV X ct W b gv) : SV X ct W (.IfExp c a b pos) (vIf f fv gv) := PEw (pe_ifExp h ha hb) fun σ H Q q => by
  obtain ⟨c, G, e, r, p⟩ := q
  refine ⟨c, G, e, r, (Post.bind p).imp fun G' H' e' d s r' h => ?_⟩
  cases d with
  | true => exact ⟨c, G', e', r', h⟩
  | false => exact ⟨c, G', e', r', h⟩
end

/-! ### one-place operations, attributes, places -/
def vUn (g : D → Option EV) (f : EM Tk) : EM EV := fun e => (f e).bind fun t e1 => match rdK e1 t with
  | some d => resV (g d) e1
  | none => .stuck
def cUn (g : D → Option D) (f : EM Tk) : EM D := fun e => (f e).bind fun t e1 => match rdK e1 t with
  | some d => (match g d with
    | some z => .ok z e1
    | none => .stuck)
  | none => .stuck
def gNeg : D → Option D
  | .int i => some (.int (-i))
  | _ => none
def gFld (c i : Nat) : D → Option D
  | .obj c' xs => if c' = c then xs[i]? else none
  | _ => none
/-- an item -/
def gIx : D → D → Option D
  | .lst xs, .int i => atI xs i
  | .tup xs, .int i => atI xs i
  | .scr ns, .int i => (atI ns i).map D.int
  | _, _ => none
def cBin (g : D → D → Option D) (fa fb : EM Tk) : EM D := fun e => (fa e).bind fun t1 e1 => (fb e1).bind fun t2 e2 => match rdK e2 t1, rdK e2 t2 with
  | some a, some b => (match g a b with
    | some z => .ok z e2
    | none => .stuck)
  | _, _ => .stuck
theorem Rps.atI {k : Kc} {G : Hp} {vs : List V} {ds : List D} {i : Int} {d : D} (r : Rps k G vs ds) (h : atI ds i = some d) : ∃ v, L2.atI vs i = some v ∧ Rp k G v d := by
  unfold L2.atI at h ⊢
  rw [r.len]
  cases q : ixN ds.length i with
  | none => rw [q] at h; cases h
  | some j =>
    rw [q] at h
    obtain ⟨v, h1, h2⟩ := r.get h
    exact ⟨v, h1, h2⟩
theorem atI_map {α β : Type} {f : α → β} {xs : List α} {i : Int} : L2.atI (xs.map f) i = (L2.atI xs i).map f := by
  unfold L2.atI
  rw [List.length_map]
  cases ixN xs.length i with
  | none => rfl
  | some j => show (xs.map f)[j]? = _; rw [List.getElem?_map]; rfl
theorem lookup_at {α : Type} {f : Str} : ∀ {fs : List (Str × α)} {i : Nat}, (fs.map (·.1)).findIdx? (· == f) = some i → fs.lookup f = (fs.map (·.2))[i]?
  | [], i, h => by simp at h
  | (g, x) :: r, i, h => by
    rw [List.map_cons, List.findIdx?_cons] at h
    by_cases hg : (g == f) = true
    · have e1 : g = f := by simpa using hg
      subst e1
      simp at h
      subst h
      simp [List.lookup]
    · rw [if_neg hg] at h
      cases q : (r.map (·.1)).findIdx? (· == f) with
      | none => rw [q] at h; cases h
      | some j =>
        rw [q] at h
        have e1 : j + 1 = i := by simpa using h
        subst e1
        have hg' : (f == g) = false := by
          cases z : (f == g) with
          | false => rfl
          | true =>
            have : f = g := by simpa using z
            subst this
            simp at hg
        simp only [List.lookup, hg', List.map_cons, List.getElem?_cons_succ]
        exact lookup_at q
section
variable {X : Cx} {ct : Nat → Addr} {W : WX} {pos : Pos} {a b c : Expr} {fa fb : EM Tk} {f : Str}
theorem one_d {k : Kc} {g : D → Option D} {cc : Fr} {G H : Hp} {σ : L2.St} {e : Env} {fa : EM Tk} {Q : VK} {R : V → Hp → Prop} (r : RepS k cc G σ H e)
    (p : Post k W cc G σ (fun G' H' _ d => ∀ v, Rp k G' v d → Q v H') (cUn g fa e))
    (h : ∀ G2 H2 e2 x d z, Same G G2 → RepS k cc G2 σ H2 e2 → RB k G2 H2 x d → g d = some z → (∀ v, Rp k G2 v z → Q v H2) → R x H2) : TK k W fa σ H R := by
  refine ⟨cc, G, e, r, (Post.bind p).imp fun G1 H1 e1 t s1 r1 p1 x hx => ?_⟩
  split at p1
  · rename_i d hd
    split at p1
    · rename_i z hz
      exact h G1 H1 e1 x d z s1 r1 (.of r1 hx hd) hz (p1.now r1)
    · exact p1.elim
  · exact p1.elim
theorem two_d {k : Kc} {g : D → D → Option D} {cc : Fr} {G H : Hp} {σ : L2.St} {e : Env} {fa fb : EM Tk} {Q : VK} {R : V → V → Hp → Prop} (r : RepS k cc G σ H e)
    (p : Post k W cc G σ (fun G' H' _ d => ∀ v, Rp k G' v d → Q v H') (cBin g fa fb e))
    (h : ∀ G2 H2 e2 x y d d' z, Same G G2 → RepS k cc G2 σ H2 e2 → RB k G2 H2 x d → RB k G2 H2 y d' → g d d' = some z → (∀ v, Rp k G2 v z → Q v H2) → R x y H2) : TK k W fa σ H fun x H1 => TK k W fb σ H1 fun y H2 => R x y H2 := by
  refine two r p fun G2 H2 e2 t1 t2 x y s r2 hx hy p2 => ?_
  split at p2
  · rename_i d1 d2 h1 h2
    split at p2
    · rename_i z hz
      exact h G2 H2 e2 x y d1 d2 z s r2 (.of r2 hx h1) (.of r2 hy h2) hz (p2.now r2)
    · exact p2.elim
  · exact p2.elim
theorem e_neg (ha : SK X ct W a fa) : SE X ct W (.UnaryOp .USub a pos) (cUn gNeg fa) := PEw (pe_un un_neg ha) fun σ H Q q => by
  obtain ⟨cc, G, e, r, p⟩ := q
  refine one_d r p fun G2 H2 e2 x d z s r2 hx hz q2 => ?_
  unfold gNeg at hz
  split at hz
  · cases hz
    rw [hx.int]
    exact ⟨_, rfl, q2 _ (.int _)⟩
  · cases hz
/-- the attribute that stands at the i-th place of the class's -/
theorem e_fld (cc i : Nat) (ha : SK X ct W a fa) (hi : (clsNames cc).findIdx? (· == f) = some i) (hc : Cls X.K (ct cc)) (hn : NoAttr X.K (ct cc) f) (hb : attributeBase a f X.env (eval a X.env) = eval a X.env := by rfl) : SE X ct W (.Attribute a f pos) (cUn (gFld cc i) fa) := PEw (pe_fld ha hb) fun σ H Q q => by
  obtain ⟨c0, G, e, r, p⟩ := q
  refine one_d r p fun G2 H2 e2 x d z s r2 hx hz q2 => ?_
  unfold gFld at hz
  split at hz
  · split at hz
    · rename_i he
      subst he
      obtain ⟨p1, dx, fs, rfl, h1, n, r1⟩ := hx.obj r2.gh
      obtain ⟨v, h3, h4⟩ := r1.get hz
      exact ⟨p1, _, dx, fs, v, rfl, h1, hc, hn, (lookup_at (by rw [n]; exact hi)).trans h3, q2 v h4⟩
    · cases hz
  · cases hz
theorem e_ix (ha : SK X ct W a fa) (hb : SK X ct W b fb) (hs : PlainIx b := by exact fun _ _ => rfl) : SE X ct W (.Subscript a b pos) (cBin gIx fa fb) := PEw (pe_ix ix_seq ha hb hs) fun σ H Q q => by
  obtain ⟨c0, G, e, r, p⟩ := q
  refine two_d r p fun G2 H2 e2 x y d d' z s r2 hx hy hz q2 => ?_
  unfold gIx at hz
  split at hz
  · obtain ⟨p1, vs, rfl, h1, r1⟩ := hx.lst r2.gh
    rw [hy.int]
    obtain ⟨v, h3, h4⟩ := r1.atI hz
    exact .inl ⟨_, _, _, v, rfl, rfl, SqL.of h1, h3, q2 v h4⟩
  · obtain ⟨p1, vs, rfl, h1, r1, _⟩ := hx.tup r2.gh
    rw [hy.int]
    obtain ⟨v, h3, h4⟩ := r1.atI hz
    exact .inr (.inl ⟨_, _, _, v, rfl, rfl, h1, h3, q2 v h4⟩)
  · rename_i ns i
    obtain ⟨p1, rfl, h1⟩ := hx.scr r2.gh
    rw [hy.int]
    cases hq : L2.atI ns i with
    | none => rw [hq] at hz; cases hz
    | some n =>
      rw [hq] at hz
      cases hz
      exact .inl ⟨_, _, _, .int n, rfl, rfl, h1, by rw [atI_map, hq]; rfl, q2 _ (.int n)⟩
  · cases hz
end

/-! ### argument lists, displays -/
def aNil : EM (List Tk) := fun e => .ok [] e
def aCons (f : EM Tk) (g : EM (List Tk)) : EM (List Tk) := fun e => (f e).bind fun t e1 => (g e1).bind fun ts e2 => .ok (t :: ts) e2
/-- all of them data -/
def vals : List Tk → Option (List D)
  | [] => some []
  | .val d :: ts => (vals ts).map (d :: ·)
  | .slot _ :: _ => none
def cTup (f : EM (List Tk)) : EM D := fun e => (f e).bind fun ts e1 => match vals ts with
  | some ds => if ds.length ≤ LIM then .ok (.tup ds) e1 else .stuck
  | none => .stuck
def vLst (f : EM (List Tk)) : EM EV := fun e => (f e).bind fun ts e1 => match vals ts with
  | some ds => if ds.length ≤ LIM then .ok (.m (.lst ds)) e1 else .stuck
  | none => .stuck
theorem vals_ok {k : Kc} {G : Hp} {σ : L2.St} : ∀ {ts : List Tk} {ds : List D} {vs : List V}, vals ts = some ds → RpKs k G σ vs ts → Rps k G vs ds
  | [], _, [], h, _ => by cases h; exact .nil
  | .val d :: ts, ds, v :: vs, h, q => by
    have h' : (vals ts).map (d :: ·) = some ds := h
    cases z : vals ts with
    | none => rw [z] at h'; cases h'
    | some es =>
      rw [z] at h'
      cases h'
      exact .cons q.1 (vals_ok z q.2)
  | .slot _ :: _, _, _, h, _ => by cases h
  | [], _, _ :: _, _, q => q.elim
  | .val _ :: _, _, [], _, q => q.elim
section
variable {X : Cx} {ct : Nat → Addr} {W : WX} {pos : Pos} {a : Expr} {es : List Expr} {fa : EM Tk} {fs : EM (List Tk)} {n : Nat}
theorem a_nil : SA X ct W [] aNil := PAw pa_nil fun σ H Q q => by
  obtain ⟨c, G, e, r, p⟩ := q
  exact p.now r [] trivial
theorem a_cons (ha : SK X ct W a fa) (hs : SA X ct W es fs) (hst : starEach (a :: es) X.env = (false, eval a X.env) :: starEach es X.env := by rfl) : SA X ct W (a :: es) (aCons fa fs) := PAw (pa_cons ha hs hst) fun σ H Q q => by
  obtain ⟨c, G, e, r, p⟩ := q
  refine ⟨c, G, e, r, (Post.bind p).imp fun G1 H1 e1 t s1 r1 p1 x hx => ⟨c, G1, e1, r1, (Post.bind p1).imp fun G2 H2 e2 ts s2 r2 p2 xs hxs => ?_⟩⟩
  exact p2.now r2 (x :: xs) ⟨hx.mono s2, hxs⟩
theorem e_tup (h : SA X ct W es fs) : SE X ct W (.Tuple es n pos) (cTup fs) := PEw (pe_tup h) fun σ H Q q => by
  obtain ⟨c, G, e, r, p⟩ := q
  refine ⟨c, G, e, r, (Post.bind p).imp fun G1 H1 e1 ts s1 r1 p1 vs hvs => ?_⟩
  split at p1
  · rename_i ds hd
    split at p1
    · rename_i hl
      have rr := vals_ok hd hvs
      refine ⟨by rw [rr.len]; exact lim_le hl, fin_tup r1 rr fun G' H' v s' r' hv => p1 G' H' s' r' v hv⟩
    · exact p1.elim
  · exact p1.elim
theorem v_lst (h : SA X ct W es fs) : SV X ct W (.List es pos) (vLst fs) := PEw (pe_lst h) fun σ H Q q => by
  obtain ⟨c, G, e, r, p⟩ := q
  refine ⟨c, G, e, r, (Post.bind p).imp fun G1 H1 e1 ts s1 r1 p1 vs hvs => ?_⟩
  split at p1
  · rename_i ds hd
    split at p1
    · rename_i hl
      have rr := vals_ok hd hvs
      refine ⟨by rw [rr.len]; exact lim_le hl, fin_lst r1 rr fun G' H' v s' r' hv => p1 G' H' s' r' v hv⟩
    · exact p1.elim
  · exact p1.elim
end

/-! ### slices -/
abbrev EO := EM (Option Int)
def oNone : EO := fun e => .ok none e
def oSome (f : EM Tk) : EO := fun e => (f e).bind fun t e1 => match rdK e1 t with
  | some (.int i) => .ok (some i) e1
  | _ => .stuck
def TO' (k : Kc) (W : WX) (f : EO) : L2.TO := fun σ H Q => ∃ c G e, RepS k c G σ H e ∧ Post k W c G σ (fun G' H' _ o => Q o H') (f e)
abbrev SO (X : Cx) (ct : Nat → Addr) (W : WX) (e : Option Expr) (f : EO) : Prop := PO X e (TO' ⟨X.K, ct⟩ W f)
def cutD (xs : List D) (lo hi : Option Int) : List D := (xs.drop (HT.sIx xs.length 0 lo)).take (HT.sIx xs.length xs.length hi - HT.sIx xs.length 0 lo)
def gSl (d : D) (lo hi : Option Int) : Option EV := match d with
  | .lst xs => some (.m (.lst (cutD xs lo hi)))
  | .tup xs => some (.d (.tup (cutD xs lo hi)))
  | _ => none
def vSl (f : EM Tk) (fl fh : EO) : EM EV := fun e => (f e).bind fun t e1 => (fl e1).bind fun lo e2 => (fh e2).bind fun hi e3 => match rdK e3 t with
  | some d => resV (gSl d lo hi) e3
  | none => .stuck
section
variable {X : Cx} {ct : Nat → Addr} {W : WX} {pos p2 : Pos} {a : Expr} {fa : EM Tk} {lo hi : Option Expr} {fl fh : EO}
theorem POw {e : Option Expr} {t t' : L2.TO} (h : PO X e t) (w : ∀ σ H Q, t' σ H Q → t σ H Q) : PO X e t' := ⟨fun pins s σ H Q I q => h.run pins s σ H Q I (w σ H Q q)⟩
theorem o_none : SO X ct W none oNone := POw po_none fun σ H Q q => by
  obtain ⟨c, G, e, r, p⟩ := q
  exact p.now r
theorem o_some (h : SK X ct W a fa) : SO X ct W (some a) (oSome fa) := POw (po_some h) fun σ H Q q => by
  obtain ⟨c, G, e, r, p⟩ := q
  refine ⟨c, G, e, r, (Post.bind p).imp fun G1 H1 e1 t s1 r1 p1 x hx => ?_⟩
  split at p1
  · rename_i i hi
    exact ⟨i, (RB.of r1 hx hi).int, p1.now r1⟩
  · exact p1.elim
theorem Rps.cut {k : Kc} {G : Hp} {vs : List V} {ds : List D} (r : Rps k G vs ds) (lo hi : Option Int) : Rps k G (cutV vs lo hi) (cutD ds lo hi) := by
  unfold cutV cutD
  rw [r.len]
  exact (r.drop _).take _
theorem v_slice (ha : SK X ct W a fa) (hl : SO X ct W lo fl) (hh : SO X ct W hi fh) : SV X ct W (.Subscript a (.Slice lo hi none p2) pos) (vSl fa fl fh) := PEw (pe_slice (sl_list.or sl_tupA) ha hl hh) fun σ H Q q => by
  obtain ⟨c, G, e, r, p⟩ := q
  refine ⟨c, G, e, r, (Post.bind p).imp fun G1 H1 e1 t s1 r1 p1 x hx => ⟨c, G1, e1, r1, (Post.bind p1).imp fun G2 H2 e2 l s2 r2 p2 => ⟨c, G2, e2, r2, (Post.bind p2).imp fun G3 H3 e3 h s3 r3 p3 => ?_⟩⟩⟩
  split at p3
  · rename_i d hd
    have hr := RB.of r3 ((hx.mono s2).mono s3) hd
    cases d with
    | lst xs =>
      obtain ⟨p1, vs, rfl, h1, rr⟩ := hr.lst r3.gh
      exact .inl ⟨_, _, rfl, SqL.of h1, fin_lst r3 (rr.cut l h) fun G' H' v s' r' hv => p3 G' H' s' r' v hv⟩
    | tup xs =>
      obtain ⟨p1, vs, rfl, h1, rr, h2⟩ := hr.tup r3.gh
      refine .inr ⟨_, _, rfl, h1, fun hw => ?_, fun _ => fin_tup r3 (rr.cut l h) fun G' H' v s' r' hv => p3 G' H' s' r' v hv⟩
      have e1 : cutD xs l h = xs := by
        unfold cutD
        rw [rr.len] at hw
        rw [hw.1, hw.2, List.drop_zero, Nat.sub_zero, List.take_length]
      refine p3 G3 H3 (Same.refl _) r3 _ ?_
      show Rp _ _ _ (.tup (cutD xs l h))
      rw [e1]
      exact .tup h2 rr
    | _ => exact p3.elim
  · exact p3.elim
end

/-! ### calls of what is built in -/
def vCallB (g : List D → Option EV) (f : EM (List Tk)) : EM EV := fun e => (f e).bind fun ts e1 => match rdKs e1 ts with
  | some ds => resV (g ds) e1
  | none => .stuck
/-- a built-in's call gives what g says of data -/
def CallG (k : Kc) (r : List V → Hp → VK → Prop) (g : List D → Option EV) : Prop := ∀ (c : Fr) (G H : Hp) (σ : L2.St) (e : Env) (xs : List V) (ds : List D) (z : EV) (Q : VK), RepS k c G σ H e → RBs k G H xs ds → g ds = some z →
  (∀ G' H' v, Same G G' → RepS k c G' σ H' e → RpV k c G' σ H' e v z → Q v H') → r xs H Q
section
variable {X : Cx} {ct : Nat → Addr} {W : WX} {pos p : Pos} {a : Expr} {es : List Expr} {fa : EM Tk} {fs : EM (List Tk)} {x : Str} {id T : String} {r : List V → Hp → VK → Prop} {g : List D → Option EV}
theorem callG_ok {Q : VK} (hg : CallG ⟨X.K, ct⟩ r g) (σ : L2.St) (H : Hp) (q : TV ⟨X.K, ct⟩ W (vCallB g fs) σ H Q) : tCB r (TA ⟨X.K, ct⟩ W fs) σ H Q := by
  obtain ⟨c, G, e, re, p⟩ := q
  refine ⟨c, G, e, re, (Post.bind p).imp fun G1 H1 e1 ts s1 r1 p1 vs hvs => ?_⟩
  split at p1
  · rename_i ds hd
    cases hz : g ds with
    | none => rw [hz] at p1; exact p1.elim
    | some z =>
      rw [hz] at p1
      exact hg c G1 H1 σ e1 vs ds z Q r1 (.of r1 hvs hd) hz fun G' H' v s' r' hv => p1 G' H' s' r' v hv
  · exact p1.elim
theorem v_callB (hc : CallR X (.builtin id) r) (hG : CallG ⟨X.K, ct⟩ r g) (hg : Gl X x) (hm : X.mg x = none) (hv : bootBuiltins x = some (.builtin id)) (ha : SA X ct W (a :: es) fs) (hn : x ≠ "__name__" := by decide) (hdb : (x == ("__debug__" : Str)) = false := by decide)
    (he : starEach (a :: es) X.env = (false, eval a X.env) :: starEach es X.env := by rfl) (hpl : (backTo pos (starEach es X.env)).any (·.1) = false := by rfl) : SV X ct W (.Call (.Name x p) (a :: es) [] pos) (vCallB g fs) :=
  PEw (pe_callB hc hg hm hv ha hn hdb he hpl) fun σ H Q q => callG_ok hG σ H q
theorem v_callTy (hc : CallR X (.type T) r) (hG : CallG ⟨X.K, ct⟩ r g) (hg : Gl X x) (hm : X.mg x = none) (hv : bootBuiltins x = some (.type T)) (ha : SA X ct W (a :: es) fs) (hn : x ≠ "__name__" := by decide) (hdb : (x == ("__debug__" : Str)) = false := by decide)
    (he : starEach (a :: es) X.env = (false, eval a X.env) :: starEach es X.env := by rfl) (hpl : (backTo pos (starEach es X.env)).any (·.1) = false := by rfl) : SV X ct W (.Call (.Name x p) (a :: es) [] pos) (vCallB g fs) :=
  PEw (pe_callTy hc hg hm hv ha hn hdb he hpl) fun σ H Q q => callG_ok hG σ H q
end
end MM
end
section
set_option Elab.async false
set_option linter.all false
set_option autoImplicit false
set_option maxRecDepth 100000
set_option maxHeartbeats 4000000
namespace MM
open PySem PySem.Spec L2

/-! ### iterators of tuples over lists and tuples -/
section
variable {P : Program} {w : World} {K : PySem.W.Frag} {elts : List Expr} {kk : Nat} {tpos : Pos}
/-- a walk of tuples, at each state, makes a Turn -/
theorem turn_walksT {own : List Addr} {z : Addr} {J : It} {tn : Nat → Heap → Prop} (mem : z ∈ own) (obj : ∀ i h, tn i h → ∀ b ∈ own, ∃ o, h.get? b = some o ∧ ∀ v, o.data ≠ .cell v)
    (keep : ∀ i h h', tn i h → (∀ b ∈ own, ∀ o, h.get? b = some o → h'.get? b = some o) → tn i h')
    (self : ∀ (A : Around) (i : Nat) (s : Shared) (Q : Value → Shared → Prop) (E : Value → Shared → Prop), tn i s.heap → Q (.ref z) s → wpAny (model P w) A (pyIter (.ref z)) Q E s)
    (walk : ∀ (X : Cx), X.prog = P → X.w = w → X.K = K → X.A.handled = none → ∀ (pins : List (Addr × Obj)) (s : Shared) (σ : L2.St) (H : Hp) (i : Nat), Inv X pins σ H s → tn i s.heap → (J.go i H ∨ J.stop i H) →
      ∃ (fpw wr : List Addr) (m : Nat) (Pt : Nat → Array Value → Prop) (St : Nat → Heap → Prop) (Mid : Nat → Addr → Heap → Prop), WalksT P w X.A z fpw wr m Pt St Mid ∧ (∀ b ∈ wr, b ∈ own) ∧ St i s.heap ∧
        (J.go i H → i < m ∧ ∀ vals, Pt i vals → ∃ xs : List V, Vals xs vals.toList ∧ xs.length ≤ sizeLine ∧ ∀ T, H T = none → J.yld i H (.ref T) (upd H T (.tup xs))) ∧ (J.stop i H → m = i) ∧ (∀ h', St (i + 1) h' → tn (i + 1) h')) :
    Turn P w K (.Tuple elts kk tpos) J own z tn where
  mem := mem
  obj := obj
  keep := keep
  item := by
    intro X hP hw hK hc i pins s σ H E I hf st hg
    obtain ⟨fpw, wr, m, Pt, St, Mid, W, sub, hst, go, _, nxt⟩ := walk X hP hw hK (I.ok.hd hc) pins s σ H i I st (.inl hg)
    obtain ⟨hi, hv⟩ := go hg
    refine W.item i s _ _ hi hst fun T vals h' tk hp hT hTup hm hk => ⟨_, rfl, W.go elts kk tpos i T _ _ _ hm fun h'' st'' hk2 => ?_⟩
    obtain ⟨xs, rv, hz, yl⟩ := hv vals hp
    have hn : H T = none := I.hok.fresh hT
    have hTup2 : h''.IsTuple T vals := hTup.at fun o e => hk2 T o (W.apart _ _ _ hm) e
    have kk' : ∀ b o, b ∉ own → s.heap.get? b = some o → h''.get? b = some o := fun b o hb e => hk2 b o (fun q => hb (sub b q)) (hk b o (fun q => hb (sub b q)) e)
    have I1 : Inv X pins σ (upd H T (.tup xs)) { s with heap := h'', toks := tk } := I.turnedNew (t' := tk) (ch := own) kk' hf hT ⟨hz, vals.toList, rv, by rw [Array.toArray_toList]; exact hTup2⟩
    refine ⟨.ref T, _, I1, rfl, yl T hn, nxt _ st'', fun b hb => ?_⟩
    obtain ⟨o, e, _⟩ := obj i s.heap st b hb
    rw [upd_ne (Nat.ne_of_lt (Nat.lt_of_lt_of_le (Heap.lt_size e) hT))]
    exact (hf b hb).1
  done := by
    intro X hP hw hK hc i pins s σ H E I hf st hg
    obtain ⟨fpw, wr, m, Pt, St, Mid, W, sub, hst, _, stop, _⟩ := walk X hP hw hK (I.ok.hd hc) pins s σ H i I st (.inr hg)
    have em := stop hg
    subst em
    exact W.done s _ _ hst fun h' tk hk => ⟨rfl, I.turnedL (t' := tk) (ch := own) (fun b o hb e => hk b o (fun q => hb (sub b q)) e) hf⟩
  self := self
end
/-- a list or a tuple -/
inductive SrcK where
  | l | t
def SrcK.ob (a : Addr) : SrcK → Obj
  | .l => { cls := .type "list_iterator", data := .fields #[.ref a, .int 0 0] }
  | .t => { cls := .type "tuple_iterator", data := .fields #[.ref a, .int 0 0] }
def SrcK.it (h : Heap) (it a : Addr) (i : Nat) : SrcK → Prop
  | .l => h.IsListIter it a i
  | .t => h.IsTupleIter it a i
def SrcK.at_ (h : Heap) (a : Addr) (its : Array Value) : SrcK → Prop
  | .l => h.IsList a its
  | .t => h.IsTuple a its
def SrcK.sq (K : PySem.W.Frag) (H : Hp) (a : Addr) (xs : List V) : SrcK → Prop
  | .l => SqL K H a xs
  | .t => SqT K H a xs
section
variable {P : Program} {w : World} {A : Around} {kd : SrcK} {it a : Addr} {its : Array Value} {i : Nat} {h h' : Heap} {X : Cx} {pins : List (Addr × Obj)} {σ : L2.St} {H H' : Hp} {s : Shared} {xs : List V}
theorem SrcK.draws (hh : A.handled = none) (hne : a ≠ it) : Draws P w A it [it, a] its.size (fun i v => its[i]? = some v) (fun i h => kd.it h it a i ∧ kd.at_ h a its) := by
  cases kd with
  | l => exact Draws.list hh it a hne its
  | t => exact Draws.tuple hh it a hne its
theorem SrcK.begins : Begins (.ref a) (kd.ob a) fun h => kd.at_ h a its := by
  cases kd with
  | l => exact begins_list a its
  | t => exact begins_tuple a its
theorem SrcK.read (I : Inv X pins σ H s) (q : kd.sq X.K H a xs) : ∃ us : List Value, Vals xs us ∧ kd.at_ s.heap a us.toArray ∧ xs.length ≤ sizeLine := by
  cases kd with
  | l => obtain ⟨us, r, p, z⟩ := I.list q; exact ⟨us, r, p.isList, z⟩
  | t => obtain ⟨us, r, p, z⟩ := I.tuple q; exact ⟨us, r, p, z⟩
theorem SrcK.lt (q : kd.at_ h a its) : a < h.objs.size := by
  cases kd with
  | l => obtain ⟨o, n, e, _⟩ : ∃ (o : Obj) (n : Unit), h.get? a = some o ∧ True := (let ⟨o, z⟩ := q; ⟨o, (), by first | exact z.1 | exact z.2.1, trivial⟩); exact Heap.lt_size e
  | t => obtain ⟨o, e, _⟩ := q; exact Heap.lt_size e
theorem SrcK.obj (q : kd.it h it a i) : ∃ o, h.get? it = some o ∧ ∀ v, o.data ≠ .cell v := by
  cases kd with
  | l => obtain ⟨o, e, c, d⟩ := q; exact ⟨o, e, fun v z => by rw [d] at z; cases z⟩
  | t => obtain ⟨o, e, c, d⟩ := q; exact ⟨o, e, fun v z => by rw [d] at z; cases z⟩
theorem SrcK.stay (q : kd.it h it a i) (k : ∀ o, h.get? it = some o → h'.get? it = some o) : kd.it h' it a i := by
  cases kd with
  | l => exact Heap.IsListIter.at q k
  | t => exact Heap.IsTupleIter.at q k
theorem SrcK.first (e : h.get? it = some (kd.ob a)) : kd.it h it a 0 := by
  cases kd with
  | l => exact ⟨_, e, rfl, rfl⟩
  | t => exact ⟨_, e, rfl, rfl⟩
theorem SrcK.mono {K : PySem.W.Frag} (q : kd.sq K H a xs) (e : Same H H') : kd.sq K H' a xs := by
  cases kd with
  | l => exact e.seq q
  | t => exact seqT e q
end
/-- zip(xs, ys): while G stands -/
def Jz2 (G : Hp) (xs ys : List V) : It :=
  ⟨fun i H => Same G H ∧ i < min xs.length ys.length, fun i H v H' => ∃ T x y, v = .ref T ∧ H T = none ∧ H' = upd H T (.tup [x, y]) ∧ xs[i]? = some x ∧ ys[i]? = some y, fun i H => Same G H ∧ i = min xs.length ys.length⟩
def Jz3 (G : Hp) (xs ys zs : List V) : It :=
  ⟨fun i H => Same G H ∧ i < min (min xs.length ys.length) zs.length, fun i H v H' => ∃ T x y z, v = .ref T ∧ H T = none ∧ H' = upd H T (.tup [x, y, z]) ∧ xs[i]? = some x ∧ ys[i]? = some y ∧ zs[i]? = some z, fun i H => Same G H ∧ i = min (min xs.length ys.length) zs.length⟩
def Jen (G : Hp) (xs : List V) : It :=
  ⟨fun i H => Same G H ∧ i < xs.length, fun i H v H' => ∃ T y, v = .ref T ∧ H T = none ∧ H' = upd H T (.tup [.int (i : Int), y]) ∧ xs[i]? = some y, fun i H => Same G H ∧ i = xs.length⟩
theorem size2 : (2 : Nat) ≤ sizeLine := by rw [sizeLine_eq]; decide
theorem size3 : (3 : Nat) ≤ sizeLine := by rw [sizeLine_eq]; decide
section
variable {P : Program} {w : World} {K : PySem.W.Frag} {elts : List Expr} {kk : Nat} {tpos : Pos} {k1 k2 k3 : SrcK} {a b c z TI TO i1 i2 i3 e : Addr} {G : Hp} {xs ys zs : List V}
theorem turn_z2 (S : ZipSep2 z TI TO i1 i2 [i1, a] [i2, b]) (n1 : a ≠ i1) (n2 : b ≠ i2) (q1 : k1.sq K G a xs) (q2 : k2.sq K G b ys) :
    Turn P w K (.Tuple elts kk tpos) (Jz2 G xs ys) [z, TI, TO, i1, i2] z (fun i h => IsZip h z TI TO .none ∧ IsTupOf2 h TI (.ref i1) (.ref i2) ∧ (∃ x y, IsTupOf2 h TO x y) ∧ k1.it h i1 a i ∧ k2.it h i2 b i) := by
  refine turn_walksT (by simp) (fun i h st b hb => ?_) (fun i h h' st k => ?_) (fun A i s Q E st hq => wpAny_pyIter_zip st.1 hq) (fun X hP hw hK hh pins s σ H i I st hg => ?_)
  · obtain ⟨hz, hTI, ⟨x, y, hTO⟩, h1, h2⟩ := st
    have e' : b = z ∨ b = TI ∨ b = TO ∨ b = i1 ∨ b = i2 := by simpa using hb
    rcases e' with q | q | q | q | q
    · rw [q]; exact ⟨_, hz, fun v q => nomatch q⟩
    · rw [q]; exact ⟨_, hTI, fun v q => nomatch q⟩
    · rw [q]; exact ⟨_, hTO, fun v q => nomatch q⟩
    · rw [q]; exact SrcK.obj h1
    · rw [q]; exact SrcK.obj h2
  · obtain ⟨hz, hTI, ⟨x, y, hTO⟩, h1, h2⟩ := st
    exact ⟨k z (by simp) _ hz, k TI (by simp) _ hTI, ⟨x, y, k TO (by simp) _ hTO⟩, SrcK.stay h1 fun o q => k i1 (by simp) o q, SrcK.stay h2 fun o q => k i2 (by simp) o q⟩
  · subst hP hw hK
    have sG : Same G H := by rcases hg with q | q <;> exact q.1
    obtain ⟨us1, r1, p1, z1⟩ := SrcK.read I (SrcK.mono q1 sG)
    obtain ⟨us2, r2, p2, z2⟩ := SrcK.read I (SrcK.mono q2 sG)
    obtain ⟨hz, hTI, hTO, h1, h2⟩ := st
    have l1 := r1.length
    have l2 := r2.length
    refine ⟨_, _, _, _, _, _, WalksT.zipD2 S (SrcK.draws (kd := k1) (its := us1.toArray) (by exact hh) n1) (SrcK.draws (kd := k2) (its := us2.toArray) (by exact hh) n2), fun b hb => ?_, ⟨hz, hTI, hTO, ⟨h1, p1⟩, ⟨h2, p2⟩⟩, fun q => ⟨?_, fun vals hp => ?_⟩, fun q => ?_, fun h' st => ?_⟩
    · have e' : b = z ∨ b = TO ∨ b = i1 ∨ b = i2 := by simpa using hb
      rcases e' with q | q | q | q <;> simp [q]
    · have : i < min xs.length ys.length := q.2
      simp only [List.size_toArray]
      omega
    · obtain ⟨v1, v2, g1, g2, ev⟩ := hp
      have lt1 : i < xs.length := by have : i < min xs.length ys.length := q.2; omega
      have lt2 : i < ys.length := by have : i < min xs.length ys.length := q.2; omega
      obtain ⟨u1, e1, rv1⟩ := r1.get (List.getElem?_eq_getElem lt1)
      obtain ⟨u2, e2, rv2⟩ := r2.get (List.getElem?_eq_getElem lt2)
      have g1' : us1[i]? = some v1 := by simpa using g1
      have g2' : us2[i]? = some v2 := by simpa using g2
      rw [e1] at g1'
      rw [e2] at g2'
      cases g1'
      cases g2'
      subst ev
      exact ⟨[xs[i], ys[i]], .cons rv1 (.cons rv2 .nil), size2, fun T hT => ⟨T, _, _, rfl, hT, rfl, List.getElem?_eq_getElem lt1, List.getElem?_eq_getElem lt2⟩⟩
    · have : i = min xs.length ys.length := q.2
      simp only [List.size_toArray]
      omega
    · exact ⟨st.1, st.2.1, st.2.2.1, st.2.2.2.1.1, st.2.2.2.2.1⟩
theorem turn_z3 (S : ZipSep3 z TI TO i1 i2 i3 [i1, a] [i2, b] [i3, c]) (n1 : a ≠ i1) (n2 : b ≠ i2) (n3 : c ≠ i3) (q1 : k1.sq K G a xs) (q2 : k2.sq K G b ys) (q3 : k3.sq K G c zs) :
    Turn P w K (.Tuple elts kk tpos) (Jz3 G xs ys zs) [z, TI, TO, i1, i2, i3] z (fun i h => IsZip h z TI TO .none ∧ IsTupOf3 h TI (.ref i1) (.ref i2) (.ref i3) ∧ (∃ x y u, IsTupOf3 h TO x y u) ∧ k1.it h i1 a i ∧ k2.it h i2 b i ∧ k3.it h i3 c i) := by
  refine turn_walksT (by simp) (fun i h st b hb => ?_) (fun i h h' st k => ?_) (fun A i s Q E st hq => wpAny_pyIter_zip st.1 hq) (fun X hP hw hK hh pins s σ H i I st hg => ?_)
  · obtain ⟨hz, hTI, ⟨x, y, u, hTO⟩, h1, h2, h3⟩ := st
    have e' : b = z ∨ b = TI ∨ b = TO ∨ b = i1 ∨ b = i2 ∨ b = i3 := by simpa using hb
    rcases e' with q | q | q | q | q | q
    · rw [q]; exact ⟨_, hz, fun v q => nomatch q⟩
    · rw [q]; exact ⟨_, hTI, fun v q => nomatch q⟩
    · rw [q]; exact ⟨_, hTO, fun v q => nomatch q⟩
    · rw [q]; exact SrcK.obj h1
    · rw [q]; exact SrcK.obj h2
    · rw [q]; exact SrcK.obj h3
  · obtain ⟨hz, hTI, ⟨x, y, u, hTO⟩, h1, h2, h3⟩ := st
    exact ⟨k z (by simp) _ hz, k TI (by simp) _ hTI, ⟨x, y, u, k TO (by simp) _ hTO⟩, SrcK.stay h1 fun o q => k i1 (by simp) o q, SrcK.stay h2 fun o q => k i2 (by simp) o q, SrcK.stay h3 fun o q => k i3 (by simp) o q⟩
  · subst hP hw hK
    have sG : Same G H := by rcases hg with q | q <;> exact q.1
    obtain ⟨us1, r1, p1, z1⟩ := SrcK.read I (SrcK.mono q1 sG)
    obtain ⟨us2, r2, p2, z2⟩ := SrcK.read I (SrcK.mono q2 sG)
    obtain ⟨us3, r3, p3, z3⟩ := SrcK.read I (SrcK.mono q3 sG)
    obtain ⟨hz, hTI, hTO, h1, h2, h3⟩ := st
    have l1 := r1.length
    have l2 := r2.length
    have l3 := r3.length
    refine ⟨_, _, _, _, _, _, WalksT.zipD3 S (SrcK.draws (kd := k1) (its := us1.toArray) (by exact hh) n1) (SrcK.draws (kd := k2) (its := us2.toArray) (by exact hh) n2) (SrcK.draws (kd := k3) (its := us3.toArray) (by exact hh) n3), fun b hb => ?_, ⟨hz, hTI, hTO, ⟨h1, p1⟩, ⟨h2, p2⟩, ⟨h3, p3⟩⟩, fun q => ⟨?_, fun vals hp => ?_⟩, fun q => ?_, fun h' st => ?_⟩
    · have e' : b = z ∨ b = TO ∨ b = i1 ∨ b = i2 ∨ b = i3 := by simpa using hb
      rcases e' with q | q | q | q | q <;> simp [q]
    · have : i < min (min xs.length ys.length) zs.length := q.2
      simp only [List.size_toArray]
      omega
    · obtain ⟨v1, v2, v3, g1, g2, g3, ev⟩ := hp
      have lt1 : i < xs.length := by have : i < min (min xs.length ys.length) zs.length := q.2; omega
      have lt2 : i < ys.length := by have : i < min (min xs.length ys.length) zs.length := q.2; omega
      have lt3 : i < zs.length := by have : i < min (min xs.length ys.length) zs.length := q.2; omega
      obtain ⟨u1, e1, rv1⟩ := r1.get (List.getElem?_eq_getElem lt1)
      obtain ⟨u2, e2, rv2⟩ := r2.get (List.getElem?_eq_getElem lt2)
      obtain ⟨u3, e3, rv3⟩ := r3.get (List.getElem?_eq_getElem lt3)
      have g1' : us1[i]? = some v1 := by simpa using g1
      have g2' : us2[i]? = some v2 := by simpa using g2
      have g3' : us3[i]? = some v3 := by simpa using g3
      rw [e1] at g1'
      rw [e2] at g2'
      rw [e3] at g3'
      cases g1'
      cases g2'
      cases g3'
      subst ev
      exact ⟨[xs[i], ys[i], zs[i]], .cons rv1 (.cons rv2 (.cons rv3 .nil)), size3, fun T hT => ⟨T, _, _, _, rfl, hT, rfl, List.getElem?_eq_getElem lt1, List.getElem?_eq_getElem lt2, List.getElem?_eq_getElem lt3⟩⟩
    · have : i = min (min xs.length ys.length) zs.length := q.2
      simp only [List.size_toArray]
      omega
    · exact ⟨st.1, st.2.1, st.2.2.1, st.2.2.2.1.1, st.2.2.2.2.1.1, st.2.2.2.2.2.1⟩
end
end MM
end
section
set_option Elab.async false
set_option linter.all false
set_option autoImplicit false
set_option maxRecDepth 100000
set_option maxHeartbeats 4000000
namespace MM
open PySem PySem.Spec L2

/-! ### what is walked -/
def YRep (k : Kc) (G : Hp) (ds : List D) (i : Nat) (H : Hp) (x : V) (H' : Hp) : Prop :=
  ∃ d, ds[i]? = some d ∧ ((H' = H ∧ Rp k G x d) ∨ ∃ T vs es, x = .ref T ∧ H T = none ∧ H' = upd H T (.tup vs) ∧ Rps k G vs es ∧ d = .tup es)
structure ItOk (k : Kc) (G : Hp) (J : It) (ds : List D) : Prop where
  goes : ∀ i H, i < ds.length → Same G H → J.go i H
  stops : ∀ H, Same G H → J.stop ds.length H
  ylds : ∀ i H x H', i < ds.length → Same G H → J.yld i H x H' → YRep k G ds i H x H'
def TIx (k : Kc) (W : WX) (f : EM (List D)) : L2.TI := fun σ H R => ∃ c G e, RepS k c G σ H e ∧ Post k W c G σ (fun G' H' _ ds => ∀ J, ItOk k G' J ds → R J H') (f e)
abbrev SI (X : Cx) (ct : Nat → Addr) (W : WX) (tg it : Expr) (f : EM (List D)) : Prop := PI X tg it (TIx ⟨X.K, ct⟩ W f)
theorem PIw {X : Cx} {tg e : Expr} {t t' : L2.TI} (h : PI X tg e t) (w : ∀ σ H Q, t' σ H Q → t σ H Q) : PI X tg e t' := ⟨fun pins s σ H Q I q => h.run pins s σ H Q I (w σ H Q q)⟩
theorem PIor {X : Cx} {tg e : Expr} {t t' : L2.TI} (h : PI X tg e t) (h' : PI X tg e t') : PI X tg e (fun σ H R => t σ H R ∨ t' σ H R) := ⟨fun pins s σ H Q I q => q.elim (h.run pins s σ H Q I) (h'.run pins s σ H Q I)⟩
/-- a list's, a tuple's items -/
def D.items : D → Option (List D)
  | .lst xs => some xs
  | .tup xs => some xs
  | .scr ns => some (ns.map D.int)
  | _ => none
def iSeq (f : EM D) : EM (List D) := fun e => (f e).bind fun d e1 => match d.items with
  | some xs => .ok xs e1
  | none => .stuck
theorem itOk_list {k : Kc} {G : Hp} {a : Addr} {vs : List V} {ds : List D} (h : SqL k.K G a vs) (r : Rps k G vs ds) : ItOk k G (Itl k.K a) ds := by
  have w := walk_list (K := k.K) (a := a) (xs := vs)
  have l := r.len
  refine ⟨fun i H hi s => w.goes i H (by omega) (s.seq h), fun H s => by rw [← l]; exact w.stops H (s.seq h), fun i H x H' hi s y => ?_⟩
  obtain ⟨e1, e2⟩ := w.yields i H x H' (by omega) (s.seq h) y
  obtain ⟨d, h1, h2⟩ := r.getV e2
  exact ⟨d, h1, .inl ⟨e1, h2⟩⟩
theorem itOk_tup {k : Kc} {G : Hp} {a : Addr} {vs : List V} {ds : List D} (h : SqT k.K G a vs) (r : Rps k G vs ds) : ItOk k G (Itt k.K a) ds := by
  have w := walk_tup (K := k.K) (a := a) (xs := vs)
  have l := r.len
  refine ⟨fun i H hi s => w.goes i H (by omega) (seqT s h), fun H s => by rw [← l]; exact w.stops H (seqT s h), fun i H x H' hi s y => ?_⟩
  obtain ⟨e1, e2⟩ := w.yields i H x H' (by omega) (seqT s h) y
  obtain ⟨d, h1, h2⟩ := r.getV e2
  exact ⟨d, h1, .inl ⟨e1, h2⟩⟩
theorem rps_ints {k : Kc} {G : Hp} : ∀ ns : List Int, Rps k G (ns.map V.int) (ns.map D.int)
  | [] => .nil
  | n :: ns => .cons (.int n) (rps_ints ns)
/-- lo, lo + 1, .. -/
def rangeD (lo : Int) (n : Nat) : List D := (List.range n).map fun (i : Nat) => D.int (lo + (i : Int))
def downD (lo : Int) (n : Nat) : List D := (List.range n).map fun (i : Nat) => D.int (lo + (i : Int) * (-1))
def rngOk (i : Int) : Bool := decide (i.natAbs < 4611686018427387904)
def iRng1 (f : EM (List Tk)) : EM (List D) := fun e => (f e).bind fun ts e1 => match rdKs e1 ts with
  | some [.int j] => if rngOk j = true then .ok (rangeD 0 j.toNat) e1 else .stuck
  | _ => .stuck
def iRng2 (f : EM (List Tk)) : EM (List D) := fun e => (f e).bind fun ts e1 => match rdKs e1 ts with
  | some [.int i, .int j] => if rngOk i = true ∧ rngOk j = true then .ok (rangeD i (j - i).toNat) e1 else .stuck
  | _ => .stuck
/-- range(i, j, -1) -/
def iRng3 (f : EM (List Tk)) : EM (List D) := fun e => (f e).bind fun ts e1 => match rdKs e1 ts with
  | some [.int i, .int j, .int c] => if rngOk i = true ∧ rngOk j = true ∧ c = -1 then .ok (downD i (i - j).toNat) e1 else .stuck
  | _ => .stuck
theorem rngOk_iff {i : Int} (h : rngOk i = true) : -(2 ^ 62) ≤ i ∧ i < 2 ^ 62 := by
  have h := of_decide_eq_true h
  constructor <;> omega
theorem itOk_range {k : Kc} {G : Hp} {lo : Int} {n : Nat} : ItOk k G (Itr lo n) (rangeD lo n) := by
  have l : (rangeD lo n).length = n := by unfold rangeD; rw [List.length_map, List.length_range]
  refine ⟨fun i H hi s => by rw [l] at hi; exact hi, fun H s => by rw [l]; exact Nat.le_refl _, fun i H x H' hi s y => ?_⟩
  rw [l] at hi
  refine ⟨.int (lo + i), ?_, .inl ⟨y.1, ?_⟩⟩
  · unfold rangeD
    rw [List.getElem?_map, List.getElem?_range hi]
    rfl
  · rw [y.2]
    exact .int _
theorem itOk_down {k : Kc} {G : Hp} {lo : Int} {n : Nat} : ItOk k G (Itc lo (-1) n) (downD lo n) := by
  have l : (downD lo n).length = n := by unfold downD; rw [List.length_map, List.length_range]
  refine ⟨fun i H hi s => by rw [l] at hi; exact hi, fun H s => by rw [l]; exact Nat.le_refl _, fun i H x H' hi s y => ?_⟩
  rw [l] at hi
  refine ⟨.int (lo + (i : Int) * (-1)), ?_, .inl ⟨y.1, ?_⟩⟩
  · unfold downD
    rw [List.getElem?_map, List.getElem?_range hi]
    rfl
  · rw [y.2]
    exact .int _
theorem RBs.one {k : Kc} {G H : Hp} {vs : List V} {d : D} (h : RBs k G H vs [d]) : ∃ v, vs = [v] ∧ RB k G H v d := by
  cases h with
  | cons a b => cases b; exact ⟨_, rfl, a⟩
theorem RBs.two {k : Kc} {G H : Hp} {vs : List V} {d d' : D} (h : RBs k G H vs [d, d']) : ∃ v v', vs = [v, v'] ∧ RB k G H v d ∧ RB k G H v' d' := by
  cases h with
  | cons a b => obtain ⟨v, rfl, h⟩ := b.one; exact ⟨_, _, rfl, a, h⟩
theorem RBs.three {k : Kc} {G H : Hp} {vs : List V} {d d' d'' : D} (h : RBs k G H vs [d, d', d'']) : ∃ v v' v'', vs = [v, v', v''] ∧ RB k G H v d ∧ RB k G H v' d' ∧ RB k G H v'' d'' := by
  cases h with
  | cons a b => obtain ⟨v, v', rfl, h, h'⟩ := b.two; exact ⟨_, _, _, rfl, a, h, h'⟩
section
variable {X : Cx} {ct : Nat → Addr} {W : WX} {pos p tpos : Pos} {a b c tg : Expr} {fe : EM D} {fs : EM (List Tk)} {elts : List Expr} {kk : Nat}
theorem i_seq (h : SE X ct W a fe) : SI X ct W tg a (iSeq fe) := PIw (PIor (pi_list h) (pi_tup h)) fun σ H R q => by
  obtain ⟨c, G, e, r, p⟩ := q
  have p' := Post.bind p
  unfold iSeq at p
  cases q : fe e with
  | ok d e1 =>
    rw [q] at p'
    cases hd : d.items with
    | none =>
      have p2 : Post ⟨X.K, ct⟩ W c G σ (fun G' H' x ds => ∀ J, ItOk ⟨X.K, ct⟩ G' J ds → R J H') (match d.items with | some xs => .ok xs e1 | none => .stuck) := by rw [q] at p; exact p
      rw [hd] at p2
      exact p2.elim
    | some xs =>
      have go : ∀ (G' H' : Hp), Same G G' → RepS ⟨X.K, ct⟩ c G' σ H' e1 → ∀ J, ItOk ⟨X.K, ct⟩ G' J xs → R J H' := fun G' H' s r' => by
        have z := p' G' H' s r'
        have z2 : Post ⟨X.K, ct⟩ W c G' σ (fun G' H' x ds => ∀ J, ItOk ⟨X.K, ct⟩ G' J ds → R J H') (match d.items with | some xs => .ok xs e1 | none => .stuck) := z
        rw [hd] at z2
        exact z2.now r'
      have left : (∀ G v, Rp ⟨X.K, ct⟩ G v d → ∃ a vs, v = .ref a ∧ SqL X.K G a vs ∧ Rps ⟨X.K, ct⟩ G vs xs) → iList X.K (TE ⟨X.K, ct⟩ W fe) σ H R := fun hl => by
        refine ⟨c, G, e, r, ?_⟩
        rw [q]
        intro G' H' s r' v hv
        obtain ⟨a, vs, e2, h1, h2⟩ := hl G' v hv
        exact ⟨a, e2, ⟨vs, r'.gh.seq h1⟩, go G' H' s r' _ (itOk_list h1 h2)⟩
      cases d with
      | lst ys =>
        cases hd
        refine .inl (left fun G v hv => ?_)
        cases hv with
        | lst h1 h2 => exact ⟨_, _, rfl, SqL.of h1, h2⟩
      | scr ns =>
        cases hd
        refine .inl (left fun G v hv => ?_)
        cases hv with
        | scr h1 => exact ⟨_, _, rfl, h1, rps_ints ns⟩
      | tup ys =>
        cases hd
        refine .inr ⟨c, G, e, r, ?_⟩
        rw [q]
        intro G' H' s r' v hv
        cases hv with
        | tup h1 h2 => exact ⟨_, rfl, ⟨_, seqT r'.gh h1⟩, go G' H' s r' _ (itOk_tup h1 h2)⟩
      | _ => cases hd
  | exc x e1 =>
    refine .inl ⟨c, G, e, r, ?_⟩
    rw [q] at p ⊢
    exact p
  | stuck =>
    rw [q] at p
    exact p.elim
theorem i_range1 (hg : Gl X "range") (hm : X.mg "range" = none) (ha : SA X ct W [a] fs) (hs : starEach [a] X.env = [(false, eval a X.env)] := by rfl) : SI X ct W tg (.Call (.Name "range" p) [a] [] pos) (iRng1 fs) := PIw (pi_range1 hg hm ha hs) fun σ H R q => by
  obtain ⟨c, G, e, r, p⟩ := q
  refine ⟨c, G, e, r, (Post.bind p).imp fun G1 H1 e1 ts s1 r1 p1 vs hvs => ?_⟩
  split at p1
  · rename_i j hd
    split at p1
    · rename_i hj
      obtain ⟨v, rfl, hv⟩ := (RBs.of r1 hvs hd).one
      obtain ⟨b1, b2⟩ := rngOk_iff hj
      exact ⟨j, by rw [hv.int], b1, b2, p1.now r1 _ itOk_range⟩
    · exact p1.elim
  · exact p1.elim
theorem i_range2 (hg : Gl X "range") (hm : X.mg "range" = none) (ha : SA X ct W [a, b] fs) (hs : starEach [a, b] X.env = [(false, eval a X.env), (false, eval b X.env)] := by rfl) (hs2 : starEach [b] X.env = [(false, eval b X.env)] := by rfl) : SI X ct W tg (.Call (.Name "range" p) [a, b] [] pos) (iRng2 fs) := PIw (pi_range2 hg hm ha hs hs2) fun σ H R q => by
  obtain ⟨c, G, e, r, p⟩ := q
  refine ⟨c, G, e, r, (Post.bind p).imp fun G1 H1 e1 ts s1 r1 p1 vs hvs => ?_⟩
  split at p1
  · rename_i i j hd
    split at p1
    · rename_i hj
      obtain ⟨v, v', rfl, hv, hv'⟩ := (RBs.of r1 hvs hd).two
      obtain ⟨b1, b2⟩ := rngOk_iff hj.1
      obtain ⟨b3, b4⟩ := rngOk_iff hj.2
      exact ⟨i, j, by rw [hv.int, hv'.int], ⟨b1, b2, b3, b4⟩, p1.now r1 _ itOk_range⟩
    · exact p1.elim
  · exact p1.elim
theorem i_range3 (hp : PI X tg (.Call (.Name "range" p) [a, b, c] [] pos) (L2.iRng3 (TA ⟨X.K, ct⟩ W fs))) : SI X ct W tg (.Call (.Name "range" p) [a, b, c] [] pos) (iRng3 fs) := PIw hp fun σ H R q => by
  obtain ⟨c, G, e, r, p⟩ := q
  refine ⟨c, G, e, r, (Post.bind p).imp fun G1 H1 e1 ts s1 r1 p1 vs hvs => ?_⟩
  split at p1
  · rename_i i j cc hd
    split at p1
    · rename_i hj
      obtain ⟨v, v', v'', rfl, hv, hv', hv''⟩ := (RBs.of r1 hvs hd).three
      obtain ⟨b1, b2⟩ := rngOk_iff hj.1
      obtain ⟨b3, b4⟩ := rngOk_iff hj.2.1
      have ec := hj.2.2
      subst ec
      exact ⟨i, j, -1, _, by rw [hv.int, hv'.int, hv''.int], RgC.neg b1 b2 b3 b4, p1.now r1 _ itOk_down⟩
    · exact p1.elim
  · exact p1.elim
end

/-! ### zip, enumerate -/
/-- a list or tuple of data, to be walked -/
theorem D.src {k : Kc} {G : Hp} {v : V} {d : D} {xs : List D} (h : Rp k G v d) (hd : d.items = some xs) : ∃ a kd vs, v = .ref a ∧ SrcK.sq k.K G a vs kd ∧ Rps k G vs xs := by
  cases h with
  | lst h1 h2 => cases hd; exact ⟨_, .l, _, rfl, SqL.of h1, h2⟩
  | tup h1 h2 => cases hd; exact ⟨_, .t, _, rfl, h1, h2⟩
  | scr h1 => cases hd; exact ⟨_, .l, _, rfl, h1, rps_ints _⟩
  | _ => cases hd
def zip2D : List D → List D → List D
  | x :: xs, y :: ys => .tup [x, y] :: zip2D xs ys
  | _, _ => []
def zip3D : List D → List D → List D → List D
  | x :: xs, y :: ys, z :: zs => .tup [x, y, z] :: zip3D xs ys zs
  | _, _, _ => []
def enumD (i : Nat) : List D → List D
  | [] => []
  | x :: xs => .tup [.int (i : Int), x] :: enumD (i + 1) xs
theorem zip2D_len : ∀ xs ys : List D, (zip2D xs ys).length = min xs.length ys.length
  | [], _ => by unfold zip2D; simp
  | _ :: _, [] => by unfold zip2D; simp
  | x :: xs, y :: ys => by
    unfold zip2D
    rw [List.length_cons, zip2D_len xs ys, List.length_cons, List.length_cons]
    omega
theorem zip3D_len : ∀ xs ys zs : List D, (zip3D xs ys zs).length = min (min xs.length ys.length) zs.length
  | [], _, _ => by unfold zip3D; simp
  | _ :: _, [], _ => by unfold zip3D; simp
  | _ :: _, _ :: _, [] => by unfold zip3D; simp
  | x :: xs, y :: ys, z :: zs => by
    unfold zip3D
    rw [List.length_cons, zip3D_len xs ys zs, List.length_cons, List.length_cons, List.length_cons]
    omega
theorem enumD_len : ∀ (xs : List D) (i : Nat), (enumD i xs).length = xs.length
  | [], _ => rfl
  | x :: xs, i => by unfold enumD; rw [List.length_cons, enumD_len xs (i + 1), List.length_cons]
theorem zip2D_get : ∀ {xs ys : List D} {i : Nat} {x y : D}, xs[i]? = some x → ys[i]? = some y → (zip2D xs ys)[i]? = some (.tup [x, y])
  | [], _, _, _, _, h, _ => by simp at h
  | _ :: _, [], _, _, _, _, h => by simp at h
  | x :: xs, y :: ys, 0, a, b, h1, h2 => by
    simp at h1 h2; subst h1; subst h2; rfl
  | x :: xs, y :: ys, i + 1, a, b, h1, h2 => by
    unfold zip2D
    rw [List.getElem?_cons_succ]
    exact zip2D_get (by simpa using h1) (by simpa using h2)
theorem zip3D_get : ∀ {xs ys zs : List D} {i : Nat} {x y z : D}, xs[i]? = some x → ys[i]? = some y → zs[i]? = some z → (zip3D xs ys zs)[i]? = some (.tup [x, y, z])
  | [], _, _, _, _, _, _, h, _, _ => by simp at h
  | _ :: _, [], _, _, _, _, _, _, h, _ => by simp at h
  | _ :: _, _ :: _, [], _, _, _, _, _, _, h => by simp at h
  | x :: xs, y :: ys, z :: zs, 0, a, b, c, h1, h2, h3 => by
    simp at h1 h2 h3; subst h1; subst h2; subst h3; rfl
  | x :: xs, y :: ys, z :: zs, i + 1, a, b, c, h1, h2, h3 => by
    unfold zip3D
    rw [List.getElem?_cons_succ]
    exact zip3D_get (by simpa using h1) (by simpa using h2) (by simpa using h3)
theorem enumD_get : ∀ {xs : List D} {j i : Nat} {x : D}, xs[i]? = some x → (enumD j xs)[i]? = some (.tup [.int ((j + i : Nat) : Int), x])
  | [], _, _, _, h => by simp at h
  | x :: xs, j, 0, a, h => by simp at h; subst h; rfl
  | x :: xs, j, i + 1, a, h => by
    unfold enumD
    rw [List.getElem?_cons_succ, enumD_get (j := j + 1) (by simpa using h)]
    have : j + 1 + i = j + (i + 1) := by omega
    rw [this]
theorem itOk_z2 {k : Kc} {G : Hp} {vs us : List V} {xs ys : List D} (r1 : Rps k G vs xs) (r2 : Rps k G us ys) : ItOk k G (Jz2 G vs us) (zip2D xs ys) := by
  have l1 := r1.len
  have l2 := r2.len
  have l := zip2D_len xs ys
  refine ⟨fun i H hi s => ⟨s, by omega⟩, fun H s => ⟨s, by omega⟩, fun i H x H' hi s y => ?_⟩
  obtain ⟨T, a, b, e1, hT, eH, g1, g2⟩ := y
  obtain ⟨d1, h1, q1⟩ := r1.getV g1
  obtain ⟨d2, h2, q2⟩ := r2.getV g2
  exact ⟨_, zip2D_get h1 h2, .inr ⟨T, _, _, e1, hT, eH, .cons q1 (.cons q2 .nil), rfl⟩⟩
theorem itOk_z3 {k : Kc} {G : Hp} {vs us ws : List V} {xs ys zs : List D} (r1 : Rps k G vs xs) (r2 : Rps k G us ys) (r3 : Rps k G ws zs) : ItOk k G (Jz3 G vs us ws) (zip3D xs ys zs) := by
  have l1 := r1.len
  have l2 := r2.len
  have l3 := r3.len
  have l := zip3D_len xs ys zs
  refine ⟨fun i H hi s => ⟨s, by omega⟩, fun H s => ⟨s, by omega⟩, fun i H x H' hi s y => ?_⟩
  obtain ⟨T, a, b, c, e1, hT, eH, g1, g2, g3⟩ := y
  obtain ⟨d1, h1, q1⟩ := r1.getV g1
  obtain ⟨d2, h2, q2⟩ := r2.getV g2
  obtain ⟨d3, h3, q3⟩ := r3.getV g3
  exact ⟨_, zip3D_get h1 h2 h3, .inr ⟨T, _, _, e1, hT, eH, .cons q1 (.cons q2 (.cons q3 .nil)), rfl⟩⟩
def iZip2 (f : EM (List Tk)) : EM (List D) := fun e => (f e).bind fun ts e1 => match vals ts with
  | some [a, b] => (match a.items, b.items with
    | some xs, some ys => .ok (zip2D xs ys) e1
    | _, _ => .stuck)
  | _ => .stuck
def iZip3 (f : EM (List Tk)) : EM (List D) := fun e => (f e).bind fun ts e1 => match vals ts with
  | some [a, b, c] => (match a.items, b.items, c.items with
    | some xs, some ys, some zs => .ok (zip3D xs ys zs) e1
    | _, _, _ => .stuck)
  | _ => .stuck
def iEnum (f : EM (List Tk)) : EM (List D) := fun e => (f e).bind fun ts e1 => match vals ts with
  | some [a] => (match a.items with
    | some xs => .ok (enumD 0 xs) e1
    | _ => .stuck)
  | _ => .stuck
theorem Rps.one {k : Kc} {G : Hp} {vs : List V} {d : D} (h : Rps k G vs [d]) : ∃ v, vs = [v] ∧ Rp k G v d := by
  cases h with
  | cons a b => cases b; exact ⟨_, rfl, a⟩
theorem Rps.two {k : Kc} {G : Hp} {vs : List V} {d d' : D} (h : Rps k G vs [d, d']) : ∃ v v', vs = [v, v'] ∧ Rp k G v d ∧ Rp k G v' d' := by
  cases h with
  | cons a b => obtain ⟨v, rfl, h⟩ := b.one; exact ⟨_, _, rfl, a, h⟩
theorem Rps.three {k : Kc} {G : Hp} {vs : List V} {d d' d'' : D} (h : Rps k G vs [d, d', d'']) : ∃ v v' v'', vs = [v, v', v''] ∧ Rp k G v d ∧ Rp k G v' d' ∧ Rp k G v'' d'' := by
  cases h with
  | cons a b => obtain ⟨v, v', rfl, h, h'⟩ := b.two; exact ⟨_, _, _, rfl, a, h, h'⟩
section
variable {X : Cx} {ct : Nat → Addr} {W : WX} {pos p tpos : Pos} {a b c : Expr} {fs : EM (List Tk)} {elts : List Expr} {kk : Nat} {ta : L2.TA}
theorem pi_zz2 (hg : Gl X "zip") (hm : X.mg "zip" = none) (ha : PA X [a, b] ta)
    (hs : starEach [a, b] X.env = (false, eval a X.env) :: starEach [b] X.env := by rfl) (hpl : (backTo pos (starEach [b] X.env)).any (·.1) = false := by rfl) :
    PI X (.Tuple elts kk tpos) (.Call (.Name "zip" p) [a, b] [] pos) (fun σ H R => ta σ H fun vs H1 => ∃ (G : Hp) (a b : Addr) (k1 k2 : SrcK) (xs ys : List V), vs = [.ref a, .ref b] ∧ Same G H1 ∧ k1.sq X.K G a xs ∧ k2.sq X.K G b ys ∧ R (Jz2 G xs ys) H1) := by
  refine ⟨fun pins s σ H R I h => ?_⟩
  refine PyProof.Rows.Call_ (ld_blt I hg hm PyProof.Rows.boot_zip (PyProof.Rows.callWith_type1 (thn (ha.run pos pins s σ H _ I h) fun us s1 ⟨vs, H1, I1, r1, q1⟩ => ?_) hs hpl))
  obtain ⟨G, a, b, k1, k2, xs, ys, rfl, sG, s1', s2', q⟩ := q1
  obtain ⟨u1, u2, rfl, ru1, ru2⟩ := vals2 r1
  cases ru1
  cases ru2
  obtain ⟨us1, rv1, p1, _⟩ := SrcK.read I1 (SrcK.mono s1' sG)
  obtain ⟨us2, rv2, p2, _⟩ := SrcK.read I1 (SrcK.mono s2' sG)
  refine zip_begins2 (SrcK.begins (kd := k1) (its := us1.toArray)) (SrcK.begins (kd := k2) (its := us2.toArray)) p1 p2 fun h' hz hTI hTO h1 h2 hsz hk => wpAny_pyIter_zip hz ?_
  have I2 : Inv X pins σ H1 { s1 with heap := h' } := I1.kept (t' := s1.toks) hk
  have l1 := SrcK.lt p1
  have l2 := SrcK.lt p2
  have ne1 : a ≠ s1.heap.objs.size := Nat.ne_of_lt l1
  have ne2 : b ≠ s1.heap.objs.size + 1 := Nat.ne_of_lt (Nat.lt_succ_of_lt l2)
  refine ⟨s1.heap.objs.size + 4, [s1.heap.objs.size + 4, s1.heap.objs.size + 2, s1.heap.objs.size + 3, s1.heap.objs.size, s1.heap.objs.size + 1], _, _, H1, rfl, I2,
    turn_z2 (zip_sep2 (fp1 := [a]) (fp2 := [b]) (fun c hc => by simp at hc; subst hc; exact l1) (fun c hc => by simp at hc; subst hc; exact l2)) ne1 ne2 s1' s2', ⟨hz, hTI, ⟨_, _, hTO⟩, SrcK.first h1, SrcK.first h2⟩, fun c hcm => ?_, q⟩
  have e' : c = s1.heap.objs.size + 4 ∨ c = s1.heap.objs.size + 2 ∨ c = s1.heap.objs.size + 3 ∨ c = s1.heap.objs.size ∨ c = s1.heap.objs.size + 1 := by simpa using hcm
  have hle : s1.heap.objs.size ≤ c := by
    rcases e' with z | z | z | z | z
    · rw [z]; exact Nat.le_add_right _ _
    · rw [z]; exact Nat.le_add_right _ _
    · rw [z]; exact Nat.le_add_right _ _
    · rw [z]; exact Nat.le_refl _
    · rw [z]; exact Nat.le_add_right _ _
  exact I1.fpOk hle (I1.hok.fresh hle)
theorem i_zip2 (hg : Gl X "zip") (hm : X.mg "zip" = none) (ha : SA X ct W [a, b] fs)
    (hs : starEach [a, b] X.env = (false, eval a X.env) :: starEach [b] X.env := by rfl) (hpl : (backTo pos (starEach [b] X.env)).any (·.1) = false := by rfl) : SI X ct W (.Tuple elts kk tpos) (.Call (.Name "zip" p) [a, b] [] pos) (iZip2 fs) := PIw (pi_zz2 hg hm ha hs hpl) fun σ H R q => by
  obtain ⟨c, G, e, r, p⟩ := q
  refine ⟨c, G, e, r, (Post.bind p).imp fun G1 H1 e1 ts s1 r1 p1 vs hvs => ?_⟩
  split at p1
  · rename_i d1 d2 hd
    split at p1
    · rename_i xs ys h1 h2
      obtain ⟨v, v', rfl, hv, hv'⟩ := (vals_ok hd hvs).two
      obtain ⟨a1, k1, vs1, rfl, q1, rr1⟩ := D.src hv h1
      obtain ⟨a2, k2, vs2, rfl, q2, rr2⟩ := D.src hv' h2
      exact ⟨G1, a1, a2, k1, k2, vs1, vs2, rfl, r1.gh, q1, q2, p1.now r1 _ (itOk_z2 rr1 rr2)⟩
    · exact p1.elim
  · exact p1.elim
theorem pi_zz3 (hg : Gl X "zip") (hm : X.mg "zip" = none) (ha : PA X [a, b, c] ta)
    (hs : starEach [a, b, c] X.env = (false, eval a X.env) :: starEach [b, c] X.env := by rfl) (hpl : (backTo pos (starEach [b, c] X.env)).any (·.1) = false := by rfl) :
    PI X (.Tuple elts kk tpos) (.Call (.Name "zip" p) [a, b, c] [] pos) (fun σ H R => ta σ H fun vs H1 => ∃ (G : Hp) (a b c : Addr) (k1 k2 k3 : SrcK) (xs ys zs : List V), vs = [.ref a, .ref b, .ref c] ∧ Same G H1 ∧ k1.sq X.K G a xs ∧ k2.sq X.K G b ys ∧ k3.sq X.K G c zs ∧ R (Jz3 G xs ys zs) H1) := by
  refine ⟨fun pins s σ H R I h => ?_⟩
  refine PyProof.Rows.Call_ (ld_blt I hg hm PyProof.Rows.boot_zip (PyProof.Rows.callWith_type1 (thn (ha.run pos pins s σ H _ I h) fun us s1 ⟨vs, H1, I1, r1, q1⟩ => ?_) hs hpl))
  obtain ⟨G, a, b, c, k1, k2, k3, xs, ys, zs, rfl, sG, s1', s2', s3', q⟩ := q1
  cases r1 with
  | cons ru1 r1 =>
  obtain ⟨u2, u3, rfl, ru2, ru3⟩ := vals2 r1
  cases ru1
  cases ru2
  cases ru3
  obtain ⟨us1, rv1, p1, _⟩ := SrcK.read I1 (SrcK.mono s1' sG)
  obtain ⟨us2, rv2, p2, _⟩ := SrcK.read I1 (SrcK.mono s2' sG)
  obtain ⟨us3, rv3, p3, _⟩ := SrcK.read I1 (SrcK.mono s3' sG)
  refine zip_begins3 (SrcK.begins (kd := k1) (its := us1.toArray)) (SrcK.begins (kd := k2) (its := us2.toArray)) (SrcK.begins (kd := k3) (its := us3.toArray)) p1 p2 p3 fun h' hz hTI hTO h1 h2 h3 hsz hk => wpAny_pyIter_zip hz ?_
  have I2 : Inv X pins σ H1 { s1 with heap := h' } := I1.kept (t' := s1.toks) hk
  have l1 := SrcK.lt p1
  have l2 := SrcK.lt p2
  have l3 := SrcK.lt p3
  have ne1 : a ≠ s1.heap.objs.size := Nat.ne_of_lt l1
  have ne2 : b ≠ s1.heap.objs.size + 1 := Nat.ne_of_lt (Nat.lt_succ_of_lt l2)
  have ne3 : c ≠ s1.heap.objs.size + 2 := Nat.ne_of_lt (Nat.lt_succ_of_lt (Nat.lt_succ_of_lt l3))
  refine ⟨s1.heap.objs.size + 5, [s1.heap.objs.size + 5, s1.heap.objs.size + 3, s1.heap.objs.size + 4, s1.heap.objs.size, s1.heap.objs.size + 1, s1.heap.objs.size + 2], _, _, H1, rfl, I2,
    turn_z3 (zip_sep3 (fp1 := [a]) (fp2 := [b]) (fp3 := [c]) (fun c hc => by simp at hc; subst hc; exact l1) (fun c hc => by simp at hc; subst hc; exact l2) (fun c hc => by simp at hc; subst hc; exact l3)) ne1 ne2 ne3 s1' s2' s3', ⟨hz, hTI, ⟨_, _, _, hTO⟩, SrcK.first h1, SrcK.first h2, SrcK.first h3⟩, fun c hcm => ?_, q⟩
  have e' : c = s1.heap.objs.size + 5 ∨ c = s1.heap.objs.size + 3 ∨ c = s1.heap.objs.size + 4 ∨ c = s1.heap.objs.size ∨ c = s1.heap.objs.size + 1 ∨ c = s1.heap.objs.size + 2 := by simpa using hcm
  have hle : s1.heap.objs.size ≤ c := by
    rcases e' with z | z | z | z | z | z
    · rw [z]; exact Nat.le_add_right _ _
    · rw [z]; exact Nat.le_add_right _ _
    · rw [z]; exact Nat.le_add_right _ _
    · rw [z]; exact Nat.le_refl _
    · rw [z]; exact Nat.le_add_right _ _
    · rw [z]; exact Nat.le_add_right _ _
  exact I1.fpOk hle (I1.hok.fresh hle)
theorem i_zip3 (hg : Gl X "zip") (hm : X.mg "zip" = none) (ha : SA X ct W [a, b, c] fs)
    (hs : starEach [a, b, c] X.env = (false, eval a X.env) :: starEach [b, c] X.env := by rfl) (hpl : (backTo pos (starEach [b, c] X.env)).any (·.1) = false := by rfl) : SI X ct W (.Tuple elts kk tpos) (.Call (.Name "zip" p) [a, b, c] [] pos) (iZip3 fs) := PIw (pi_zz3 hg hm ha hs hpl) fun σ H R q => by
  obtain ⟨c, G, e, r, p⟩ := q
  refine ⟨c, G, e, r, (Post.bind p).imp fun G1 H1 e1 ts s1 r1 p1 vs hvs => ?_⟩
  split at p1
  · rename_i d1 d2 d3 hd
    split at p1
    · rename_i xs ys zs h1 h2 h3
      obtain ⟨v, v', v'', rfl, hv, hv', hv''⟩ := (vals_ok hd hvs).three
      obtain ⟨a1, k1, vs1, rfl, q1, rr1⟩ := D.src hv h1
      obtain ⟨a2, k2, vs2, rfl, q2, rr2⟩ := D.src hv' h2
      obtain ⟨a3, k3, vs3, rfl, q3, rr3⟩ := D.src hv'' h3
      exact ⟨G1, a1, a2, a3, k1, k2, k3, vs1, vs2, vs3, rfl, r1.gh, q1, q2, q3, p1.now r1 _ (itOk_z3 rr1 rr2 rr3)⟩
    · exact p1.elim
  · exact p1.elim
end
end MM
end
section
set_option Elab.async false
set_option linter.all false
set_option autoImplicit false
set_option maxRecDepth 100000
set_option maxHeartbeats 4000000
namespace MM
open PySem PySem.Spec L2

/-! ### enumerate over a list or a tuple -/
section
open Sem (wp)
open AutoSeq1 (wpAny_loadPart')
set_option maxHeartbeats 4000000 in
theorem meets_enumerate_newB1 {v : Value} {o : Obj} {H : Heap → Prop} (B : Begins v o H) :
    Meets (Builtin.«enumerate.__new__» ⟨[.type "enumerate", v], []⟩) (fun _ R s => H s.heap ∧
      R (.ok (.ret (.ref (s.heap.push o).objs.size))) { s with heap := (s.heap.push o).push { cls := .type "enumerate", data := .fields #[.none, .bool false, .ref s.heap.objs.size, rawInt 0, .none, .none] } }) :=
  .of_wp fun prog w A R s h => by
    obtain ⟨hp, g, d, tk, os⟩ := s; obtain ⟨h1, h⟩ := h
    have hsub := sub_enumerate
    have q1 : ∀ {A' : Around} {E : Value → Shared → Prop} {Q : Value → Shared → Prop}, Q (.ref hp.objs.size) ⟨hp.push o, g, d, tk, os⟩ → wpAny (model prog w) A' (pyIter v) Q E ⟨hp, g, d, tk, os⟩ :=
      fun q => B.iter prog w _ _ ⟨hp, g, d, tk, os⟩ _ h1 q
    wp_walk using q1
    refine wpAny_stack_any fun st => wpAny_pure ?_
    split
    · rename_i c _ _ _ _ _
      cases (c == Value.type "enumerate")
      · wp_walk using q1
        exact ⟨_, rfl, h⟩
      · wp_walk using q1
        exact ⟨_, rfl, h⟩
    · wp_walk using q1
      exact ⟨_, rfl, h⟩
end
section
variable {prog : Program} {w : World} {A : Around} {E : Value → Shared → Prop} {s : Shared}
theorem enum_begins1 {v : Value} {o : Obj} {H : Heap → Prop} {Q : Value → Shared → Prop} (B : Begins v o H) (h1 : H s.heap)
    (h : ∀ h', IsEnum h' (s.heap.objs.size + 1) s.heap.objs.size 0 .none → h'.get? s.heap.objs.size = some o → h'.objs.size = s.heap.objs.size + 2 →
      (∀ b o, s.heap.get? b = some o → h'.get? b = some o) → Q (.ref (s.heap.objs.size + 1)) { s with heap := h' }) :
    wpAny (model prog w) A (call (.type "enumerate") [v]) Q E s := by
  refine callType_new F.called_enumerate (by decide) (F.typeCall_enumerate_1 _) (F.newCall_enumerate_1 _) (fun obj => F.args_object_init_2 obj _) F.entry_enumerate_new
    (meets_enumerate_newB1 B) ⟨h1, ?_⟩
  have hz : (s.heap.push o).objs.size = s.heap.objs.size + 1 := Heap.size_push ..
  show _ ∧ _
  rw [hz]
  have he : IsEnum ((s.heap.push o).push { cls := .type "enumerate", data := .fields #[.none, .bool false, .ref s.heap.objs.size, rawInt 0, .none, .none] }) (s.heap.objs.size + 1) s.heap.objs.size 0 .none := by
    have := Heap.get?_push_size (s.heap.push o) (o := { cls := .type "enumerate", data := .fields #[.none, .bool false, .ref s.heap.objs.size, rawInt 0, .none, .none] }) rfl
    rw [hz] at this; exact this
  refine ⟨⟨_, he, rfl⟩, h _ he (Heap.get?_push_of_some _ (Heap.get?_push_size _ B.free)) (by rw [Heap.size_push, hz]) fun b o x => Heap.get?_push_of_some _ (Heap.get?_push_of_some _ x)⟩
end
section
variable {P : Program} {w : World} {K : PySem.W.Frag} {elts : List Expr} {kk : Nat} {tpos : Pos} {k1 : SrcK} {a it e : Addr} {G : Hp} {xs : List V}
theorem turn_en (n1 : a ≠ it) (n2 : e ≠ it) (n3 : e ≠ a) (q1 : k1.sq K G a xs) :
    Turn P w K (.Tuple elts kk tpos) (Jen G xs) [e, it] e (fun i h => (∃ old, IsEnum h e it (0 + (i : Int)) old) ∧ k1.it h it a i) := by
  refine turn_walksT (by simp) (fun i h st b hb => ?_) (fun i h h' st k => ?_) (fun A i s Q E st hq => ?_) (fun X hP hw hK hh pins s σ H i I st hg => ?_)
  · obtain ⟨⟨old, he⟩, h1⟩ := st
    have e' : b = e ∨ b = it := by simpa using hb
    rcases e' with q | q
    · rw [q]; exact ⟨_, he, fun v q => nomatch q⟩
    · rw [q]; exact SrcK.obj h1
  · obtain ⟨⟨old, he⟩, h1⟩ := st
    exact ⟨⟨old, k e (by simp) _ he⟩, SrcK.stay h1 fun o q => k it (by simp) o q⟩
  · obtain ⟨⟨old, he⟩, h1⟩ := st
    exact wpAny_pyIter_enum he hq
  · subst hP hw hK
    have sG : Same G H := by rcases hg with q | q <;> exact q.1
    obtain ⟨us1, r1, p1, z1⟩ := SrcK.read I (SrcK.mono q1 sG)
    obtain ⟨he, h1⟩ := st
    have l1 := r1.length
    refine ⟨_, _, _, _, _, _, WalksT.enumFrom 0 (SrcK.draws (kd := k1) (its := us1.toArray) (by exact hh) n1) e n2 (by simp; exact ⟨n2, n3⟩) (by simp), fun b hb => hb, ⟨he, ⟨h1, p1⟩⟩, fun q => ⟨?_, fun vals hp => ?_⟩, fun q => ?_, fun h' st => ?_⟩
    · have : i < xs.length := q.2
      simp only [List.size_toArray]
      omega
    · obtain ⟨t, v1, g1, ev⟩ := hp
      have lt1 : i < xs.length := q.2
      obtain ⟨u1, e1, rv1⟩ := r1.get (List.getElem?_eq_getElem lt1)
      have g1' : us1[i]? = some v1 := by simpa using g1
      rw [e1] at g1'
      cases g1'
      subst ev
      rw [Int.zero_add]
      exact ⟨[.int (i : Int), xs[i]], .cons ⟨t, rfl⟩ (.cons rv1 .nil), size2, fun T hT => ⟨T, _, rfl, hT, rfl, List.getElem?_eq_getElem lt1⟩⟩
    · have : i = xs.length := q.2
      simp only [List.size_toArray]
      omega
    · exact ⟨st.1, st.2.1⟩
theorem itOk_en {k : Kc} {G : Hp} {vs : List V} {xs : List D} (r1 : Rps k G vs xs) : ItOk k G (Jen G vs) (enumD 0 xs) := by
  have l1 := r1.len
  have l := enumD_len xs 0
  refine ⟨fun i H hi s => ⟨s, by omega⟩, fun H s => ⟨s, by omega⟩, fun i H x H' hi s y => ?_⟩
  obtain ⟨T, a, e1, hT, eH, g1⟩ := y
  obtain ⟨d1, h1, q1⟩ := r1.getV g1
  have z := enumD_get (j := 0) h1
  rw [Nat.zero_add] at z
  exact ⟨_, z, .inr ⟨T, _, _, e1, hT, eH, .cons (.int _) (.cons q1 .nil), rfl⟩⟩
end
section
variable {X : Cx} {ct : Nat → Addr} {W : WX} {pos p tpos : Pos} {a : Expr} {fs : EM (List Tk)} {elts : List Expr} {kk : Nat} {ta : L2.TA}
theorem pi_en (hg : Gl X "enumerate") (hm : X.mg "enumerate" = none) (ha : PA X [a] ta) (hs : starEach [a] X.env = [(false, eval a X.env)] := by rfl) :
    PI X (.Tuple elts kk tpos) (.Call (.Name "enumerate" p) [a] [] pos) (fun σ H R => ta σ H fun vs H1 => ∃ (G : Hp) (a : Addr) (k1 : SrcK) (xs : List V), vs = [.ref a] ∧ Same G H1 ∧ k1.sq X.K G a xs ∧ R (Jen G xs) H1) := by
  refine ⟨fun pins s σ H R I h => ?_⟩
  refine PyProof.Rows.Call_ (ld_blt I hg hm PyProof.Rows.boot_enumerate (PyProof.Rows.callWith_type1 (thn (ha.run pos pins s σ H _ I h) fun us s1 ⟨vs, H1, I1, r1, q1⟩ => ?_) hs rfl))
  obtain ⟨G, a, k1, xs, rfl, sG, s1', q⟩ := q1
  obtain ⟨u1, rfl, ru1⟩ := vals1 r1
  cases ru1
  obtain ⟨us1, rv1, p1, _⟩ := SrcK.read I1 (SrcK.mono s1' sG)
  refine enum_begins1 (SrcK.begins (kd := k1) (its := us1.toArray)) p1 fun h' he h1 hsz hk => wpAny_pyIter_enum he ?_
  have I2 : Inv X pins σ H1 { s1 with heap := h' } := I1.kept (t' := s1.toks) hk
  have l1 := SrcK.lt p1
  refine ⟨s1.heap.objs.size + 1, [s1.heap.objs.size + 1, s1.heap.objs.size], _, _, H1, rfl, I2,
    turn_en (Nat.ne_of_lt l1) (Nat.succ_ne_self _) (Nat.ne_of_gt (Nat.lt_succ_of_lt l1)) s1', ⟨⟨.none, he⟩, SrcK.first h1⟩, fun c hcm => ?_, q⟩
  have e' : c = s1.heap.objs.size + 1 ∨ c = s1.heap.objs.size := by simpa using hcm
  have hle : s1.heap.objs.size ≤ c := by
    rcases e' with z | z
    · rw [z]; exact Nat.le_add_right _ _
    · rw [z]; exact Nat.le_refl _
  exact I1.fpOk hle (I1.hok.fresh hle)
theorem i_enum (hg : Gl X "enumerate") (hm : X.mg "enumerate" = none) (ha : SA X ct W [a] fs) (hs : starEach [a] X.env = [(false, eval a X.env)] := by rfl) : SI X ct W (.Tuple elts kk tpos) (.Call (.Name "enumerate" p) [a] [] pos) (iEnum fs) := PIw (pi_en hg hm ha hs) fun σ H R q => by
  obtain ⟨c, G, e, r, p⟩ := q
  refine ⟨c, G, e, r, (Post.bind p).imp fun G1 H1 e1 ts s1 r1 p1 vs hvs => ?_⟩
  split at p1
  · rename_i d1 hd
    split at p1
    · rename_i xs h1
      obtain ⟨v, rfl, hv⟩ := (vals_ok hd hvs).one
      obtain ⟨a1, k1, vs1, rfl, q1, rr1⟩ := D.src hv h1
      exact ⟨G1, a1, k1, vs1, rfl, r1.gh, q1, p1.now r1 _ (itOk_en rr1)⟩
    · exact p1.elim
  · exact p1.elim
end

/-! ### targets of a walk -/
/-- ts: the slots that it stores to -/
def TGt (k : Kc) (ts : List Nat) (ft : D → Env → Option Env) : L2.TG := fun v σ H Q => ∃ c G e d e', RepS k c G σ H e ∧ Rp k G v d ∧ ft d e = some e' ∧ ∀ σ', RepS k c G σ' H e' → σ'.length = σ.length → (∀ j, j ∉ ts → σ'[j]? = σ[j]?) → Q σ' H
abbrev SG (X : Cx) (ct : Nat → Addr) (tg : Expr) (ts : List Nat) (ft : D → Env → Option Env) : Prop := PG X tg (TGt ⟨X.K, ct⟩ ts ft)
theorem PGw {X : Cx} {tg : Expr} {t t' : L2.TG} (h : PG X tg t) (w : ∀ v σ H Q, t' v σ H Q → t v σ H Q) : PG X tg t' := ⟨fun pins s σ H v u Q I r q => h.run pins s σ H v u Q I r (w v σ H Q q)⟩
def gSet (i : Nat) (d : D) (e : Env) : Option Env := match e[i]? with
  | some (some (.p _)) => none
  | some _ => some (e.set i (some (.d d)))
  | none => none
/-- a, b, .. = a tuple -/
def gSets : List Nat → List D → Env → Option Env
  | [], [], e => some e
  | i :: is, d :: ds, e => (gSet i d e).bind (gSets is ds)
  | _, _, _ => none
def gUnp (is : List Nat) (d : D) (e : Env) : Option Env := match d with
  | .tup ds => gSets is ds e
  | _ => none
theorem gSet_ok {k : Kc} {c : Fr} {G H : Hp} {σ : L2.St} {e e' : Env} {i : Nat} {v : V} {d : D} (r : RepS k c G σ H e) (hv : Rp k G v d) (h : gSet i d e = some e') : RepS k c G (σ.set i (some v)) H e' := by
  unfold gSet at h
  split at h
  · cases h
  · rename_i y hn hy
    cases h
    exact r.put (x := some (.d d)) (r.nopin hy fun z q => hn z q) (fun y hy => by cases hy; exact hv) (fun y b hy hw => by cases hy; cases hw)
  · cases h
section
variable {X : Cx} {ct : Nat → Addr} {pos : Pos} {x : Str} {i : Nat} {es : List Expr} {n : Nat}
theorem g_name (h : PG X (.Name x pos) (gName i)) : SG X ct (.Name x pos) [i] (gSet i) := PGw h fun v σ H Q q => by
  obtain ⟨c, G, e, d, e', r, hv, hf, q⟩ := q
  exact q _ (gSet_ok r hv hf) (List.length_set ..) fun j hj => by rw [List.getElem?_set_ne (by simpa using fun z => hj (by simp [z]))]
def gCs : List Nat → L2.TGs
  | [] => gNil
  | i :: is => gCons (gName i) (gCs is)
theorem gCs_ok {k : Kc} {c : Fr} {G H : Hp} {Q : L2.St → Hp → Prop} : ∀ {is : List Nat} {ds : List D} {vs : List V} {σ : L2.St} {e e' : Env}, RepS k c G σ H e → Rps k G vs ds → gSets is ds e = some e' →
    (∀ σ', RepS k c G σ' H e' → σ'.length = σ.length → (∀ j, j ∉ is → σ'[j]? = σ[j]?) → Q σ' H) → gCs is vs σ H Q
  | [], [], _, σ, e, e', r, rs, h, q => by
    cases rs
    cases h
    exact ⟨rfl, q σ r rfl fun _ _ => rfl⟩
  | i :: is, d :: ds, _, σ, e, e', r, rs, h, q => by
    cases rs with
    | cons a b =>
      have h' : (gSet i d e).bind (gSets is ds) = some e' := h
      cases h1 : gSet i d e with
      | none => rw [h1] at h'; cases h'
      | some e1 =>
        rw [h1] at h'
        refine ⟨_, _, rfl, gCs_ok (gSet_ok r a h1) b h' fun σ' r' hl hj => q σ' r' (by rw [hl, List.length_set]) fun j hn => ?_⟩
        rw [hj j fun z => hn (List.mem_cons_of_mem _ z), List.getElem?_set_ne fun z => hn (by rw [z]; exact List.mem_cons_self)]
  | [], _ :: _, _, _, _, _, _, _, h, _ => by cases h
  | _ :: _, [], _, _, _, _, _, _, h, _ => by cases h
theorem g_tup {is : List Nat} (hc : X.calm = true) (h : PGs X es (gCs is)) (hn : (assignEach es X.env).length = is.length := by rfl) (hst : (assignEach es X.env).findIdx? (·.1) = none := by rfl) : SG X ct (.Tuple es n pos) is (gUnp is) := PGw (pg_tup hc h hn hst) fun v σ H Q q => by
  obtain ⟨c, G, e, d, e', r, hv, hf, q⟩ := q
  cases d with
  | tup ds =>
    cases hv with
    | tup h1 h2 =>
      refine ⟨_, _, rfl, seqT r.gh h1, ?_, gCs_ok r h2 hf q⟩
      have hl : ∀ {is : List Nat} {ds : List D} {e e' : Env}, gSets is ds e = some e' → ds.length = is.length := by
        intro is
        induction is with
        | nil => intro ds e e' h; cases ds with
          | nil => rfl
          | cons _ _ => cases h
        | cons i is ih => intro ds e e' h; cases ds with
          | nil => cases h
          | cons d ds =>
            have h' : (gSet i d e).bind (gSets is ds) = some e' := h
            cases h1 : gSet i d e with
            | none => rw [h1] at h'; cases h'
            | some e1 => rw [h1] at h'; rw [List.length_cons, List.length_cons, ih h']
      rw [h2.len]
      exact hl hf
  | _ => cases hf
end

/-! ### comprehensions -/
def wipeE : List Nat → Env → Option Env
  | [], e => some e
  | v :: vs, e => match wipeE vs e with
    | some e1 => (match e1[v]? with
      | some (some (.p _)) => none
      | some _ => some (e1.set v none)
      | none => none)
    | none => none
def lcGo (vs : List Nat) (ft : D → Env → Option Env) (ff : EM Bool) (fe : EM D) : List D → List D → Env → Res (List D)
  | [], acc, e => .ok acc e
  | d :: ds, acc, e => match ft d e with
    | none => .stuck
    | some e1 => match ff e1 with
      | .ok true e2 => (match fe e2 with
        | .ok x e3 => if acc.length < LIM then (match wipeE vs e3 with
            | some e4 => lcGo vs ft ff fe ds (acc ++ [x]) e4
            | none => .stuck) else .stuck
        | _ => .stuck)
      | .ok false e2 => (match wipeE vs e2 with
        | some e4 => lcGo vs ft ff fe ds acc e4
        | none => .stuck)
      | _ => .stuck
def lcF (vs : List Nat) (fi : EM (List D)) (ft : D → Env → Option Env) (ff : EM Bool) (fe : EM D) : EM EV := fun e => (fi e).bind fun ds e1 => match wipeE vs e1 with
  | none => .stuck
  | some e2 => (lcGo vs ft ff fe ds [] e2).bind fun acc e3 => .ok (.m (.lst acc)) e3
def tYesF : EM Bool := fun e => .ok true e
section
variable {k : Kc} {c : Fr} {G G' H H' : Hp} {σ : L2.St} {e : Env} {p a : Addr} {o : HO}
/-- a slot is emptied -/
theorem RepS.empty (r : RepS k c G σ H e) {i : Nat} (hp : c.P i = none) (hi : i < e.length) : RepS k c G (σ.set i none) H (e.set i none) := by
  have old : ∀ {j : Nat} {z : EV}, (e.set i none)[j]? = some (some z) → i ≠ j ∧ e[j]? = some (some z) := fun {j z} hz => by
    rcases set_get hz with ⟨_, q, _⟩ | q
    · cases q
    · exact q
  have r1 := r.forget hp
  refine ⟨r.g0, r.gh, r.oh, r.fr, by rw [List.length_set, List.length_set]; exact r.len, fun j z hz => ?_, fun j l b z w hz hw z1 z2 s1 s2 => ?_, fun j b hb => ?_⟩
  · obtain ⟨h1, h2⟩ := old hz
    obtain ⟨v, q1, q2⟩ := r.slot j z h2
    exact ⟨v, by rw [List.getElem?_set_ne h1]; exact q1, q2⟩
  · obtain ⟨h1, h2⟩ := old hz
    obtain ⟨h3, h4⟩ := old hw
    rw [List.getElem?_set_ne h1] at s1
    rw [List.getElem?_set_ne h3] at s2
    exact r.dis j l b z w h2 h4 z1 z2 s1 s2
  · obtain ⟨z, h1, h2⟩ := r.pin j b hb
    have hij : i ≠ j := fun q => by subst q; rw [hp] at hb; cases hb
    exact ⟨z, by rw [List.getElem?_set_ne hij]; exact h1, by rw [List.getElem?_set_ne hij]; exact h2⟩
theorem wipeE_ok : ∀ {vs : List Nat} {σ : L2.St} {e e' : Env}, RepS k c G σ H e → wipeE vs e = some e' → RepS k c G (wipe σ vs) H e' ∧ e'.length = e.length ∧ (∀ v ∈ vs, e'[v]? = some none) ∧ ∀ j, j ∉ vs → e'[j]? = e[j]?
  | [], σ, e, e', r, h => by cases h; exact ⟨r, rfl, fun v hv => by simp at hv, fun _ _ => rfl⟩
  | v :: vs, σ, e, e', r, h => by
    unfold wipeE at h
    cases q : wipeE vs e with
    | none => rw [q] at h; cases h
    | some e1 =>
      rw [q] at h
      obtain ⟨r1, l1, n1, o1⟩ := wipeE_ok r q
      have h' : (match e1[v]? with | some (some (.p _)) => none | some _ => some (e1.set v none) | none => none) = some e' := h
      split at h'
      · cases h'
      · rename_i y hn hy
        cases h'
        have hv : v < e1.length := (List.getElem?_eq_some_iff.mp hy).1
        refine ⟨r1.empty (r1.nopin hy fun z w => hn z w) hv, by rw [List.length_set]; exact l1, fun u hu => ?_, fun j hj => ?_⟩
        · by_cases huv : v = u
          · subst huv; rw [List.getElem?_set_self hv]
          · rw [List.getElem?_set_ne huv]
            rcases List.mem_cons.mp hu with z | z
            · exact absurd z.symm huv
            · exact n1 u z
        · rw [List.getElem?_set_ne fun z => hj (by rw [z]; exact List.mem_cons_self)]
          exact o1 j fun z => hj (List.mem_cons_of_mem _ z)
      · cases h'
/-- the emptied slots' values may be what they like -/
theorem RepS.unwipe {vs : List Nat} {σ' : L2.St} (r : RepS k c G σ' H e) (hl : σ.length = σ'.length) (h : ∀ j, j ∉ vs → σ[j]? = σ'[j]?) (hn : ∀ v ∈ vs, e[v]? = some none) : RepS k c G σ H e := by
  have out : ∀ {j : Nat} {x : EV}, e[j]? = some (some x) → j ∉ vs := fun {j x} hx hj => by
    rw [hn j hj] at hx; cases hx
  refine ⟨r.g0, r.gh, r.oh, r.fr, by rw [r.len, hl], fun j z hz => ?_, fun j l b z w hz hw z1 z2 s1 s2 => ?_, fun j b hb => ?_⟩
  · obtain ⟨v, q1, q2⟩ := r.slot j z hz
    exact ⟨v, by rw [h j (out hz)]; exact q1, q2⟩
  · rw [h j (out hz)] at s1
    rw [h l (out hw)] at s2
    exact r.dis j l b z w hz hw z1 z2 s1 s2
  · obtain ⟨z, h1, h2⟩ := r.pin j b hb
    exact ⟨z, h1, by rw [h j (out h1)]; exact h2⟩
theorem wipe_out' {σ : L2.St} {j : Nat} : ∀ {vs : List Nat}, j ∉ vs → (wipe σ vs)[j]? = σ[j]?
  | [], _ => rfl
  | v :: vs, h => by
    unfold wipe
    rw [List.getElem?_set_ne fun z => h (by rw [z]; exact List.mem_cons_self)]
    exact wipe_out' fun z => h (List.mem_cons_of_mem _ z)
theorem wipe_in {σ : L2.St} {j : Nat} : ∀ {vs : List Nat}, j ∈ vs → j < σ.length → (wipe σ vs)[j]? = some none
  | v :: vs, h, hl => by
    unfold wipe
    by_cases hv : v = j
    · subst hv; rw [List.getElem?_set_self (by rw [wipe_length]; exact hl)]
    · rw [List.getElem?_set_ne hv]
      rcases List.mem_cons.mp h with z | z
      · exact absurd z.symm hv
      · exact wipe_in z hl
theorem wipe_same {σ σ' : L2.St} {vs : List Nat} (hl : σ'.length = σ.length) (h : ∀ j, j ∉ vs → σ'[j]? = σ[j]?) : wipe σ' vs = wipe σ vs := by
  apply List.ext_getElem?
  intro j
  by_cases hj : j ∈ vs
  · by_cases hlt : j < σ.length
    · rw [wipe_in hj (by omega), wipe_in hj hlt]
    · rw [List.getElem?_eq_none (by rw [wipe_length]; omega), List.getElem?_eq_none (by rw [wipe_length]; omega)]
  · rw [wipe_out' hj, wipe_out' hj, h j hj]
theorem wipe_wipe {σ : L2.St} {vs : List Nat} : wipe (wipe σ vs) vs = wipe σ vs := wipe_same (wipe_length σ vs) fun j hj => wipe_out' hj
/-- a thing that is nobody's is guarded -/
def Fr.guard (c : Fr) (a : Addr) (o : HO) : Fr := { c with O := upd c.O a o }
theorem RepS.guard (r : RepS k c G σ H e) (hH : H a = some o) (hG : G a = none) (hl : Loose σ e a) : RepS k (c.guard a o) G σ H e := by
  refine ⟨r.g0, r.gh, fun b u q => ?_, fun b g1 g2 => ?_, r.len, fun i x hx => ?_, r.dis, r.pin⟩
  · by_cases hb : b = a
    · subst hb
      have q' : (upd c.O b o) b = some u := q
      rw [upd_same] at q'
      rw [hH, ← q']
    · have q' : (upd c.O a o) b = some u := q
      rw [upd_ne hb] at q'
      exact r.oh b u q'
  · by_cases hb : b = a
    · subst hb; exact absurd hG g1
    · have g2' : (upd c.O a o) b ≠ none := g2
      rw [upd_ne hb] at g2'
      exact r.fr b g1 g2'
  · obtain ⟨v, h1, h2⟩ := r.slot i x hx
    refine ⟨v, h1, ?_⟩
    have own : x.own = true → ∀ {y : MV}, (∃ b, v = .ref b ∧ MAt k c G H b y) → ∃ b, v = .ref b ∧ MAt k (c.guard a o) G H b y := fun hw {y} ⟨b, e1, m1, m2, m3⟩ => by
      have na : b ≠ a := fun z => by
        subst z
        rw [e1] at h1
        exact hl i x hx hw h1
      exact ⟨b, e1, m1, by show (upd c.O a o) b = none; rw [upd_ne na]; exact m2, m3⟩
    cases x with
    | d d => exact h2
    | m x => exact own rfl h2
    | p x => exact own rfl h2
    | t _ _ => first | exact h2.elim | exact trivial | cases hw | exact hv.elim | exact h.elim | exact hx.elim | exact hu.elim | cases hy | cases h' | cases hd' | cases h2 | cases h1 | cases hd | cases h3 | cases h4
/-- .. and is free again: it stands as it was, nobody's -/
theorem RepS.unguard (r : RepS k (c.guard a o) G σ H e) (hO : c.O a = none) (h0 : c.G0 a = none) : RepS k c G σ H e ∧ H a = some o ∧ G a = none ∧ Loose σ e a := by
  have hH : H a = some o := r.oh a o upd_same
  have hG : G a = none := by
    cases q : G a with
    | none => rfl
    | some u => exact absurd h0 (r.fr a (by rw [q]; simp) (by show (upd c.O a o) a ≠ none; rw [upd_same]; simp))
  have nb : ∀ {b : Addr}, (c.guard a o).O b = none → b ≠ a ∧ c.O b = none := fun {b} h => by
    have h' : (upd c.O a o) b = none := h
    by_cases hb : b = a
    · subst hb; rw [upd_same] at h'; cases h'
    · rw [upd_ne hb] at h'; exact ⟨hb, h'⟩
  refine ⟨⟨r.g0, r.gh, fun b u q => ?_, fun b g1 g2 => ?_, r.len, fun i x hx => ?_, r.dis, r.pin⟩, hH, hG, fun i x hx hw q => ?_⟩
  · have hb : b ≠ a := fun z => by subst z; rw [hO] at q; cases q
    exact r.oh b u (by show (upd c.O a o) b = some u; rw [upd_ne hb]; exact q)
  · have hb : b ≠ a := fun z => by subst z; exact g2 hO
    exact r.fr b g1 (by show (upd c.O a o) b ≠ none; rw [upd_ne hb]; exact g2)
  · obtain ⟨v, h1, h2⟩ := r.slot i x hx
    refine ⟨v, h1, ?_⟩
    have own : ∀ {y : MV}, (∃ b, v = .ref b ∧ MAt k (c.guard a o) G H b y) → ∃ b, v = .ref b ∧ MAt k c G H b y := fun {y} ⟨b, e1, m1, m2, m3⟩ => ⟨b, e1, m1, (nb m2).2, m3⟩
    cases x with
    | d d => exact h2
    | m x => exact own h2
    | p x => exact own h2
    | t _ _ => first | exact h2.elim | exact trivial | cases hw | exact hv.elim | exact h.elim | exact hx.elim | exact hu.elim | cases hy | cases h' | cases hd' | cases h2 | cases h1 | cases hd | cases h3 | cases h4
  · obtain ⟨b, y, _, hb, _, m2, _⟩ := r.owner hx hw
    rw [q] at hb
    obtain rfl : a = b := by injection hb with z; injection z with z; injection z
    exact (nb m2).1 rfl
/-- a thing that is nobody's is changed -/
theorem RepS.other (r : RepS k c G σ H e) (hG : G a = none) (hO : c.O a = none) (hl : Loose σ e a) : RepS k c G σ (upd H a o) e := by
  refine ⟨r.g0, fun b u q => ?_, fun b u q => ?_, r.fr, r.len, fun i x hx => ?_, r.dis, r.pin⟩
  · rw [upd_ne (ne_of_none q hG)]; exact r.gh _ _ q
  · rw [upd_ne (ne_of_none q hO)]; exact r.oh _ _ q
  · obtain ⟨v, h1, h2⟩ := r.slot i x hx
    refine ⟨v, h1, ?_⟩
    have own : x.own = true → ∀ {y : MV}, (∃ b, v = .ref b ∧ MAt k c G H b y) → ∃ b, v = .ref b ∧ MAt k c G (upd H a o) b y := fun hw {y} ⟨b, e1, m⟩ => by
      have na : b ≠ a := fun z => by
        subst z
        rw [e1] at h1
        exact hl i x hx hw h1
      exact ⟨b, e1, m.keep (Same.refl _) m.1 (upd_ne na)⟩
    cases x with
    | d d => exact h2
    | m x => exact own rfl h2
    | p x => exact own rfl h2
    | t _ _ => first | exact h2.elim | exact trivial | cases hw | exact hv.elim | exact h.elim | exact hx.elim | exact hu.elim | cases hy | cases h' | cases hd' | cases h2 | cases h1 | cases hd | cases h3 | cases h4
end
end MM
end
section
set_option Elab.async false
set_option linter.all false
set_option autoImplicit false
set_option maxRecDepth 100000
set_option maxHeartbeats 4000000
namespace MM
open PySem PySem.Spec L2

abbrev W0 : WX := fun _ _ _ _ => False
theorem drop_at {α : Type} : ∀ {l : List α} {i : Nat} {x : α}, l[i]? = some x → l.drop i = x :: l.drop (i + 1)
  | [], _, _, h => by simp at h
  | y :: l, 0, x, h => by simp at h; subst h; rfl
  | y :: l, i + 1, x, h => by
    rw [List.drop_succ_cons, List.drop_succ_cons]
    exact drop_at (by simpa using h)
theorem walk_of {k : Kc} {G : Hp} {J : It} {ds : List D} (h : ItOk k G J ds) : Walk J ds.length (fun H => Same G H) (fun i H x H' => YRep k G ds i H x H') := ⟨h.goes, h.stops, h.ylds⟩
/-- the item of a turn, as data -/
theorem item_ok {k : Kc} {c : Fr} {G G' H H' : Hp} {σ : L2.St} {e : Env} {ds : List D} {i : Nat} {x : V} (r : RepS k c G' σ H e) (s : Same G G') (y : YRep k G ds i H x H') : ∃ G2 d, ds[i]? = some d ∧ Same G' G2 ∧ RepS k c G2 σ H' e ∧ Rp k G2 x d := by
  obtain ⟨d, hd, h | ⟨T, vs, es, rfl, hT, rfl, rs, rfl⟩⟩ := y
  · obtain ⟨rfl, h⟩ := h
    exact ⟨G', d, hd, Same.refl _, r, h.mono s⟩
  · have gT := r.gh.free hT
    exact ⟨_, _, hd, same_upd gT, r.lay hT, .tup (SqT.of upd_same) ((rs.mono s).mono (same_upd gT))⟩
section
variable {X : Cx} {ct : Nat → Addr} {W : WX} {elt tg iter : Expr} {ifs : List Expr} {scope : Scope} {own : List (Str × Nat)} {pos : Pos} {fi : EM (List D)} {ft : D → Env → Option Env} {ff : EM Bool} {fe : EM D} {ts : List Nat}
theorem lc_sem {vs : List Nat} (hts : ∀ i ∈ ts, i ∈ vs) (σ : L2.St) (H : Hp) (Q : VK) (q : TV ⟨X.K, ct⟩ W (lcF vs fi ft ff fe) σ H Q) :
    tLc (TIx ⟨X.K, ct⟩ W fi) (TGt ⟨X.K, ct⟩ ts ft) (TT ⟨X.K, ct⟩ W0 ff) (TE ⟨X.K, ct⟩ W0 fe) vs σ H Q := by
  obtain ⟨c, G, e, r, p⟩ := q
  refine ⟨c, G, e, r, (Post.bind p).imp fun G1 H1 e1 ds s1 r1 p1 J hJ D hD => ?_⟩
  cases hw : wipeE vs e1 with
  | none => rw [hw] at p1; exact p1.elim
  | some e2 =>
    rw [hw] at p1
    have p2 : Post ⟨X.K, ct⟩ W c G1 σ (fun G' H' e' x => ∀ v, RpV ⟨X.K, ct⟩ c G' σ H' e' v x → Q v H') ((lcGo vs ft ff fe ds [] e2).bind fun acc e3 => .ok (.m (.lst acc)) e3) := p1
    have hO : c.O D = none := r1.oh.free hD
    have h0 : c.G0 D = none := (r1.g0.trans r1.gh).free hD
    generalize hR : lcGo vs ft ff fe ds [] e2 = R at p2
    have notS : R ≠ .stuck := fun z => by rw [z] at p2; exact p2
    refine lc_it (walk_of hJ) (fun i H => ∃ acc e' G' va, RepS ⟨X.K, ct⟩ (c.guard D (.lst va)) G' (wipe σ vs) H e' ∧ Same G1 G' ∧ Rps ⟨X.K, ct⟩ G' va acc ∧ lcGo vs ft ff fe (ds.drop i) acc e' = R ∧ ∀ v ∈ vs, e'[v]? = some none) ?_ ?_ ?_ ?_
    · obtain ⟨r2, _, n2, _⟩ := wipeE_ok r1 hw
      obtain ⟨r3, _, l3⟩ := r2.newM (x := .lst []) (o := .lst []) hD ⟨[], rfl, .nil⟩
      exact ⟨[], e2, G1, [], r3.guard upd_same (r2.gh.free hD) l3, Same.refl _, .nil, hR, n2⟩
    · rintro i H' _ ⟨acc, e', G', va, r', s', _⟩
      exact s'.trans r'.gh
    · rintro i x H' H'' hi ⟨acc, e', G', va, r', s', rs, eq, n'⟩ y
      obtain ⟨G2, d, hd, s2, r2, hx⟩ := item_ok r' s' y
      rw [drop_at hd] at eq
      have eq1 : (match ft d e' with
        | none => (.stuck : Res (List MM.D))
        | some e1 => match ff e1 with
          | .ok true e2 => (match fe e2 with
            | .ok x e3 => if acc.length < LIM then (match wipeE vs e3 with
                | some e4 => lcGo vs ft ff fe (ds.drop (i + 1)) (acc ++ [x]) e4
                | none => .stuck) else .stuck
            | _ => .stuck)
          | .ok false e2 => (match wipeE vs e2 with
            | some e4 => lcGo vs ft ff fe (ds.drop (i + 1)) acc e4
            | none => .stuck)
          | _ => .stuck) = R := eq
      cases h1 : ft d e' with
      | none => rw [h1] at eq1; exact absurd eq1.symm notS
      | some e3 =>
        rw [h1] at eq1
        refine ⟨_, G2, e', d, e3, r2, hx, h1, fun σ' r3 hl hj => ?_⟩
        have hwp : wipe σ' vs = wipe σ vs := by
          rw [wipe_same hl fun j hn => hj j fun z => hn (hts j z), wipe_wipe]
        refine ⟨hwp, _, G2, e3, r3, ?_⟩
        have eq2 : (match ff e3 with
          | .ok true e2 => (match fe e2 with
            | .ok x e3 => if acc.length < LIM then (match wipeE vs e3 with
                | some e4 => lcGo vs ft ff fe (ds.drop (i + 1)) (acc ++ [x]) e4
                | none => .stuck) else .stuck
            | _ => .stuck)
          | .ok false e2 => (match wipeE vs e2 with
            | some e4 => lcGo vs ft ff fe (ds.drop (i + 1)) acc e4
            | none => .stuck)
          | _ => .stuck) = R := eq1
        cases h2 : ff e3 with
        | stuck => rw [h2] at eq2; exact absurd eq2.symm notS
        | exc x e4 => rw [h2] at eq2; exact absurd eq2.symm notS
        | ok b e4 =>
          rw [h2] at eq2
          intro G3 H3 s3 r4
          cases b with
          | false =>
            rw [if_neg Bool.false_ne_true]
            have eq3 : (match wipeE vs e4 with
              | some e4 => lcGo vs ft ff fe (ds.drop (i + 1)) acc e4
              | none => .stuck) = R := eq2
            cases h3 : wipeE vs e4 with
            | none => rw [h3] at eq3; exact absurd eq3.symm notS
            | some e6 =>
              rw [h3] at eq3
              obtain ⟨r6, _, n6, _⟩ := wipeE_ok r4 h3
              rw [hwp] at r6
              exact ⟨acc, e6, G3, va, r6, (s'.trans s2).trans s3, (rs.mono s2).mono s3, eq3, n6⟩
          | true =>
            rw [if_pos rfl]
            refine ⟨_, G3, e4, r4, ?_⟩
            have eq3 : (match fe e4 with
              | .ok x e3 => if acc.length < LIM then (match wipeE vs e3 with
                | some e4 => lcGo vs ft ff fe (ds.drop (i + 1)) (acc ++ [x]) e4
                | none => .stuck) else .stuck
              | _ => .stuck) = R := eq2
            cases h3 : fe e4 with
            | stuck => rw [h3] at eq3; exact absurd eq3.symm notS
            | exc x e5 => rw [h3] at eq3; exact absurd eq3.symm notS
            | ok xd e5 =>
              rw [h3] at eq3
              have eq4 : (if acc.length < LIM then (match wipeE vs e5 with
                | some e4 => lcGo vs ft ff fe (ds.drop (i + 1)) (acc ++ [xd]) e4
                | none => .stuck) else .stuck) = R := eq3
              intro G4 H4 s4 r5 yv hy
              by_cases hlen : acc.length < LIM
              · rw [if_pos hlen] at eq4
                cases h4 : wipeE vs e5 with
                | none => rw [h4] at eq4; exact absurd eq4.symm notS
                | some e6 =>
                  rw [h4] at eq4
                  obtain ⟨r6, _, n6, _⟩ := wipeE_ok r5 h4
                  rw [hwp] at r6
                  obtain ⟨r7, hDD, gD, lD⟩ := r6.unguard hO h0
                  have sall := (s2.trans s3).trans s4
                  refine ⟨va, hDD, by rw [rs.len]; exact Nat.lt_of_lt_of_le hlen (lim_le (Nat.le_refl _)), acc ++ [xd], e6, G4, va ++ [yv], ?_, s'.trans sall, (rs.mono sall).app (.cons hy .nil), eq4, n6⟩
                  exact (r7.other gD hO lD).guard upd_same gD lD
              · rw [if_neg hlen] at eq4; exact absurd eq4.symm notS
    · rintro H' ⟨acc, e', G', va, r', s', rs, eq, n'⟩
      rw [List.drop_length] at eq
      have eq1 : R = .ok acc e' := eq.symm
      rw [eq1] at p2
      obtain ⟨r7, hDD, gD, lD⟩ := r'.unguard hO h0
      have out : ∀ {j : Nat} {x : EV}, e'[j]? = some (some x) → j ∉ vs := fun {j x} hx hj => by rw [n' j hj] at hx; cases hx
      have r8 : RepS ⟨X.K, ct⟩ c G' σ H' e' := r7.unwipe (wipe_length σ vs).symm (fun j hj => (wipe_out' hj).symm) n'
      refine p2 G' H' s' r8 _ ⟨D, rfl, ⟨gD, hO, _, hDD, va, rfl, rs⟩, fun j x hx hw => ?_⟩
      rw [← wipe_out' (σ := σ) (out hx)]
      exact lD j x hx hw
theorem v_lc (hc : X.calm = true) (hN : X.N.Nodup) (hi : SI X ct W tg iter fi) (ok : BlkOk X.N X.env.scope scope own) (hts : ∀ i ∈ ts, i ∈ own.map (·.2))
    (hg : ∀ (s : Shared) (H : Hp) (C : Addr) (cl : List (Str × Addr)) (fp : List Addr), SG (X.blk s H scope (compEnvC scope cl C X.env) fp) ct tg ts ft) (ht : ∀ (s : Shared) (H : Hp) (C : Addr) (cl : List (Str × Addr)) (fp : List Addr), PTs (X.blk s H scope (compEnvC scope cl C X.env) fp) ifs (TT ⟨X.K, ct⟩ W0 ff))
    (he : ∀ (s : Shared) (H : Hp) (C : Addr) (cl : List (Str × Addr)) (fp : List Addr), SE (X.blk s H scope (compEnvC scope cl C X.env) fp) ct W0 elt fe) (hs : ∀ x, foldedSetIterable iter X.env x = pure x := by intro _; rfl) :
    SV X ct W (.ListComp elt [⟨tg, iter, ifs, 0⟩] scope pos) (lcF (own.map (·.2)) fi ft ff fe) := PEw (pe_lc hc hN hi ok hg ht he hs) fun σ H Q q => lc_sem hts σ H Q q
theorem pts_yes : PTs X [] (TT ⟨X.K, ct⟩ W0 tYesF) := ⟨fun pins s σ H Q I h => by
  obtain ⟨c, G, e, r, p⟩ := h
  exact pts_nil.run pins s σ H Q I (p.now r)⟩
end

/-! ### statements -/
inductive SRes where
  | nx (e : Env) | bk (e : Env) | ct (e : Env) | rt (x : EV) (e : Env) | exc (x : Exn) (e : Env) | stuck
abbrev SM := Env → SRes
def SRes.bind (r : SRes) (f : SM) : SRes := match r with
  | .nx e => f e
  | r => r
def Res.sb {α : Type} (r : Res α) (f : α → Env → SRes) : SRes := match r with
  | .ok a e => f a e
  | .exc x e => .exc x e
  | .stuck => .stuck
/-- a returned value -/
def RpR (k : Kc) (c : Fr) (G H : Hp) (v : V) : EV → Prop
  | .d d => Rp k G v d
  | .m x => ∃ a, v = .ref a ∧ MAt k c G H a x ∧ ∀ i b, c.P i = some b → b ≠ a
  | .p _ => False
  | .t d x => ∃ q w a, v = .ref q ∧ SqT k.K H q [w, .ref a] ∧ Rp k G w d ∧ MAt k c G H a x ∧ ∀ i b, c.P i = some b → b ≠ a
def PostS (k : Kc) (W : WX) (c : Fr) (G : Hp) (Dn : Ends) : SRes → Prop
  | .nx e => ∀ G' σ H, Same G G' → RepS k c G' σ H e → Dn.nx σ H
  | .bk e => ∀ G' σ H, Same G G' → RepS k c G' σ H e → Dn.bk σ H
  | .ct e => ∀ G' σ H, Same G G' → RepS k c G' σ H e → Dn.ct σ H
  | .rt x e => ∀ G' σ H v, Same G G' → RepS k c G' σ H e → RpR k c G' H v x → Dn.rt v H
  | .exc x e => ∀ G' σ H cls dc, Same G G' → RepS k c G' σ H e → RepX k G' H cls dc x → W cls dc σ H
  | .stuck => False
def TS (k : Kc) (W : WX) (f : SM) : L2.TS := fun Dn σ H => ∃ c G e, RepS k c G σ H e ∧ PostS k W c G Dn (f e)
abbrev SS (X : Cx) (ct : Nat → Addr) (W : WX) (st : Stmt) (f : SM) : Prop := PS X st (TS ⟨X.K, ct⟩ W f)
abbrev SSs (X : Cx) (ct : Nat → Addr) (W : WX) (st : List Stmt) (f : SM) : Prop := PSs X st (TS ⟨X.K, ct⟩ W f)
section
variable {α : Type} {k : Kc} {W : WX} {c : Fr} {G G1 H : Hp} {σ : L2.St} {e : Env} {Dn Dn' : Ends}
theorem PostS.mono {r : SRes} (h : PostS k W c G Dn r) (s : Same G G1) : PostS k W c G1 Dn r := by
  cases r with
  | nx e => exact fun G' σ H s' => h G' σ H (s.trans s')
  | bk e => exact fun G' σ H s' => h G' σ H (s.trans s')
  | ct e => exact fun G' σ H s' => h G' σ H (s.trans s')
  | rt x e => exact fun G' σ H v s' => h G' σ H v (s.trans s')
  | exc x e => exact fun G' σ H cls dc s' => h G' σ H cls dc (s.trans s')
  | stuck => exact h
/-- behind an expression -/
theorem PostS.sb {r : Res α} {f : α → Env → SRes} (h : PostS k W c G Dn (r.sb f)) : Post k W c G σ (fun G1 H1 e1 a => PostS k W c G1 Dn (f a e1)) r := by
  cases r with
  | ok a e => exact fun G' H' s' r' => PostS.mono h s'
  | exc x e => exact fun G' H' cls dc s' r' hx => h G' σ H' cls dc s' r' hx
  | stuck => exact h
end
def sNext : SM := fun e => .nx e
def sSeq (f g : SM) : SM := fun e => (f e).bind g
def sIf (t : EM Bool) (f g : SM) : SM := fun e => (t e).sb fun b e1 => if b = true then f e1 else g e1
def sRet (f : EM EV) : SM := fun e => (f e).sb fun x e1 => .rt x e1
def sRetN : SM := fun e => .rt (.d .non) e
/-- return of a name: an own thing is handed out -/
def sRetV (i : Nat) : SM := fun e => match e[i]? with
  | some (some (.d d)) => .rt (.d d) e
  | some (some (.m x)) => .rt (.m x) e
  | _ => .stuck
def putE (i : Nat) (x : EV) (e : Env) : SRes := match e[i]? with
  | some (some (.p _)) => .stuck
  | some _ => .nx (e.set i (some x))
  | none => .stuck
def sSet (i : Nat) (f : EM EV) : SM := fun e => (f e).sb fun x e1 => putE i x e1
def sDrop (f : EM EV) : SM := fun e => (f e).sb fun _ e1 => .nx e1
section
variable {X : Cx} {ct : Nat → Addr} {W : WX} {st : Stmt} {rest : List Stmt} {f g : SM} {pos pos' : Pos} {ex : Expr} {fv : EM EV} {t : EM Bool} {i : Nat} {x : Str}
theorem ss_nil : SSs X ct W [] sNext := PSsw pss_nil fun Dn σ H q => by
  obtain ⟨c, G, e, r, p⟩ := q
  exact p G σ H (Same.refl _) r
theorem bind_seq {k : Kc} {W : WX} {f g : SM} {Dn : Ends} {σ : L2.St} {H : Hp} (q : TS k W (sSeq f g) Dn σ H) : TS k W f { Dn with nx := TS k W g Dn } σ H := by
  obtain ⟨c, G, e, r, p⟩ := q
  refine ⟨c, G, e, r, ?_⟩
  have p' : PostS k W c G Dn ((f e).bind g) := p
  cases h : f e with
  | nx e1 => rw [h] at p'; exact fun G' σ' H' s' r' => ⟨c, G', e1, r', PostS.mono p' s'⟩
  | bk e1 => rw [h] at p'; exact p'
  | ct e1 => rw [h] at p'; exact p'
  | rt y e1 => rw [h] at p'; exact p'
  | exc y e1 => rw [h] at p'; exact p'
  | stuck => rw [h] at p'; exact p'
theorem ss_cons (h1 : SS X ct W st f) (h2 : SSs X ct W rest g) : SSs X ct W (st :: rest) (sSeq f g) := PSsw (pss_cons h1 h2) fun Dn σ H q => bind_seq q
theorem ss_one (h1 : SS X ct W st f) : SSs X ct W [st] f := pss_one h1
theorem s_if {c : Expr} {a b : List Stmt} (h : ST X ct W c t) (ha : SSs X ct W a f) (hb : SSs X ct W b g) : SS X ct W (.If c a b pos) (sIf t f g) := PSw (ps_if h ha hb) fun Dn σ H q => by
  obtain ⟨c, G, e, r, p⟩ := q
  refine ⟨c, G, e, r, (PostS.sb p).imp fun G' H' e' b s r' h => ?_⟩
  cases b with
  | true => exact ⟨c, G', e', r', h⟩
  | false => exact ⟨c, G', e', r', h⟩
theorem RpV.ret {k : Kc} {c : Fr} {G H : Hp} {σ : L2.St} {e : Env} {v : V} {x : EV} (r : RepS k c G σ H e) (h : RpV k c G σ H e v x) : RpR k c G H v x := by
  cases x with
  | d d => exact h
  | m y =>
    obtain ⟨a, e1, m, l⟩ := h
    refine ⟨a, e1, m, fun i b hb z => ?_⟩
    subst z
    obtain ⟨w, h1, h2⟩ := r.pin i b hb
    exact l i _ h1 rfl h2
  | p y => exact h
  | t _ _ => first | exact h2.elim | exact trivial | cases hw | exact hv.elim | exact h.elim | exact hx.elim | exact hu.elim | cases hy | cases h' | cases hd' | cases h2 | cases h1 | cases hd | cases h3 | cases h4
theorem s_ret (h : SV X ct W ex fv) : SS X ct W (.Return (some ex) pos) (sRet fv) := PSw (ps_ret h) fun Dn σ H q => by
  obtain ⟨c, G, e, r, p⟩ := q
  exact ⟨c, G, e, r, (PostS.sb p).imp fun G' H' e' x s r' h v hv => h G' σ H' v (Same.refl _) r' (hv.ret r')⟩
theorem s_retN : SS X ct W (.Return none pos) sRetN := PSw ps_retN fun Dn σ H q => by
  obtain ⟨c, G, e, r, p⟩ := q
  exact p G σ H _ (Same.refl _) r .non
theorem s_retV (h : PE X (.Name x pos') (tVar i)) : SS X ct W (.Return (some (.Name x pos')) pos) (sRetV i) := PSw (ps_ret h) fun Dn σ H q => by
  obtain ⟨c, G, e, r, p⟩ := q
  unfold sRetV at p
  split at p
  · rename_i d hd
    obtain ⟨v, h1, h2⟩ := r.slot i _ hd
    exact ⟨v, h1, p G σ H v (Same.refl _) r h2⟩
  · rename_i y hy
    obtain ⟨v, h1, a, e1, m⟩ := r.slot i _ hy
    refine ⟨v, h1, p G σ H v (Same.refl _) r ⟨a, e1, m, fun j b hb z => ?_⟩⟩
    subst z
    obtain ⟨w, h3, h4⟩ := r.pin j b hb
    rw [e1] at h1
    have := r.dis i j b _ _ hy h3 rfl rfl h1 h4
    subst this
    rw [hy] at h3
    cases h3
  · exact p.elim
theorem s_pass : SS X ct W (.Pass pos) sNext := PSw ps_pass fun Dn σ H q => by
  obtain ⟨c, G, e, r, p⟩ := q
  exact p G σ H (Same.refl _) r
theorem s_break : SS X ct W (.Break pos) (fun e => .bk e) := PSw ps_break fun Dn σ H q => by
  obtain ⟨c, G, e, r, p⟩ := q
  exact p G σ H (Same.refl _) r
theorem s_cont : SS X ct W (.Continue pos) (fun e => .ct e) := PSw ps_continue fun Dn σ H q => by
  obtain ⟨c, G, e, r, p⟩ := q
  exact p G σ H (Same.refl _) r
/-- a statement that is never come to -/
theorem s_never : SS X ct W st (fun _ => .stuck) := ⟨fun pins s σ H Dn I q => by
  obtain ⟨c, G, e, r, p⟩ := q
  exact p.elim⟩
theorem putE_ok {k : Kc} {W : WX} {c : Fr} {G H : Hp} {σ : L2.St} {e : Env} {Dn : Ends} {i : Nat} {x : EV} {v : V} (r : RepS k c G σ H e) (hv : RpV k c G σ H e v x) (p : PostS k W c G Dn (putE i x e)) : Dn.nx (σ.set i (some v)) H := by
  unfold putE at p
  split at p
  · exact p.elim
  · rename_i y hn hy
    refine p G _ H (Same.refl _) (r.put (x := some x) (r.nopin hy fun z q => hn z q) (fun y hy => ?_) (fun y b hy hw ev => ?_))
    · cases hy
      cases x with
      | d d => exact hv
      | m z => obtain ⟨a, e1, m, _⟩ := hv; exact ⟨a, e1, m⟩
      | p z => exact hv.elim
      | t _ _ => first | exact h2.elim | exact trivial | cases hw | exact hv.elim | exact h.elim | exact hx.elim | exact hu.elim | cases hy | cases h' | cases hd' | cases h2 | cases h1 | cases hd | cases h3 | cases h4
    · cases hy
      cases x with
      | d d => cases hw
      | m z =>
        obtain ⟨a, e1, _, l⟩ := hv
        rw [ev] at e1
        cases e1
        intro j w hj hjw
        rcases set_get hj with ⟨_, q, _⟩ | ⟨_, q⟩
        · cases q
        · exact l j w q hjw
      | p z => exact hv.elim
      | t _ _ => first | exact h2.elim | exact trivial | cases hw | exact hv.elim | exact h.elim | exact hx.elim | exact hu.elim | cases hy | cases h' | cases hd' | cases h2 | cases h1 | cases hd | cases h3 | cases h4
  · exact p.elim
theorem s_set (hN : X.N.Nodup) (hi : X.N[i]? = some x) (hx : Loc X.env.scope x) (he : SV X ct W ex fv) (hs : swapsWith ex (some (.Name x pos')) pos.line X.env = pure false := by rfl) (hf : X.fn x = true ∨ X.env.scope.names.lookup x = some .local := by first | exact .inl rfl | exact .inr rfl | assumption) :
    SS X ct W (.Assign [.Name x pos'] ex pos) (sSet i fv) := PSw (ps_set hN hi hx he hs hf) fun Dn σ H q => by
  obtain ⟨c, G, e, r, p⟩ := q
  exact ⟨c, G, e, r, (PostS.sb p).imp fun G' H' e' y s r' h v hv => putE_ok r' hv h⟩
theorem s_expr (he : SV X ct W ex fv) (hs : swapsWith ex none pos.line X.env = pure false := by rfl) : SS X ct W (.Expr ex pos) (sDrop fv) := PSw (ps_expr he hs) fun Dn σ H q => by
  obtain ⟨c, G, e, r, p⟩ := q
  exact ⟨c, G, e, r, (PostS.sb p).imp fun G' H' e' y s r' h v hv => h G' σ H' (Same.refl _) r'⟩
end
section
variable {X : Cx} {ct : Nat → Addr} {W : WX} {elt tg iter : Expr} {ifs : List Expr} {scope : Scope} {own : List (Str × Nat)} {pos spos py : Pos} {fi : EM (List D)} {ft : D → Env → Option Env} {ff : EM Bool} {fe : EM D} {ts : List Nat} {i : Nat} {y : Str}
theorem s_setLc (hc : X.calm = true) (hN : X.N.Nodup) (hy : X.N[i]? = some y) (hyl : X.env.scope.names.lookup y = some .local)
    (hsw : swapsWith (.ListComp elt [⟨tg, iter, ifs, 0⟩] scope pos) (some (.Name y py)) spos.line X.env = pure true) (hi : SI X ct W tg iter fi) (ok : BlkOk X.N X.env.scope scope own) (hts : ∀ i ∈ ts, i ∈ own.map (·.2))
    (hg : ∀ (s : Shared) (H : Hp) (C : Addr) (cl : List (Str × Addr)) (fp : List Addr), SG (X.blk s H scope (compEnvC scope cl C X.env) fp) ct tg ts ft) (ht : ∀ (s : Shared) (H : Hp) (C : Addr) (cl : List (Str × Addr)) (fp : List Addr), PTs (X.blk s H scope (compEnvC scope cl C X.env) fp) ifs (TT ⟨X.K, ct⟩ W0 ff))
    (he : ∀ (s : Shared) (H : Hp) (C : Addr) (cl : List (Str × Addr)) (fp : List Addr), SE (X.blk s H scope (compEnvC scope cl C X.env) fp) ct W0 elt fe) (hs : ∀ x, foldedSetIterable iter X.env x = pure x := by intro _; rfl) :
    SS X ct W (.Assign [.Name y py] (.ListComp elt [⟨tg, iter, ifs, 0⟩] scope pos) spos) (sSet i (lcF (own.map (·.2)) fi ft ff fe)) := PSw (ps_setLc hc hN hy hyl hsw hi ok hg ht he hs) fun Dn σ H q => by
  obtain ⟨c, G, e, r, p⟩ := q
  refine lc_sem hts σ H _ ⟨c, G, e, r, (PostS.sb p).imp fun G' H' e' y s r' h v hv => putE_ok r' hv h⟩
end
end MM
end
section
set_option Elab.async false
set_option linter.all false
set_option autoImplicit false
set_option maxRecDepth 100000
set_option maxHeartbeats 4000000
namespace PySem.AutoSeq1
open Sem (wp)
theorem list_extend_list_tuple_gen (l : Addr) (items : Array Value) (n : Nat) (b : Addr) (items2 : Array Value) (n2 : Nat) (dct : Option Addr) (sl : Array (Option Value)) (hs0 : ¬(!items.isEmpty && Builtin.List.listTooLong (items.size + items2.size)) = true) (hs1 : items.size ≤ sizeLine) (hs2 : items.size + items2.size ≤ sizeLine + 1) :
    Meets (Builtin.«list.extend» ⟨[.ref l, .ref b], []⟩) (fun _ R s => s.heap.get? l = some { cls := .type "list", dict := none, data := .seq items n, slots := #[] } ∧ s.heap.get? b = some { cls := .type "tuple", dict := dct, data := .seq items2 n2, slots := sl } ∧ R (.ok (.ret Value.none)) { s with heap := s.heap.update l (Obj.mapSeq fun x => x ++ items2), toks := s.toks }) :=
  .of_wp fun prog w A R s h => by
    obtain ⟨hp, g, d, tk, os⟩ := s; obtain ⟨hl, hb, h⟩ := h; have f1 := idx_int; have f2 := sub_tuple_tuple; have f3 := sub_list_list; have f4 := sub_tuple_list; have f5 := sub_list_tuple;
    have hz' : (items ++ items2).size ≤ sizeLine + 1 := by rw [Array.size_append]; exact hs2
    wp_walk using (wpAny_updateSeq hl rfl (hz := hs1) (_hz' := hz')), wpAny_loadPart' hl, wpAny_loadPart' hb; exact ⟨_, rfl, h⟩
end PySem.AutoSeq1
namespace MM
open PySem PySem.Spec L2

/-! ### for, while -/
def forGo (ft : D → Env → Option Env) (body : SM) : List D → SM
  | [], e => .nx e
  | d :: ds, e => match ft d e with
    | none => .stuck
    | some e1 => match body e1 with
      | .nx e2 => forGo ft body ds e2
      | .ct e2 => forGo ft body ds e2
      | .bk e2 => .nx e2
      | r => r
def sFor (fi : EM (List D)) (ft : D → Env → Option Env) (body : SM) : SM := fun e => (fi e).sb fun ds e1 => forGo ft body ds e1
def whileGo (t : EM Bool) (body : SM) : Nat → Env → SRes
  | 0, _ => .stuck
  | n + 1, e => (t e).sb fun b e1 => if b = true then (match body e1 with
      | .nx e2 => whileGo t body n e2
      | .ct e2 => whileGo t body n e2
      | .bk e2 => .nx e2
      | r => r) else .nx e1
open Classical in
noncomputable def sWhile (t : EM Bool) (body : SM) : SM := fun e => if h : ∃ n, whileGo t body n e ≠ .stuck then whileGo t body (Classical.choose h) e else .stuck
theorem whileGo_mono {t : EM Bool} {body : SM} : ∀ {n m : Nat} {e : Env}, n ≤ m → whileGo t body n e ≠ .stuck → whileGo t body m e = whileGo t body n e
  | 0, _, _, _, h => absurd rfl h
  | n + 1, 0, _, hm, _ => by omega
  | n + 1, m + 1, e, hm, h => by
    have h' : (t e).sb (fun b e1 => if b = true then (match body e1 with
      | .nx e2 => whileGo t body n e2
      | .ct e2 => whileGo t body n e2
      | .bk e2 => .nx e2
      | r => r) else .nx e1) ≠ .stuck := h
    show (t e).sb (fun b e1 => if b = true then (match body e1 with
      | .nx e2 => whileGo t body m e2
      | .ct e2 => whileGo t body m e2
      | .bk e2 => .nx e2
      | r => r) else .nx e1) = (t e).sb (fun b e1 => if b = true then (match body e1 with
      | .nx e2 => whileGo t body n e2
      | .ct e2 => whileGo t body n e2
      | .bk e2 => .nx e2
      | r => r) else .nx e1)
    cases q : t e with
    | ok b e1 =>
      rw [q] at h'
      cases b with
      | false => rfl
      | true =>
        have h2 : (match body e1 with
          | .nx e2 => whileGo t body n e2
          | .ct e2 => whileGo t body n e2
          | .bk e2 => .nx e2
          | r => r) ≠ .stuck := h'
        show (match body e1 with
          | .nx e2 => whileGo t body m e2
          | .ct e2 => whileGo t body m e2
          | .bk e2 => .nx e2
          | r => r) = (match body e1 with
          | .nx e2 => whileGo t body n e2
          | .ct e2 => whileGo t body n e2
          | .bk e2 => .nx e2
          | r => r)
        cases q2 : body e1 with
        | nx e2 => rw [q2] at h2; exact whileGo_mono (by omega) h2
        | ct e2 => rw [q2] at h2; exact whileGo_mono (by omega) h2
        | bk e2 => rfl
        | rt x e2 => rfl
        | exc x e2 => rfl
        | stuck => rfl
    | exc x e1 => rfl
    | stuck => rfl
/-- a while, by a run of it -/
theorem sWhile_eq {t : EM Bool} {body : SM} {n : Nat} {e : Env} {r : SRes} (h : whileGo t body n e = r) (hr : r ≠ .stuck) : sWhile t body e = r := by
  have ex : ∃ n, whileGo t body n e ≠ .stuck := ⟨n, by rw [h]; exact hr⟩
  unfold sWhile
  rw [dif_pos ex]
  have hc := Classical.choose_spec ex
  rcases Nat.le_total n (Classical.choose ex) with q | q
  · rw [whileGo_mono q (by rw [h]; exact hr), h]
  · rw [← whileGo_mono q hc, h]
section
variable {X : Cx} {ct : Nat → Addr} {W : WX} {tg iter c : Expr} {body : List Stmt} {pos : Pos} {fi : EM (List D)} {ft : D → Env → Option Env} {fb : SM} {t : EM Bool} {ts : List Nat}
theorem s_for (hp : PassesOwn (model X.prog X.w) X.A X.env X.xe) (hc : X.calm = true) (hi : SI X ct W tg iter fi) (hg : SG X ct tg ts ft) (hb : SSs X ct W body fb) (hs : ∀ x, foldedSetIterable iter X.env x = pure x := by intro _; rfl) :
    SS X ct W (.For tg iter body [] pos) (sFor fi ft fb) := PSw (ps_for hp hc hi hg hb hs) fun Dn σ H q => by
  obtain ⟨c, G, e, r, p⟩ := q
  refine ⟨c, G, e, r, (PostS.sb p).imp fun G1 H1 e1 ds s1 r1 p1 J hJ => ?_⟩
  generalize hR : forGo ft fb ds e1 = R at p1
  have notS : R ≠ .stuck := fun z => by rw [z] at p1; exact p1
  refine for_it (walk_of hJ) (fun i σ H => ∃ e' G', RepS ⟨X.K, ct⟩ c G' σ H e' ∧ Same G1 G' ∧ forGo ft fb (ds.drop i) e' = R) ⟨e1, G1, r1, Same.refl _, hR⟩ (fun i σ H _ ⟨e', G', r', s', _⟩ => s'.trans r'.gh) ?_ ?_
  · rintro i x σ' H' H'' hi ⟨e', G', r', s', eq⟩ y
    obtain ⟨G2, d, hd, s2, r2, hx⟩ := item_ok r' s' y
    rw [drop_at hd] at eq
    have eq1 : (match ft d e' with
      | none => .stuck
      | some e1 => match fb e1 with
        | .nx e2 => forGo ft fb (ds.drop (i + 1)) e2
        | .ct e2 => forGo ft fb (ds.drop (i + 1)) e2
        | .bk e2 => .nx e2
        | r => r) = R := eq
    cases h1 : ft d e' with
    | none => rw [h1] at eq1; exact absurd eq1.symm notS
    | some e3 =>
      rw [h1] at eq1
      have eq2 : (match fb e3 with
        | .nx e2 => forGo ft fb (ds.drop (i + 1)) e2
        | .ct e2 => forGo ft fb (ds.drop (i + 1)) e2
        | .bk e2 => .nx e2
        | r => r) = R := eq1
      refine ⟨c, G2, e', d, e3, r2, hx, h1, fun σ3 r3 hl hj => ⟨c, G2, e3, r3, ?_⟩⟩
      have sall := s'.trans s2
      cases h2 : fb e3 with
      | nx e4 => rw [h2] at eq2; exact fun G3 σ4 H4 s3 r4 => ⟨e4, G3, r4, sall.trans s3, eq2⟩
      | ct e4 => rw [h2] at eq2; exact fun G3 σ4 H4 s3 r4 => ⟨e4, G3, r4, sall.trans s3, eq2⟩
      | bk e4 =>
        rw [h2] at eq2
        have e5 : R = .nx e4 := eq2.symm
        rw [e5] at p1
        exact fun G3 σ4 H4 s3 r4 => p1 G3 σ4 H4 (sall.trans s3) r4
      | rt v e4 =>
        rw [h2] at eq2
        have e5 : R = .rt v e4 := eq2.symm
        rw [e5] at p1
        exact fun G3 σ4 H4 u s3 r4 hu => p1 G3 σ4 H4 u (sall.trans s3) r4 hu
      | exc v e4 =>
        rw [h2] at eq2
        have e5 : R = .exc v e4 := eq2.symm
        rw [e5] at p1
        exact fun G3 σ4 H4 cls dc s3 r4 hu => p1 G3 σ4 H4 cls dc (sall.trans s3) r4 hu
      | stuck => rw [h2] at eq2; exact absurd eq2.symm notS
  · rintro σ' H' ⟨e', G', r', s', eq⟩
    rw [List.drop_length] at eq
    have e5 : R = .nx e' := eq.symm
    rw [e5] at p1
    exact p1 G' σ' H' s' r'
theorem s_while (hp : PassesOwn (model X.prog X.w) X.A X.env X.xe) (hc : ST X ct W c t) (hb : SSs X ct W body fb) : SS X ct W (.While c body [] pos) (sWhile t fb) := PSw (ps_while hp hc hb) fun Dn σ H q => by
  obtain ⟨c, G, e, r, p⟩ := q
  unfold sWhile at p
  split at p
  · rename_i hex
    generalize Classical.choose hex = n at p
    generalize hR : whileGo t fb n e = R at p
    have notS : R ≠ .stuck := fun z => by rw [z] at p; exact p
    refine ⟨fun m σ H => ∃ e' G', RepS ⟨X.K, ct⟩ c G' σ H e' ∧ Same G G' ∧ whileGo t fb m e' = R, ⟨n, e, G, r, Same.refl _, hR⟩, ?_⟩
    rintro m σ' H' ⟨e', G', r', s', eq⟩
    cases m with
    | zero => exact absurd eq.symm notS
    | succ m =>
      have eq1 : (t e').sb (fun b e1 => if b = true then (match fb e1 with
        | .nx e2 => whileGo t fb m e2
        | .ct e2 => whileGo t fb m e2
        | .bk e2 => .nx e2
        | r => r) else .nx e1) = R := eq
      refine ⟨c, G', e', r', ?_⟩
      cases q : t e' with
      | stuck => rw [q] at eq1; exact absurd eq1.symm notS
      | exc x e1 =>
        rw [q] at eq1
        have e5 : R = .exc x e1 := eq1.symm
        rw [e5] at p
        exact fun G2 H2 cls dc s2 r2 hx => p G2 σ' H2 cls dc (s'.trans s2) r2 hx
      | ok b e1 =>
        rw [q] at eq1
        intro G2 H2 s2 r2
        cases b with
        | false =>
          have e5 : R = .nx e1 := eq1.symm
          rw [e5] at p
          rw [if_neg Bool.false_ne_true]
          exact p G2 σ' H2 (s'.trans s2) r2
        | true =>
          rw [if_pos rfl]
          refine ⟨fun σ H => ∃ e' G', RepS ⟨X.K, ct⟩ c G' σ H e' ∧ Same G G' ∧ whileGo t fb m e' = R, fun σ H z => ⟨m, Nat.lt_succ_self m, z⟩, c, G2, e1, r2, ?_⟩
          have eq2 : (match fb e1 with
            | .nx e2 => whileGo t fb m e2
            | .ct e2 => whileGo t fb m e2
            | .bk e2 => .nx e2
            | r => r) = R := eq1
          have sall := s'.trans s2
          cases h2 : fb e1 with
          | nx e4 => rw [h2] at eq2; exact fun G3 σ4 H4 s3 r4 => ⟨e4, G3, r4, sall.trans s3, eq2⟩
          | ct e4 => rw [h2] at eq2; exact fun G3 σ4 H4 s3 r4 => ⟨e4, G3, r4, sall.trans s3, eq2⟩
          | bk e4 =>
            rw [h2] at eq2
            have e5 : R = .nx e4 := eq2.symm
            rw [e5] at p
            exact fun G3 σ4 H4 s3 r4 => p G3 σ4 H4 (sall.trans s3) r4
          | rt v e4 =>
            rw [h2] at eq2
            have e5 : R = .rt v e4 := eq2.symm
            rw [e5] at p
            exact fun G3 σ4 H4 u s3 r4 hu => p G3 σ4 H4 u (sall.trans s3) r4 hu
          | exc v e4 =>
            rw [h2] at eq2
            have e5 : R = .exc v e4 := eq2.symm
            rw [e5] at p
            exact fun G3 σ4 H4 cls dc s3 r4 hu => p G3 σ4 H4 cls dc (sall.trans s3) r4 hu
          | stuck => rw [h2] at eq2; exact absurd eq2.symm notS
  · exact p.elim
end

/-! ### own things changed by methods, by stores -/
/-- the thing that the slot holds, to be changed -/
def mutE (e : Env) (i : Nat) : Option MV := match e[i]? with
  | some (some (.m y)) => some y
  | some (some (.p y)) => some y
  | _ => none
def reE (e : Env) (i : Nat) (y : MV) : Env := match e[i]? with
  | some (some (.p _)) => e.set i (some (.p y))
  | _ => e.set i (some (.m y))
theorem mutE_ok {k : Kc} {c : Fr} {G H : Hp} {σ : L2.St} {e : Env} {i : Nat} {y : MV} (r : RepS k c G σ H e) (h : mutE e i = some y) : ∃ a o, σ[i]? = some (some (.ref a)) ∧ H a = some o ∧ MRep k G o y ∧ G a = none ∧
    ∀ o' y', MRep k G o' y' → RepS k c G σ (upd H a o') (reE e i y') := by
  unfold mutE at h
  split at h
  · rename_i z hz
    cases h
    obtain ⟨a, w, hw, ha, m1, m2, o, m3, m4⟩ := r.owner hz rfl
    have ew : w = y := by
      rcases hw with q | q
      · injection q with q; exact q.symm
      · cases q
    subst ew
    refine ⟨a, o, ha, m3, m4, m1, fun o' y' m => ?_⟩
    have e2 : reE e i y' = e.set i (some (.m y')) := by unfold reE; rw [hz]
    rw [e2]
    exact r.write hz rfl ha m (.inl ⟨rfl, rfl, fun _ q => by cases q⟩)
  · rename_i z hz
    cases h
    obtain ⟨a, w, hw, ha, m1, m2, o, m3, m4⟩ := r.owner hz rfl
    have ew : w = y := by
      rcases hw with q | q
      · cases q
      · injection q with q; exact q.symm
    subst ew
    refine ⟨a, o, ha, m3, m4, m1, fun o' y' m => ?_⟩
    have e2 : reE e i y' = e.set i (some (.p y')) := by unfold reE; rw [hz]
    rw [e2]
    exact r.write hz rfl ha m (.inr ⟨rfl, fun _ q => by cases q⟩)
  · cases h
/-- a method by values gives what g says: the thing changed, a scalar or other data out -/
def MutG (k : Kc) (r : V → List V → Hp → VK → Prop) (g : MV → List D → Option (MV × D)) : Prop := ∀ (G H : Hp) (a : Addr) (o : HO) (y y' : MV) (vs : List V) (ds : List D) (z : D) (Q : VK), Same G H → H a = some o → MRep k G o y → Rps k G vs ds → g y ds = some (y', z) →
  (∀ o' v, MRep k G o' y' → Rp k G v z → Q v (upd H a o')) → r (.ref a) vs H Q
def tyM (T : String) : MV → Bool
  | .lst _ => decide (T = "list")
  | .dic _ _ => decide (T = "dict")
  | _ => false
def cMut (T : String) (i : Nat) (g : MV → List D → Option (MV × D)) (f : EM (List Tk)) : EM D := fun e => match mutE e i with
  | some y0 => if tyM T y0 = true then (f e).bind fun ts e1 => (match mutE e1 i, vals ts with
    | some y, some ds => (match g y ds with
      | some (y', z) => .ok z (reE e1 i y')
      | none => .stuck)
    | _, _ => .stuck) else .stuck
  | none => .stuck
def gAppend : MV → List D → Option (MV × D)
  | .lst xs, [d] => if xs.length < LIM then some (.lst (xs ++ [d]), .non) else none
  | _, _ => none
def gExtend : MV → List D → Option (MV × D)
  | .lst xs, [.lst ys] => if xs.length + ys.length ≤ LIM then some (.lst (xs ++ ys), .non) else none
  | .lst xs, [.tup ys] => if xs.length + ys.length ≤ LIM then some (.lst (xs ++ ys), .non) else none
  | _, _ => none
def gPop : MV → List D → Option (MV × D)
  | .lst xs, [] => (xs[xs.length - 1]?).map fun d => (.lst xs.dropLast, d)
  | _, _ => none
def gPopAt : MV → List D → Option (MV × D)
  | .lst xs, [.int i] => if rngOk i = true then (match seqIndex? i xs.length with
    | some j => (xs[j]?).map fun d => (.lst (xs.eraseIdx j), d)
    | none => none) else none
  | _, _ => none
section
variable {X : Cx} {ct : Nat → Addr} {W : WX}
def rExtendT (K : PySem.W.Frag) : V → List V → Hp → VK → Prop := fun x vs H Q => ∃ l b xs zs, x = .ref l ∧ vs = [.ref b] ∧ H l = some (.lst xs) ∧ SqT K H b zs ∧ xs.length + zs.length ≤ sizeLine ∧ Q .non (upd H l (.lst (xs ++ zs)))
theorem mt_extendT : MtM X "list.extend" (rExtendT X.K) := by
  intro pins s σ H x vs v us Q I rx rv h
  obtain ⟨l, b, xs, zs, rfl, rfl, hH, hB, hz, q⟩ := h
  cases rx
  obtain ⟨u, rfl, ru⟩ := rv.one
  cases ru
  obtain ⟨z, its, n, r, hl, e⟩ := I.lstM hH
  obtain ⟨its2, r2, ⟨⟨oc, od, odt, osl⟩, ho, hc, n2, hd⟩, z2⟩ := I.tuple hB
  have hl2 := r2.length
  replace hc : oc = .type "tuple" := hc
  replace hd : odt = .seq its2.toArray n2 := hd
  subst hc hd
  have hsz : its.toArray.size + its2.toArray.size ≤ sizeLine := by rw [List.size_toArray, List.size_toArray]; omega
  have hlong : ¬ (!its.toArray.isEmpty && Builtin.List.listTooLong (its.toArray.size + its2.toArray.size)) = true := by
    rw [notLongL hsz, Bool.and_false]
    exact Bool.false_ne_true
  refine call_meets F.slot_list_extend ⟨_, e, rfl⟩ F.entry_list_extend (F.args_list_extend_2 _ _)
    (AutoSeq1.list_extend_list_tuple_gen l its.toArray n b its2.toArray n2 od osl hlong (by rw [List.size_toArray]; omega) (by omega)) ⟨e, ho, ?_⟩
  refine ⟨.non, _, I.lset (its' := its ++ its2) hH e (by simp) (r.append r2) ?_, rfl, q⟩
  rw [List.length_append]
  omega
theorem MtM.or {id : String} {r r' : V → List V → Hp → VK → Prop} (h : MtM X id r) (h' : MtM X id r') : MtM X id (fun x vs H Q => r x vs H Q ∨ r' x vs H Q) := fun pins s σ H x xs v us Q I rx rv q =>
  q.elim (h pins s σ H x xs v us Q I rx rv) (h' pins s σ H x xs v us Q I rx rv)
theorem mutG_append : MutG ⟨X.K, ct⟩ rAppend gAppend := fun G H a o y y' vs ds z Q g hH m rs hg q => by
  unfold gAppend at hg
  split at hg
  · split at hg
    · rename_i hl
      cases hg
      obtain ⟨us, rfl, ru⟩ := m
      obtain ⟨v, rfl, hv⟩ := rs.one
      exact ⟨a, us, v, rfl, rfl, hH, by rw [ru.len]; exact Nat.lt_of_lt_of_le hl (lim_le (Nat.le_refl _)), q _ _ ⟨_, rfl, ru.app (.cons hv .nil)⟩ .non⟩
    · cases hg
  · cases hg
theorem mutG_extend : MutG ⟨X.K, ct⟩ (fun x vs H Q => rExtend x vs H Q ∨ rExtendT X.K x vs H Q) gExtend := fun G H a o y y' vs ds z Q g hH m rs hg q => by
  unfold gExtend at hg
  split at hg
  · split at hg
    · rename_i hl
      cases hg
      obtain ⟨us, rfl, ru⟩ := m
      obtain ⟨v, rfl, hv⟩ := rs.one
      cases hv with
      | lst h1 h2 => exact .inl ⟨a, _, us, _, rfl, rfl, hH, g _ _ h1, by rw [ru.len, h2.len]; exact lim_le hl, q _ _ ⟨_, rfl, ru.app h2⟩ .non⟩
    · cases hg
  · split at hg
    · rename_i hl
      cases hg
      obtain ⟨us, rfl, ru⟩ := m
      obtain ⟨v, rfl, hv⟩ := rs.one
      cases hv with
      | tup h1 h2 => exact .inr ⟨a, _, us, _, rfl, rfl, hH, seqT g h1, by rw [ru.len, h2.len]; exact lim_le hl, q _ _ ⟨_, rfl, ru.app h2⟩ .non⟩
    · cases hg
  · cases hg
theorem mutG_pop : MutG ⟨X.K, ct⟩ rPop gPop := fun G H a o y y' vs ds z Q g hH m rs hg q => by
  unfold gPop at hg
  split at hg
  · rename_i xs
    cases hx : xs[xs.length - 1]? with
    | none => rw [hx] at hg; cases hg
    | some d =>
      rw [hx] at hg
      cases hg
      obtain ⟨us, rfl, ru⟩ := m
      cases rs
      obtain ⟨v, hv, rv⟩ := ru.get hx
      exact ⟨a, us, v, rfl, rfl, hH, by rw [ru.len]; exact hv, q _ _ ⟨_, rfl, ru.dropLast⟩ rv⟩
  · cases hg
theorem mutG_popAt : MutG ⟨X.K, ct⟩ rPopAt gPopAt := fun G H a o y y' vs ds z Q g hH m rs hg q => by
  unfold gPopAt at hg
  split at hg
  · rename_i xs i
    split at hg
    · rename_i hr
      obtain ⟨b1, b2⟩ := rngOk_iff hr
      split at hg
      · rename_i j hj
        cases hx : xs[j]? with
        | none => rw [hx] at hg; cases hg
        | some d =>
          rw [hx] at hg
          cases hg
          obtain ⟨us, rfl, ru⟩ := m
          obtain ⟨w, rfl, hw⟩ := rs.one
          cases hw
          obtain ⟨v, hv, rv⟩ := ru.get hx
          exact ⟨a, us, i, j, v, rfl, rfl, hH, by omega, by omega, by rw [ru.len]; exact hj, hv, q _ _ ⟨_, rfl, ru.erase j⟩ rv⟩
      · cases hg
    · cases hg
  · cases hg
variable {i : Nat} {x name : Str} {p apos cpos : Pos} {a : Expr} {es : List Expr} {fs : EM (List Tk)} {T id : String} {r : V → List V → Hp → VK → Prop} {g : MV → List D → Option (MV × D)}
theorem tyM_ok {k : Kc} {G H : Hp} {a : Addr} {o : HO} {y : MV} (h : tyM T y = true) (hH : H a = some o) (m : MRep k G o y) : tyV k.K T (.ref a) H := by
  cases y with
  | lst ds =>
    obtain ⟨vs, rfl, _⟩ := m
    exact .inl ⟨of_decide_eq_true h, _, SqL.of hH⟩
  | dic ks ds =>
    obtain ⟨kvs, rfl, _⟩ := m
    exact .inr (.inr (.inl ⟨of_decide_eq_true h, .inl ⟨_, hH⟩⟩))
  | obj c ns ds => cases h
theorem e_mut (pa : PlainAttrs T) (slot : Slot T name id) (hty : typeOf (.builtin id) = pure (.type "method_descriptor")) (hm : MtM X id r) (hG : MutG ⟨X.K, ct⟩ r g) (ho : PE X (.Name x p) (tVar i)) (ha : SA X ct W (a :: es) fs)
    (hbase : attributeBase (.Name x p) name X.env (eval (.Name x p) X.env) = eval (.Name x p) X.env := by rfl)
    (hfew : ((backTo cpos (starEach (a :: es) X.env)).all (fun x => !x.1) && (backToKw cpos (keywordEach [] X.env)).all (fun x => x.1.isSome)
      && decide ((a :: es).length + ([] : List Keyword).length + (if ([] : List Keyword).isEmpty then 0 else 1) < 30)) = true := by rfl)
    (hline : (apos.endLine == cpos.line) = true := by rfl) (hs : starEach (a :: es) X.env = (false, eval a X.env) :: starEach es X.env := by rfl) (hplain : (backTo cpos (starEach es X.env)).any (·.1) = false := by rfl) :
    SE X ct W (.Call (.Attribute (.Name x p) name apos) (a :: es) [] cpos) (cMut T i g fs) := PEw (pe_bm pa slot hty hm ho ha hbase hfew hline hs hplain) fun σ H Q q => by
  obtain ⟨c, G, e, re, p⟩ := q
  unfold cMut at p
  cases hy : mutE e i with
  | none => rw [hy] at p; exact p.elim
  | some y0 =>
    rw [hy] at p
    obtain ⟨a0, o0, ha0, hH0, m0, _, _⟩ := mutE_ok re hy
    refine ⟨_, ha0, ?_⟩
    have p' : Post ⟨X.K, ct⟩ W c G σ (fun G' H' x d => ∀ v, Rp ⟨X.K, ct⟩ G' v d → Q v H') (if tyM T y0 = true then (fs e).bind fun ts e1 => (match mutE e1 i, vals ts with
      | some y, some ds => (match g y ds with
        | some (y', z) => .ok z (reE e1 i y')
        | none => .stuck)
      | _, _ => .stuck) else .stuck) := p
    by_cases ht : tyM T y0 = true
    · rw [if_pos ht] at p'
      refine ⟨tyM_ok ht hH0 m0, c, G, e, re, (Post.bind p').imp fun G1 H1 e1 ts s1 r1 p1 vs hvs => ?_⟩
      split at p1
      · rename_i y ds h1 h2
        split at p1
        · rename_i y' z hg
          obtain ⟨a1, o1, ha1, hH1, m1, _, hre⟩ := mutE_ok r1 h1
          rw [ha0] at ha1
          cases ha1
          exact hG G1 H1 a0 o1 y y' vs ds z Q r1.gh hH1 m1 (vals_ok h2 hvs) hg fun o' v m' hv => p1 G1 _ (Same.refl _) (hre o' y' m') v hv
        · exact p1.elim
      · exact p1.elim
    · rw [if_neg ht] at p'; exact p'.elim
theorem e_mut0 (pa : PlainAttrs T) (slot : Slot T name id) (hty : typeOf (.builtin id) = pure (.type "method_descriptor")) (hm : MtM X id r) (hG : MutG ⟨X.K, ct⟩ r g) (ho : PE X (.Name x p) (tVar i))
    (hbase : attributeBase (.Name x p) name X.env (eval (.Name x p) X.env) = eval (.Name x p) X.env := by rfl) (hline : (apos.endLine == cpos.line) = true := by rfl) :
    SE X ct W (.Call (.Attribute (.Name x p) name apos) [] [] cpos) (cMut T i g aNil) := PEw (pe_bm0 pa slot hty hm ho hbase hline) fun σ H Q q => by
  obtain ⟨c, G, e, re, p⟩ := q
  unfold cMut at p
  cases hy : mutE e i with
  | none => rw [hy] at p; exact p.elim
  | some y0 =>
    rw [hy] at p
    obtain ⟨a0, o0, ha0, hH0, m0, _, hre⟩ := mutE_ok re hy
    refine ⟨_, ha0, ?_⟩
    have p' : Post ⟨X.K, ct⟩ W c G σ (fun G' H' x d => ∀ v, Rp ⟨X.K, ct⟩ G' v d → Q v H') (if tyM T y0 = true then (match mutE e i, vals [] with
      | some y, some ds => (match g y ds with
        | some (y', z) => .ok z (reE e i y')
        | none => .stuck)
      | _, _ => .stuck) else .stuck) := p
    by_cases ht : tyM T y0 = true
    · rw [if_pos ht, hy] at p'
      refine ⟨tyM_ok ht hH0 m0, ?_⟩
      have p2 : Post ⟨X.K, ct⟩ W c G σ (fun G' H' x d => ∀ v, Rp ⟨X.K, ct⟩ G' v d → Q v H') (match g y0 [] with
        | some (y', z) => .ok z (reE e i y')
        | none => .stuck) := p'
      split at p2
      · rename_i y' z hg
        exact hG G H a0 o0 y0 y' [] [] z Q re.gh hH0 m0 .nil hg fun o' v m' hv => p2 G _ (Same.refl _) (hre o' y' m') v hv
      · exact p2.elim
    · rw [if_neg ht] at p'; exact p'.elim
end
end MM
end
section
set_option Elab.async false
set_option linter.all false
set_option autoImplicit false
set_option maxRecDepth 100000
set_option maxHeartbeats 4000000
namespace MM
open PySem PySem.Spec L2

/-! ### targets in general: names, places of own lists, several -/
abbrev GT := D → Env → Option Env
def TG2 (k : Kc) (gt : GT) : L2.TG := fun v σ H Q => ∃ c G e d e', RepS k c G σ H e ∧ Rp k G v d ∧ gt d e = some e' ∧ ∀ G' σ' H', Same G G' → RepS k c G' σ' H' e' → Q σ' H'
abbrev SG2 (X : Cx) (ct : Nat → Addr) (tg : Expr) (gt : GT) : Prop := PG X tg (TG2 ⟨X.K, ct⟩ gt)
def TG2s (k : Kc) (gt : List D → Env → Option Env) : L2.TGs := fun vs σ H Q => ∃ c G e ds e', RepS k c G σ H e ∧ Rps k G vs ds ∧ gt ds e = some e' ∧ ∀ G' σ' H', Same G G' → RepS k c G' σ' H' e' → Q σ' H'
abbrev SG2s (X : Cx) (ct : Nat → Addr) (tgs : List Expr) (gt : List D → Env → Option Env) : Prop := PGs X tgs (TG2s ⟨X.K, ct⟩ gt)
theorem PGsw {X : Cx} {tg : List Expr} {t t' : L2.TGs} (h : PGs X tg t) (w : ∀ v σ H Q, t' v σ H Q → t v σ H Q) : PGs X tg t' := ⟨fun pins s σ H v u Q I r q => h.run pins s σ H v u Q I r (w v σ H Q q)⟩
def gNone : List D → Env → Option Env
  | [], e => some e
  | _, _ => none
def gCon (g : GT) (gs : List D → Env → Option Env) : List D → Env → Option Env
  | d :: ds, e => (g d e).bind (gs ds)
  | [], _ => none
/-- n targets -/
def gTupF (n : Nat) (gs : List D → Env → Option Env) : GT := fun d e => match d with
  | .tup ds => if ds.length = n then gs ds e else none
  | _ => none
/-- x[i] = .. of an own list -/
def gStore (i : Nat) (fi : EM Tk) : GT := fun d e => match mutE e i with
  | none => none
  | some _ => match fi e with
    | .ok t e2 => (match rdK e2 t, mutE e2 i with
      | some (.int j), some (.lst xs) => (match ixN xs.length j with
        | some m => some (reE e2 i (.lst (xs.set m d)))
        | none => none)
      | _, _ => none)
    | _ => none
def sAsgT (f : EM D) (gt : GT) : SM := fun e => (f e).sb fun d e1 => match gt d e1 with
  | some e2 => .nx e2
  | none => .stuck
section
variable {X : Cx} {ct : Nat → Addr} {W : WX} {pos tpos p : Pos} {x : Str} {i n : Nat} {tg ex ix : Expr} {tgs : List Expr} {fe : EM D} {fi : EM Tk} {g : GT} {gs : List D → Env → Option Env}
theorem h_name (h : PG X (.Name x pos) (gName i)) : SG2 X ct (.Name x pos) (gSet i) := PGw h fun v σ H Q q => by
  obtain ⟨c, G, e, d, e', r, hv, hf, q⟩ := q
  exact q G _ H (Same.refl _) (gSet_ok r hv hf)
theorem h_store (ho : PE X (.Name x p) (tVar i)) (hi : SK X ct W0 ix fi) (ha : ∀ v, assign (.Subscript (.Name x p) ix tpos) X.env v = (do
      let ov ← holding [v] (eval (.Name x p) X.env)
      let iv ← holding [v, ov] (eval ix X.env)
      standAt tpos
      holding [v, ov, iv] (setItem ov iv v)
      release [v, ov, iv] []) := by intro _; rfl) : SG2 X ct (.Subscript (.Name x p) ix tpos) (gStore i fi) := PGw (pg_sub ho hi set_list ha) fun v σ H Q q => by
  obtain ⟨c, G, e, d, e', r, hv, hf, q⟩ := q
  unfold gStore at hf
  cases h0 : mutE e i with
  | none => rw [h0] at hf; cases hf
  | some y0 =>
    rw [h0] at hf
    obtain ⟨a0, o0, ha0, _⟩ := mutE_ok r h0
    have hf1 : (match fi e with
      | .ok t e2 => (match rdK e2 t, mutE e2 i with
        | some (.int j), some (.lst xs) => (match ixN xs.length j with
          | some m => some (reE e2 i (.lst (xs.set m d)))
          | none => none)
        | _, _ => none)
      | _ => none) = some e' := hf
    refine ⟨_, ha0, c, G, e, r, ?_⟩
    cases h1 : fi e with
    | stuck => rw [h1] at hf1; cases hf1
    | exc y e2 => rw [h1] at hf1; cases hf1
    | ok t e2 =>
      rw [h1] at hf1
      intro G2 H2 s2 r2 iv hiv
      have hf2 : (match rdK e2 t, mutE e2 i with
        | some (.int j), some (.lst xs) => (match ixN xs.length j with
          | some m => some (reE e2 i (.lst (xs.set m d)))
          | none => none)
        | _, _ => none) = some e' := hf1
      split at hf2
      · rename_i j xs hj hm
        split at hf2
        · rename_i m hix
          cases hf2
          obtain ⟨a1, o1, ha1, hH1, ⟨us, rfl, ru⟩, g1, hre⟩ := mutE_ok r2 hm
          rw [ha0] at ha1
          cases ha1
          rw [(RB.of r2 hiv hj).int]
          exact ⟨a0, us, j, m, rfl, rfl, hH1, by rw [ru.len]; exact hix, q G2 σ _ s2 (hre _ _ ⟨_, rfl, ru.set m (hv.mono s2)⟩)⟩
        · cases hf2
      · cases hf2
theorem hs_nil : SG2s X ct [] gNone := PGsw pgs_nil fun vs σ H Q q => by
  obtain ⟨c, G, e, ds, e', r, rs, hf, q⟩ := q
  cases rs with
  | nil => cases hf; exact ⟨rfl, q G σ H (Same.refl _) r⟩
  | cons _ _ => cases hf
theorem hs_cons (h1 : SG2 X ct tg g) (h2 : SG2s X ct tgs gs) (hs : (assignEach (tg :: tgs) X.env).map (·.2) = assign tg X.env :: (assignEach tgs X.env).map (·.2) := by rfl) : SG2s X ct (tg :: tgs) (gCon g gs) := PGsw (pgs_cons h1 h2 hs) fun vs σ H Q q => by
  obtain ⟨c, G, e, ds, e', r, rs, hf, q⟩ := q
  cases rs with
  | nil => cases hf
  | cons a b =>
    rename_i d ds
    have hf' : (g d e).bind (gs ds) = some e' := hf
    cases h3 : g d e with
    | none => rw [h3] at hf'; cases hf'
    | some e1 =>
      rw [h3] at hf'
      exact ⟨_, _, rfl, c, G, e, d, e1, r, a, h3, fun G1 σ1 H1 s1 r1 => ⟨c, G1, e1, ds, e', r1, b.mono s1, hf', fun G2 σ2 H2 s2 r2 => q G2 σ2 H2 (s1.trans s2) r2⟩⟩
theorem h_tup {m : Nat} (hc : X.calm = true) (h : SG2s X ct tgs gs) (hn : (assignEach tgs X.env).length = n := by rfl) (hst : (assignEach tgs X.env).findIdx? (·.1) = none := by rfl) : SG2 X ct (.Tuple tgs m pos) (gTupF n gs) := PGw (pg_tup hc h hn hst) fun v σ H Q q => by
  obtain ⟨c, G, e, d, e', r, hv, hf, q⟩ := q
  cases d with
  | tup ds =>
    cases hv with
    | tup h1 h2 =>
      have hf' : (if ds.length = n then gs ds e else none) = some e' := hf
      by_cases hl : ds.length = n
      · rw [if_pos hl] at hf'
        exact ⟨_, _, rfl, seqT r.gh h1, by rw [h2.len]; exact hl, c, G, e, ds, e', r, h2, hf', q⟩
      · rw [if_neg hl] at hf'; cases hf'
  | _ => cases hf
theorem s_asgT (he : SE X ct W ex fe) (hg : SG2 X ct tg g) (hs : swapsWithSole [tg] ex pos.line X.env = pure false := by rfl) (hw : swappedStores [tg] ex X.env = pure none := by rfl)
    (h1 : (assignEach [tg] X.env).map (·.2) = [assign tg X.env] := by rfl) : SS X ct W (.Assign [tg] ex pos) (sAsgT fe g) := PSw (ps_asg he hg hs hw h1) fun Dn σ H q => by
  obtain ⟨c, G, e, r, p⟩ := q
  refine ⟨c, G, e, r, (PostS.sb p).imp fun G' H' e' d s r' h v hv => ?_⟩
  split at h
  · rename_i e2 h2
    exact ⟨c, G', e', d, e2, r', hv, h2, fun G2 σ2 H2 s2 r2 => h G2 σ2 H2 s2 r2⟩
  · exact h.elim
end

/-! ### a, b = x, y with local names -/
def pput (i : Nat) (x : EV) (e : Env) : Option Env := match e[i]? with
  | some (some (.p _)) => none
  | some _ => some (e.set i (some x))
  | none => none
def sPar2 (i j : Nat) (fa fb : EM EV) : SM := fun e => (fa e).sb fun x e1 => (fb e1).sb fun y e2 => match pput i x e2 with
  | some e3 => (match pput j y e3 with
    | some e4 => .nx e4
    | none => .stuck)
  | none => .stuck
def sPar3 (i j l : Nat) (fa fb fc : EM EV) : SM := fun e => (fa e).sb fun x e1 => (fb e1).sb fun y e2 => (fc e2).sb fun z e3 => match pput i x e3 with
  | some e4 => (match pput j y e4 with
    | some e5 => (match pput l z e5 with
      | some e6 => .nx e6
      | none => .stuck)
    | none => .stuck)
  | none => .stuck
/-- a value held while others are reckoned -/
def HV (k : Kc) (c : Fr) (G H : Hp) (v : V) : EV → Prop
  | .d d => Rp k G v d
  | .m x => ∃ a, v = .ref a ∧ MAt k c G H a x
  | .p _ => False
  | .t _ _ => False
/-- the surroundings with a held thing -/
def hold (c : Fr) (H : Hp) (v : V) (x : EV) : Fr := match x, v with
  | .m _, .ref a => (match H a with
    | some o => c.guard a o
    | none => c)
  | _, _ => c
theorem hold_in {k : Kc} {c : Fr} {G H : Hp} {σ : L2.St} {e : Env} {v : V} {x : EV} (r : RepS k c G σ H e) (h : RpV k c G σ H e v x) : RepS k (hold c H v x) G σ H e := by
  cases x with
  | d d => exact r
  | p y => exact h.elim
  | m y =>
    obtain ⟨a, rfl, ⟨m1, m2, o, m3, m4⟩, l⟩ := h
    have e1 : hold c H (.ref a) (.m y) = c.guard a o := by
      show (match H a with
        | some o => c.guard a o
        | none => c) = _
      rw [m3]
    rw [e1]
    exact r.guard m3 m1 l
  | t _ _ => first | exact h2.elim | exact trivial | cases hw | exact hv.elim | exact h.elim | exact hx.elim | exact hu.elim | cases hy | cases h' | cases hd' | cases h2 | cases h1 | cases hd | cases h3 | cases h4
/-- what held is got back -/
theorem hold_out {k : Kc} {c : Fr} {G G1 H H1 : Hp} {σ : L2.St} {e e1 : Env} {v : V} {x : EV} (r : RepS k c G σ H e) (h : RpV k c G σ H e v x) (s : Same G G1) (r1 : RepS k (hold c H v x) G1 σ H1 e1) : RepS k c G1 σ H1 e1 ∧ RpV k c G1 σ H1 e1 v x ∧ ∀ b, (hold c H v x).O b = none → c.O b = none ∧ (x.own = true → v ≠ .ref b) := by
  cases x with
  | d d => exact ⟨r1, Rp.mono s h, fun b hb => ⟨hb, fun z => by cases z⟩⟩
  | p y => exact h.elim
  | m y =>
    obtain ⟨a, rfl, ⟨m1, m2, o, m3, m4⟩, l⟩ := h
    have e1 : hold c H (.ref a) (.m y) = c.guard a o := by
      show (match H a with
        | some o => c.guard a o
        | none => c) = _
      rw [m3]
    rw [e1] at r1 ⊢
    have h0 : c.G0 a = none := by
      cases q : c.G0 a with
      | none => rfl
      | some u => have := r.g0 a u q; rw [m1] at this; cases this
    obtain ⟨r2, hH, hG, hl⟩ := r1.unguard m2 h0
    refine ⟨r2, ⟨a, rfl, ⟨hG, m2, o, hH, m4.mono s⟩, hl⟩, fun b hb => ?_⟩
    have hb' : (upd c.O a o) b = none := hb
    by_cases z : b = a
    · subst z; rw [upd_same] at hb'; cases hb'
    · rw [upd_ne z] at hb'
      exact ⟨hb', fun _ q => z (by injection q with q; exact q.symm)⟩
  | t _ _ => first | exact h2.elim | exact trivial | cases hw | exact hv.elim | exact h.elim | exact hx.elim | exact hu.elim | cases hy | cases h' | cases hd' | cases h2 | cases h1 | cases hd | cases h3 | cases h4
theorem pput_ok {k : Kc} {c : Fr} {G H : Hp} {σ : L2.St} {e e' : Env} {i : Nat} {x : EV} {v : V} (r : RepS k c G σ H e) (hv : RpV k c G σ H e v x) (h : pput i x e = some e') : RepS k c G (σ.set i (some v)) H e' ∧
    ∀ (y : EV) (u : V), RpV k c G σ H e u y → (x.own = true → y.own = true → u ≠ v) → RpV k c G (σ.set i (some v)) H e' u y := by
  unfold pput at h
  split at h
  · cases h
  · rename_i y0 hn hy
    cases h
    refine ⟨r.put (x := some x) (r.nopin hy fun z q => hn z q) (fun y hy => ?_) (fun y b hy hw ev => ?_), fun y u hu hne => ?_⟩
    · cases hy
      cases x with
      | d d => exact hv
      | m z => obtain ⟨a, e1, m, _⟩ := hv; exact ⟨a, e1, m⟩
      | p z => exact hv.elim
      | t _ _ => first | exact h2.elim | exact trivial | cases hw | exact hv.elim | exact h.elim | exact hx.elim | exact hu.elim | cases hy | cases h' | cases hd' | cases h2 | cases h1 | cases hd | cases h3 | cases h4
    · cases hy
      cases x with
      | d d => cases hw
      | m z =>
        obtain ⟨a, e1, _, l⟩ := hv
        rw [ev] at e1
        cases e1
        intro j w hj hjw
        rcases set_get hj with ⟨_, q, _⟩ | ⟨_, q⟩
        · cases q
        · exact l j w q hjw
      | p z => exact hv.elim
      | t _ _ => first | exact h2.elim | exact trivial | cases hw | exact hv.elim | exact h.elim | exact hx.elim | exact hu.elim | cases hy | cases h' | cases hd' | cases h2 | cases h1 | cases hd | cases h3 | cases h4
    · cases y with
      | d d => exact hu
      | p z => exact hu.elim
      | m z =>
        obtain ⟨a, rfl, m, l⟩ := hu
        refine ⟨a, rfl, m, fun j w hj hjw q => ?_⟩
        rcases set_get hj with ⟨rfl, q2, hil⟩ | ⟨hij, q2⟩
        · cases q2
          rw [List.getElem?_set_self (by rw [← r.len]; exact hil)] at q
          have ev : v = .ref a := by injection q with q; injection q
          exact hne hjw rfl ev.symm
        · rw [List.getElem?_set_ne hij] at q
          exact l j w q2 hjw q
      | t _ _ => first | exact h2.elim | exact trivial | cases hw | exact hv.elim | exact h.elim | exact hx.elim | exact hu.elim | cases hy | cases h' | cases hd' | cases h2 | cases h1 | cases hd | cases h3 | cases h4
  · cases h
section
variable {X : Cx} {ct : Nat → Addr} {W : WX} {i j l : Nat} {x y z : Str} {a b c : Expr} {fa fb fc : EM EV} {px py pz pt pos : Pos} {kt k2 : Nat} {pt2 : Pos}
theorem hv_ne {k : Kc} {c : Fr} {G H H' : Hp} {σ : L2.St} {e' : Env} {u v : V} {x y : EV} (h' : RpV k (hold c H v x) G σ H' e' u y) (hm : ∀ b, (hold c H v x).O b = none → c.O b = none ∧ (x.own = true → v ≠ .ref b)) : x.own = true → y.own = true → u ≠ v := fun hx hy q => by
  cases y with
  | d d => cases hy
  | p w => cases h'
  | m w =>
    obtain ⟨a, rfl, ⟨_, m2, _⟩, _⟩ := h'
    exact (hm a m2).2 hx q.symm
  | t _ _ => first | exact h2.elim | exact trivial | cases hw | exact hv.elim | exact h.elim | exact hx.elim | exact hu.elim | cases hy | cases h' | cases hd' | cases h2 | cases h1 | cases hd | cases h3 | cases h4
theorem RpV.out {k : Kc} {c : Fr} {G H H' : Hp} {σ : L2.St} {e : Env} {u v : V} {x y : EV} (h' : RpV k (hold c H v x) G σ H' e u y) (hm : ∀ b, (hold c H v x).O b = none → c.O b = none ∧ (x.own = true → v ≠ .ref b)) : RpV k c G σ H' e u y := by
  cases y with
  | d d => exact h'
  | p w => exact h'
  | m w =>
    obtain ⟨a, e1, ⟨m1, m2, m3⟩, l⟩ := h'
    exact ⟨a, e1, ⟨m1, (hm a m2).1, m3⟩, l⟩
  | t _ _ => first | exact h2.elim | exact trivial | cases hw | exact hv.elim | exact h.elim | exact hx.elim | exact hu.elim | cases hy | cases h' | cases hd' | cases h2 | cases h1 | cases hd | cases h3 | cases h4
theorem s_par2 (hc : X.calm = true) (hN : X.N.Nodup) (hi : X.N[i]? = some x) (hj : X.N[j]? = some y) (hij : i ≠ j)
    (hx : X.env.scope.names.lookup x = some .local) (hy : X.env.scope.names.lookup y = some .local) (ha : SV X ct W a fa) (hb : SV X ct W b fb)
    (hw : swappedStores [.Tuple [.Name x px, .Name y py] kt pt] (.Tuple [a, b] k2 pt2) X.env = pure (some [x, y]))
    (hs : swapsWithSole [.Tuple [.Name x px, .Name y py] kt pt] (.Tuple [a, b] k2 pt2) pos.line X.env = pure false := by rfl)
    (h1 : starEach [a, b] X.env = (false, eval a X.env) :: starEach [b] X.env := by rfl) (h2 : starEach [b] X.env = (false, eval b X.env) :: starEach [] X.env := by rfl) :
    SS X ct W (.Assign [.Tuple [.Name x px, .Name y py] kt pt] (.Tuple [a, b] k2 pt2) pos) (sPar2 i j fa fb) := PSw (ps_par hc hN hi hj hij hx hy (pa_cons ha (pa_cons hb pa_nil h2) h1) hw hs) fun Dn σ H q => by
  obtain ⟨c, G, e, r, p⟩ := q
  refine ⟨c, G, e, r, (PostS.sb p).imp fun G1 H1 e1 va s1 r1 p1 v hv => ⟨hold c H1 v va, G1, e1, hold_in r1 hv, ?_⟩⟩
  have p1' : PostS ⟨X.K, ct⟩ W c G1 Dn ((fb e1).sb fun y e2 => match pput i va e2 with
    | some e3 => (match pput j y e3 with
      | some e4 => .nx e4
      | none => .stuck)
    | none => .stuck) := p1
  cases h2 : fb e1 with
  | stuck => rw [h2] at p1'; exact p1'.elim
  | exc xx e2 =>
    rw [h2] at p1'
    intro G2 H2 cls dc s2 r2 hx2
    obtain ⟨r2', _, _⟩ := hold_out r1 hv s2 r2
    exact p1' G2 σ H2 cls dc s2 r2' hx2
  | ok vb e2 =>
    rw [h2] at p1'
    intro G2 H2 s2 r2 u hu
    obtain ⟨r2', hv2, hm⟩ := hold_out r1 hv s2 r2
    have p3 : PostS ⟨X.K, ct⟩ W c G1 Dn (match pput i va e2 with
      | some e3 => (match pput j vb e3 with
        | some e4 => .nx e4
        | none => .stuck)
      | none => .stuck) := p1'
    split at p3
    · rename_i e3 h3
      obtain ⟨r3, k3⟩ := pput_ok r2' hv2 h3
      split at p3
      · rename_i e4 h4
        have hne := hv_ne hu hm
        obtain ⟨r4, _⟩ := pput_ok r3 (k3 vb u (hu.out hm) hne) h4
        exact ⟨v, u, rfl, p3 G2 _ H2 s2 r4⟩
      · exact p3.elim
    · exact p3.elim
end
end MM
end
section
set_option Elab.async false
set_option linter.all false
set_option autoImplicit false
set_option maxRecDepth 100000
set_option maxHeartbeats 4000000
namespace MM
open PySem PySem.Spec L2
open Classical

/-! ### what a def does -/
inductive Out where
  | ret (x : EV) (ps : List (Option MV)) | exc (x : Exn) (ps : List (Option MV)) | stuck
def Out.noT : Out → Out
  | .ret (.t _ _) _ => .stuck
  | o => o
def pinOf : Option EV → Option MV
  | some (.p y) => some y
  | _ => none
def outOf (m : Nat) : SRes → Out
  | .nx e => .ret (.d .non) ((e.take m).map pinOf)
  | .rt x e => .ret x ((e.take m).map pinOf)
  | .exc x e => .exc x ((e.take m).map pinOf)
  | _ => .stuck
/-- n slots, m parameters -/
def runD (n m : Nat) (f : SM) (as : List EV) : Out := if as.length = m then outOf m (f (as.map some ++ List.replicate (n - m) none)) else .stuck
def ARep (k : Kc) (G H : Hp) (v : V) : EV → Prop
  | .d d => Rp k G v d
  | .p x => ∃ a o, v = .ref a ∧ G a = none ∧ H a = some o ∧ MRep k G o x
  | .m _ => False
  | .t _ _ => False
def pinA (vs : List V) (as : List EV) (i : Nat) : Option Addr := match as[i]?, vs[i]? with
  | some (.p _), some (.ref a) => some a
  | _, _ => none
structure Args (k : Kc) (G H : Hp) (vs : List V) (as : List EV) : Prop where
  len : vs.length = as.length
  get : ∀ (i : Nat) (x : EV), as[i]? = some x → ∃ v, vs[i]? = some v ∧ ARep k G H v x
  dis : ∀ (i j : Nat) (a : Addr), pinA vs as i = some a → pinA vs as j = some a → i = j
structure Aft (k : Kc) (vs : List V) (as : List EV) (G H G' H' : Hp) (ps : List (Option MV)) : Prop where
  g : Same G G'
  gh : Same G' H'
  keep : ∀ (a : Addr) (o : HO), H a = some o → (∀ i, pinA vs as i ≠ some a) → H' a = some o
  new : ∀ a : Addr, G' a ≠ none → G a = none → H a = none
  pins : ∀ (i : Nat) (a : Addr), pinA vs as i = some a → ∃ y o, ps[i]? = some (some y) ∧ H' a = some o ∧ MRep k G' o y
def RRes (k : Kc) (G' H H' : Hp) (v : V) : EV → Prop
  | .d d => Rp k G' v d
  | .m x => ∃ a o, v = .ref a ∧ G' a = none ∧ H a = none ∧ H' a = some o ∧ MRep k G' o x
  | .p _ => False
  | .t d x => ∃ q w a o, v = .ref q ∧ SqT k.K H' q [w, .ref a] ∧ Rp k G' w d ∧ G' a = none ∧ H a = none ∧ H' a = some o ∧ MRep k G' o x
def EndO (k : Kc) (vs : List V) (as : List EV) (G H : Hp) (Q : VK) (E : XK) : Out → Prop
  | .ret x ps => ∀ G' H' v, Aft k vs as G H G' H' ps → RRes k G' H H' v x → Q v H'
  | .exc x ps => ∀ G' H' cls dc, Aft k vs as G H G' H' ps → RepX k G' H' cls dc x → E cls dc H'
  | .stuck => False
/-- a def's promise -/
def spM (k : Kc) (F : List EV → Out) : Sp := fun vs H Q E => ∃ G as, Same G H ∧ Args k G H vs as ∧ EndO k vs as G H Q E (F as)
noncomputable def frA (vs : List V) (as : List EV) (G H : Hp) : Fr := ⟨fun a => if ∃ i, pinA vs as i = some a then none else H a, G, pinA vs as⟩
theorem padGet {α : Type} {l : List α} {q i : Nat} {x : α} (h : (l.map some ++ List.replicate q none)[i]? = some (some x)) : l[i]? = some x := by
  by_cases hi : i < (l.map some).length
  · rw [List.getElem?_append_left hi, List.getElem?_map] at h
    cases e : l[i]? with
    | none => rw [e] at h; cases h
    | some y => rw [e] at h; cases h; rfl
  · rw [List.getElem?_append_right (Nat.le_of_not_lt hi), List.getElem?_replicate] at h
    split at h <;> cases h
theorem padSet {α : Type} {l : List α} {q i : Nat} {x : α} (h : l[i]? = some x) : (l.map some ++ List.replicate q none)[i]? = some (some x) := by
  have hi : i < l.length := (List.getElem?_eq_some_iff.mp h).1
  rw [List.getElem?_append_left (by simpa using hi), List.getElem?_map, h]
  rfl
theorem pinA_ok {vs : List V} {as : List EV} {i : Nat} {a : Addr} (h : pinA vs as i = some a) : (∃ x, as[i]? = some (.p x)) ∧ vs[i]? = some (.ref a) := by
  unfold pinA at h
  split at h
  · cases h; exact ⟨⟨_, by assumption⟩, by assumption⟩
  · cases h
theorem pinA_mk {vs : List V} {as : List EV} {i : Nat} {a : Addr} {x : MV} (h : as[i]? = some (.p x)) (h2 : vs[i]? = some (.ref a)) : pinA vs as i = some a := by
  unfold pinA
  rw [h, h2]
theorem repS_start {k : Kc} {G H : Hp} {vs : List V} {as : List EV} {n : Nat} (s : Same G H) (r : Args k G H vs as) :
    RepS k (frA vs as G H) G (vs.map some ++ List.replicate n none) H (as.map some ++ List.replicate n none) := by
  have hO : ∀ a, (frA vs as G H).O a = if ∃ i, pinA vs as i = some a then none else H a := fun _ => rfl
  have own : ∀ (i : Nat) (x : EV), as[i]? = some x → x.own = true → ∃ y, x = .p y := fun i x hx hw => by
    obtain ⟨v, _, h2⟩ := r.get i x hx
    cases x with
    | d d => cases hw
    | m y => exact h2.elim
    | p y => exact ⟨y, rfl⟩
    | t _ _ => first | exact h2.elim | exact trivial | cases hw | exact hv.elim | exact h.elim | exact hx.elim | exact hu.elim | cases hy | cases h' | cases hd' | cases h2 | cases h1 | cases hd | cases h3 | cases h4
  refine ⟨Same.refl _, s, fun a o h => ?_, fun a h _ => h, ?_, fun i x hx => ?_, fun i j a x y hx hy wx wy h1 h2 => ?_, fun i a h => ?_⟩
  · rw [hO] at h
    split at h
    · cases h
    · exact h
  · simp [r.len]
  · have hx := padGet hx
    obtain ⟨v, h1, h2⟩ := r.get i x hx
    refine ⟨v, padSet h1, ?_⟩
    cases x with
    | d d => exact h2
    | m y => exact h2.elim
    | p y =>
      obtain ⟨a, o, rfl, h3, h4, h5⟩ := h2
      refine ⟨a, rfl, h3, ?_, o, h4, h5⟩
      rw [hO, if_pos ⟨i, pinA_mk hx h1⟩]
    | t _ _ => first | exact h2.elim | exact trivial | cases hw | exact hv.elim | exact h.elim | exact hx.elim | exact hu.elim | cases hy | cases h' | cases hd' | cases h2 | cases h1 | cases hd | cases h3 | cases h4
  · obtain ⟨x', rfl⟩ := own i x (padGet hx) wx
    obtain ⟨y', rfl⟩ := own j y (padGet hy) wy
    exact r.dis i j a (pinA_mk (padGet hx) (padGet h1)) (pinA_mk (padGet hy) (padGet h2))
  · obtain ⟨⟨x, h1⟩, h2⟩ := pinA_ok h
    exact ⟨x, padSet h1, padSet h2⟩
theorem aft_of {k : Kc} {G H G' H' : Hp} {vs : List V} {as : List EV} {σ : L2.St} {e : Env} (hl : Args k G H vs as) (r : RepS k (frA vs as G H) G' σ H' e) : Aft k vs as G H G' H' ((e.take as.length).map pinOf) := by
  have hO : ∀ a, (frA vs as G H).O a = if ∃ i, pinA vs as i = some a then none else H a := fun _ => rfl
  have at0 : ∀ i a, pinA vs as i = some a → ∃ x o, e[i]? = some (some (.p x)) ∧ G' a = none ∧ H' a = some o ∧ MRep k G' o x := fun i a h => by
    obtain ⟨x, h1, h2⟩ := r.pin i a h
    obtain ⟨v, h3, b, rfl, g1, _, o, g3, g4⟩ := r.slot i _ h1
    rw [h2] at h3
    cases h3
    exact ⟨x, o, h1, g1, g3, g4⟩
  refine ⟨r.g0, r.gh, fun a o h hn => ?_, fun a h1 h2 => ?_, fun i a h => ?_⟩
  · refine r.oh a o ?_
    rw [hO, if_neg (fun ⟨i, q⟩ => hn i q)]
    exact h
  · cases q : (frA vs as G H).O a with
    | some o => exact absurd h2 (r.fr a h1 (by rw [q]; exact fun z => by cases z))
    | none =>
      rw [hO] at q
      split at q
      · rename_i hp
        obtain ⟨i, hp⟩ := hp
        obtain ⟨x, o, _, g, _⟩ := at0 i a hp
        exact absurd g h1
      · exact q
  · obtain ⟨x, o, h1, h2, h3, h4⟩ := at0 i a h
    obtain ⟨⟨y, hy⟩, _⟩ := pinA_ok h
    have hi : i < as.length := (List.getElem?_eq_some_iff.mp hy).1
    refine ⟨x, o, ?_, h3, h4⟩
    rw [List.getElem?_map, List.getElem?_take_of_lt hi, h1]
    rfl
/-- THE RULE for a def -/
theorem fn_mir {P : Program} {w : World} {K : PySem.W.Frag} {mg : Str → Option Value} {base : Heap} {ct : Nat → Addr} {x qual : Str} {params : Arguments} {body : List Stmt} {scope : Scope} {dvs : List V} {kws : List (Str × V)} {f : Addr} {fd : FuncData} {N ps : List Str} {k n m : Nat} {fb : SM}
    (F : FunD K x qual params body scope dvs kws f fd) (S : FnScope N ps scope) (hm : ps.length = m) (hn : N.length = n)
    (hb : ∀ (cdv : Value) (A : Around) (outer : List PySem.Env) (s : Shared) (H : Hp) (E : XK), Room k (A.deeper (PyProof.Rows.envOfC qual scope s.heap.objs.size f cdv)) → Takes (cxOf (L2.CX P w) P w K mg base N qual scope f cdv A outer s H E) (fun cls d _ H => E cls d H) →
      SSs (cxOf (L2.CX P w) P w K mg base N qual scope f cdv A outer s H E) ct (fun cls d _ H => E cls d H) body fb) :
    FnOk P w K mg base (L2.CX P w) (k + 1) f fd ps (spM ⟨K, ct⟩ (runD n m fb)) := by
  have lenA : ∀ {as : List EV} {vs : List V} {G H : Hp} {Q : VK} {E : XK}, EndO ⟨K, ct⟩ vs as G H Q E (runD n m fb as) → as.length = m := fun {as vs G H Q E} h => by
    by_cases q : as.length = m
    · exact q
    · unfold runD at h
      rw [if_neg q] at h
      exact h.elim
  refine F.ok S (fun vs H Q E q => ?_) fun cdv A outer s H vs Q E hr q => ?_
  · obtain ⟨G, as, _, r, h⟩ := q
    rw [r.len, lenA h, hm]
  · obtain ⟨G, as, sm, r, h⟩ := q
    have hl := lenA h
    refine ⟨_, hb cdv A outer s H E hr (takes_of rfl rfl rfl rfl), ?_⟩
    have e1 : L2.start N vs = vs.map some ++ List.replicate (n - m) none := by
      unfold L2.start
      rw [hn, r.len, hl]
    rw [e1]
    refine ⟨frA vs as G H, G, _, repS_start (n := n - m) sm r, ?_⟩
    unfold runD at h
    rw [if_pos hl] at h
    cases hfb : fb (as.map some ++ List.replicate (n - m) none) with
    | stuck => rw [hfb] at h; exact h.elim
    | bk e => rw [hfb] at h; exact h.elim
    | ct e => rw [hfb] at h; exact h.elim
    | nx e =>
      rw [hfb] at h
      intro G' σ H' s' r'
      have af := aft_of r r'
      rw [hl] at af
      exact h G' H' .non af .non
    | exc y e =>
      rw [hfb] at h
      intro G' σ H' cls dc s' r' hx
      have af := aft_of r r'
      rw [hl] at af
      exact h G' H' cls dc af hx
    | rt y e =>
      rw [hfb] at h
      intro G' σ H' v s' r' hv
      have af := aft_of r r'
      rw [hl] at af
      refine h G' H' v af ?_
      cases y with
      | d d => exact hv
      | p z => exact hv.elim
      | m z =>
        obtain ⟨a, rfl, ⟨m1, m2, o, m3, m4⟩, hne⟩ := hv
        refine ⟨a, o, rfl, m1, ?_, m3, m4⟩
        have hO : (frA vs as G H).O a = if ∃ i, pinA vs as i = some a then none else H a := rfl
        rw [m2, if_neg (fun ⟨i, q⟩ => hne i a q rfl)] at hO
        exact hO.symm
      | t d z =>
        obtain ⟨q, w, a, e1, hs, hw, ⟨m1, m2, o, m3, m4⟩, hne⟩ := hv
        refine ⟨q, w, a, o, e1, hs, hw, m1, ?_, m3, m4⟩
        have hO : (frA vs as G H).O a = if ∃ i, pinA vs as i = some a then none else H a := rfl
        rw [m2, if_neg (fun ⟨i, q⟩ => hne i a q rfl)] at hO
        exact hO.symm

/-! ### calls -/
def argT (e : Env) : Tk → Option (EV × Option Nat)
  | .val d => some (.d d, none)
  | .slot i => match e[i]? with
    | some (some (.d d)) => some (.d d, none)
    | some (some (.m x)) => some (.p x, some i)
    | some (some (.p x)) => some (.p x, some i)
    | _ => none
def argE (e : Env) : List Tk → Option (List (EV × Option Nat))
  | [] => some []
  | t :: ts => match argT e t, argE e ts with
    | some a, some as => some (a :: as)
    | _, _ => none
def backE : Env → List (EV × Option Nat) → List (Option MV) → Env
  | e, (_, some i) :: as, some y :: ps => backE (reE e i y) as ps
  | e, _ :: as, _ :: ps => backE e as ps
  | e, _, _ => e
def slotsOf (as : List (EV × Option Nat)) : List Nat := as.filterMap (·.2)
def vCall (F : List EV → Out) (fa : EM (List Tk)) : EM EV := fun e => (fa e).bind fun ts e1 => match argE e1 ts with
  | none => .stuck
  | some as => if (slotsOf as).Nodup then (match (F (as.map (·.1))).noT with
    | .ret x ps => .ok x (backE e1 as ps)
    | .exc x ps => .exc x (backE e1 as ps)
    | .stuck => .stuck) else .stuck

theorem RpKs.at {k : Kc} {G : Hp} {σ : L2.St} : ∀ {vs : List V} {ts : List Tk}, RpKs k G σ vs ts → vs.length = ts.length ∧ ∀ (i : Nat) (t : Tk), ts[i]? = some t → ∃ v, vs[i]? = some v ∧ RpK k G σ v t
  | [], [], _ => ⟨rfl, fun i t h => by simp at h⟩
  | v :: vs, t :: ts, h => by
    obtain ⟨h1, h2⟩ := RpKs.at h.2
    refine ⟨by simp [h1], fun i u hu => ?_⟩
    cases i with
    | zero => simp at hu; subst hu; exact ⟨v, rfl, h.1⟩
    | succ i => simpa using h2 i u (by simpa using hu)
  | [], _ :: _, h => h.elim
  | _ :: _, [], h => h.elim
theorem argE_at {e : Env} : ∀ {ts : List Tk} {as : List (EV × Option Nat)}, argE e ts = some as → as.length = ts.length ∧ ∀ (i : Nat) (p : EV × Option Nat), as[i]? = some p → ∃ t, ts[i]? = some t ∧ argT e t = some p
  | [], as, h => by cases h; exact ⟨rfl, fun i p h => by simp at h⟩
  | t :: ts, as, h => by
    have h' : (match argT e t, argE e ts with
      | some a, some as => some (a :: as)
      | _, _ => none) = some as := h
    cases h1 : argT e t with
    | none => rw [h1] at h'; cases h'
    | some a =>
      cases h2 : argE e ts with
      | none => rw [h1, h2] at h'; cases h'
      | some as' =>
        rw [h1, h2] at h'
        cases h'
        obtain ⟨h3, h4⟩ := argE_at h2
        refine ⟨by simp [h3], fun i p hp => ?_⟩
        cases i with
        | zero => simp at hp; subst hp; exact ⟨t, rfl, h1⟩
        | succ i => simpa using h4 i p (by simpa using hp)
theorem argT_ok {k : Kc} {c : Fr} {G H : Hp} {σ : L2.St} {e : Env} {v : V} {t : Tk} {x : EV} {q : Option Nat} (r : RepS k c G σ H e) (hv : RpK k G σ v t) (h : argT e t = some (x, q)) :
    (q = none ∧ ∃ d, x = .d d ∧ Rp k G v d) ∨ ∃ s y, q = some s ∧ x = .p y ∧ (e[s]? = some (some (.m y)) ∨ e[s]? = some (some (.p y))) ∧ σ[s]? = some (some v) ∧ ∃ a, v = .ref a ∧ MAt k c G H a y := by
  cases t with
  | val d =>
    have h' : some (EV.d d, (none : Option Nat)) = some (x, q) := h
    cases h'
    exact .inl ⟨rfl, d, rfl, hv⟩
  | slot s =>
    have hs : σ[s]? = some (some v) := hv
    have h : (match e[s]? with
      | some (some (.d d)) => some (EV.d d, none)
      | some (some (.m x)) => some (EV.p x, some s)
      | some (some (.p x)) => some (EV.p x, some s)
      | _ => (none : Option (EV × Option Nat))) = some (x, q) := h
    · split at h
      · rename_i d hd
        cases h
        obtain ⟨w, h1, h2⟩ := r.slot s _ hd
        rw [hs] at h1
        cases h1
        exact .inl ⟨rfl, d, rfl, h2⟩
      · rename_i y hd
        cases h
        obtain ⟨w, h1, a, e1, h2⟩ := r.slot s _ hd
        rw [hs] at h1
        cases h1
        exact .inr ⟨s, y, rfl, rfl, .inl hd, hs, a, e1, h2⟩
      · rename_i y hd
        cases h
        obtain ⟨w, h1, a, e1, h2⟩ := r.slot s _ hd
        rw [hs] at h1
        cases h1
        exact .inr ⟨s, y, rfl, rfl, .inr hd, hs, a, e1, h2⟩
      · cases h
def reO : Option (Option EV) → MV → Option (Option EV)
  | some (some (.p _)), y => some (some (.p y))
  | some _, y => some (some (.m y))
  | none, _ => none
theorem reE_get {e : Env} {i j : Nat} {y : MV} : (reE e i y)[j]? = if j = i then reO e[j]? y else e[j]? := by
  unfold reE
  by_cases h : j = i
  · subst h
    rw [if_pos rfl]
    split
    · rename_i w hw
      rw [List.getElem?_set_self (List.getElem?_eq_some_iff.mp hw).1, hw]
      rfl
    · rename_i hn
      cases q : e[j]? with
      | none => rw [List.getElem?_eq_none (by simpa using q)]; rfl
      | some o =>
        rw [List.getElem?_set_self (List.getElem?_eq_some_iff.mp q).1]
        cases o with
        | none => rfl
        | some x =>
          cases x with
          | p z => exact absurd q (hn z)
          | _ => rfl
  · rw [if_neg h]
    split <;> rw [List.getElem?_set_ne (fun z => h z.symm)]
theorem reE_len {e : Env} {i : Nat} {y : MV} : (reE e i y).length = e.length := by
  unfold reE
  split <;> simp
theorem backE_len : ∀ {as : List (EV × Option Nat)} {e : Env} {ps : List (Option MV)}, (backE e as ps).length = e.length
  | [], e, ps => by unfold backE; rfl
  | (x, q) :: as, e, [] => by cases q <;> (unfold backE; rfl)
  | (x, none) :: as, e, p :: ps => by unfold backE; exact backE_len
  | (x, some i) :: as, e, none :: ps => by unfold backE; exact backE_len
  | (x, some i) :: as, e, some y :: ps => by unfold backE; rw [backE_len, reE_len]
theorem backE_out {j : Nat} : ∀ {as : List (EV × Option Nat)} {e : Env} {ps : List (Option MV)}, j ∉ slotsOf as → (backE e as ps)[j]? = e[j]?
  | [], e, ps, _ => by unfold backE; rfl
  | (x, q) :: as, e, [], _ => by cases q <;> (unfold backE; rfl)
  | (x, none) :: as, e, p :: ps, h => by
    unfold backE
    exact backE_out (by simpa [slotsOf] using h)
  | (x, some i) :: as, e, none :: ps, h => by
    unfold backE
    have h' : j ≠ i ∧ j ∉ slotsOf as := by simpa [slotsOf] using h
    exact backE_out h'.2
  | (x, some i) :: as, e, some y :: ps, h => by
    unfold backE
    have h' : j ≠ i ∧ j ∉ slotsOf as := by simpa [slotsOf] using h
    rw [backE_out h'.2, reE_get, if_neg h'.1]
theorem backE_in {j : Nat} {y : MV} : ∀ {as : List (EV × Option Nat)} {e : Env} {ps : List (Option MV)} {i : Nat} {x : EV}, (slotsOf as).Nodup → as[i]? = some (x, some j) → ps[i]? = some (some y) → (backE e as ps)[j]? = reO e[j]? y
  | [], e, ps, i, x, _, h, _ => by simp at h
  | (x, q) :: as, e, [], i, _, _, _, h => by simp at h
  | (x, q) :: as, e, p :: ps, 0, x', nd, h, hp => by
    have h1 : (x, q) = (x', some j) := by simpa using h
    have h2 : p = some y := by simpa using hp
    cases h1
    subst h2
    unfold backE
    have nd' : j ∉ slotsOf as := (List.nodup_cons.mp (show (j :: slotsOf as).Nodup from nd)).1
    rw [backE_out nd', reE_get, if_pos rfl]
  | (x, none) :: as, e, p :: ps, i + 1, x', nd, h, hp => by
    unfold backE
    exact backE_in (i := i) (x := x') (show (slotsOf as).Nodup from nd) (by simpa using h) (by simpa using hp)
  | (x, some s) :: as, e, none :: ps, i + 1, x', nd, h, hp => by
    unfold backE
    exact backE_in (i := i) (x := x') (List.nodup_cons.mp (show (s :: slotsOf as).Nodup from nd)).2 (by simpa using h) (by simpa using hp)
  | (x, some s) :: as, e, some z :: ps, i + 1, x', nd, h, hp => by
    unfold backE
    have nd' := List.nodup_cons.mp (show (s :: slotsOf as).Nodup from nd)
    have h' : as[i]? = some (x', some j) := by simpa using h
    rw [backE_in (i := i) (x := x') nd'.2 h' (by simpa using hp), reE_get, if_neg]
    rintro rfl
    exact nd'.1 (List.mem_filterMap.mpr ⟨_, List.mem_of_getElem? h', rfl⟩)
section
variable {k : Kc} {c : Fr} {G G' H H' : Hp} {σ : L2.St} {e : Env} {vs : List V} {ts : List Tk} {as : List (EV × Option Nat)} {ps : List (Option MV)}
/-- what stands behind the i-th argument -/
theorem arg_at (r : RepS k c G σ H e) (hv : RpKs k G σ vs ts) (hA : argE e ts = some as) {i : Nat} {x : EV} {q : Option Nat} (h : as[i]? = some (x, q)) : ∃ v, vs[i]? = some v ∧
    ((q = none ∧ ∃ d, x = .d d ∧ Rp k G v d) ∨ ∃ s y, q = some s ∧ x = .p y ∧ (e[s]? = some (some (.m y)) ∨ e[s]? = some (some (.p y))) ∧ σ[s]? = some (some v) ∧ ∃ a, v = .ref a ∧ MAt k c G H a y) := by
  obtain ⟨t, h1, h2⟩ := (argE_at hA).2 i _ h
  obtain ⟨v, h3, h4⟩ := (RpKs.at hv).2 i t h1
  exact ⟨v, h3, argT_ok r h4 h2⟩
theorem pin_at (r : RepS k c G σ H e) (hv : RpKs k G σ vs ts) (hA : argE e ts = some as) {i : Nat} {a : Addr} (h : pinA vs (as.map (·.1)) i = some a) : ∃ s y, as[i]? = some (.p y, some s) ∧ (e[s]? = some (some (.m y)) ∨ e[s]? = some (some (.p y))) ∧ σ[s]? = some (some (.ref a)) ∧ MAt k c G H a y := by
  obtain ⟨⟨x, h1⟩, h2⟩ := pinA_ok h
  rw [List.getElem?_map] at h1
  cases q : as[i]? with
  | none => rw [q] at h1; cases h1
  | some p =>
    obtain ⟨x', o⟩ := p
    rw [q] at h1
    have h1 : some x' = some (EV.p x) := h1
    cases h1
    obtain ⟨v, h3, h4⟩ := arg_at r hv hA q
    rw [h2] at h3
    cases h3
    rcases h4 with ⟨_, d, z, _⟩ | ⟨s, y, rfl, z, h5, h6, b, e1, m⟩
    · cases z
    · cases z
      cases e1
      exact ⟨s, x, rfl, h5, h6, m⟩
theorem slot_pin (r : RepS k c G σ H e) (hv : RpKs k G σ vs ts) (hA : argE e ts = some as) {s : Nat} (h : s ∈ slotsOf as) : ∃ i a y, as[i]? = some (.p y, some s) ∧ pinA vs (as.map (·.1)) i = some a ∧ (e[s]? = some (some (.m y)) ∨ e[s]? = some (some (.p y))) ∧ σ[s]? = some (some (.ref a)) := by
  obtain ⟨p, h1, h2⟩ := List.mem_filterMap.mp h
  obtain ⟨x, q⟩ := p
  have h2 : q = some s := h2
  subst h2
  obtain ⟨i, hi⟩ := List.getElem?_of_mem h1
  obtain ⟨v, h3, h4⟩ := arg_at r hv hA hi
  rcases h4 with ⟨z, _⟩ | ⟨s', y, z, rfl, h5, h6, a, rfl, m⟩
  · cases z
  · cases z
    exact ⟨i, a, y, hi, pinA_mk (by rw [List.getElem?_map, hi]; rfl) h3, h5, h6⟩
theorem args_ok (r : RepS k c G σ H e) (hv : RpKs k G σ vs ts) (hA : argE e ts = some as) (nd : (slotsOf as).Nodup) : Args k G H vs (as.map (·.1)) := by
  refine ⟨by rw [(RpKs.at hv).1, List.length_map, (argE_at hA).1], fun i x hx => ?_, fun i j a h1 h2 => ?_⟩
  · rw [List.getElem?_map] at hx
    cases q : as[i]? with
    | none => rw [q] at hx; cases hx
    | some p =>
      obtain ⟨x', o⟩ := p
      rw [q] at hx
      have hx : some x' = some x := hx
      cases hx
      obtain ⟨v, h3, h4⟩ := arg_at r hv hA q
      refine ⟨v, h3, ?_⟩
      rcases h4 with ⟨_, d, rfl, h⟩ | ⟨s, y, _, rfl, _, _, a, rfl, m1, _, o, m3, m4⟩
      · exact h
      · exact ⟨a, o, rfl, m1, m3, m4⟩
  · obtain ⟨s, y, a1, b1, c1, _⟩ := pin_at r hv hA h1
    obtain ⟨t, z, a2, b2, c2, _⟩ := pin_at r hv hA h2
    have own : ∀ {q : Option (Option EV)} {y : MV}, (q = some (some (.m y)) ∨ q = some (some (.p y))) → ∃ x : EV, q = some (some x) ∧ x.own = true := fun {q y} h => by
      rcases h with h | h
      · exact ⟨_, h, rfl⟩
      · exact ⟨_, h, rfl⟩
    obtain ⟨x1, e1, w1⟩ := own b1
    obtain ⟨x2, e2, w2⟩ := own b2
    have st := r.dis s t a x1 x2 e1 e2 w1 w2 c1 c2
    subst st
    clear own b1 b2 e1 e2 c1 c2
    have : ∀ {l : List (EV × Option Nat)} {i j : Nat} {x y : EV}, (slotsOf l).Nodup → l[i]? = some (x, some s) → l[j]? = some (y, some s) → i = j := fun {l} => by
      induction l with
      | nil => intro i j x y _ h; simp at h
      | cons p l ih =>
        intro i j x y nd h1 h2
        obtain ⟨w, q⟩ := p
        have tail : (slotsOf l).Nodup := by
          cases q with
          | none => exact nd
          | some t => exact (List.nodup_cons.mp (show (t :: slotsOf l).Nodup from nd)).2
        have mem : ∀ {n : Nat} {z : EV}, l[n]? = some (z, some s) → s ∈ slotsOf l := fun h => List.mem_filterMap.mpr ⟨_, List.mem_of_getElem? h, rfl⟩
        cases i with
        | zero =>
          have h1 : (w, q) = (x, some s) := by simpa using h1
          cases h1
          cases j with
          | zero => rfl
          | succ j => exact absurd (mem (by simpa using h2)) (List.nodup_cons.mp (show (s :: slotsOf l).Nodup from nd)).1
        | succ i =>
          cases j with
          | zero =>
            have h2 : (w, q) = (y, some s) := by simpa using h2
            cases h2
            exact absurd (mem (by simpa using h1)) (List.nodup_cons.mp (show (s :: slotsOf l).Nodup from nd)).1
          | succ j => exact congrArg Nat.succ (ih (i := i) (j := j) (x := x) (y := y) tail (by simpa using h1) (by simpa using h2))
    exact this nd a1 a2
/-- the caller behind a call -/
theorem RepS.after (r : RepS k c G σ H e) (hv : RpKs k G σ vs ts) (hA : argE e ts = some as) (nd : (slotsOf as).Nodup) (af : Aft k vs (as.map (·.1)) G H G' H' ps) : RepS k c G' σ H' (backE e as ps) := by
  have notpin : ∀ {a : Addr}, c.O a ≠ none → ∀ i, pinA vs (as.map (·.1)) i ≠ some a := fun {a} h i q => by
    obtain ⟨s, y, _, _, _, m⟩ := pin_at r hv hA q
    exact h m.2.1
  -- a slot behind: as it was, or rewritten
  have at1 : ∀ (j : Nat) (x : EV), (backE e as ps)[j]? = some (some x) → (j ∉ slotsOf as ∧ e[j]? = some (some x)) ∨ ∃ i a y y' o, as[i]? = some (.p y, some j) ∧ pinA vs (as.map (·.1)) i = some a ∧ σ[j]? = some (some (.ref a)) ∧ H' a = some o ∧ MRep k G' o y' ∧
      ((e[j]? = some (some (.m y)) ∧ x = .m y') ∨ (e[j]? = some (some (.p y)) ∧ x = .p y')) := fun j x h => by
    by_cases hj : j ∈ slotsOf as
    · obtain ⟨i, a, y, h1, h2, h3, h4⟩ := slot_pin r hv hA hj
      obtain ⟨y', o, h5, h6, h7⟩ := af.pins i a h2
      rw [backE_in nd h1 h5] at h
      refine .inr ⟨i, a, y, y', o, h1, h2, h4, h6, h7, ?_⟩
      rcases h3 with h3 | h3
      · rw [h3] at h; cases h; exact .inl ⟨h3, rfl⟩
      · rw [h3] at h; cases h; exact .inr ⟨h3, rfl⟩
    · rw [backE_out hj] at h
      exact .inl ⟨hj, h⟩
  have ownOf : ∀ (j : Nat) (x : EV), (backE e as ps)[j]? = some (some x) → x.own = true → ∃ y, e[j]? = some (some y) ∧ y.own = true := fun j x h hw => by
    rcases at1 j x h with ⟨_, q⟩ | ⟨i, a, y, y', o, _, _, _, _, _, ⟨q, _⟩ | ⟨q, _⟩⟩
    · exact ⟨x, q, hw⟩
    · exact ⟨_, q, rfl⟩
    · exact ⟨_, q, rfl⟩
  have keep : ∀ (j : Nat) (a : Addr) (x : EV), e[j]? = some (some x) → x.own = true → σ[j]? = some (some (.ref a)) → j ∉ slotsOf as → ∀ i, pinA vs (as.map (·.1)) i ≠ some a := fun j a x h hw hs hj i q => by
    obtain ⟨s, y, h1, h2, h3, _⟩ := pin_at r hv hA q
    have : ∃ z, e[s]? = some (some z) ∧ z.own = true := by
      rcases h2 with h2 | h2
      · exact ⟨_, h2, rfl⟩
      · exact ⟨_, h2, rfl⟩
    obtain ⟨z, h4, h5⟩ := this
    have := r.dis j s a x z h h4 hw h5 hs h3
    subst this
    exact hj (List.mem_filterMap.mpr ⟨_, List.mem_of_getElem? h1, rfl⟩)
  have newN : ∀ {a : Addr}, G a = none → H a ≠ none → G' a = none := fun {a} h1 h2 => by
    cases q : G' a with
    | none => rfl
    | some o => exact absurd (af.new a (by rw [q]; exact fun z => by cases z) h1) h2
  refine ⟨r.g0.trans af.g, af.gh, fun a o h => af.keep a o (r.oh a o h) (notpin (by rw [h]; exact fun z => by cases z)), fun a h1 h2 => ?_, by rw [backE_len]; exact r.len, fun j x h => ?_, fun i j a x y h1 h2 w1 w2 s1 s2 => ?_, fun i a h => ?_⟩
  · cases q : G a with
    | some o => exact r.fr a (by rw [q]; exact fun z => by cases z) h2
    | none =>
      have := af.new a h1 q
      cases q2 : c.O a with
      | none => exact absurd q2 h2
      | some o => rw [r.oh a o q2] at this; cases this
  · rcases at1 j x h with ⟨hj, q⟩ | ⟨i, a, y, y', o, h1, h2, h3, h4, h5, q⟩
    · obtain ⟨v, h1, h2⟩ := r.slot j x q
      refine ⟨v, h1, ?_⟩
      have own : x.own = true → ∀ {y : MV}, (∃ a, v = .ref a ∧ MAt k c G H a y) → ∃ a, v = .ref a ∧ MAt k c G' H' a y := fun hw {y} ⟨a, e1, m1, m2, o, m3, m4⟩ => by
        subst e1
        exact ⟨a, rfl, newN m1 (by rw [m3]; exact fun z => by cases z), m2, o, af.keep a o m3 (keep j a x q hw h1 hj), m4.mono af.g⟩
      cases x with
      | d d => exact Rp.mono af.g h2
      | m y => exact own rfl h2
      | p y => exact own rfl h2
      | t _ _ => first | exact h2.elim | exact trivial | cases hw | exact hv.elim | exact h.elim | exact hx.elim | exact hu.elim | cases hy | cases h' | cases hd' | cases h2 | cases h1 | cases hd | cases h3 | cases h4
    · obtain ⟨s, y2, p1, _, p3, m1, m2, o2, m3, _⟩ := pin_at r hv hA h2
      have hm : MAt k c G' H' a y' := ⟨newN m1 (by rw [m3]; exact fun z => by cases z), m2, o, h4, h5⟩
      refine ⟨_, h3, ?_⟩
      rcases q with ⟨_, rfl⟩ | ⟨_, rfl⟩
      · exact ⟨a, rfl, hm⟩
      · exact ⟨a, rfl, hm⟩
  · obtain ⟨x', h3, w3⟩ := ownOf i x h1 w1
    obtain ⟨y', h4, w4⟩ := ownOf j y h2 w2
    exact r.dis i j a x' y' h3 h4 w3 w4 s1 s2
  · obtain ⟨x, h1, h2⟩ := r.pin i a h
    by_cases hj : i ∈ slotsOf as
    · obtain ⟨n, b, y, q1, q2, q3, q4⟩ := slot_pin r hv hA hj
      obtain ⟨y', o, q5, _, _⟩ := af.pins n b q2
      refine ⟨y', ?_, h2⟩
      rw [backE_in nd q1 q5, h1]
      rfl
    · exact ⟨x, by rw [backE_out hj]; exact h1, h2⟩
theorem RRes.here (r : RepS k c G σ H e) (r' : RepS k c G' σ H' (backE e as ps)) (hv : RpKs k G σ vs ts) (hA : argE e ts = some as) (nd : (slotsOf as).Nodup) (af : Aft k vs (as.map (·.1)) G H G' H' ps) {v : V} {x : EV} (h : RRes k G' H H' v x) (nt : ∀ d y, x ≠ .t d y) : RpV k c G' σ H' (backE e as ps) v x := by
  cases x with
  | d d => exact h
  | p y => exact h.elim
  | m y =>
    obtain ⟨a, o, rfl, h1, h2, h3, h4⟩ := h
    refine ⟨a, rfl, ⟨h1, ?_, o, h3, h4⟩, fun j x hx hw hs => ?_⟩
    · cases q : c.O a with
      | none => rfl
      | some o => rw [r.oh a o q] at h2; cases h2
    · have : ∃ y, e[j]? = some (some y) ∧ y.own = true := by
        by_cases hj : j ∈ slotsOf as
        · obtain ⟨n, b, y, q1, q2, q3, q4⟩ := slot_pin r hv hA hj
          rcases q3 with q3 | q3
          · exact ⟨_, q3, rfl⟩
          · exact ⟨_, q3, rfl⟩
        · rw [backE_out hj] at hx
          exact ⟨x, hx, hw⟩
      obtain ⟨y, hy, wy⟩ := this
      obtain ⟨b, z, _, h5, _, _, o2, h6, _⟩ := r.owner hy wy
      rw [hs] at h5
      cases h5
      rw [h2] at h6
      cases h6
  | t d y => exact absurd rfl (nt d y)
end

/-- a def that stands in the main module's names -/
structure FnAt (P : Program) (w : World) (K : PySem.W.Frag) (mg : Str → Option Value) (base : Heap) (ct : Nat → Addr) (k : Nat) (x : Str) (ps : List Str) (F : List EV → Out) : Prop where
  ex : ∃ f fd, FnOk P w K mg base (L2.CX P w) k f fd ps (spM ⟨K, ct⟩ F) ∧ mg x = some (.ref f) ∧ PySem.W.keepIn K (.ref f) = true ∧ Binds K fd ps []
section
variable {X : Cx} {ct : Nat → Addr} {W : WX} {k : Nat} {x : Str} {ps : List Str} {F : List EV → Out} {p pos : Pos} {a : Expr} {es : List Expr} {fa : EM (List Tk)}
theorem post_call {c : Fr} {G H : Hp} {σ : L2.St} {e : Env} {vs : List V} {ts : List Tk} {Q : VK} (r : RepS ⟨X.K, ct⟩ c G σ H e) (hv : RpKs ⟨X.K, ct⟩ G σ vs ts)
    (h : Post ⟨X.K, ct⟩ W c G σ (fun G' H' e' x => ∀ v, RpV ⟨X.K, ct⟩ c G' σ H' e' v x → Q v H') (match argE e ts with
      | none => .stuck
      | some as => if (slotsOf as).Nodup then (match (F (as.map (·.1))).noT with
        | .ret x ps => .ok x (backE e as ps)
        | .exc x ps => .exc x (backE e as ps)
        | .stuck => .stuck) else .stuck)) : spM ⟨X.K, ct⟩ F vs H Q (WE W σ) := by
  cases h1 : argE e ts with
  | none => rw [h1] at h; exact h.elim
  | some as =>
    rw [h1] at h
    have h' : Post ⟨X.K, ct⟩ W c G σ (fun G' H' e' x => ∀ v, RpV ⟨X.K, ct⟩ c G' σ H' e' v x → Q v H') (if (slotsOf as).Nodup then (match (F (as.map (·.1))).noT with
        | .ret x ps => .ok x (backE e as ps)
        | .exc x ps => .exc x (backE e as ps)
        | .stuck => .stuck) else .stuck) := h
    by_cases nd : (slotsOf as).Nodup
    · rw [if_pos nd] at h'
      refine ⟨G, as.map (·.1), r.gh, args_ok r hv h1 nd, ?_⟩
      cases h2 : F (as.map (·.1)) with
      | stuck => rw [h2] at h'; exact h'.elim
      | ret x ps =>
        rw [h2] at h'
        intro G' H' v af hr
        have r' := r.after hv h1 nd af
        cases x with
        | t _ _ => exact h'.elim
        | d x => exact h' G' H' af.g r' v (RRes.here (x := .d x) r r' hv h1 nd af hr (fun _ _ z => by cases z))
        | m x => exact h' G' H' af.g r' v (RRes.here (x := .m x) r r' hv h1 nd af hr (fun _ _ z => by cases z))
        | p x => exact hr.elim
      | exc x ps =>
        rw [h2] at h'
        intro G' H' cls dc af hx
        exact h' G' H' cls dc af.g (r.after hv h1 nd af) hx
    · rw [if_neg nd] at h'; exact h'.elim
theorem v_call (hF : FnAt X.prog X.w X.K X.mg X.base ct k x ps F) (hr : Room k X.A) (hg : Gl X x) (tk : Takes X W) (ha : SA X ct W (a :: es) fa) (hdb : (x == ("__debug__" : Str)) = false := by decide) (he : starEach (a :: es) X.env = (false, eval a X.env) :: starEach es X.env := by rfl)
    (hpl : (backTo pos (starEach es X.env)).any (·.1) = false := by rfl) : SV X ct W (.Call (.Name x p) (a :: es) [] pos) (vCall F fa) := by
  obtain ⟨f, fd, h1, h2, h3, h4⟩ := hF.ex
  refine PEw (pe_callS h1 hr hg h2 h3 h4 (E := WE W) (fun σ => passAt tk σ) ha hdb he hpl) fun σ H Q q => ?_
  obtain ⟨c, G, e, r, p⟩ := q
  refine ⟨c, G, e, r, (Post.bind p).imp fun G1 H1 e1 ts s1 r1 p1 vs hvs => ?_⟩
  exact post_call r1 hvs p1
end
end MM
end
section
set_option Elab.async false
set_option linter.all false
set_option autoImplicit false
set_option maxRecDepth 100000
set_option maxHeartbeats 4000000
namespace MM
open PySem PySem.Spec L2
open Classical

/-- what is raised is let on, and is wished for alike at all slots -/
structure XOk (X : Cx) (W : WX) (E : XK) : Prop where
  ps : Passes (L2.CX X.prog X.w) X E
  im : ∀ cls d σ H, W cls d σ H → E cls d H
theorem xok_def {X : Cx} {E : XK} (tk : Takes X (fun cls d _ H => E cls d H)) : XOk X (fun cls d _ H => E cls d H) E := ⟨passes_call tk (fun _ _ _ _ h => h), fun _ _ _ _ h => h⟩
theorem xok0 {X : Cx} : XOk X W0 E0 := ⟨passL, fun _ _ _ _ h => h.elim⟩
def tailC (F : List EV → Out) (ts : List Tk) : EM EV := fun e1 => match argE e1 ts with
  | none => .stuck
  | some as => if (slotsOf as).Nodup then (match (F (as.map (·.1))).noT with
    | .ret x ps => .ok x (backE e1 as ps)
    | .exc x ps => .exc x (backE e1 as ps)
    | .stuck => .stuck) else .stuck
theorem post_callE {K : PySem.W.Frag} {ct : Nat → Addr} {W : WX} {F : List EV → Out} {c : Fr} {G H : Hp} {σ : L2.St} {e : Env} {vs : List V} {ts : List Tk} {Q : VK} {E : XK} (him : ∀ cls d H, W cls d σ H → E cls d H) (r : RepS ⟨K, ct⟩ c G σ H e) (hv : RpKs ⟨K, ct⟩ G σ vs ts)
    (h : Post ⟨K, ct⟩ W c G σ (fun G' H' e' x => ∀ v, RpV ⟨K, ct⟩ c G' σ H' e' v x → Q v H') (tailC F ts e)) : spM ⟨K, ct⟩ F vs H Q E := by
  unfold tailC at h
  cases h1 : argE e ts with
  | none => rw [h1] at h; exact h.elim
  | some as =>
    rw [h1] at h
    have h' : Post ⟨K, ct⟩ W c G σ (fun G' H' e' x => ∀ v, RpV ⟨K, ct⟩ c G' σ H' e' v x → Q v H') (if (slotsOf as).Nodup then (match (F (as.map (·.1))).noT with
        | .ret x ps => .ok x (backE e as ps)
        | .exc x ps => .exc x (backE e as ps)
        | .stuck => .stuck) else .stuck) := h
    by_cases nd : (slotsOf as).Nodup
    · rw [if_pos nd] at h'
      refine ⟨G, as.map (·.1), r.gh, args_ok r hv h1 nd, ?_⟩
      cases h2 : F (as.map (·.1)) with
      | stuck => rw [h2] at h'; exact h'.elim
      | ret x ps =>
        rw [h2] at h'
        intro G' H' v af hr
        have r' := r.after hv h1 nd af
        cases x with
        | t _ _ => exact h'.elim
        | d x => exact h' G' H' af.g r' v (RRes.here (x := .d x) r r' hv h1 nd af hr (fun _ _ z => by cases z))
        | m x => exact h' G' H' af.g r' v (RRes.here (x := .m x) r r' hv h1 nd af hr (fun _ _ z => by cases z))
        | p x => exact hr.elim
      | exc x ps =>
        rw [h2] at h'
        intro G' H' cls dc af hx
        exact him _ _ _ (h' G' H' cls dc af.g (r.after hv h1 nd af) hx)
    · rw [if_neg nd] at h'; exact h'.elim
def noX : Out → Out
  | .exc _ _ => .stuck
  | o => o
theorem sp_noX {k : Kc} {F : List EV → Out} {vs : List V} {H : Hp} {Q : VK} {E E' : XK} (h : spM k (fun as => noX (F as)) vs H Q E) : spM k F vs H Q E' := by
  obtain ⟨G, as, s, r, h⟩ := h
  refine ⟨G, as, s, r, ?_⟩
  have h : EndO k vs as G H Q E (noX (F as)) := h
  cases q : F as with
  | stuck => rw [q] at h; exact h.elim
  | exc x ps => rw [q] at h; exact h.elim
  | ret x ps => rw [q] at h; exact h

/-! ### keywords -/
def permL {α : Type} (pm : List Nat) (l : List α) : List α := pm.filterMap fun i => l[i]?
theorem permL_vals {pm : List Nat} {vs : List V} {us : List Value} (h : Vals vs us) : Vals (permL pm vs) (permL pm us) := by
  unfold permL
  induction pm with
  | nil => exact .nil
  | cons i pm ih =>
    cases q : vs[i]? with
    | none =>
      have : us[i]? = none := by
        rw [List.getElem?_eq_none_iff] at q ⊢
        rw [← h.length]; exact q
      rw [List.filterMap_cons_none q, List.filterMap_cons_none this]
      exact ih
    | some v =>
      obtain ⟨u, hu, r⟩ := h.get q
      rw [List.filterMap_cons_some q, List.filterMap_cons_some hu]
      exact .cons r ih
theorem RpKs.app {k : Kc} {G : Hp} {σ : L2.St} : ∀ {vs ws : List V} {ts us : List Tk}, RpKs k G σ vs ts → RpKs k G σ ws us → RpKs k G σ (vs ++ ws) (ts ++ us)
  | [], _, [], _, _, h => h
  | _ :: _, _, _ :: _, _, h, h2 => ⟨h.1, RpKs.app h.2 h2⟩
  | [], _, _ :: _, _, h, _ => h.elim
  | _ :: _, _, [], _, h, _ => h.elim
theorem RpKs.perm {k : Kc} {G : Hp} {σ : L2.St} {vs : List V} {ts : List Tk} (pm : List Nat) (h : RpKs k G σ vs ts) : RpKs k G σ (permL pm vs) (permL pm ts) := by
  obtain ⟨hl, ha⟩ := RpKs.at h
  unfold permL
  induction pm with
  | nil => trivial
  | cons i pm ih =>
    cases q : ts[i]? with
    | none =>
      have : vs[i]? = none := by
        rw [List.getElem?_eq_none_iff] at q ⊢
        rw [hl]; exact q
      rw [List.filterMap_cons_none q, List.filterMap_cons_none this]
      exact ih
    | some t =>
      obtain ⟨v, hv, r⟩ := ha i t q
      rw [List.filterMap_cons_some q, List.filterMap_cons_some hv]
      exact ⟨r, ih⟩
abbrev SKw (X : Cx) (ct : Nat → Addr) (W : WX) (kws : List Keyword) (f : EM (List Tk)) : Prop := PK X kws (TA ⟨X.K, ct⟩ W f)
theorem PKw {X : Cx} {e : List Keyword} {t t' : L2.TA} (h : PK X e t) (w : ∀ σ H Q, t' σ H Q → t σ H Q) : PK X e t' := ⟨fun pos pins s σ H Q I q => h.run pos pins s σ H Q I (w σ H Q q)⟩
section
variable {X : Cx} {ct : Nat → Addr} {W : WX} {a : Expr} {kws : List Keyword} {fa : EM Tk} {fs : EM (List Tk)} {nm : Option Str} {kpos : Pos}
theorem kw_nil : SKw X ct W [] aNil := PKw pk_nil fun σ H Q q => by
  obtain ⟨c, G, e, r, p⟩ := q
  exact p.now r [] trivial
theorem kw_cons (ha : SK X ct W a fa) (hs : SKw X ct W kws fs) : SKw X ct W (⟨nm, a, kpos⟩ :: kws) (aCons fa fs) := PKw (pk_cons ha hs) fun σ H Q q => by
  obtain ⟨c, G, e, r, p⟩ := q
  refine ⟨c, G, e, r, (Post.bind p).imp fun G1 H1 e1 t s1 r1 p1 x hx => ⟨c, G1, e1, r1, (Post.bind p1).imp fun G2 H2 e2 ts s2 r2 p2 xs hxs => ?_⟩⟩
  exact p2.now r2 (x :: xs) ⟨hx.mono s2, hxs⟩
end
/-- a def called with keywords: n values by place, the keywords ks, pm[i] is the place of the i-th parameter's value among all of them -/
structure FnKw (P : Program) (w : World) (K : PySem.W.Frag) (mg : Str → Option Value) (base : Heap) (ct : Nat → Addr) (k : Nat) (x : Str) (ps : List Str) (n : Nat) (ks : List Str) (pm : List Nat) (F : List EV → Out) : Prop where
  ex : ∃ f fd, FnOk P w K mg base (L2.CX P w) k f fd ps (spM ⟨K, ct⟩ F) ∧ mg x = some (.ref f) ∧ PySem.W.keepIn K (.ref f) = true ∧ KBn K fd ps n ks (fun us ws => permL pm (us ++ ws)) (fun vs zs => permL pm (vs ++ zs))
theorem Vals.app' : ∀ {vs zs : List V} {us ws : List Value}, Vals vs us → Vals zs ws → Vals (vs ++ zs) (us ++ ws) := fun h h' => h.append h'
theorem kbn_of {K : PySem.W.Frag} {x qual : Str} {params : Arguments} {body : List Stmt} {scope : Scope} {kws : List (Str × V)} {f : Addr} {fd : FuncData} {ps ks : List Str} {n : Nat} {pm : List Nat} (F : FunD K x qual params body scope [] kws f fd)
    (h : ∀ (kV doc pm' : Value) (an : Option Addr) (cdv ct : Value) (us ws : List Value), us.length = n → ws.length = ks.length → bindArgs (PySem.W.fnOf x qual params body scope .none kV doc pm' an cdv ct) ⟨us, ks.zip ws⟩ = pure (ps.zip (permL pm (us ++ ws)))) :
    KBn K fd ps n ks (fun us ws => permL pm (us ++ ws)) (fun vs zs => permL pm (vs ++ zs)) := by
  obtain ⟨oc, od, dV, kV, doc, pm', an, cdv, ct, osl, rfl, lk, hcd, hD, hK⟩ := F.ex
  rcases hD with ⟨_, rfl⟩ | ⟨e, _⟩
  · exact ⟨fun s us ws _ l1 l2 => .of_eq (h kV doc pm' an cdv ct us ws l1 l2), fun r1 r2 => permL_vals (r1.append r2)⟩
  · exact absurd rfl e
def vCallK (n m : Nat) (pm : List Nat) (F : List EV → Out) (fa fk : EM (List Tk)) : EM EV := fun e => (fa e).bind fun ts e1 => (fk e1).bind fun us e2 => if ts.length = n ∧ us.length = m then tailC F (permL pm (ts ++ us)) e2 else .stuck
section
variable {X : Cx} {ct : Nat → Addr} {W : WX} {k n : Nat} {x : Str} {ps ks : List Str} {pm : List Nat} {F : List EV → Out} {p pos apos : Pos} {a o : Expr} {es : List Expr} {kws : List Keyword} {fa fk : EM (List Tk)} {E : XK}
theorem callK_sem {c : Fr} {G H : Hp} {σ : L2.St} {e : Env} {vs : List V} {ts : List Tk} {Q : VK} {m : Nat} (him : ∀ cls d H, W cls d σ H → E cls d H) (r : RepS ⟨X.K, ct⟩ c G σ H e) (hv : RpKs ⟨X.K, ct⟩ G σ vs ts)
    (h : Post ⟨X.K, ct⟩ W c G σ (fun G' H' e' x => ∀ v, RpV ⟨X.K, ct⟩ c G' σ H' e' v x → Q v H') ((fk e).bind fun us e2 => if ts.length = n ∧ us.length = m then tailC F (permL pm (ts ++ us)) e2 else .stuck)) :
    TA ⟨X.K, ct⟩ W fk σ H fun zs H2 => vs.length = n ∧ zs.length = m ∧ spM ⟨X.K, ct⟩ F (permL pm (vs ++ zs)) H2 Q E := by
  refine ⟨c, G, e, r, (Post.bind h).imp fun G2 H2 e2 us s2 r2 p2 zs hzs => ?_⟩
  have l1 := (RpKs.at hv).1
  have l2 := (RpKs.at hzs).1
  by_cases q : ts.length = n ∧ us.length = m
  · rw [if_pos q] at p2
    exact ⟨l1.trans q.1, l2.trans q.2, post_callE him r2 ((hv.mono s2).app hzs |>.perm pm) p2⟩
  · rw [if_neg q] at p2; exact p2.elim
theorem v_callK (hF : FnKw X.prog X.w X.K X.mg X.base ct k x ps n ks pm F) (hr : Room k X.A) (hg : Gl X x) (hE : XOk X W E) (ha : SA X ct W (a :: es) fa) (hkw : SKw X ct W kws fk) (hall : (backToKw pos (keywordEach kws X.env)).all (·.1.isSome) = true := by rfl) (hks : (backToKw pos (keywordEach kws X.env)).filterMap (·.1) = ks := by rfl)
    (hdb : (x == ("__debug__" : Str)) = false := by decide) (he : starEach (a :: es) X.env = (false, eval a X.env) :: starEach es X.env := by rfl)
    (hpl : ((backTo pos (starEach (a :: es) X.env)).any (·.1) || (backToKw pos (keywordEach kws X.env)).any (·.1.isNone)) = false := by rfl) : SV X ct W (.Call (.Name x p) (a :: es) kws pos) (vCallK n ks.length pm F fa fk) := by
  obtain ⟨f, fd, h1, h2, h3, h4⟩ := hF.ex
  refine PEw (pe_callN h1 hr hg h2 h3 h4 hE.ps ha hkw hall hks hdb he hpl) fun σ H Q q => ?_
  obtain ⟨c, G, e, r, p⟩ := q
  exact ⟨c, G, e, r, (Post.bind p).imp fun G1 H1 e1 ts s1 r1 p1 vs hvs => callK_sem (X := X) (fun cls d H h => hE.im cls d σ H h) r1 hvs p1⟩
theorem pe_callN0 {CX : CXT} {f : Addr} {fd : FuncData} {sp : Sp} {tk : L2.TA} {g : List Value → List Value → List Value} {gV : List V → List V → List V} (F : FnOk X.prog X.w X.K X.mg X.base CX k f fd ps sp) (hr : Room k X.A) (hg : Gl X x) (hm : X.mg x = some (.ref f)) (hk : PySem.W.keepIn X.K (.ref f) = true) (hb : KBn X.K fd ps 0 ks g gV) (hx : Passes CX X E)
    (hkw : PK X kws tk) (hall : (backToKw pos (keywordEach kws X.env)).all (·.1.isSome) = true := by rfl) (hks : (backToKw pos (keywordEach kws X.env)).filterMap (·.1) = ks := by rfl)
    (hdb : (x == ("__debug__" : Str)) = false := by decide) (hpl : ((backTo pos (starEach [] X.env)).any (·.1) || (backToKw pos (keywordEach kws X.env)).any (·.1.isNone)) = false := by rfl) :
    PE X (.Call (.Name x p) [] kws pos) (tCallN 0 ks.length sp gV E tNil tk) := by
  refine ⟨fun pins s σ H Q I h => ?_⟩
  refine wpAny_Call_Name_kw (ld_glob I hg hm ?_ hdb)
  refine PySem.W.callWith_KW0 (h₀ := X.base) I.ok.mod.kin hk hall ?_ hpl
  refine thn (hkw.run pos pins s σ H _ I h) fun ws s2 ⟨zs, H2, I2, rz, l1, l2, q2⟩ => ⟨I2.kIn, ?_⟩
  rw [hks]
  exact run_fnN F hr hb hx I2 .nil rz rfl l2 q2
theorem v_callK0 (hF : FnKw X.prog X.w X.K X.mg X.base ct k x ps 0 ks pm F) (hr : Room k X.A) (hg : Gl X x) (hE : XOk X W E) (hkw : SKw X ct W kws fk) (hall : (backToKw pos (keywordEach kws X.env)).all (·.1.isSome) = true := by rfl) (hks : (backToKw pos (keywordEach kws X.env)).filterMap (·.1) = ks := by rfl)
    (hdb : (x == ("__debug__" : Str)) = false := by decide) (hpl : ((backTo pos (starEach [] X.env)).any (·.1) || (backToKw pos (keywordEach kws X.env)).any (·.1.isNone)) = false := by rfl) : SV X ct W (.Call (.Name x p) [] kws pos) (vCallK 0 ks.length pm F aNil fk) := by
  obtain ⟨f, fd, h1, h2, h3, h4⟩ := hF.ex
  refine PEw (pe_callN0 h1 hr hg h2 h3 h4 hE.ps hkw hall hks hdb hpl) fun σ H Q q => ?_
  obtain ⟨c, G, e, r, p⟩ := q
  exact callK_sem (X := X) (vs := []) (ts := []) (fun cls d H h => hE.im cls d σ H h) r trivial p
end

/-! ### methods, properties -/
def isObj (cc : Nat) (m : Str) (e : Env) (t : Tk) : Bool := match argT e t with
  | some (.d (.obj c _), _) => decide (c = cc ∧ m ∉ clsNames cc)
  | some (.p (.obj c ns _), _) => decide (c = cc ∧ m ∉ ns)
  | _ => false
theorem lookup_out {β : Type} {m : Str} : ∀ {fs : List (Str × β)}, m ∉ fs.map (·.1) → fs.lookup m = none
  | [], _ => rfl
  | (f, x) :: fs, h => by
    have h' : m ≠ f ∧ m ∉ fs.map (·.1) := by simpa using h
    have hb : (m == f) = false := beq_eq_false_iff_ne.mpr h'.1
    simp only [List.lookup, hb]
    exact lookup_out h'.2
theorem isObj_ok {k : Kc} {c : Fr} {G H : Hp} {σ : L2.St} {e : Env} {v : V} {t : Tk} {cc : Nat} {m : Str} (r : RepS k c G σ H e) (hv : RpK k G σ v t) (h : isObj cc m e t = true) : ∃ a dx fs, v = .ref a ∧ H a = some (.ins (k.ct cc) dx fs) ∧ fs.lookup m = none := by
  unfold isObj at h
  cases q : argT e t with
  | none => rw [q] at h; cases h
  | some p =>
    obtain ⟨x, o⟩ := p
    rw [q] at h
    rcases argT_ok r hv q with ⟨rfl, d, rfl, hd⟩ | ⟨s, y, rfl, rfl, h1, h2, a, rfl, m1, m2, o, m3, m4⟩
    · cases d with
      | obj c' ds =>
        have h' : c' = cc ∧ m ∉ clsNames cc := by simpa using h
        obtain ⟨rfl, hm⟩ := h'
        cases hd with
        | obj h1 h2 h3 => exact ⟨_, _, _, rfl, r.gh _ _ h1, lookup_out (by rw [h2]; exact hm)⟩
      | _ => cases h
    · cases y with
      | obj c' ns ds =>
        have h' : c' = cc ∧ m ∉ ns := by simpa using h
        obtain ⟨rfl, hm⟩ := h'
        obtain ⟨dx, fs, rfl, e1, _⟩ := m4
        exact ⟨a, dx, fs, rfl, m3, lookup_out (by rw [e1]; exact hm)⟩
      | _ => cases h
def vMeth (cc : Nat) (m : Str) (F : List EV → Out) (fo : EM Tk) (fa : EM (List Tk)) : EM EV := fun e => (fo e).bind fun t e1 => if isObj cc m e1 t = true then (fa e1).bind fun ts e2 => tailC F (t :: ts) e2 else .stuck
def vProp (cc : Nat) (F : List EV → Out) (fo : EM Tk) : EM EV := fun e => (fo e).bind fun t e1 => if isObj cc Str.empty e1 t = true then tailC (fun as => noX (F as)) [t] e1 else .stuck
/-- a method of the class cc -/
structure MethAt (P : Program) (w : World) (K : PySem.W.Frag) (mg : Str → Option Value) (base : Heap) (ct : Nat → Addr) (k : Nat) (cc : Nat) (m : Str) (ps : List Str) (F : List EV → Out) : Prop where
  ex : ∃ f fd, FnOk P w K mg base (L2.CX P w) k f fd ps (spM ⟨K, ct⟩ F) ∧ Cls K (ct cc) ∧ Meth K (ct cc) m f ∧ Binds K fd ps []
structure PropAt (P : Program) (w : World) (K : PySem.W.Frag) (mg : Str → Option Value) (base : Heap) (ct : Nat → Addr) (k : Nat) (cc : Nat) (m : Str) (ps : List Str) (F : List EV → Out) : Prop where
  ex : ∃ f fd p, FnOk P w K mg base (L2.CX P w) k f fd ps (spM ⟨K, ct⟩ F) ∧ Cls K (ct cc) ∧ PropOf K (ct cc) m p f ∧ Binds K fd ps []
/-- a class and its __init__ -/
structure MakeAt (P : Program) (w : World) (K : PySem.W.Frag) (mg : Str → Option Value) (base : Heap) (ct : Nat → Addr) (k : Nat) (x : Str) (cc : Nat) (ps : List Str) (F : List EV → Out) : Prop where
  ex : ∃ f fd, FnOk P w K mg base (L2.CX P w) k f fd ps (spM ⟨K, ct⟩ F) ∧ Mk K (ct cc) f ∧ mg x = some (.ref (ct cc)) ∧ Binds K fd ps []
section
variable {X : Cx} {ct : Nat → Addr} {W : WX} {k : Nat} {x m : Str} {cc : Nat} {ps : List Str} {F : List EV → Out} {p pos apos : Pos} {a o : Expr} {es : List Expr} {fo : EM Tk} {fa : EM (List Tk)} {E : XK}
theorem v_meth {pl : Sem Bool} (hF : MethAt X.prog X.w X.K X.mg X.base ct k cc m ps F) (hr : Room k X.A) (hE : XOk X W E) (ho : SK X ct W o fo) (ha : SA X ct W (a :: es) fa)
    (hst : starEach (a :: es) X.env = (false, eval a X.env) :: starEach es X.env := by rfl) (hpl : (backTo pos (starEach es X.env)).any (·.1) = false := by rfl)
    (ht : eval (.Call (.Attribute o m apos) (a :: es) [] pos) X.env = (do
      let ov ← eval o X.env
      standAt apos.atName
      let (f, first) ← holding [ov] (getMethod ov m pl)
      callWith pos f first (backTo pos (starEach (a :: es) X.env)) (backToKw pos (keywordEach [] X.env))) := by rfl) :
    SV X ct W (.Call (.Attribute o m apos) (a :: es) [] pos) (vMeth cc m F fo fa) := by
  obtain ⟨f, fd, h1, h2, h3, h4⟩ := hF.ex
  refine PEw (pe_meth ho h2 h3 h1 hr h4 .nil hE.ps ha hst hpl ht) fun σ H Q q => ?_
  obtain ⟨c, G, e, r, p⟩ := q
  refine ⟨c, G, e, r, (Post.bind p).imp fun G1 H1 e1 t s1 r1 p1 v hv => ?_⟩
  split at p1
  · rename_i hi
    obtain ⟨b, dx, fs, rfl, e2, e3⟩ := isObj_ok r1 hv hi
    refine ⟨b, dx, fs, rfl, e2, e3, c, G1, e1, r1, (Post.bind p1).imp fun G2 H2 e2 ts s2 r2 p2 vs hvs => ?_⟩
    show spM _ F (.ref b :: (vs ++ [])) H2 Q E
    rw [List.append_nil]
    exact post_callE (fun cls d H h => hE.im cls d σ H h) r2 (show RpKs _ G2 σ (.ref b :: vs) (t :: ts) from ⟨hv.mono s2, hvs⟩) p2
  · exact p1.elim
theorem v_meth0 {pl : Sem Bool} (hF : MethAt X.prog X.w X.K X.mg X.base ct k cc m ps F) (hr : Room k X.A) (hE : XOk X W E) (ho : SK X ct W o fo)
    (ht : eval (.Call (.Attribute o m apos) [] [] pos) X.env = (do
      let ov ← eval o X.env
      standAt apos.atName
      let (f, first) ← holding [ov] (getMethod ov m pl)
      callWith pos f first (backTo pos (starEach [] X.env)) (backToKw pos (keywordEach [] X.env))) := by rfl) :
    SV X ct W (.Call (.Attribute o m apos) [] [] pos) (vMeth cc m F fo aNil) := by
  obtain ⟨f, fd, h1, h2, h3, h4⟩ := hF.ex
  refine PEw (pe_meth0 ho h2 h3 h1 hr h4 .nil hE.ps ht) fun σ H Q q => ?_
  obtain ⟨c, G, e, r, p⟩ := q
  refine ⟨c, G, e, r, (Post.bind p).imp fun G1 H1 e1 t s1 r1 p1 v hv => ?_⟩
  split at p1
  · rename_i hi
    obtain ⟨b, dx, fs, rfl, e2, e3⟩ := isObj_ok r1 hv hi
    exact ⟨b, dx, fs, rfl, e2, e3, post_callE (fun cls d H h => hE.im cls d σ H h) r1 (show RpKs _ G1 σ [.ref b] [t] from ⟨hv, trivial⟩) p1⟩
  · exact p1.elim
theorem v_prop (hF : PropAt X.prog X.w X.K X.mg X.base ct k cc m ps F) (hr : Room (k + 1) X.A) (ho : SK X ct W o fo) (hab : attributeBase o m X.env (eval o X.env) = eval o X.env := by rfl) : SV X ct W (.Attribute o m pos) (vProp cc F fo) := by
  obtain ⟨f, fd, q, h1, h2, h3, h4⟩ := hF.ex
  refine PEw (pe_prop ho h2 h3 h1 hr h4 .nil (passL (X := X.nox)) hab) fun σ H Q q => ?_
  obtain ⟨c, G, e, r, p⟩ := q
  refine ⟨c, G, e, r, (Post.bind p).imp fun G1 H1 e1 t s1 r1 p1 v hv => ?_⟩
  split at p1
  · rename_i hi
    obtain ⟨b, dx, fs, rfl, e2, e3⟩ := isObj_ok r1 hv hi
    exact ⟨b, dx, fs, rfl, e2, sp_noX (E := fun _ _ _ => True) (post_callE (W := W) (fun cls d H h => trivial) r1 (show RpKs _ G1 σ [.ref b] [t] from ⟨hv, trivial⟩) p1)⟩
  · exact p1.elim
end

/-! ### making -/
def tailMk (cc : Nat) (F : List EV → Out) (ts : List Tk) : EM EV := fun e1 => match argE e1 ts with
  | none => .stuck
  | some as => if (slotsOf as).Nodup then (match F (.p (.obj cc [] []) :: as.map (·.1)) with
    | .ret (.d .non) (some y :: ps) => .ok (.m y) (backE e1 as ps)
    | .exc x (_ :: ps) => .exc x (backE e1 as ps)
    | _ => .stuck) else .stuck
def vMake (cc : Nat) (F : List EV → Out) (fa : EM (List Tk)) : EM EV := fun e => (fa e).bind (tailMk cc F)
section
variable {X : Cx} {ct : Nat → Addr} {W : WX} {k : Nat} {x m : Str} {cc : Nat} {ps : List Str} {F : List EV → Out} {p pos apos : Pos} {a o : Expr} {es : List Expr} {fo : EM Tk} {fa : EM (List Tk)} {E : XK}
theorem make_sem {c : Fr} {G H : Hp} {σ : L2.St} {e : Env} {vs : List V} {ts : List Tk} {Q : VK} (him : ∀ cls d H, W cls d σ H → E cls d H) (r : RepS ⟨X.K, ct⟩ c G σ H e) (hv : RpKs ⟨X.K, ct⟩ G σ vs ts)
    (h : Post ⟨X.K, ct⟩ W c G σ (fun G' H' e' x => ∀ v, RpV ⟨X.K, ct⟩ c G' σ H' e' v x → Q v H') (tailMk cc F ts e)) (x dx : Addr) (hx : H x = none) (hdx : H dx = none) (hne : dx ≠ x) :
    spM ⟨X.K, ct⟩ F (.ref x :: vs) (upd (upd H dx (.own x)) x (.ins (ct cc) dx [])) (fun v H2 => v = .non ∧ Q (.ref x) H2) E := by
  unfold tailMk at h
  cases h1 : argE e ts with
  | none => rw [h1] at h; exact h.elim
  | some as =>
    rw [h1] at h
    have h' : Post ⟨X.K, ct⟩ W c G σ (fun G' H' e' x => ∀ v, RpV ⟨X.K, ct⟩ c G' σ H' e' v x → Q v H') (if (slotsOf as).Nodup then (match F (.p (.obj cc [] []) :: as.map (·.1)) with
        | .ret (.d .non) (some y :: ps) => .ok (.m y) (backE e as ps)
        | .exc x (_ :: ps) => .exc x (backE e as ps)
        | _ => .stuck) else .stuck) := h
    by_cases nd : (slotsOf as).Nodup
    · rw [if_pos nd] at h'
      have ar := args_ok r hv h1 nd
      have s1 : Same H (upd (upd H dx (.own x)) x (.ins (ct cc) dx [])) := (same_upd hdx).trans (same_upd (by rw [upd_ne (fun z => hne z.symm)]; exact hx))
      have gx : G x = none := by
        cases q : G x with
        | none => rfl
        | some o => rw [r.gh x o q] at hx; cases hx
      have pinS : ∀ i b, pinA (.ref x :: vs) (.p (.obj cc [] []) :: as.map (·.1)) i = some b → (i = 0 ∧ b = x) ∨ ∃ j, i = j + 1 ∧ pinA vs (as.map (·.1)) j = some b := fun i b q => by
        cases i with
        | zero =>
          obtain ⟨_, q2⟩ := pinA_ok q
          simp at q2
          exact .inl ⟨rfl, q2.symm⟩
        | succ j => exact .inr ⟨j, rfl, q⟩
      have hpin : ∀ j b, pinA vs (as.map (·.1)) j = some b → H b ≠ none := fun j b q => by
        obtain ⟨s, y, _, _, _, _, _, o, m3, _⟩ := pin_at r hv h1 q
        rw [m3]; exact fun z => by cases z
      refine ⟨G, .p (.obj cc [] []) :: as.map (·.1), r.gh.trans s1, ⟨by simp [ar.len], fun i y hy => ?_, fun i j b q1 q2 => ?_⟩, ?_⟩
      · cases i with
        | zero =>
          have hy : some (EV.p (.obj cc [] [])) = some y := hy
          cases hy
          exact ⟨.ref x, rfl, x, .ins (ct cc) dx [], rfl, gx, upd_same, dx, [], rfl, rfl, .nil⟩
        | succ i =>
          obtain ⟨v, g1, g2⟩ := ar.get i y hy
          refine ⟨v, g1, ?_⟩
          cases y with
          | d d => exact g2
          | m z => exact g2.elim
          | p z =>
            obtain ⟨b, o, rfl, g3, g4, g5⟩ := g2
            exact ⟨b, o, rfl, g3, s1 b o g4, g5⟩
          | t _ _ => exact g2.elim
      · rcases pinS i b q1 with ⟨rfl, rfl⟩ | ⟨i', rfl, q1'⟩
        · rcases pinS j _ q2 with ⟨rfl, _⟩ | ⟨j', rfl, q2'⟩
          · rfl
          · exact absurd hx (hpin j' _ q2')
        · rcases pinS j b q2 with ⟨rfl, rfl⟩ | ⟨j', rfl, q2'⟩
          · exact absurd hx (hpin i' _ q1')
          · rw [ar.dis i' j' b q1' q2']
      · -- behind it
        have tailA : ∀ {G' H' : Hp} {qs : List (Option MV)} {o : Option MV}, Aft ⟨X.K, ct⟩ (.ref x :: vs) (.p (.obj cc [] []) :: as.map (·.1)) G (upd (upd H dx (.own x)) x (.ins (ct cc) dx [])) G' H' (o :: qs) →
            Aft ⟨X.K, ct⟩ vs (as.map (·.1)) G H G' H' qs := fun {G' H' qs o} af => by
          refine ⟨af.g, af.gh, fun b u hb hn => af.keep b u (s1 b u hb) fun i q => ?_, fun b g1 g2 => ?_, fun i b q => ?_⟩
          · rcases pinS i b q with ⟨_, rfl⟩ | ⟨j, _, q'⟩
            · rw [hx] at hb; cases hb
            · exact hn j q'
          · have := af.new b g1 g2
            cases q : H b with
            | none => rfl
            | some u => rw [s1 b u q] at this; cases this
          · obtain ⟨y, o', q1, q2, q3⟩ := af.pins (i + 1) b q
            exact ⟨y, o', q1, q2, q3⟩
        cases h2 : F (.p (.obj cc [] []) :: as.map (·.1)) with
        | stuck => rw [h2] at h'; exact h'.elim
        | ret z qs =>
          rw [h2] at h'
          cases z with
          | m z => exact h'.elim
          | p z => exact h'.elim
          | d d =>
            cases d with
            | non =>
              cases qs with
              | nil => exact h'.elim
              | cons o qs =>
                cases o with
                | none => exact h'.elim
                | some y =>
                  intro G' H' v af hr
                  have hr : Rp ⟨X.K, ct⟩ G' v .non := hr
                  cases hr
                  refine ⟨rfl, ?_⟩
                  have af' := tailA af
                  have r' := r.after hv h1 nd af'
                  refine h' G' H' af'.g r' (.ref x) (RRes.here r r' hv h1 nd af' (x := .m y) ?_ (fun _ _ z => by cases z))
                  obtain ⟨y', o', q1, q2, q3⟩ := af.pins 0 x rfl
                  have q1 : some (some y) = some (some y') := q1
                  cases q1
                  refine ⟨x, o', rfl, ?_, hx, q2, q3⟩
                  cases q : G' x with
                  | none => rfl
                  | some u =>
                    have := af.new x (by rw [q]; exact fun z => by cases z) gx
                    rw [upd_same] at this
                    cases this
            | _ => exact h'.elim
          | t _ _ => first | exact h2.elim | exact trivial | cases hw | exact hv.elim | exact h.elim | exact hx.elim | exact hu.elim | cases hy | cases h' | cases hd' | cases h2 | cases h1 | cases hd | cases h3 | cases h4
        | exc z qs =>
          rw [h2] at h'
          cases qs with
          | nil => exact h'.elim
          | cons o qs =>
            intro G' H' cls dc af hz
            have af' := tailA af
            exact him _ _ _ (h' G' H' cls dc af'.g (r.after hv h1 nd af') hz)
    · rw [if_neg nd] at h'; exact h'.elim
theorem v_make (hF : MakeAt X.prog X.w X.K X.mg X.base ct k x cc ps F) (hr : Room (k + 1) X.A) (hg : Gl X x) (hE : XOk X W E) (ha : SA X ct W (a :: es) fa) (hdb : (x == ("__debug__" : Str)) = false := by decide)
    (he : starEach (a :: es) X.env = (false, eval a X.env) :: starEach es X.env := by rfl) (hpl : (backTo pos (starEach es X.env)).any (·.1) = false := by rfl) : SV X ct W (.Call (.Name x p) (a :: es) [] pos) (vMake cc F fa) := by
  obtain ⟨f, fd, h1, h2, h3, h4⟩ := hF.ex
  refine PEw (pe_make h2 h1 hr hg h3 h4 .nil hE.ps ha hdb he hpl) fun σ H Q q => ?_
  obtain ⟨c, G, e, r, p⟩ := q
  refine ⟨c, G, e, r, (Post.bind p).imp fun G1 H1 e1 ts s1 r1 p1 vs hvs x dx hx hdx hne => ?_⟩
  rw [List.append_nil]
  exact make_sem (X := X) (fun cls d H h => hE.im cls d σ H h) r1 hvs p1 x dx hx hdx hne
end

/-! ### attributes of an own thing are stored -/
def putNs (f : Str) : List Str → List Str
  | [] => [f]
  | g :: r => if g = f then g :: r else g :: putNs f r
def putDs (f : Str) (d : D) : List Str → List D → List D
  | g :: r, x :: ds => if g = f then d :: ds else x :: putDs f d r ds
  | _, _ => [d]
theorem putF_ok {k : Kc} {G : Hp} {f : Str} {v : V} {d : D} (hv : Rp k G v d) : ∀ {fs : List (Str × V)} {ds : List D}, Rps k G (fs.map (·.2)) ds → (putF f v fs).map (·.1) = putNs f (fs.map (·.1)) ∧ Rps k G ((putF f v fs).map (·.2)) (putDs f d (fs.map (·.1)) ds)
  | [], _, .nil => ⟨rfl, .cons hv .nil⟩
  | (g, x) :: fs, _, .cons a b => by
    obtain ⟨i1, i2⟩ := putF_ok hv b
    by_cases h : g = f
    · rw [show putF f v ((g, x) :: fs) = (g, v) :: fs from if_pos h]
      refine ⟨(if_pos h).symm, ?_⟩
      show Rps k G (v :: fs.map (·.2)) (putDs f d (g :: fs.map (·.1)) (_ :: _))
      unfold putDs
      rw [if_pos h]
      exact .cons hv b
    · rw [show putF f v ((g, x) :: fs) = (g, x) :: putF f v fs from if_neg h]
      refine ⟨?_, ?_⟩
      · show g :: (putF f v fs).map (·.1) = putNs f (g :: fs.map (·.1))
        unfold putNs
        rw [if_neg h, i1]
      · show Rps k G (x :: (putF f v fs).map (·.2)) (putDs f d (g :: fs.map (·.1)) (_ :: _))
        unfold putDs
        rw [if_neg h]
        exact .cons a i2
def sFldO (cc i : Nat) (f : Str) (fe : EM D) : SM := fun e => (fe e).sb fun d e1 => match mutE e1 i with
  | some (.obj c ns ds) => if c = cc ∧ ns.length < 1000 then .nx (reE e1 i (.obj c (putNs f ns) (putDs f d ns ds))) else .stuck
  | _ => .stuck
section
variable {X : Cx} {ct : Nat → Addr} {W : WX} {i : Nat} {f : Str} {cc : Nat} {pos pos' : Pos} {o value : Expr} {fe : EM D}
theorem s_fld (ho : PE X o (tVar i)) (hv : SE X ct W value fe) (hc : Cls X.K (ct cc)) (hn : NoAttr X.K (ct cc) f) (hs : swapsWith value (some (.Attribute o f pos')) pos.line X.env = pure false := by rfl) : SS X ct W (.Assign [.Attribute o f pos'] value pos) (sFldO cc i f fe) := PSw (ps_fld ho hv hs) fun Dn σ H q => by
  obtain ⟨c, G, e, r, p⟩ := q
  refine ⟨c, G, e, r, (PostS.sb p).imp fun G1 H1 e1 d s1 r1 p1 v hv => ?_⟩
  cases h : mutE e1 i with
  | none => rw [h] at p1; exact p1.elim
  | some y =>
    rw [h] at p1
    obtain ⟨a, o', h1, h2, h3, h4, h5⟩ := mutE_ok r1 h
    cases y with
    | obj c' ns ds =>
      have p2 : PostS ⟨X.K, ct⟩ W c G1 Dn (if c' = cc ∧ ns.length < 1000 then .nx (reE e1 i (.obj c' (putNs f ns) (putDs f d ns ds))) else .stuck) := p1
      by_cases q : c' = cc ∧ ns.length < 1000
      · rw [if_pos q] at p2
        obtain ⟨rfl, hl⟩ := q
        obtain ⟨dx, fs, rfl, e2, e3⟩ := h3
        obtain ⟨g1, g2⟩ := putF_ok (f := f) hv e3
        refine ⟨_, h1, a, _, dx, fs, rfl, h2, hc, hn, by rw [← e2, List.length_map] at hl; exact hl, ?_⟩
        refine p2 G1 σ _ (Same.refl _) (h5 _ _ ⟨dx, _, rfl, by rw [g1, e2], ?_⟩)
        rw [← e2]
        exact g2
      · rw [if_neg q] at p2; exact p2.elim
    | _ => exact p1.elim
end
end MM
end
section
set_option Elab.async false
set_option linter.all false
set_option autoImplicit false
set_option maxRecDepth 100000
set_option maxHeartbeats 4000000
namespace MM
open PySem PySem.Spec L2

/-! ### built-in functions on data -/
def ints? : List D → Option (List Int)
  | [] => some []
  | .int i :: xs => (ints? xs).map (i :: ·)
  | _ :: _ => none
def bls? : List D → Option (List Bool)
  | [] => some []
  | .bl b :: xs => (bls? xs).map (b :: ·)
  | _ :: _ => none
theorem ints?_eq : ∀ {xs : List D} {ns : List Int}, ints? xs = some ns → xs = ns.map D.int
  | [], ns, h => by cases h; rfl
  | .int i :: xs, ns, h => by
    have h' : (ints? xs).map (i :: ·) = some ns := h
    cases q : ints? xs with
    | none => rw [q] at h'; cases h'
    | some ms => rw [q] at h'; cases h'; rw [ints?_eq q]; rfl
  | .non :: _, _, h => by cases h
  | .bl _ :: _, _, h => by cases h
  | .str _ :: _, _, h => by cases h
  | .lst _ :: _, _, h => by cases h
  | .tup _ :: _, _, h => by cases h
  | .obj _ _ :: _, _, h => by cases h
  | .dic _ _ :: _, _, h => by cases h
  | .scr _ :: _, _, h => by cases h
theorem bls?_eq : ∀ {xs : List D} {ns : List Bool}, bls? xs = some ns → xs = ns.map D.bl
  | [], ns, h => by cases h; rfl
  | .bl i :: xs, ns, h => by
    have h' : (bls? xs).map (i :: ·) = some ns := h
    cases q : bls? xs with
    | none => rw [q] at h'; cases h'
    | some ms => rw [q] at h'; cases h'; rw [bls?_eq q]; rfl
  | .non :: _, _, h => by cases h
  | .int _ :: _, _, h => by cases h
  | .str _ :: _, _, h => by cases h
  | .lst _ :: _, _, h => by cases h
  | .tup _ :: _, _, h => by cases h
  | .obj _ _ :: _, _, h => by cases h
  | .dic _ _ :: _, _, h => by cases h
  | .scr _ :: _, _, h => by cases h
theorem ints?_map (ns : List Int) : ints? (ns.map D.int) = some ns := by
  induction ns with
  | nil => rfl
  | cons n ns ih => show (ints? (ns.map D.int)).map (n :: ·) = _; rw [ih]; rfl
theorem bls?_map (ns : List Bool) : bls? (ns.map D.bl) = some ns := by
  induction ns with
  | nil => rfl
  | cons n ns ih => show (bls? (ns.map D.bl)).map (n :: ·) = _; rw [ih]; rfl
/-- the ints of a list -/
def intsOf : D → Option (List Int)
  | .lst xs => ints? xs
  | .scr ns => some ns
  | _ => none
def blsOf : D → Option (List Bool)
  | .lst xs => bls? xs
  | _ => none
section
variable {k : Kc} {G H : Hp} {v : V} {d : D}
theorem RB.ints (g : Same G H) (h : RB k G H v d) {ns : List Int} (e : intsOf d = some ns) : ∃ a, v = .ref a ∧ SqL k.K H a (ns.map V.int) := by
  cases d with
  | lst xs =>
    have e : ints? xs = some ns := e
    obtain ⟨a, vs, rfl, h1, r⟩ := h.lst g
    rw [ints?_eq e] at r
    rw [← r.ints]
    exact ⟨a, rfl, SqL.of h1⟩
  | scr ms =>
    cases e
    exact h.scr g
  | _ => cases e
theorem RB.bls (g : Same G H) (h : RB k G H v d) {ns : List Bool} (e : blsOf d = some ns) : ∃ a, v = .ref a ∧ SqL k.K H a (ns.map V.bl) := by
  cases d with
  | lst xs =>
    have e : bls? xs = some ns := e
    obtain ⟨a, vs, rfl, h1, r⟩ := h.lst g
    rw [bls?_eq e] at r
    rw [← r.bls]
    exact ⟨a, rfl, SqL.of h1⟩
  | _ => cases e
theorem RBs.one' {vs : List V} {d : D} (h : RBs k G H vs [d]) : ∃ v, vs = [v] ∧ RB k G H v d := by
  cases h with
  | cons a b => cases b; exact ⟨_, rfl, a⟩
theorem RBs.two' {vs : List V} {d d' : D} (h : RBs k G H vs [d, d']) : ∃ v v', vs = [v, v'] ∧ RB k G H v d ∧ RB k G H v' d' := by
  cases h with
  | cons a b => cases b with
    | cons b c => cases c; exact ⟨_, _, rfl, a, b⟩
end
theorem CallR.or {X : Cx} {f : Value} {r1 r2 : List V → Hp → VK → Prop} (h1 : CallR X f r1) (h2 : CallR X f r2) : CallR X f (fun xs H Q => r1 xs H Q ∨ r2 xs H Q) := by
  intro pins s σ H xs us Q I r h
  rcases h with h | h
  · exact h1 pins s σ H xs us Q I r h
  · exact h2 pins s σ H xs us Q I r h
def gF1 (f : D → Option EV) : List D → Option EV
  | [a] => f a
  | _ => none
def gF2 (f : D → D → Option EV) : List D → Option EV
  | [a, b] => f a b
  | _ => none
theorem gF1_ok {f : D → Option EV} {ds : List D} {z : EV} (h : gF1 f ds = some z) : ∃ a, ds = [a] ∧ f a = some z := by
  unfold gF1 at h
  split at h
  · exact ⟨_, rfl, h⟩
  · cases h
theorem gF2_ok {f : D → D → Option EV} {ds : List D} {z : EV} (h : gF2 f ds = some z) : ∃ a b, ds = [a, b] ∧ f a b = some z := by
  unfold gF2 at h
  split at h
  · exact ⟨_, _, rfl, h⟩
  · cases h
/-- one argument -/
theorem callG1 {k : Kc} {r : List V → Hp → VK → Prop} {f : D → Option EV} (h : ∀ (c : Fr) (G H : Hp) (σ : L2.St) (e : Env) (v : V) (d : D) (z : EV) (Q : VK), RepS k c G σ H e → RB k G H v d → f d = some z →
    (∀ G' H' v, Same G G' → RepS k c G' σ H' e → RpV k c G' σ H' e v z → Q v H') → r [v] H Q) : CallG k r (gF1 f) := fun c G H σ e xs ds z Q re rb hz q => by
  obtain ⟨a, rfl, hz⟩ := gF1_ok hz
  obtain ⟨v, rfl, rb1⟩ := RBs.one' rb
  exact h c G H σ e v a z Q re rb1 hz q
theorem callG2 {k : Kc} {r : List V → Hp → VK → Prop} {f : D → D → Option EV} (h : ∀ (c : Fr) (G H : Hp) (σ : L2.St) (e : Env) (v v' : V) (d d' : D) (z : EV) (Q : VK), RepS k c G σ H e → RB k G H v d → RB k G H v' d' → f d d' = some z →
    (∀ G' H' v, Same G G' → RepS k c G' σ H' e → RpV k c G' σ H' e v z → Q v H') → r [v, v'] H Q) : CallG k r (gF2 f) := fun c G H σ e xs ds z Q re rb hz q => by
  obtain ⟨a, b, rfl, hz⟩ := gF2_ok hz
  obtain ⟨v, v', rfl, rb1, rb2⟩ := RBs.two' rb
  exact h c G H σ e v v' a b z Q re rb1 rb2 hz q

def fAbs : D → Option EV
  | .int i => some (.d (.int (if i < 0 then -i else i)))
  | _ => none
def fMax2 : D → D → Option EV
  | .int i, .int j => some (.d (.int (if j > i then j else i)))
  | _, _ => none
def fMin2 : D → D → Option EV
  | .int i, .int j => some (.d (.int (if j < i then j else i)))
  | _, _ => none
def fInt : D → Option EV
  | .int i => some (.d (.int i))
  | .bl b => some (.d (.int (if b then 1 else 0)))
  | _ => none
def fBool : D → Option EV
  | .int i => some (.d (.bl (i != 0)))
  | .bl b => some (.d (.bl b))
  | _ => none
def fLen : D → Option EV
  | .str x => if x.length ≤ LIM then some (.d (.int x.length)) else none
  | .lst xs => some (.d (.int xs.length))
  | .tup xs => some (.d (.int xs.length))
  | .scr xs => some (.d (.int xs.length))
  | .dic ks _ => some (.d (.int ks.length))
  | _ => none
def fSum (d : D) : Option EV := (intsOf d).map fun ns => .d (.int ns.sum)
def fAny (d : D) : Option EV := (blsOf d).map fun bs => .d (.bl (bs.any id))
def fAll (d : D) : Option EV := (blsOf d).map fun bs => .d (.bl (bs.all id))
def maxI : List Int → Int
  | [] => 0
  | n :: ns => ns.foldl max n
def minI : List Int → Int
  | [] => 0
  | n :: ns => ns.foldl min n
def fMax (d : D) : Option EV := match intsOf d with
  | some (n :: ns) => some (.d (.int (maxI (n :: ns))))
  | _ => none
def fMin (d : D) : Option EV := match intsOf d with
  | some (n :: ns) => some (.d (.int (minI (n :: ns))))
  | _ => none
def sortI (ns : List Int) : List Int := ns.mergeSort (fun a b => decide (a ≤ b))
def fSorted (d : D) : Option EV := (intsOf d).map fun ns => .m (.lst ((sortI ns).map D.int))
def fList : D → Option EV
  | .lst xs => some (.m (.lst xs))
  | .tup xs => some (.m (.lst xs))
  | .scr ns => some (.m (.lst (ns.map D.int)))
  | _ => none
def fTuple : D → Option EV
  | .lst xs => some (.d (.tup xs))
  | .tup xs => some (.d (.tup xs))
  | .scr ns => some (.d (.tup (ns.map D.int)))
  | _ => none
def fDivmod : D → D → Option EV
  | .int i, .int j => if 0 < j ∧ j < 1073741824 then some (.d (.tup [.int (i / j), .int (i % j)])) else none
  | _, _ => none
theorem foldl_max : ∀ (ns : List Int) (n : Int), (ns.foldl max n ∈ n :: ns) ∧ ∀ y ∈ n :: ns, y ≤ ns.foldl max n
  | [], n => ⟨by simp, by simp⟩
  | m :: ns, n => by
    obtain ⟨h1, h2⟩ := foldl_max ns (max n m)
    rw [List.foldl_cons]
    refine ⟨?_, fun y hy => ?_⟩
    · rcases List.mem_cons.mp h1 with h | h
      · rw [h]
        by_cases q : n ≤ m
        · rw [Int.max_eq_right q]; simp
        · rw [Int.max_eq_left (by omega)]; simp
      · simp [h]
    · have h3 := h2 (max n m) (by simp)
      rcases List.mem_cons.mp hy with rfl | hy
      · exact Int.le_trans (Int.le_max_left _ _) h3
      · rcases List.mem_cons.mp hy with rfl | hy
        · exact Int.le_trans (Int.le_max_right _ _) h3
        · exact h2 y (by simp [hy])
theorem foldl_min : ∀ (ns : List Int) (n : Int), (ns.foldl min n ∈ n :: ns) ∧ ∀ y ∈ n :: ns, ns.foldl min n ≤ y
  | [], n => ⟨by simp, by simp⟩
  | m :: ns, n => by
    obtain ⟨h1, h2⟩ := foldl_min ns (min n m)
    rw [List.foldl_cons]
    refine ⟨?_, fun y hy => ?_⟩
    · rcases List.mem_cons.mp h1 with h | h
      · rw [h]
        by_cases q : n ≤ m
        · rw [Int.min_eq_left q]; simp
        · rw [Int.min_eq_right (by omega)]; simp
      · simp [h]
    · have h3 := h2 (min n m) (by simp)
      rcases List.mem_cons.mp hy with rfl | hy
      · exact Int.le_trans h3 (Int.min_le_left _ _)
      · rcases List.mem_cons.mp hy with rfl | hy
        · exact Int.le_trans h3 (Int.min_le_right _ _)
        · exact h2 y (by simp [hy])
theorem sortI_perm (ns : List Int) : (sortI ns).Perm ns := List.mergeSort_perm ns _
theorem sortI_sorted (ns : List Int) : (sortI ns).Pairwise (· ≤ ·) := by
  have := List.pairwise_mergeSort (le := fun (a b : Int) => decide (a ≤ b)) (fun a b c h1 h2 => by simp at *; omega) (fun a b => by simp; omega) ns
  exact this.imp (fun h => by simpa using h)
theorem sorted_eq : ∀ {as bs : List Int}, as.Perm bs → as.Pairwise (· ≤ ·) → bs.Pairwise (· ≤ ·) → as = bs := fun {as bs} h h1 h2 => h.eq_of_pairwise (fun a b _ _ hab hba => Int.le_antisymm hab hba) h1 h2
section
variable {X : Cx} {ct : Nat → Addr}
theorem g_abs : CallG ⟨X.K, ct⟩ (fun xs H Q => ∃ i, xs = [.int i] ∧ Q (.int (if i < 0 then -i else i)) H) (gF1 fAbs) := callG1 fun c G H σ e v d z Q re rb hz q => by
  cases d with
  | int i => cases hz; rw [rb.int]; exact ⟨i, rfl, q G H _ (Same.refl _) re (.int _)⟩
  | _ => cases hz
theorem g_max2 : CallG ⟨X.K, ct⟩ (fun xs H Q => ∃ i j, xs = [.int i, .int j] ∧ Q (.int (if j > i then j else i)) H) (gF2 fMax2) := callG2 fun c G H σ e v v' d d' z Q re rb rb' hz q => by
  cases d with
  | int i => cases d' with
    | int j => cases hz; rw [rb.int, rb'.int]; exact ⟨i, j, rfl, q G H _ (Same.refl _) re (.int _)⟩
    | _ => cases hz
  | _ => cases hz
theorem g_min2 : CallG ⟨X.K, ct⟩ (fun xs H Q => ∃ i j, xs = [.int i, .int j] ∧ Q (.int (if j < i then j else i)) H) (gF2 fMin2) := callG2 fun c G H σ e v v' d d' z Q re rb rb' hz q => by
  cases d with
  | int i => cases d' with
    | int j => cases hz; rw [rb.int, rb'.int]; exact ⟨i, j, rfl, q G H _ (Same.refl _) re (.int _)⟩
    | _ => cases hz
  | _ => cases hz
theorem g_int : CallG ⟨X.K, ct⟩ (fun xs H Q => (∃ i, xs = [.int i] ∧ Q (.int i) H) ∨ ∃ k, xs = [.bl k] ∧ Q (.int (if k then 1 else 0)) H) (gF1 fInt) := callG1 fun c G H σ e v d z Q re rb hz q => by
  cases d with
  | int i => cases hz; rw [rb.int]; exact .inl ⟨i, rfl, q G H _ (Same.refl _) re (.int _)⟩
  | bl i => cases hz; rw [rb.bl]; exact .inr ⟨i, rfl, q G H _ (Same.refl _) re (.int _)⟩
  | _ => cases hz
theorem g_bool : CallG ⟨X.K, ct⟩ (fun xs H Q => (∃ i, xs = [.int i] ∧ Q (.bl (i != 0)) H) ∨ ∃ k, xs = [.bl k] ∧ Q (.bl k) H) (gF1 fBool) := callG1 fun c G H σ e v d z Q re rb hz q => by
  cases d with
  | int i => cases hz; rw [rb.int]; exact .inl ⟨i, rfl, q G H _ (Same.refl _) re (.bl _)⟩
  | bl i => cases hz; rw [rb.bl]; exact .inr ⟨i, rfl, q G H _ (Same.refl _) re (.bl _)⟩
  | _ => cases hz
def rLen (K : PySem.W.Frag) : List V → Hp → VK → Prop := fun xs H Q => (∃ x n, xs = [x] ∧ LenV K x H n ∧ Q (.int n) H) ∨ ∃ a kvs, xs = [V.ref a] ∧ H a = some (.dK kvs) ∧ Q (.int kvs.length) H
theorem cr_len : CallR X (.builtin "len") (rLen X.K) := CallR.or call_len call_lenD
theorem g_len : CallG ⟨X.K, ct⟩ (rLen X.K) (gF1 fLen) := callG1 fun c G H σ e v d z Q re rb hz q => by
  cases d with
  | str x =>
    have hz : (if x.length ≤ LIM then some (EV.d (.int x.length)) else none) = some z := hz
    split at hz
    · rename_i hl
      cases hz
      rw [rb.str]
      exact .inl ⟨_, _, rfl, ⟨lim_le hl, rfl⟩, q G H _ (Same.refl _) re (.int _)⟩
    · cases hz
  | lst xs =>
    cases hz
    obtain ⟨a, vs, rfl, h1, r⟩ := rb.lst re.gh
    refine .inl ⟨_, vs.length, rfl, .inl ⟨vs, SqL.of h1, rfl⟩, q G H _ (Same.refl _) re ?_⟩
    rw [r.len]
    exact .int _
  | tup xs =>
    cases hz
    obtain ⟨a, vs, rfl, h1, r, _⟩ := rb.tup re.gh
    refine .inl ⟨_, vs.length, rfl, .inr ⟨vs, h1, rfl⟩, q G H _ (Same.refl _) re ?_⟩
    rw [r.len]
    exact .int _
  | scr ns =>
    cases hz
    obtain ⟨a, rfl, h1⟩ := rb.scr re.gh
    refine .inl ⟨_, _, rfl, .inl ⟨_, h1, rfl⟩, q G H _ (Same.refl _) re ?_⟩
    rw [List.length_map]
    exact .int _
  | dic ks ds =>
    cases hz
    obtain ⟨a, kvs, rfl, h1, h2, r⟩ := rb.dic re.gh
    refine .inr ⟨a, kvs, rfl, h1, q G H _ (Same.refl _) re ?_⟩
    rw [← h2, List.length_map]
    exact .int _
  | _ => cases hz
theorem g_sum : CallG ⟨X.K, ct⟩ (rSum X.K) (gF1 fSum) := callG1 fun c G H σ e v d z Q re rb hz q => by
  unfold fSum at hz
  cases h : intsOf d with
  | none => rw [h] at hz; cases hz
  | some ns =>
    rw [h] at hz; cases hz
    obtain ⟨a, rfl, h1⟩ := rb.ints re.gh h
    exact ⟨a, ns, rfl, h1, q G H _ (Same.refl _) re (.int _)⟩
theorem g_any : CallG ⟨X.K, ct⟩ (rAny X.K) (gF1 fAny) := callG1 fun c G H σ e v d z Q re rb hz q => by
  unfold fAny at hz
  cases h : blsOf d with
  | none => rw [h] at hz; cases hz
  | some ns =>
    rw [h] at hz; cases hz
    obtain ⟨a, rfl, h1⟩ := rb.bls re.gh h
    exact ⟨a, ns, rfl, h1, q G H _ (Same.refl _) re (.bl _)⟩
theorem g_all : CallG ⟨X.K, ct⟩ (rAll X.K) (gF1 fAll) := callG1 fun c G H σ e v d z Q re rb hz q => by
  unfold fAll at hz
  cases h : blsOf d with
  | none => rw [h] at hz; cases hz
  | some ns =>
    rw [h] at hz; cases hz
    obtain ⟨a, rfl, h1⟩ := rb.bls re.gh h
    exact ⟨a, ns, rfl, h1, q G H _ (Same.refl _) re (.bl _)⟩
theorem g_max : CallG ⟨X.K, ct⟩ (rMax X.K) (gF1 fMax) := callG1 fun c G H σ e v d z Q re rb hz q => by
  unfold fMax at hz
  split at hz
  · rename_i n ns h
    cases hz
    obtain ⟨a, rfl, h1⟩ := rb.ints re.gh h
    obtain ⟨m1, m2⟩ := foldl_max ns n
    refine ⟨a, n :: ns, rfl, h1, by simp, fun m hm hy => ?_⟩
    have : m = maxI (n :: ns) := Int.le_antisymm (m2 m hm) (hy _ m1)
    rw [this]
    exact q G H _ (Same.refl _) re (.int _)
  · cases hz
theorem g_min : CallG ⟨X.K, ct⟩ (rMin X.K) (gF1 fMin) := callG1 fun c G H σ e v d z Q re rb hz q => by
  unfold fMin at hz
  split at hz
  · rename_i n ns h
    cases hz
    obtain ⟨a, rfl, h1⟩ := rb.ints re.gh h
    obtain ⟨m1, m2⟩ := foldl_min ns n
    refine ⟨a, n :: ns, rfl, h1, by simp, fun m hm hy => ?_⟩
    have : m = minI (n :: ns) := Int.le_antisymm (hy _ m1) (m2 m hm)
    rw [this]
    exact q G H _ (Same.refl _) re (.int _)
  · cases hz
theorem Rps.ofInts {k : Kc} {G : Hp} : ∀ ns : List Int, Rps k G (ns.map V.int) (ns.map D.int)
  | [] => .nil
  | n :: ns => .cons (.int n) (Rps.ofInts ns)
theorem g_sorted : CallG ⟨X.K, ct⟩ (rSortedI X.K) (gF1 fSorted) := callG1 fun c G H σ e v d z Q re rb hz q => by
  unfold fSorted at hz
  cases h : intsOf d with
  | none => rw [h] at hz; cases hz
  | some ns =>
    rw [h] at hz; cases hz
    obtain ⟨a, rfl, h1⟩ := rb.ints re.gh h
    refine ⟨a, ns, rfl, h1, fun ns' p hp hs hf => ?_⟩
    have : ns' = sortI ns := sorted_eq (hp.trans (sortI_perm ns).symm) hs (sortI_sorted ns)
    subst this
    obtain ⟨r1, r2, r3⟩ := re.newM (x := .lst ((sortI ns).map D.int)) hf ⟨_, rfl, Rps.ofInts _⟩
    exact q G _ _ (Same.refl _) r1 ⟨p, rfl, r2, r3⟩
theorem g_list : CallG ⟨X.K, ct⟩ (fun xs H Q => ∃ p ys, xs = [.ref p] ∧ (SqL X.K H p ys ∨ SqT X.K H p ys) ∧ ∀ l, H l = none → Q (.ref l) (upd H l (.lst ys))) (gF1 fList) := callG1 fun c G H σ e v d z Q re rb hz q => by
  have fin : ∀ {vs : List V} {ds : List D}, Rps ⟨X.K, ct⟩ G vs ds → z = .m (.lst ds) → ∀ l, H l = none → Q (.ref l) (upd H l (.lst vs)) := fun {vs ds} r ez l hl => by
    subst ez
    obtain ⟨r1, r2, r3⟩ := re.newM (x := .lst ds) hl ⟨_, rfl, r⟩
    exact q G _ _ (Same.refl _) r1 ⟨l, rfl, r2, r3⟩
  cases d with
  | lst xs =>
    cases hz
    obtain ⟨a, vs, rfl, h1, r⟩ := rb.lst re.gh
    exact ⟨a, vs, rfl, .inl (SqL.of h1), fin r rfl⟩
  | tup xs =>
    cases hz
    obtain ⟨a, vs, rfl, h1, r, _⟩ := rb.tup re.gh
    exact ⟨a, vs, rfl, .inr h1, fin r rfl⟩
  | scr ns =>
    cases hz
    obtain ⟨a, rfl, h1⟩ := rb.scr re.gh
    exact ⟨a, _, rfl, .inl h1, fin (Rps.ofInts _) rfl⟩
  | _ => cases hz
theorem g_tuple : CallG ⟨X.K, ct⟩ (fun xs H Q => ∃ p ys, xs = [.ref p] ∧ ((SqL X.K H p ys ∧ ∀ l, H l = none → Q (.ref l) (upd H l (.tup ys))) ∨ (SqT X.K H p ys ∧ Q (.ref p) H))) (gF1 fTuple) := callG1 fun c G H σ e v d z Q re rb hz q => by
  have fin : ∀ {vs : List V} {ds : List D}, Rps ⟨X.K, ct⟩ G vs ds → z = .d (.tup ds) → ∀ l, H l = none → Q (.ref l) (upd H l (.tup vs)) := fun {vs ds} r ez l hl => by
    subst ez
    exact fin_tup re r (fun G' H' v s' r' hv => q G' H' v s' r' hv) l hl
  cases d with
  | lst xs =>
    cases hz
    obtain ⟨a, vs, rfl, h1, r⟩ := rb.lst re.gh
    exact ⟨a, vs, rfl, .inl ⟨SqL.of h1, fin r rfl⟩⟩
  | tup xs =>
    cases hz
    obtain ⟨a, vs, rfl, h1, r, h2⟩ := rb.tup re.gh
    exact ⟨a, vs, rfl, .inr ⟨h1, q G H _ (Same.refl _) re (.tup h2 r)⟩⟩
  | scr ns =>
    cases hz
    obtain ⟨a, rfl, h1⟩ := rb.scr re.gh
    exact ⟨a, _, rfl, .inl ⟨h1, fin (Rps.ofInts _) rfl⟩⟩
  | _ => cases hz
theorem g_divmod : CallG ⟨X.K, ct⟩ (fun xs H Q => ∃ i j, xs = [.int i, .int j] ∧ CDiv i j ∧ ∀ p, H p = none → Q (.ref p) (upd H p (.tup [.int (i / j), .int (i % j)]))) (gF2 fDivmod) := callG2 fun c G H σ e v v' d d' z Q re rb rb' hz q => by
  cases d with
  | int i => cases d' with
    | int j =>
      have hz : (if 0 < j ∧ j < 1073741824 then some (EV.d (.tup [.int (i / j), .int (i % j)])) else none) = some z := hz
      split at hz
      · rename_i hc
        cases hz
        rw [rb.int, rb'.int]
        refine ⟨i, j, rfl, hc, fun p hp => ?_⟩
        exact fin_tup (ds := [.int (i / j), .int (i % j)]) re (.cons (.int _) (.cons (.int _) .nil)) (fun G' H' v s' r' hv => q G' H' v s' r' hv) p hp
      · cases hz
    | _ => cases hz
  | _ => cases hz
end
end MM
end
section
set_option Elab.async false
set_option linter.all false
set_option autoImplicit false
set_option maxRecDepth 100000
set_option maxHeartbeats 4000000
namespace MM
open PySem PySem.Spec L2

/-! ### isinstance -/
/-- kinds of data -/
inductive TyK where
  | non | bl | int | str | lst | tup | dic | obj (c : Nat)
  deriving DecidableEq
def tyD (ncl : Nat) : D → Option MM.TyK
  | .non => some .non
  | .bl _ => some .bl
  | .int _ => some .int
  | .str _ => some .str
  | .lst _ => some .lst
  | .tup _ => some .tup
  | .dic _ _ => some .dic
  | .obj c _ => if c < ncl then some (.obj c) else none
  | .scr _ => none
  | .rng _ _ => none
def tyS : MM.TyK → String
  | .non => "NoneType" | .bl => "bool" | .int => "int" | .str => "str" | .lst => "list" | .tup => "tuple" | .dic => "dict" | .obj _ => ""
def tyV' (ct : Nat → Addr) : MM.TyK → Value
  | .obj c => .ref (ct c)
  | t => .type (tyS t)
/-- is a thing of this kind an int, a bool .. -/
def isB (T : String) : MM.TyK → Bool
  | .obj _ => false
  | .bl => T == "bool" || T == "int"
  | t => tyS t == T
def isO (c : Nat) : MM.TyK → Bool
  | .obj c' => c' == c
  | _ => false
/-- what the model asks of an own class whose instances are looked at -/
structure ObjC (K : PySem.W.Frag) (C : Addr) : Prop where
  cls : Cls K C
  ha : PySem.W.findIn K (.ref C) "__class__" = some (some (.builtin "object.__class__"))
  hn : PySem.W.specialIn K (.builtin "object.__class__") "__get__" = some (some (.builtin "getset_descriptor.__get__"))
  htk : PySem.W.takesIn K (.builtin "object.__class__") = some true
  hm : PySem.W.mroIn K C (.type "object") = some true
theorem RB.ty {k : Kc} {G H : Hp} {v : V} {d : D} {ncl : Nat} {t : MM.TyK} (hO : ∀ c, c < ncl → ObjC k.K (k.ct c)) (g : Same G H) (h : RB k G H v d) (ht : tyD ncl d = some t) : TyX k.K H v (tyV' k.ct t) := by
  cases d with
  | non => cases ht; rw [h.non]; exact .base .non
  | bl b => cases ht; rw [h.bl]; exact .base (.bl b)
  | int b => cases ht; rw [h.int]; exact .base (.int b)
  | str b => cases ht; rw [h.str]; exact .base (.str b)
  | lst xs => cases ht; obtain ⟨a, vs, rfl, h1, _⟩ := h.lst g; exact .base (.lst h1)
  | tup xs =>
    cases ht
    obtain ⟨a, vs, rfl, h1, _⟩ := h.tup g
    rcases h1 with (h1 | ⟨o, h1⟩) | ⟨o, its, n, h1, h2, _⟩
    · exact .base (.tup h1)
    · exact .fTuple h1
    · exact .kTuple h1 h2
  | dic ks ds => cases ht; obtain ⟨a, kvs, rfl, h1, _⟩ := h.dic g; exact .base (.dK h1)
  | obj c ds =>
    have ht : (if c < ncl then some (MM.TyK.obj c) else none) = some t := ht
    split at ht
    · rename_i hc
      cases ht
      obtain ⟨a, dx, fs, rfl, h1, _⟩ := h.obj g
      have o := hO c hc
      exact .base (.ins h1 o.cls o.ha o.hn o.htk o.hm)
    · cases ht
  | scr ns => cases ht
  | rng _ _ => cases ht
def cIsi (ncl : Nat) (f : MM.TyK → Bool) (fa : EM Tk) : EM D := fun e => (fa e).bind fun t e1 => match (rdK e1 t).bind (tyD ncl) with
  | some ty => .ok (.bl (f ty)) e1
  | none => .stuck
theorem RB.up {k : Kc} {G H H' : Hp} {v : V} {d : D} (h : RB k G H v d) (s : Same H H') : RB k G H' v d := by
  rcases h with h | ⟨a, o, x, e1, h1, h2, h3⟩
  · exact .inl h
  · exact .inr ⟨a, o, x, e1, s a o h1, h2, h3⟩
section
variable {X : Cx} {ct : Nat → Addr} {W : WX} {p pos : Pos} {a ce : Expr} {es : List Expr} {fa : EM Tk} {ncl : Nat} {f : MM.TyK → Bool} {cv : V} {cvs : List V} {u : Value} {us : List Value} {n : Nat} {tpos : Pos}
theorem e_isi (hO : ∀ c, c < ncl → ObjC X.K (ct c)) (hg : Gl X "isinstance") (hm : X.mg "isinstance" = none) (hc : PE X ce (tC cv)) (hcv : ClsV cv u) (hK : ∀ d t, tyD ncl d = some t → PySem.W.kitOne X.K (tyV' ct t) u = some (f t)) (ha : SK X ct W a fa)
    (he : starEach [a, ce] X.env = (false, eval a X.env) :: starEach [ce] X.env := by rfl) (he2 : starEach [ce] X.env = (false, eval ce X.env) :: starEach [] X.env := by rfl) (hpl : (backTo pos (starEach [ce] X.env)).any (·.1) = false := by rfl) :
    SE X ct W (.Call (.Name "isinstance" p) [a, ce] [] pos) (cIsi ncl f fa) := by
  refine PEw (pe_callB call_isi hg hm (by decide +kernel) (pa_cons ha (pa_cons hc pa_nil he2) he) (by decide) (by decide) he hpl) fun σ H Q q => ?_
  obtain ⟨c, G, e, r, p⟩ := q
  refine ⟨c, G, e, r, (Post.bind p).imp fun G1 H1 e1 t s1 r1 p1 v hv => ?_⟩
  split at p1
  · rename_i ty hty
    obtain ⟨d, hd, ht⟩ := Option.bind_eq_some_iff.mp hty
    have rb : RB ⟨X.K, ct⟩ G1 H1 v d := .of r1 hv hd
    exact ⟨v, cv, tyV' ct ty, u, f ty, rfl, hcv, rb.ty hO r1.gh ht, hK d ty ht, p1.now r1 _ (.bl _)⟩
  · exact p1.elim
theorem e_isiT (hO : ∀ c, c < ncl → ObjC X.K (ct c)) (hg : Gl X "isinstance") (hm : X.mg "isinstance" = none) (hcs : PA X es (fun _ H Q => Q cvs H)) (hl : cvs.length ≤ 1000) (hcv : Paired ClsV cvs us) (hK : ∀ d t, tyD ncl d = some t → PySem.W.kitAny X.K (tyV' ct t) us = some (f t)) (ha : SK X ct W a fa)
    (he : starEach [a, .Tuple es n tpos] X.env = (false, eval a X.env) :: starEach [.Tuple es n tpos] X.env := by rfl) (he2 : starEach [.Tuple es n tpos] X.env = (false, eval (.Tuple es n tpos) X.env) :: starEach [] X.env := by rfl) (hpl : (backTo pos (starEach [.Tuple es n tpos] X.env)).any (·.1) = false := by rfl) :
    SE X ct W (.Call (.Name "isinstance" p) [a, .Tuple es n tpos] [] pos) (cIsi ncl f fa) := by
  refine PEw (pe_callB call_isiT hg hm (by decide +kernel) (pa_cons ha (pa_cons (pe_tup hcs) pa_nil he2) he) (by decide) (by decide) he hpl) fun σ H Q q => ?_
  obtain ⟨c, G, e, r, p⟩ := q
  refine ⟨c, G, e, r, (Post.bind p).imp fun G1 H1 e1 t s1 r1 p1 v hv => ?_⟩
  split at p1
  · rename_i ty hty
    obtain ⟨d, hd, ht⟩ := Option.bind_eq_some_iff.mp hty
    have rb : RB ⟨X.K, ct⟩ G1 H1 v d := .of r1 hv hd
    refine ⟨by rw [sizeLine_eq]; omega, fun tp htp => ?_⟩
    have r2 := r1.layM (o := .tup cvs) htp
    exact ⟨v, tp, cvs, tyV' ct ty, us, f ty, rfl, upd_same, hcv, (rb.up (same_upd htp)).ty hO r2.gh ht, hK d ty ht, p1.now r2 _ (.bl _)⟩
  · exact p1.elim
end

/-! ### list(range(..)) -/
def lrOk (j : Int) : Bool := rngOk j && decide (j.toNat ≤ 16777216)
def lrOk2 (i j : Int) : Bool := rngOk i && (rngOk j && decide ((j - i).toNat ≤ 16777216))
theorem lrOk_iff {j : Int} (h : lrOk j = true) : -(2 ^ 62) ≤ j ∧ j ≤ 2 ^ 24 := by
  obtain ⟨h1, h2⟩ := Bool.and_eq_true_iff.mp h
  have := rngOk_iff h1
  have := of_decide_eq_true h2
  constructor <;> omega
def vLstR (f : EM (List Tk)) : EM EV := fun e => (f e).bind fun ts e1 => match rdKs e1 ts with
  | some [.int j] => if lrOk j = true then .ok (.m (.lst (rangeD 0 j.toNat))) e1 else .stuck
  | some [.int i, .int j] => if lrOk2 i j = true then .ok (.m (.lst (rangeD i (j - i).toNat))) e1 else .stuck
  | _ => .stuck
theorem rgV_rps {k : Kc} {G : Hp} (i j : Int) : Rps k G (rgV i j) (rangeD i (j - i).toNat) := by
  unfold rgV rangeD
  induction List.range (j - i).toNat with
  | nil => exact .nil
  | cons n ns ih => exact .cons (.int _) ih
section
variable {X : Cx} {ct : Nat → Addr} {W : WX} {p p2 pos pos2 : Pos} {a b : Expr} {fa fb : EM Tk}
theorem v_listR1 (hc : X.calm = true) (hg : Gl X "list") (hm : X.mg "list" = none) (hg2 : Gl X "range") (hm2 : X.mg "range" = none) (ha : SK X ct W a fa) (na : starEach [a] X.env = (false, eval a X.env) :: starEach [] X.env := by rfl)
    (na2 : starEach [.Call (.Name "range" p2) [a] [] pos2] X.env = (false, eval (.Call (.Name "range" p2) [a] [] pos2) X.env) :: starEach [] X.env := by rfl) :
    SV X ct W (.Call (.Name "list" p) [.Call (.Name "range" p2) [a] [] pos2] [] pos) (vLstR (aCons fa aNil)) := by
  refine PEw (pe_listRg hc hg hm (prg_1 hg2 hm2 ha na) na2) fun σ H Q q => ?_
  obtain ⟨c, G, e, r, p⟩ := q
  have p : Post ⟨X.K, ct⟩ W c G σ (fun G' H' e' x => ∀ v, RpV ⟨X.K, ct⟩ c G' σ H' e' v x → Q v H') (((fa e).bind fun t e1 => .ok [t] e1).bind fun ts e1 => match rdKs e1 ts with
    | some [.int j] => if lrOk j = true then .ok (.m (.lst (rangeD 0 j.toNat))) e1 else .stuck
    | some [.int i, .int j] => if lrOk2 i j = true then .ok (.m (.lst (rangeD i (j - i).toNat))) e1 else .stuck
    | _ => .stuck) := p
  refine ⟨c, G, e, r, (Post.bind (Post.bind p)).imp fun G1 H1 e1 t s1 r1 p1 v hv => ?_⟩
  have p1 := p1.now r1
  cases hd : rdK e1 t with
  | none =>
    have hz : rdKs e1 [t] = none := by show (match rdK e1 t, rdKs e1 [] with | some d, some ds => some (d :: ds) | _, _ => none) = none; rw [hd]
    rw [hz] at p1; exact p1.elim
  | some d =>
    have hz : rdKs e1 [t] = some [d] := by show (match rdK e1 t, rdKs e1 [] with | some d, some ds => some (d :: ds) | _, _ => none) = some [d]; rw [hd]; rfl
    rw [hz] at p1
    have rb : RB ⟨X.K, ct⟩ G1 H1 v d := .of r1 hv hd
    cases d with
    | int j =>
      have p2 : Post ⟨X.K, ct⟩ W c G1 σ (fun G' H' e' x => ∀ v, RpV ⟨X.K, ct⟩ c G' σ H' e' v x → Q v H') (if lrOk j = true then .ok (.m (.lst (rangeD 0 j.toNat))) e1 else .stuck) := p1
      split at p2
      · rename_i hj
        have hj := lrOk_iff hj
        rw [rb.int]
        refine ⟨j, rfl, ⟨by omega, by omega, by omega, by omega, by omega⟩, fun q hq => ?_⟩
        have hr := rgV_rps (k := ⟨X.K, ct⟩) (G := G1) 0 j
        rw [Int.sub_zero] at hr
        obtain ⟨r2, r3, r4⟩ := r1.newM (x := .lst (rangeD 0 j.toNat)) hq ⟨_, rfl, hr⟩
        exact p2 G1 _ (Same.refl _) r2 _ ⟨q, rfl, r3, r4⟩
      · exact p2.elim
    | _ => exact p1.elim
end

/-! ### dicts -/
def D.key : D → Option Key
  | .int i => some (.inl i)
  | .str x => some (.inr x)
  | _ => none
def valD : List Key → List D → Key → Option D
  | k :: ks, d :: ds, j => if k = j then some d else valD ks ds j
  | _, _, _ => none
def gIxA : D → D → Option D
  | .dic ks ds, y => (D.key y).bind (valD ks ds)
  | x, y => gIx x y
theorem valD_ok {k : Kc} {G : Hp} {j : Key} {d : D} : ∀ {kvs : List (Key × V)} {ds : List D}, Rps k G (kvs.map (·.2)) ds → valD (kvs.map (·.1)) ds j = some d → ∃ v, valV kvs j = some v ∧ Rp k G v d
  | [], _, .nil, h => by cases h
  | (q, w) :: kvs, _, .cons a b, h => by
    rename_i d' ds
    have h' : (if q = j then some d' else valD (kvs.map (·.1)) ds j) = some d := h
    by_cases e : q = j
    · rw [if_pos e] at h'; cases h'
      exact ⟨w, valV_pos e, a⟩
    · rw [if_neg e] at h'
      obtain ⟨v, h1, h2⟩ := valD_ok b h'
      exact ⟨v, by rw [valV_neg e]; exact h1, h2⟩
theorem RB.key {k : Kc} {G H : Hp} {v : V} {d : D} {j : Key} (h : RB k G H v d) (e : d.key = some j) : v = kV j := by
  cases d with
  | int i => cases e; exact h.int
  | str i => cases e; exact h.str
  | _ => cases e
def rIxD : R2 := fun x y H Q => ∃ a v, x = .ref a ∧ DGet H a y (some v) ∧ Q v H
theorem ix_dict {X : Cx} (hu : X.A.units + 1 < cLine) : IxR X rIxD := by
  intro value slice pins s σ H x y v u Q I rx ry h hs
  obtain ⟨a, w, rfl, g, q⟩ := h
  obtain rfl : v = Value.ref a := rx
  have hT := dict_typeIs I g
  unfold PyProof.Rows.subscriptTail
  refine wpAny_bind ?_
  rw [getitemInPython_of_ne hT.not_modules]
  refine wpAny_bind (wpAny_specialOf hT PySem.F.slot_dict_getitem.lookup ?_)
  have fin : wpAny (model X.prog X.w) X.A (subscripted slice false (.ref a) u) (fun r s₃ => wpAny (model X.prog X.w) X.A (letTemporaryGo value (.ref a) r >>= fun _ => pure r) (EP X pins σ Q) X.xe s₃) X.xe s := by
    rw [hs]
    refine wpAny_operating (d_getItem hu I g ry fun w' s3 I3 rw' => wpAny_bind (wpAny_letTemporaryGo (wpAny_pure ⟨w, H, I3, rw', q⟩)))
  first
    | exact wpAny_pure (wpAny_bind fin)
    | exact wpAny_bind (wpAny_pure (wpAny_bind fin))
    | exact wpAny_bind fin
section
variable {X : Cx} {ct : Nat → Addr} {W : WX} {pos : Pos} {a b : Expr} {fa fb : EM Tk}
theorem e_ixA (hu : X.A.units + 1 < cLine) (ha : SK X ct W a fa) (hb : SK X ct W b fb) (hs : PlainIx b := by exact fun _ _ => rfl) : SE X ct W (.Subscript a b pos) (cBin gIxA fa fb) := PEw (pe_ix (ix_seq.or (ix_dict hu)) ha hb hs) fun σ H Q q => by
  obtain ⟨c0, G, e, r, p⟩ := q
  refine two_d r p fun G2 H2 e2 x y d d' z s r2 hx hy hz q2 => ?_
  unfold gIxA at hz
  split at hz
  · rename_i ks ds
    obtain ⟨j, hj, hv⟩ := Option.bind_eq_some_iff.mp hz
    obtain ⟨p1, kvs, rfl, h1, h2, r1⟩ := hx.dic r2.gh
    subst h2
    obtain ⟨v, h3, h4⟩ := valD_ok r1 hv
    rw [hy.key hj]
    exact .inr ⟨p1, v, rfl, by rw [← h3]; exact DGet.k h1, q2 v h4⟩
  · refine .inl ?_
    unfold gIx at hz
    split at hz
    · obtain ⟨p1, vs, rfl, h1, r1⟩ := hx.lst r2.gh
      rw [hy.int]
      obtain ⟨v, h3, h4⟩ := r1.atI hz
      exact .inl ⟨_, _, _, v, rfl, rfl, SqL.of h1, h3, q2 v h4⟩
    · obtain ⟨p1, vs, rfl, h1, r1, _⟩ := hx.tup r2.gh
      rw [hy.int]
      obtain ⟨v, h3, h4⟩ := r1.atI hz
      exact .inr (.inl ⟨_, _, _, v, rfl, rfl, h1, h3, q2 v h4⟩)
    · rename_i ns i
      obtain ⟨p1, rfl, h1⟩ := hx.scr r2.gh
      rw [hy.int]
      obtain ⟨n, h3, h4⟩ := Option.map_eq_some_iff.mp hz
      subst h4
      exact .inl ⟨_, _, _, .int n, rfl, rfl, h1, by rw [atI_map, h3]; rfl, q2 _ (.int n)⟩
    · cases hz
end
/-- dict(xs), a list of pairs -/
def putKD (k : Key) (d : D) (l : List (Key × D)) : List (Key × D) :=
  if (l.any fun kv => decide (kv.1 = k)) = true then l.map (fun kv => if kv.1 = k then (kv.1, d) else kv) else l ++ [(k, d)]
def pairsD : List D → Option (List (Key × D))
  | [] => some []
  | .tup [k, v] :: xs => (D.key k).bind fun k => (pairsD xs).map ((k, v) :: ·)
  | _ :: _ => none
def mergeD (acc : List (Key × D)) (l : List (Key × D)) : List (Key × D) := l.foldl (fun acc kv => putKD kv.1 kv.2 acc) acc
def fDict : D → Option EV
  | .lst xs => (pairsD xs).map fun l => .m (.dic ((mergeD [] l).map (·.1)) ((mergeD [] l).map (·.2)))
  | _ => none
def RelKD (k : Kc) (G : Hp) : List (Key × V) → List (Key × D) → Prop
  | [], [] => True
  | (a, v) :: l, (b, d) :: m => a = b ∧ Rp k G v d ∧ RelKD k G l m
  | _, _ => False
section
variable {k : Kc} {G : Hp}
theorem RelKD.fst : ∀ {l : List (Key × V)} {m : List (Key × D)}, RelKD k G l m → l.map (·.1) = m.map (·.1) ∧ Rps k G (l.map (·.2)) (m.map (·.2))
  | [], [], _ => ⟨rfl, .nil⟩
  | (a, v) :: l, (b, d) :: m, ⟨h1, h2, h3⟩ => by
    obtain ⟨i1, i2⟩ := RelKD.fst h3
    exact ⟨by rw [List.map_cons, List.map_cons, i1, h1], .cons h2 i2⟩
  | [], _ :: _, h => h.elim
  | _ :: _, [], h => h.elim
theorem RelKD.any {j : Key} : ∀ {l : List (Key × V)} {m : List (Key × D)}, RelKD k G l m → (l.any fun kv => decide (kv.1 = j)) = (m.any fun kv => decide (kv.1 = j))
  | [], [], _ => rfl
  | (a, v) :: l, (b, d) :: m, ⟨h1, h2, h3⟩ => by rw [List.any_cons, List.any_cons, RelKD.any h3, h1]
  | [], _ :: _, h => h.elim
  | _ :: _, [], h => h.elim
theorem RelKD.map {j : Key} {v : V} {d : D} (hv : Rp k G v d) : ∀ {l : List (Key × V)} {m : List (Key × D)}, RelKD k G l m → RelKD k G (l.map (fun kv => if kv.1 = j then (kv.1, v) else kv)) (m.map (fun kv => if kv.1 = j then (kv.1, d) else kv))
  | [], [], _ => trivial
  | (a, w) :: l, (b, e) :: m, ⟨h1, h2, h3⟩ => by
    have ih := RelKD.map (j := j) hv h3
    subst h1
    by_cases q : a = j
    · rw [List.map_cons, List.map_cons, if_pos (by exact q), if_pos (by exact q)]
      exact ⟨rfl, hv, ih⟩
    · rw [List.map_cons, List.map_cons, if_neg (by exact q), if_neg (by exact q)]
      exact ⟨rfl, h2, ih⟩
  | [], _ :: _, h => h.elim
  | _ :: _, [], h => h.elim
theorem RelKD.app : ∀ {l l' : List (Key × V)} {m m' : List (Key × D)}, RelKD k G l m → RelKD k G l' m' → RelKD k G (l ++ l') (m ++ m')
  | [], _, [], _, _, h => h
  | (a, w) :: l, _, (b, e) :: m, _, ⟨h1, h2, h3⟩, h => ⟨h1, h2, RelKD.app h3 h⟩
  | [], _, _ :: _, _, h, _ => h.elim
  | _ :: _, _, [], _, h, _ => h.elim
theorem RelKD.put {j : Key} {v : V} {d : D} (hv : Rp k G v d) {l : List (Key × V)} {m : List (Key × D)} (h : RelKD k G l m) : RelKD k G (putK l j v) (putKD j d m) := by
  unfold putK putKD
  rw [h.any]
  split
  · exact h.map hv
  · exact h.app ⟨rfl, hv, trivial⟩
theorem RelKD.merge : ∀ {l l' : List (Key × V)} {m m' : List (Key × D)}, RelKD k G l m → RelKD k G l' m' → RelKD k G (mergeK l l') (mergeD m m')
  | _, [], _, [], h, _ => h
  | l, (a, v) :: l', m, (b, d) :: m', h, ⟨h1, h2, h3⟩ => by
    subst h1
    exact RelKD.merge (l := putK l a v) (m := putKD a d m) (RelKD.put h2 h) h3
  | _, [], _, _ :: _, _, h => h.elim
  | _, _ :: _, _, [], _, h => h.elim
theorem pairs_ok {K : PySem.W.Frag} {ct : Nat → Addr} {G H : Hp} (g : Same G H) : ∀ {vs : List V} {xs : List D} {l : List (Key × D)}, Rps ⟨K, ct⟩ G vs xs → pairsD xs = some l →
    ∃ (ps : List Addr) (kvs : List (Key × V)), vs = ps.map V.ref ∧ Paired (fun p kv => SqT K H p [kV kv.1, kv.2]) ps kvs ∧ RelKD ⟨K, ct⟩ G kvs l
  | _, [], l, .nil, h => by cases h; exact ⟨[], [], rfl, .nil, trivial⟩
  | _, x :: xs, l, .cons a b, h => by
    unfold pairsD at h
    split at h
    · rename_i heq
      cases heq
    · rename_i kd vd xs' heq
      cases heq
      obtain ⟨j, hj, h2⟩ := Option.bind_eq_some_iff.mp h
      obtain ⟨l', hl', rfl⟩ := Option.map_eq_some_iff.mp h2
      obtain ⟨ps, kvs, rfl, h3, h4⟩ := pairs_ok g b hl'
      cases a with
      | tup h5 h6 =>
        rename_i ad ws
        cases h6 with
        | cons a1 a2 => cases a2 with
          | cons a3 a4 =>
            cases a4
            rename_i w1 w2
            have : w1 = kV j := RB.key (k := ⟨K, ct⟩) (G := G) (H := H) (.inl a1) hj
            subst this
            exact ⟨ad :: ps, (j, w2) :: kvs, rfl, .cons (seqT g h5) h3, rfl, a3, h4⟩
    · cases h
end
theorem g_dict {X : Cx} {ct : Nat → Addr} : CallG ⟨X.K, ct⟩ (fun xs H Q => ∃ (a : Addr) (ps : List Addr) (kvs : List (Key × V)), xs = [.ref a] ∧ SqL X.K H a (ps.map V.ref) ∧ Paired (fun p kv => SqT X.K H p [kV kv.1, kv.2]) ps kvs ∧
    ∀ p, H p = none → Q (.ref p) (upd H p (.dK (mergeK [] kvs)))) (gF1 fDict) := callG1 fun c G H σ e v d z Q re rb hz q => by
  cases d with
  | lst xs =>
    obtain ⟨l, hl, rfl⟩ := Option.map_eq_some_iff.mp (show (pairsD xs).map _ = some z from hz)
    obtain ⟨a, vs, rfl, h1, r⟩ := rb.lst re.gh
    obtain ⟨ps, kvs, rfl, h3, h4⟩ := pairs_ok re.gh r hl
    refine ⟨a, ps, kvs, rfl, SqL.of h1, h3, fun p hp => ?_⟩
    obtain ⟨m1, m2⟩ := (RelKD.merge (k := ⟨X.K, ct⟩) (G := G) (l := []) (m := []) trivial h4).fst
    obtain ⟨r1, r2, r3⟩ := re.newM (x := .dic ((mergeD [] l).map (·.1)) ((mergeD [] l).map (·.2))) hp ⟨_, rfl, m1, m2⟩
    exact q G _ _ (Same.refl _) r1 ⟨p, rfl, r2, r3⟩
  | _ => cases hz
end MM
end
section
set_option Elab.async false
set_option linter.all false
set_option autoImplicit false
set_option maxRecDepth 100000
set_option maxHeartbeats 4000000
namespace MM
open PySem PySem.Spec L2

/-! ### == and != of things of an own class with its own __eq__ -/
/-- the class at C has the def at f as its own __eq__, and no __ne__; it stands right below object -/
def eqOwn (K : PySem.W.Frag) (C f : Addr) : Bool := (match K.lookup C with
  | some ⟨.type "type", _, .cls cd, sl⟩ => (match cd.mro, sl.toList with
    | [.ref C', .type "object"], [_, _, _, _, some (.builtin n), _] => C' == C && n == "object.__new__" && !cd.hasDel && PySem.W.nsOkIn K cd.ns && PySem.W.nsIn K cd.ns "__ne__" == some none && PySem.W.nsIn K cd.ns "__eq__" == some (some (.ref f))
    | _, _ => false)
  | _ => false) && (match K.lookup f with
  | some o => o.cls == .type "function"
  | none => false)
theorem ns_some {K : PySem.W.Frag} {h : Heap} {N : Addr} {mg : Str → Option Value} {n : Str} {v : Value} (X : K.In h) (G : h.Ns N mg) (e : PySem.W.nsIn K N n = some (some v)) : mg n = some v := by
  obtain ⟨o, es, ep, ho, hd, _, hf⟩ := G
  unfold PySem.W.nsIn at e
  split at e
  · rename_i c d es' n' sl q
    have := X _ _ q
    rw [ho] at this
    cases this
    cases hd
    split at e
    · rename_i en he
      have he2 : some en.val = some v := Option.some.inj e
      rw [← hf, ← he2]
      unfold nsFind findBy
      rw [← Array.find?_toList, he]
      rfl
    · exact absurd e (by simp)
  · cases e
theorem eqOwn_ok {K : PySem.W.Frag} {h : Heap} {C f x : Addr} {o : Obj} (X : K.In h) (q : eqOwn K C f = true) (hx : h.get? x = some o) (hc : o.cls = .ref C) : h.OwnEqNoNe x C f "object" [.type "object"] := by
  unfold eqOwn at q
  obtain ⟨q1, q2⟩ := Bool.and_eq_true_iff.mp q
  split at q1
  · rename_i dd cd sl ho
    split at q1
    · rename_i C' k0 k1 k2 k3 n k5 hm hs
      simp only [Bool.and_eq_true, beq_iff_eq, Bool.not_eq_true'] at q1
      obtain ⟨⟨⟨⟨⟨rfl, rfl⟩, hdel⟩, hok⟩, hne⟩, heq⟩ := q1
      obtain ⟨nm, bs, mro, ns, qn, hd, sn, sub, ab, col, del⟩ := cd
      dsimp only at hm hdel hok hne heq
      subst hm hdel
      have hsl : sl = #[k0, k1, k2, k3, some (.builtin "object.__new__"), k5] := by
        obtain ⟨l⟩ := sl
        simp only at hs
        rw [hs]
      subst hsl
      split at q2
      · rename_i of hof
        have N : h.Ns ns (h.nsMap ns) := .of_isNs (PySem.W.isNs_of_in X hok)
        exact ⟨o, of, nm, qn, ns, bs, hd, sn, sub, ab, col, dd, k0, k1, k2, k3, k5, "object.__new__", _, _, hx, hc, X _ _ ho, N, ns_some X N heq, X _ _ hof, beq_iff_eq.mp q2, PySem.F.mro_object, PySem.F.cmp_object.eq.lookup, PySem.W.nsMap_none_of_in X hok hne⟩
      · cases q2
    · cases q1
  · cases q1
/-- what a class with its own __eq__ must have -/
structure EqC (K : PySem.W.Frag) (C f : Addr) : Prop where
  own : eqOwn K C f = true
  at_ : PySem.W.findIn K (.ref C) "__eq__" = some (some (.ref f))
  fn : PySem.W.isFn K (.ref f) = true
def rOwn (C : Addr) (sp : Sp) (neg : Bool) : R2 := fun x y H Q => ∃ a b dx dy fs gs, x = .ref a ∧ y = .ref b ∧ H a = some (.ins C dx fs) ∧ H b = some (.ins C dy gs) ∧ sp [.ref a, .ref b] H (fun v H' => ∃ z, v = .bl z ∧ Q (.bl (if neg then !z else z)) H') E0
section
variable {X : Cx} {n : Nat} {C f : Addr} {fd : FuncData} {ps : List Str} {sp : Sp}
theorem own_call (F : FnOk X.prog X.w X.K X.mg X.base (L2.CX X.prog X.w) n f fd ps sp) (hb : Binds X.K fd ps []) {A : Around} (sb : Sub X n A) {pins : List (Addr × Obj)} {s : Shared} {σ : L2.St} {H : Hp} {a b : Addr} {Q : VK} (I : Inv X pins σ H s) (h : sp [.ref a, .ref b] H Q E0) :
    wpAny (model X.prog X.w) A (call (.ref f) [.ref a, .ref b]) (EP X pins σ Q) X.xe s := by
  have e0 : Env0 X.prog X.w X.K X.mg X.base A X.stack s H := by
    have e := I.env0
    exact ⟨by rw [sb.fr]; exact e.frames, e.mod, e.bs, e.bsz, e.funs, e.frf, e.hok, e.bare⟩
  have hl := F.len _ _ _ _ h
  have r2 : Vals [V.ref a, V.ref b] [Value.ref a, Value.ref b] := .cons rfl (.cons rfl .nil)
  refine wpAny_call (codeAny_mono (F.run A X.stack s H ⟨[.ref a, .ref b], []⟩ [.ref a, .ref b] [.ref a, .ref b] _ E0 sb.room e0 (by
    have := hb s [.ref a, .ref b] I.kIn (by simpa using hl)
    simpa using this) r2 h) fun r s' hq => ?_)
  cases r with
  | error e => exact passL pins σ H s e s' I hq
  | ok fl =>
    cases fl with
    | ret w => exact I.after hq
    | next => exact False.elim hq
    | brk => exact False.elim hq
    | cont => exact False.elim hq
theorem op_eqOwn (c : EqC X.K C f) (F : FnOk X.prog X.w X.K X.mg X.base (L2.CX X.prog X.w) n f fd ps sp) (hb : Binds X.K fd ps []) (hr : Room n X.A) : OpR X (compareOp .Eq) (rOwn C sp false) := by
  intro pins s σ H x y v u Q I rx ry hq
  obtain ⟨a, b, dx, dy, fs, gs, rfl, rfl, ha, hb', hs⟩ := hq
  cases rx
  cases ry
  obtain ⟨mA, J, _⟩ := ins_get I.hok ha
  obtain ⟨mB, J', _⟩ := ins_get I.hok hb'
  obtain ⟨od, J, _⟩ := J.look
  obtain ⟨od', J', _⟩ := J'.look
  obtain ⟨m, hF⟩ := I.fr
  show wpAny (model X.prog X.w) X.A (richCompare .Eq (.ref a) (.ref b)) (EP X pins σ Q) X.xe s
  refine PySem.W.cmp_K (op := .Eq) (tb := .ref C) hr.units0 hF I.ok.mod.kin J J'.type (by simp [PySem.W.notFirst]) c.at_ c.fn ?_
  refine wpAny_mono (own_call F hb ⟨hr, rfl⟩ I hs) (fun w s' hw => ?_) fun _ _ x => x
  obtain ⟨z, H', I', rz, t, rfl, q⟩ := hw
  cases rz
  exact ⟨.bl t, H', I', rfl, q⟩
theorem op_neOwn (c : EqC X.K C f) (F : FnOk X.prog X.w X.K X.mg X.base (L2.CX X.prog X.w) n f fd ps sp) (hb : Binds X.K fd ps []) (hr : Room (n + 1) X.A) : OpR X (compareOp .NotEq) (rOwn C sp true) := by
  intro pins s σ H x y v u Q I rx ry hq
  obtain ⟨a, b, dx, dy, fs, gs, rfl, rfl, ha, hb', hs⟩ := hq
  cases rx
  cases ry
  obtain ⟨mA, J, _⟩ := ins_get I.hok ha
  obtain ⟨mB, J', _⟩ := ins_get I.hok hb'
  have hu : X.A.units + 1 < cLine := by have := hr.units; omega
  have main := compareOp_ne_ownEq (prog := X.prog) (w := X.w) (A := X.A) (E := X.xe) (h := s.heap) (g := s.gens) (d := s.drawn) (t := s.toks) (os := s.os) PySem.F.cmp_object (eqOwn_ok I.kIn c.own J.obj rfl) J'.obj rfl hu (Q := EP X pins σ Q)
  refine main (wpAny_mono (own_call F hb ⟨hr.in1, rfl⟩ I hs) (fun w s' hw => ?_) fun _ _ x => x)
  obtain ⟨z, H', I', rz, t, rfl, q⟩ := hw
  cases rz
  exact ⟨t, rfl, .bl (!t), H', I', rfl, q⟩
end
/-- the class cc has its own __eq__ -/
structure EqAt (P : Program) (w : World) (K : PySem.W.Frag) (mg : Str → Option Value) (base : Heap) (ct : Nat → Addr) (k : Nat) (cc : Nat) (ps : List Str) (F : List EV → Out) : Prop where
  ex : ∃ f fd, FnOk P w K mg base (L2.CX P w) k f fd ps (spM ⟨K, ct⟩ F) ∧ EqC K (ct cc) f ∧ Binds K fd ps []
def isObj0 (cc : Nat) (e : Env) (t : Tk) : Bool := isObj cc Str.empty e t
/-- a comparison of data, or of two things of the class cc -/
def tCmpO (cc : Nat) (F : List EV → Out) (neg : Bool) (g : D → D → Option Bool) (fa fb : EM Tk) : EM Bool := fun e => (fa e).bind fun t1 e1 => (fb e1).bind fun t2 e2 =>
  if (isObj cc Str.empty e2 t1 && isObj cc Str.empty e2 t2) = true then (tailC (fun as => noX (F as)) [t1, t2] e2).bind fun x e3 => (match x with
    | .d (.bl z) => .ok (if neg then !z else z) e3
    | _ => .stuck) else (match rdK e2 t1, rdK e2 t2 with
  | some a, some b => resB (g a b) e2
  | _, _ => .stuck)
section
variable {X : Cx} {ct : Nat → Addr} {W : WX} {pos : Pos} {a b : Expr} {fa fb : EM Tk} {k cc : Nat} {ps : List Str} {F : List EV → Out} {neg : Bool} {op : CmpOp} {g : D → D → Option Bool} {r : R2} {f : Addr} {fd : FuncData}
theorem cmpO_sem {c : Fr} {G H : Hp} {σ : L2.St} {e : Env} {Q : VK} (hg : OpB ⟨X.K, ct⟩ r g) (re : RepS ⟨X.K, ct⟩ c G σ H e)
    (p : Post ⟨X.K, ct⟩ W c G σ (fun G' H' _ z => ∀ v, v = V.bl z → Q v H') (tCmpO cc F neg g fa fb e)) :
    TK ⟨X.K, ct⟩ W fa σ H (fun x H1 => TK ⟨X.K, ct⟩ W fb σ H1 (fun y H2 => r x y H2 Q ∨ rOwn (ct cc) (spM ⟨X.K, ct⟩ F) neg x y H2 Q)) := by
  refine two (R := fun x y H2 => r x y H2 Q ∨ rOwn (ct cc) (spM ⟨X.K, ct⟩ F) neg x y H2 Q) re p fun G2 H2 e2 t1 t2 x y s r2 hx hy p2 => ?_
  split at p2
  · rename_i ho
    obtain ⟨h1, h2⟩ := Bool.and_eq_true_iff.mp ho
    obtain ⟨a1, dx, fs, rfl, e1, _⟩ := isObj_ok r2 hx h1
    obtain ⟨b1, dy, gs, rfl, e3, _⟩ := isObj_ok r2 hy h2
    refine .inr ⟨a1, b1, dx, dy, fs, gs, rfl, rfl, e1, e3, ?_⟩
    refine sp_noX (E := fun _ _ _ => True) (post_callE (W := W) (fun _ _ _ _ => trivial) r2 (show RpKs _ G2 σ [.ref a1, .ref b1] [t1, t2] from ⟨hx, hy, trivial⟩) ?_)
    refine (Post.bind p2).imp fun G3 H3 e4 z s3 r3 p3 v hv => ?_
    split at p3
    · rename_i t
      cases hv
      exact ⟨t, rfl, p3.now r3 _ rfl⟩
    · exact p3.elim
  · split at p2
    · rename_i d1 d2 h1 h2
      cases hz : g d1 d2 with
      | none => rw [hz] at p2; exact p2.elim
      | some z =>
        rw [hz] at p2
        exact .inl (hg G2 H2 x y d1 d2 z Q r2.gh (.of r2 hx h1) (.of r2 hy h2) hz (p2.now r2 _ rfl))
    · exact p2.elim
theorem OpR.or' {f : Value → Value → Sem Value} {r r' : R2} (h : OpR X f r) (h' : OpR X f r') : OpR X f (fun x y H Q => r x y H Q ∨ r' x y H Q) := by
  intro pins s σ H x y v u Q I rx ry q
  rcases q with q | q
  · exact h pins s σ H x y v u Q I rx ry q
  · exact h' pins s σ H x y v u Q I rx ry q
theorem e_cpO (ho : OpR X (compareOp op) (rOwn (ct cc) (spM ⟨X.K, ct⟩ F) neg)) (h : CmpX X ct op g) (ha : SK X ct W a fa) (hb : SK X ct W b fb) (hm : behindInMarks op b = false) : SE X ct W (.Compare a [op] [b] pos) (cB (tCmpO cc F neg g fa fb)) := by
  obtain ⟨r, h1, h2⟩ := h
  refine PEw (pe_cmpR (OpR.or' h1 ho) ha hb hm) fun σ H Q q => ?_
  obtain ⟨c, G, e, re, p⟩ := q
  refine cmpO_sem h2 re ((Post.bind p).imp fun G' H' e' z s' r' h v hv => ?_)
  subst hv
  exact h.now r' _ (.bl z)
theorem t_cpO (ho : OpR X (compareOp op) (rOwn (ct cc) (spM ⟨X.K, ct⟩ F) neg)) (h : CmpX X ct op g) (ha : SK X ct W a fa) (hb : SK X ct W b fb) (hm : behindInMarks op b = false) : ST X ct W (.Compare a [op] [b] pos) (tCmpO cc F neg g fa fb) := by
  obtain ⟨r, h1, h2⟩ := h
  refine PTw (pt_cmpR (OpR.or' h1 ho) ha hb hm) fun σ H Q q => ?_
  obtain ⟨c, G, e, re, p⟩ := q
  refine cmpO_sem h2 re (p.imp fun G' H' e' z s' r' h v hv => ?_)
  subst hv
  exact ⟨z, rfl, h⟩
theorem e_eqO (hE : EqAt X.prog X.w X.K X.mg X.base ct k cc ps F) (hr : Room (k + 1) X.A) (ha : SK X ct W a fa) (hb : SK X ct W b fb) (hm : behindInMarks .Eq b = false) : SE X ct W (.Compare a [.Eq] [b] pos) (cB (tCmpO cc F false gEq fa fb)) := by
  obtain ⟨f, fd, h1, h2, h3⟩ := hE.ex
  exact e_cpO (op_eqOwn h2 h1 h3 (hr.mono (Nat.le_succ _))) (x_eq hr) ha hb hm
theorem t_eqO (hE : EqAt X.prog X.w X.K X.mg X.base ct k cc ps F) (hr : Room (k + 1) X.A) (ha : SK X ct W a fa) (hb : SK X ct W b fb) (hm : behindInMarks .Eq b = false) : ST X ct W (.Compare a [.Eq] [b] pos) (tCmpO cc F false gEq fa fb) := by
  obtain ⟨f, fd, h1, h2, h3⟩ := hE.ex
  exact t_cpO (op_eqOwn h2 h1 h3 (hr.mono (Nat.le_succ _))) (x_eq hr) ha hb hm
theorem e_neO (hE : EqAt X.prog X.w X.K X.mg X.base ct k cc ps F) (hr : Room (k + 1) X.A) (ha : SK X ct W a fa) (hb : SK X ct W b fb) (hm : behindInMarks .NotEq b = false) : SE X ct W (.Compare a [.NotEq] [b] pos) (cB (tCmpO cc F true gNe fa fb)) := by
  obtain ⟨f, fd, h1, h2, h3⟩ := hE.ex
  exact e_cpO (op_neOwn h2 h1 h3 hr) (x_ne hr) ha hb hm
theorem t_neO (hE : EqAt X.prog X.w X.K X.mg X.base ct k cc ps F) (hr : Room (k + 1) X.A) (ha : SK X ct W a fa) (hb : SK X ct W b fb) (hm : behindInMarks .NotEq b = false) : ST X ct W (.Compare a [.NotEq] [b] pos) (tCmpO cc F true gNe fa fb) := by
  obtain ⟨f, fd, h1, h2, h3⟩ := hE.ex
  exact t_cpO (op_neOwn h2 h1 h3 hr) (x_ne hr) ha hb hm
end
end MM
end
section
set_option Elab.async false
set_option linter.all false
set_option autoImplicit false
set_option maxRecDepth 100000
set_option maxHeartbeats 4000000
namespace L2
open PySem PySem.Spec PyProof.Rows
/-! ### set(xs) of a list of ints -/
/-- the new set's object -/
abbrev newSet (w : World) : Obj := { cls := .type "set", dict := none, data := .set #[] 0 (.fresh 0 0 (!w.params.followText "set-order")) }
set_option maxHeartbeats 8000000 in
theorem mir_set_list {P : Program} {w : World} {A : Around} {E : Value → Shared → Prop} {s : Shared} {l : Addr} {items : Array Value} (ns : List Int) {Q : Value → Shared → Prop} (hh : A.handled = none) (hl : s.heap.IsList l items) (hit : IntsAre items.toList ns) (hb : ns.length + 1 < scanBound)
    (h : ∀ (h' : Heap) (tk c : Nat), SetR w h' s.heap.objs.size (fun j => decide (j ∈ ns)) c → c ≤ ns.length → (∀ b o, s.heap.get? b = some o → h'.get? b = some o) → Q (.ref s.heap.objs.size) { s with heap := h', toks := tk }) :
    wpAny (model P w) A (call (.type "set") [.ref l]) Q E s := by
  have hisz : items.size = ns.length := by rw [← IntsAre.length hit, Array.length_toList]
  obtain ⟨c, tl, hmro⟩ := F.called_set.mro
  have hmade := F.called_set.made
  have hsub := F.called_set.sub
  have h1 := F.called_set.notType
  have h2 := F.called_set.canCreate
  have hct := F.typeCall_set_1 (.ref l)
  have hS : (s.heap.push (newSet w)).get? s.heap.objs.size = some (newSet w) := Heap.get?_push_size _ rfl
  have hT : Shared.TypeIs { s with heap := s.heap.push (newSet w) } (.ref s.heap.objs.size) "set" := ⟨_, hS, rfl⟩
  have hli := F.called_set.init.lookup
  have hbi := F.called_set.init.bind (.ref s.heap.objs.size)
  refine wpAny_call (codeAny_of_tree ?_)
  show wpAny _ _ (callAny (.type "set") _) _ _ _
  refine wpAny_pure ⟨Code.quiet_builtin _ (by decide +kernel), codeAny_builtin F.entry_type_call ?_⟩
  rw [Around.under_plain (weight_type_call_type "set" [.ref l] []) rfl]
  repeat (any_goals (first | assumption | wp_step))
  refine codeAny_mono (code_set_led1 (.ref l) (E := E) (Q₁ := fun obj s₁ => obj = .ref s.heap.objs.size ∧ s₁ = { s with heap := s.heap.push (newSet w) }) ⟨rfl, rfl⟩) fun r s₁ hr => ?_
  cases r with
  | error e => exact hr
  | ok fl =>
    cases fl with
    | next => exact hr.elim
    | brk => exact hr.elim
    | cont => exact hr.elim
    | ret obj =>
      obtain ⟨rfl, rfl⟩ := hr
      repeat (any_goals (first | assumption | wp_step))
      refine codeAny_mono (codeAny_call_builtin (R := wants (fun r s₂ => r = .none ∧ ∃ h' tk c, s₂ = { s with heap := h', toks := tk } ∧ SetR w h' s.heap.objs.size (fun j => decide (j ∈ ns)) c ∧ c ≤ ns.length ∧
          (∀ b o, s.heap.get? b = some o → h'.get? b = some o)) E) F.called_set.init.plain F.entry_set_init (check_set_init_1 hT ?_)) fun r₂ s₂ hr₂ => ?_
      · obtain ⟨⟨oc, od, odt, os⟩, hol, hcl, nl, hdl⟩ := hl
        simp only at hcl hdl
        subst hcl; subst hdl
        have hol' : (s.heap.push (newSet w)).get? l = some { cls := .type "list", dict := od, data := .seq items nl, slots := os } := Heap.get?_push_of_some _ hol
        have hsls := PySem.F.sub_list_set
        have hslf := PySem.F.sub_list_frozenset
        have hne : (Value.type "list" == Value.type "dict") = false := by decide
        have hl1 : (s.heap.push (newSet w)).IsList l items := ⟨_, hol', rfl, nl, rfl⟩
        have hlS : l < s.heap.objs.size := Heap.lt_size hol
        have hz1 : (s.heap.push (newSet w)).objs.size = s.heap.objs.size + 1 := Heap.size_push ..
        unfold Builtin.«set.__init__» noKeywords Builtin.Frozenset.updateFrom
        generalize hPI : pyIter = PI
        wp_walk
        subst hPI
        refine wpAny_pyIter_list hl1 ?_
        refine wpAny_bind (wpAny_runValue ?_)
        have hneI : l ≠ (s.heap.push (newSet w)).objs.size := by rw [hz1]; exact Nat.ne_of_lt (Nat.lt_succ_of_lt hlS)
        have hSf : s.heap.objs.size ∉ [(s.heap.push (newSet w)).objs.size, l] := by
          rw [hz1]
          simp only [List.mem_cons, List.not_mem_nil, or_false, not_or]
          exact ⟨Nat.ne_of_lt (Nat.lt_succ_self _), Nat.ne_of_gt hlS⟩
        have hval : ∀ (i : Nat) (v : Value), items[i]? = some v → ∃ k t, ns[i]? = some k ∧ v = .int k t := fun i v hv => by
          have hi : i < ns.length := by rw [← hisz]; exact (Array.getElem?_eq_some_iff.mp hv).1
          obtain ⟨t, e⟩ := PyProof.Rows.IntsAre.int_at hit i v (by rw [Array.getElem?_toList]; exact hv)
          refine ⟨ns[i], t, List.getElem?_eq_getElem hi, ?_⟩
          rw [e, List.getD_eq_getElem?_getD, List.getElem?_eq_getElem hi] <;> rfl
        have hh3 : A.in1.in1.in1.handled = none := by simp [hh]
        refine set_update_ints ((Walks.list hh3 _ l hneI items).toS) s.heap.objs.size hSf ns hisz hb hval (items.size - 0) 0 _ (by omega) (Nat.zero_le _) ⟨⟨_, Heap.get?_push_size _ rfl, rfl, rfl⟩, (hl1.push _)⟩ ⟨0, Nat.le_refl 0, setR_new_at (Heap.get?_push_of_some _ hS)⟩ ?_
        intro s' c' hm hc' hS'
        obtain ⟨h', g2, d', tk', os'⟩ := s'
        obtain rfl : g2 = s.gens := hm.gens
        obtain rfl : d' = s.drawn := hm.drawn
        obtain rfl : os' = s.os := hm.os
        show wpAny _ _ _ _ _ _
        refine wpAny_pure ?_
        show wpAny _ _ (ret Value.none) _ _ _
        refine wpAny_pure ⟨rfl, h', tk', c', rfl, hS', by rw [← hisz]; exact hc', fun b o e => ?_⟩
        have hb0 : b < s.heap.objs.size := Heap.lt_size e
        refine hm.heap b o ?_ (Heap.get?_push_of_some _ (Heap.get?_push_of_some _ e))
        simp only [List.mem_cons, List.not_mem_nil, or_false, not_or]
        exact ⟨Nat.ne_of_lt hb0, by rw [hz1]; exact Nat.ne_of_lt (Nat.lt_succ_of_lt hb0)⟩
      · cases r₂ with
        | error e => exact hr₂
        | ok fl₂ =>
          cases fl₂ with
          | ret r =>
            obtain ⟨rfl, h', tk, c', rfl, hS', hc', hk'⟩ := hr₂
            repeat (any_goals (first | assumption | wp_step))
            exact h _ _ _ hS' hc' hk'
          | next => exact hr₂.elim
          | brk => exact hr₂.elim
          | cont => exact hr₂.elim
end L2
end
section
set_option Elab.async false
set_option linter.all false
set_option autoImplicit false
set_option maxRecDepth 100000
set_option maxHeartbeats 4000000
namespace MM
open PySem PySem.Spec L2
/-! ### sorted(set(xs)) -/
def usortI (ns : List Int) : List Int := (sortI ns).eraseDups
def vSortSet (f : EM (List Tk)) : EM EV := fun e => (f e).bind fun ts e1 => match rdKs e1 ts with
  | some [d] => (match intsOf d with
    | some ns => if ns.length < 4000 ∧ (usortI ns).length < 64 then .ok (.m (.lst ((usortI ns).map D.int))) e1 else .stuck
    | none => .stuck)
  | _ => .stuck
theorem nodup_eraseDups : ∀ (n : Nat) (l : List Int), l.length ≤ n → l.eraseDups.Nodup ∧ (∀ x, x ∈ l.eraseDups ↔ x ∈ l) ∧ l.eraseDups.Sublist l
  | _, [], _ => ⟨by simp, by simp, by simp⟩
  | 0, a :: l, h => by simp at h
  | n + 1, a :: l, h => by
    have hl : (l.filter fun b => !b == a).length ≤ n := by
      have := List.length_filter_le (fun b => !b == a) l
      simp at h
      omega
    obtain ⟨i1, i2, i3⟩ := nodup_eraseDups n _ hl
    rw [List.eraseDups_cons]
    refine ⟨List.nodup_cons.mpr ⟨fun hm => ?_, i1⟩, fun x => ?_, (i3.trans List.filter_sublist).cons₂ a⟩
    · have := (i2 a).mp hm
      simp at this
    · rw [List.mem_cons, List.mem_cons, i2 x, List.mem_filter]
      by_cases e : x = a
      · simp [e]
      · simp [e]
theorem usortI_mem {ns : List Int} {x : Int} : x ∈ usortI ns ↔ x ∈ ns := by
  unfold usortI
  rw [(nodup_eraseDups _ _ (Nat.le_refl _)).2.1 x]
  exact (sortI_perm ns).mem_iff
theorem usortI_lt (ns : List Int) : (usortI ns).Pairwise (· < ·) := by
  obtain ⟨h1, _, h3⟩ := nodup_eraseDups _ (sortI ns) (Nat.le_refl _)
  have h4 := (sortI_sorted ns).sublist h3
  exact (List.Pairwise.and h4 h1).imp fun {a b} h => by
    obtain ⟨p, q⟩ := h
    exact Int.lt_iff_le_and_ne.mpr ⟨p, q⟩
theorem lt_unique {as bs : List Int} (h1 : as.Pairwise (· < ·)) (h2 : bs.Pairwise (· < ·)) (h : ∀ x, x ∈ as ↔ x ∈ bs) : as = bs := by
  have n1 : as.Nodup := h1.imp fun {a b} h => Int.ne_of_lt h
  have n2 : bs.Nodup := h2.imp fun {a b} h => Int.ne_of_lt h
  exact sorted_eq ((List.perm_ext_iff_of_nodup n1 n2).mpr h) (h1.imp fun {a b} h => Int.le_of_lt h) (h2.imp fun {a b} h => Int.le_of_lt h)
theorem nodup_len : ∀ {l1 l2 : List Int}, l1.Nodup → (∀ x ∈ l1, x ∈ l2) → l1.length ≤ l2.length
  | [], _, _, _ => Nat.zero_le _
  | a :: l1, l2, nd, h => by
    have nd' := List.nodup_cons.mp nd
    have ha := h a (by simp)
    have := nodup_len (l1 := l1) (l2 := l2.erase a) nd'.2 fun x hx => (List.mem_erase_of_ne (fun (e : x = a) => nd'.1 (by rw [← e]; exact hx))).mpr (h x (by simp [hx]))
    rw [List.length_erase_of_mem ha] at this
    have := List.length_pos_of_mem ha
    rw [List.length_cons]
    omega
def tSortSet (K : PySem.W.Frag) (ta : L2.TE) : L2.TE := fun σ H Q => ta σ H fun x H1 => ∃ (l : Addr) (ns : List Int), x = V.ref l ∧ SqL K H1 l (ns.map V.int) ∧ ns.length < 4000 ∧ (usortI ns).length < 64 ∧ ∀ p, H1 p = none → Q (.ref p) (upd H1 p (.lst ((usortI ns).map V.int)))
section
variable {X : Cx} {ct : Nat → Addr} {W : WX} {a : Expr} {ta : L2.TE} {p p2 q pos : Pos} {fa : EM Tk}
theorem pe_sortSet (hc : X.calm = true) (hg : Gl X "sorted") (hm : X.mg "sorted" = none) (hg2 : Gl X "set") (hm2 : X.mg "set" = none) (ha : PE X a ta)
    (na : starEach [a] X.env = (false, eval a X.env) :: starEach [] X.env := by rfl) : PE X (.Call (.Name "sorted" p) [.Call (.Name "set" p2) [a] [] q] [] pos) (tSortSet X.K ta) := by
  refine ⟨fun pins s σ H Q I h => ?_⟩
  refine PyProof.Rows.Call_ (ld_blt I hg hm (show bootBuiltins "sorted" = some (.builtin "sorted") by decide +kernel) ?_)
  refine PyProof.Rows.callWith_builtin1 (PyProof.Rows.args_cons ?_ rfl) rfl rfl
  refine PyProof.Rows.Call_ (ld_blt I hg2 hm2 PyProof.Rows.boot_set ?_)
  refine PyProof.Rows.callWith_type1 (PyProof.Rows.args_cons (thn (ha.run pins s σ H _ I h) fun v s1 ⟨x, H1, I1, r1, q1⟩ => PyProof.Rows.args_nil ?_) na) na rfl
  obtain ⟨l, ns, rfl, hq, h1, h2, q1⟩ := q1
  cases r1
  obtain ⟨its, r, pl, hz⟩ := I1.list hq
  refine mir_set_list ns (I1.ok.hd hc) pl.isList (by simpa using r.ints) (by unfold scanBound; omega) fun h' tk c hS hcn hk => ?_
  refine PyProof.Rows.args_nil ?_
  have I2 : Inv X pins σ H1 { s1 with heap := h', toks := tk } := I1.kept hk
  have hS0 := hS
  obtain ⟨o, es, ep, t, ho, hex, hd, g, nd, hmm, hb, hf, hn, hr, hl⟩ := hS0
  have hc64 : c < 64 := by
    have hsz : es.size = c := hn
    have hnd : (es.toList.map keyOf).Nodup := nd
    have hsub : ∀ y ∈ es.toList.map keyOf, y ∈ usortI ns := fun y hy => by
      rw [usortI_mem]
      have := (hmm y).mpr hy
      simpa using this
    have hle := nodup_len hnd hsub
    rw [List.length_map, Array.length_toList, hsz] at hle
    omega
  refine sorted_set hS (I2.ok.hd hc) hc64 fun s' p out c2 ns' k g2 o2 hp hg3 hi hs hm3 hl3 => ?_
  have e1 : ns' = usortI ns := lt_unique hs (usortI_lt ns) fun x => by rw [hm3 x, usortI_mem]; simp
  subst e1
  have hnp : H1 p = none := I2.hok.fresh hp
  have hlen : ((usortI ns).map V.int).length ≤ sizeLine := by rw [List.length_map, sizeLine_eq]; omega
  have J : Inv X pins σ (upd H1 p (.lst ((usortI ns).map V.int))) { ({ s1 with heap := h', toks := tk } : Shared) with heap := s'.heap, gens := s'.gens, drawn := s'.drawn, toks := s'.toks } :=
    I2.call (ch := []) (Un.laid k hp hnp) (I2.hok.laid k hp ⟨hlen, out.toList, c2, vals_of_ints hi, hg3⟩) (by rw [g2]; exact I2.bare) (fun _ z => nomatch z)
  have e : s' = { ({ s1 with heap := h', toks := tk } : Shared) with heap := s'.heap, gens := s'.gens, drawn := s'.drawn, toks := s'.toks } := by
    cases s'
    cases s1
    cases o2
    rfl
  rw [e]
  exact ⟨.ref p, _, J, rfl, q1 p hnp⟩
theorem v_sortSet (hc : X.calm = true) (hg : Gl X "sorted") (hm : X.mg "sorted" = none) (hg2 : Gl X "set") (hm2 : X.mg "set" = none) (ha : SK X ct W a fa)
    (na : starEach [a] X.env = (false, eval a X.env) :: starEach [] X.env := by rfl) : SV X ct W (.Call (.Name "sorted" p) [.Call (.Name "set" p2) [a] [] q] [] pos) (vSortSet (aCons fa aNil)) := by
  refine PEw (pe_sortSet hc hg hm hg2 hm2 ha na) fun σ H Q q => ?_
  obtain ⟨c, G, e, r, p⟩ := q
  have p : Post ⟨X.K, ct⟩ W c G σ (fun G' H' e' x => ∀ v, RpV ⟨X.K, ct⟩ c G' σ H' e' v x → Q v H') (((fa e).bind fun t e1 => .ok [t] e1).bind fun ts e1 => match rdKs e1 ts with
    | some [d] => (match intsOf d with
      | some ns => if ns.length < 4000 ∧ (usortI ns).length < 64 then .ok (.m (.lst ((usortI ns).map D.int))) e1 else .stuck
      | none => .stuck)
    | _ => .stuck) := p
  refine ⟨c, G, e, r, (Post.bind (Post.bind p)).imp fun G1 H1 e1 t s1 r1 p1 v hv => ?_⟩
  have p1 := p1.now r1
  cases hd : rdK e1 t with
  | none =>
    have hz : rdKs e1 [t] = none := by show (match rdK e1 t, rdKs e1 [] with | some d, some ds => some (d :: ds) | _, _ => none) = none; rw [hd]
    rw [hz] at p1; exact p1.elim
  | some d =>
    have hz : rdKs e1 [t] = some [d] := by show (match rdK e1 t, rdKs e1 [] with | some d, some ds => some (d :: ds) | _, _ => none) = some [d]; rw [hd]; rfl
    rw [hz] at p1
    have rb : RB ⟨X.K, ct⟩ G1 H1 v d := .of r1 hv hd
    cases hi : intsOf d with
    | none =>
      have p2 : Post ⟨X.K, ct⟩ W c G1 σ (fun G' H' e' x => ∀ v, RpV ⟨X.K, ct⟩ c G' σ H' e' v x → Q v H') (match intsOf d with
        | some ns => if ns.length < 4000 ∧ (usortI ns).length < 64 then .ok (.m (.lst ((usortI ns).map D.int))) e1 else .stuck
        | none => .stuck) := p1
      rw [hi] at p2; exact p2.elim
    | some ns =>
      have p2 : Post ⟨X.K, ct⟩ W c G1 σ (fun G' H' e' x => ∀ v, RpV ⟨X.K, ct⟩ c G' σ H' e' v x → Q v H') (match intsOf d with
        | some ns => if ns.length < 4000 ∧ (usortI ns).length < 64 then .ok (.m (.lst ((usortI ns).map D.int))) e1 else .stuck
        | none => .stuck) := p1
      rw [hi] at p2
      have p3 : Post ⟨X.K, ct⟩ W c G1 σ (fun G' H' e' x => ∀ v, RpV ⟨X.K, ct⟩ c G' σ H' e' v x → Q v H') (if ns.length < 4000 ∧ (usortI ns).length < 64 then .ok (.m (.lst ((usortI ns).map D.int))) e1 else .stuck) := p2
      split at p3
      · rename_i hl
        obtain ⟨ad, rfl, h1⟩ := rb.ints r1.gh hi
        refine ⟨ad, ns, rfl, h1, hl.1, hl.2, fun pp hp => ?_⟩
        obtain ⟨r2, r3, r4⟩ := r1.newM (x := .lst ((usortI ns).map D.int)) hp ⟨_, rfl, Rps.ofInts _⟩
        exact p3 G1 _ (Same.refl _) r2 _ ⟨pp, rfl, r3, r4⟩
      · exact p3.elim
end
end MM
end
section
set_option Elab.async false
set_option linter.all false
set_option autoImplicit false
set_option maxRecDepth 100000
set_option maxHeartbeats 4000000
namespace MM
open PySem PySem.Spec L2

/-! ### the head: own classes, properties -/
/-- a property's getter: the class's name, the property's, the getter's qualified name, text -/
structure PrD where
  cls : Str
  prop : Str
  qual : Str
  params : Arguments
  body : List Stmt
  scope : Scope
def pgA (K : PySem.W.Frag) (d : PrD) : Addr := match PySem.W.recIn K (He.ma K (He.ga K d.cls) d.prop) "property" with
  | some (.ref g :: _) => g
  | _ => 0
def fnWa (K : PySem.W.Frag) (a : Addr) : He.FnW := match K.lookup a with
  | some ⟨_, _, .func fd, _⟩ => some (fd.name, fd.qualname, fd.params, fd.body, fd.scope, fd.globals, fd.closure, fd.builtins)
  | _ => none
def PrD.val (d : PrD) : He.FnW := some (d.prop, d.qual, d.params, .stmts d.body, d.scope, mainGlobals, [], builtinsNs)
def PrD.ok (K : PySem.W.Frag) (d : PrD) : Bool :=
  He.eqO (PySem.W.findIn K (.ref (He.ga K d.cls)) d.prop) (some (some (.ref (He.ma K (He.ga K d.cls) d.prop)))) &&
  (He.eqO (PySem.W.specialIn K (.ref (He.ma K (He.ga K d.cls) d.prop)) "__get__") (some (some (.builtin "property.__get__"))) &&
  (decide (PySem.W.takesIn K (.ref (He.ma K (He.ga K d.cls) d.prop)) = some true) &&
  ((match PySem.W.recIn K (He.ma K (He.ga K d.cls) d.prop) "property" with
    | some (.ref _ :: _) => true
    | _ => false) &&
  (PySem.W.keepIn K (.ref (pgA K d)) && (match K.lookup (pgA K d) with
    | some ⟨_, _, .func fd, _⟩ => PySem.W.codeIn K fd.code d.qual && He.dflB K fd.defaults []
    | _ => false)))))
theorem funD_at {K : PySem.W.Frag} {f : Addr} {name qual : Str} {params : Arguments} {body : List Stmt} {scope : Scope} (e : fnWa K f = some (name, qual, params, .stmts body, scope, mainGlobals, [], builtinsNs)) (kp : PySem.W.keepIn K (.ref f) = true)
    (c2 : (match K.lookup f with
    | some ⟨_, _, .func fd, _⟩ => PySem.W.codeIn K fd.code qual && He.dflB K fd.defaults []
    | _ => false) = true) : ∃ fd, FunD K name qual params body scope [] [] f fd := by
  unfold fnWa at e
  cases q : K.lookup f with
  | none =>
    rw [q] at c2
    cases c2
  | some o =>
    obtain ⟨oc, od, dt, osl⟩ := o
    rw [q] at c2 e
    cases dt with
    | func fd =>
      obtain ⟨n1, n2, n3, n4, n5, n6, n7, n8, n9, n10, n11, n12, n13, n14, n15⟩ := fd
      have e2 : (some (n1, n2, n3, n4, n5, n6, n7, n15) : He.FnW) = some (name, qual, params, .stmts body, scope, mainGlobals, [], builtinsNs) := e
      simp only [Option.some.injEq, Prod.mk.injEq] at e2
      obtain ⟨h1, h2, h3, h4, h5, h6, h7, h8⟩ := e2
      subst h1 h2 h3 h4 h5 h6 h7 h8
      have c3 : (PySem.W.codeIn K n13 n2 && He.dflB K n8 []) = true := c2
      obtain ⟨k1, k2⟩ := He.ba c3
      exact ⟨_, ⟨oc, od, n8, n9, n10, n11, n12, n13, n14, osl, rfl, q, k1, He.dflB_ok k2, .inl rfl⟩, kp⟩
    | _ => cases c2
theorem PrD.get {K : PySem.W.Frag} {d : PrD} (e : fnWa K (pgA K d) = d.val) (c : d.ok K = true) : (∃ fd, FunD K d.prop d.qual d.params d.body d.scope [] [] (pgA K d) fd) ∧ PropOf K (He.ga K d.cls) d.prop (He.ma K (He.ga K d.cls) d.prop) (pgA K d) := by
  obtain ⟨c1, c⟩ := He.ba c
  obtain ⟨c2, c⟩ := He.ba c
  obtain ⟨c3, c⟩ := He.ba c
  obtain ⟨c4, c⟩ := He.ba c
  obtain ⟨c5, c6⟩ := He.ba c
  refine ⟨funD_at e c5 c6, He.eqO_ok c1, He.eqO_ok c2, of_decide_eq_true c3, ?_⟩
  unfold pgA
  revert c4
  cases q : PySem.W.recIn K (He.ma K (He.ga K d.cls) d.prop) "property" with
  | none => intro c4; cases c4
  | some l =>
    intro c4
    cases l with
    | nil => cases c4
    | cons v r =>
      cases v with
      | ref g => exact ⟨r, rfl⟩
      | _ => cases c4
/-- the built-in types that isinstance is asked about, and the kinds of data -/
def tyAsk : List String := ["int", "bool", "str", "list", "tuple", "dict"]
def tyAll : List String := ["NoneType", "bool", "int", "str", "list", "tuple", "dict"]
/-! own exceptions over ValueError with their own __init__ -/
def exClsB (K : PySem.W.Frag) (C : Addr) : Bool := match K.lookup C with
  | some ⟨.type "type", _, .cls cd, sl⟩ => (match cd.mro, sl.toList with
    | .ref C' :: bm, [_, _, _, _, some (.builtin n), _] => C' == C && n == "ValueError.__new__" && !cd.hasDel && cd.hasDict && PySem.HandSPX.refsVE bm
    | _, _ => false)
  | _ => false
theorem exCls_ok {K : PySem.W.Frag} {C : Addr} (q : exClsB K C = true) : ∃ nm q N bs bm sn sub ab col dd k0 k1 k2 k3 k5, K.lookup C = some (excClassObj nm q C N bs bm true sn sub ab col dd k0 k1 k2 k3 k5 "ValueError.__new__") ∧ PySem.HandSPX.refsVE bm = true := by
  unfold exClsB at q
  split at q
  · rename_i dd cd sl ho
    split at q
    · rename_i C' bm k0 k1 k2 k3 n k5 hm hs
      simp only [Bool.and_eq_true, beq_iff_eq, Bool.not_eq_true'] at q
      obtain ⟨⟨⟨⟨rfl, rfl⟩, hdel⟩, hdict⟩, ht⟩ := q
      obtain ⟨nm, bs, mro, ns, qn, hd, sn, sub, ab, col, del⟩ := cd
      dsimp only at hm hdel hdict
      subst hm hdel hdict
      have hsl : sl = #[k0, k1, k2, k3, some (.builtin "ValueError.__new__"), k5] := by
        obtain ⟨l⟩ := sl
        simp only at hs
        rw [hs]
      subst hsl
      exact ⟨nm, qn, ns, bs, bm, sn, sub, ab, col, dd, k0, k1, k2, k3, k5, ho, ht⟩
    · cases q
  · cases q
def exB (K : PySem.W.Frag) (x f : Str) : Bool :=
  exClsB K (He.ga K x) && (He.eqO (PySem.W.findIn K (.ref (He.ga K x)) "__setattr__") (some (some (.builtin "object.__setattr__"))) && (decide (PySem.W.typeIn K (.ref (He.ga K x)) = some (.type "type")) && (PySem.W.keepIn K (.ref (He.ga K x)) && (xfB K (He.ga K x) &&
  (He.eqO (PySem.W.findIn K (.ref (He.ga K x)) "__init__") (some (some (.ref (He.ma K (He.ga K x) "__init__")))) && (decide (PySem.W.typeIn K (.ref (He.ma K (He.ga K x) "__init__")) = some (.type "function")) && (He.eqO (PySem.W.findIn K (.ref (He.ga K x)) f) (some none) &&
  decide (PySem.W.exmOne K (.ref (He.ga K x)) (.ref (He.ga K x)) = some true))))))))
structure ExOk (K : PySem.W.Frag) (x f : Str) : Prop where
  T : OexC K (He.ga K x)
  X : XfC K (He.ga K x)
  init : PySem.W.findIn K (.ref (He.ga K x)) "__init__" = some (some (.ref (He.ma K (He.ga K x) "__init__")))
  tI : PySem.W.typeIn K (.ref (He.ma K (He.ga K x) "__init__")) = some (.type "function")
  no : PySem.W.findIn K (.ref (He.ga K x)) f = some none
  em : PySem.W.exmOne K (.ref (He.ga K x)) (.ref (He.ga K x)) = some true
theorem exB_ok {K : PySem.W.Frag} {x f : Str} (h : exB K x f = true) : ExOk K x f := by
  obtain ⟨h1, h⟩ := He.ba h
  obtain ⟨h2, h⟩ := He.ba h
  obtain ⟨h3, h⟩ := He.ba h
  obtain ⟨h4, h⟩ := He.ba h
  obtain ⟨h5, h⟩ := He.ba h
  obtain ⟨h6, h⟩ := He.ba h
  obtain ⟨h7, h⟩ := He.ba h
  obtain ⟨h8, h9⟩ := He.ba h
  have X := xfB_ok h5
  exact ⟨⟨exCls_ok h1, He.eqO_ok h2, X.exC, of_decide_eq_true h3, h4⟩, X, He.eqO_ok h6, of_decide_eq_true h7, He.eqO_ok h8, of_decide_eq_true h9⟩
/-- the i-th own class, of the name x; its methods; has it an own __eq__; xs: all the classes -/
structure ClD where
  i : Nat
  x : Str
  ms : List Str
  eq : Bool
  others : List Str
  tups : List (Str × List He.Dv)
  exs : List (Str × Str)
def ClD.ok0 (K : PySem.W.Frag) (d : ClD) : Bool :=
  (He.Fa.cls d.x).ok K && ((clsNames d.i).all (fun f => (He.Fa.noat d.x f).ok K) && ((He.Fa.mkr d.x).ok K && (d.ms.all (fun m => (He.Fa.meth d.x m).ok K) &&
  (He.eqO (PySem.W.findIn K (.ref (He.ga K d.x)) "__class__") (some (some (.builtin "object.__class__"))) && (decide (PySem.W.mroIn K (He.ga K d.x) (.type "object") = some true) &&
  (tyAsk.all (fun T => decide (PySem.W.kitOne K (.ref (He.ga K d.x)) (.type T) = some false)) && (tyAll.all (fun T => decide (PySem.W.kitOne K (.type T) (.ref (He.ga K d.x)) = some false)) &&
  ((!d.eq || eqOwn K (He.ga K d.x) (He.ma K (He.ga K d.x) "__eq__")) && d.others.all (fun y => decide (PySem.W.kitOne K (.ref (He.ga K d.x)) (.ref (He.ga K y)) = some false))))))))))
/-- .. and the module's tuples, told with a class -/
def ClD.ok (K : PySem.W.Frag) (d : ClD) : Bool := d.ok0 K && ((d.tups.all fun t => He.tupB K t.1 t.2) && d.exs.all fun t => exB K t.1 t.2)
/-- of every class -/
def clAll (K : PySem.W.Frag) : Bool := He.eqO (PySem.W.specialIn K (.builtin "object.__class__") "__get__") (some (some (.builtin "getset_descriptor.__get__"))) && decide (PySem.W.takesIn K (.builtin "object.__class__") = some true)
abbrev AlM : Type := Bool × He.AlD × List He.FnW
def obsM (fa : List He.Fa) (fn : List He.DefD) (pr : List PrD) (cl : List ClD) (K : PySem.W.Frag) : AlM := (clAll K && (cl.all (fun d => d.ok K) && pr.all (fun d => d.ok K)), He.obsD fa fn K, pr.map fun d => fnWa K (pgA K d))
def valM (fn : List He.DefD) (pr : List PrD) : AlM := (true, He.valD fn, pr.map PrD.val)
def SaysM (fa : List He.Fa) (fn : List He.DefD) (pr : List PrD) (cl : List ClD) (K : PySem.W.Frag) : Prop := obsM fa fn pr cl K = valM fn pr
/-- all that is reached from the module's names: n turns, those met as a bit mask -/
def bmGo (g : Addr → Option Obj) : Nat → Nat → List Addr → List Addr → List Addr
  | 0, _, _, acc => acc
  | n + 1, mask, todo, acc => match todo with
    | [] => acc
    | a :: r => if Nat.land (Nat.shiftRight mask a) 1 = 1 then bmGo g n mask r acc else match g a with
      | none => bmGo g n mask r acc
      | some o => bmGo g n (Nat.lor mask (Nat.shiftLeft 1 a)) (r ++ He.refsD o) (a :: acc)
def obsMG (n : Nat) (fa : List He.Fa) (fn : List He.DefD) (pr : List PrD) (cl : List ClD) (g : Addr → Option Obj) : AlM := obsM fa fn pr cl (He.frG g (bmGo g (n * 20000) 0 [mainGlobals] []).reverse)
def hookM (n : Nat) (fa : List He.Fa) (fn : List He.DefD) (pr : List PrD) (cl : List ClD) : PySem.W.Hook where
  α := AlM
  obs := fun s => obsMG n fa fn pr cl s.heap.get?
  val := fun _ => valM fn pr
  says := fun _ h => ∃ K : PySem.W.Frag, K.In h ∧ SaysM fa fn pr cl K
  of := fun _ _ e => ⟨_, He.frG_in, e⟩
  keeps := fun _ _ _ ⟨K, hK, c⟩ k => ⟨K, PySem.W.Frag.In.keeps hK k, c⟩
theorem obsMG_eq {n : Nat} {fa : List He.Fa} {fn : List He.DefD} {pr : List PrD} {cl : List ClD} {g : Addr → Option Obj} {s : Shared} (h : ∀ a, g a = s.heap.get? a) : obsMG n fa fn pr cl g = (hookM n fa fn pr cl).obs s := by
  have e : g = s.heap.get? := funext h
  rw [e] <;> rfl
/-- what is known of one own class -/
structure ClsOk (K : PySem.W.Frag) (i : Nat) (x : Str) (ms : List Str) (others : List Str) : Prop where
  obj : ObjC K (He.ga K x)
  noat : ∀ f ∈ clsNames i, NoAttr K (He.ga K x) f
  mkr : Mk K (He.ga K x) (He.ma K (He.ga K x) "__init__")
  meth : ∀ m ∈ ms, Meth K (He.ga K x) m (He.ma K (He.ga K x) m)
  ask : ∀ T ∈ tyAsk, PySem.W.kitOne K (.ref (He.ga K x)) (.type T) = some false
  all : ∀ T ∈ tyAll, PySem.W.kitOne K (.type T) (.ref (He.ga K x)) = some false
  oth : ∀ y ∈ others, PySem.W.kitOne K (.ref (He.ga K x)) (.ref (He.ga K y)) = some false
theorem ClD.get {K : PySem.W.Frag} {d : ClD} (h0 : clAll K = true) (c : d.ok K = true) : ClsOk K d.i d.x d.ms d.others ∧ (d.eq = true → eqOwn K (He.ga K d.x) (He.ma K (He.ga K d.x) "__eq__") = true) := by
  obtain ⟨a1, a2⟩ := He.ba h0
  obtain ⟨c, _⟩ := He.ba c
  obtain ⟨c1, c⟩ := He.ba c
  obtain ⟨c2, c⟩ := He.ba c
  obtain ⟨c3, c⟩ := He.ba c
  obtain ⟨c4, c⟩ := He.ba c
  obtain ⟨c5, c⟩ := He.ba c
  obtain ⟨c6, c⟩ := He.ba c
  obtain ⟨c7, c⟩ := He.ba c
  obtain ⟨c8, c⟩ := He.ba c
  obtain ⟨c9, c10⟩ := He.ba c
  obtain ⟨m1, m⟩ := He.ba c3
  obtain ⟨m2, m⟩ := He.ba m
  obtain ⟨m3, m4⟩ := He.ba m
  refine ⟨⟨⟨He.cls_ok c1, He.eqO_ok c5, He.eqO_ok a1, of_decide_eq_true a2, of_decide_eq_true c6⟩, fun f hf => He.noat_ok (List.all_eq_true.mp c2 f hf), ⟨m1, He.eqO_ok m2, m3, m4⟩, fun m hm => He.meth_ok (List.all_eq_true.mp c4 m hm),
    fun T hT => of_decide_eq_true (List.all_eq_true.mp c7 T hT), fun T hT => of_decide_eq_true (List.all_eq_true.mp c8 T hT), fun y hy => of_decide_eq_true (List.all_eq_true.mp c10 y hy)⟩, fun he => ?_⟩
  rw [he] at c9
  exact c9
section
variable {fa : List He.Fa} {fn : List He.DefD} {pr : List PrD} {cl : List ClD} {K : PySem.W.Frag}
theorem SaysM.d (c : SaysM fa fn pr cl K) : He.SaysD fa fn K := congrArg (fun z : AlM => z.2.1) c
theorem SaysM.b (c : SaysM fa fn pr cl K) : (clAll K && (cl.all (fun d => d.ok K) && pr.all (fun d => d.ok K))) = true := congrArg (fun z : AlM => z.1) c
theorem SaysM.cls (c : SaysM fa fn pr cl K) (i : Nat) {d : ClD} (h : cl[i]? = some d := by rfl) : ClsOk K d.i d.x d.ms d.others ∧ (d.eq = true → eqOwn K (He.ga K d.x) (He.ma K (He.ga K d.x) "__eq__") = true) := by
  obtain ⟨c1, c2⟩ := He.ba c.b
  exact ClD.get c1 (List.all_eq_true.mp (He.ba c2).1 d (List.mem_of_getElem? h))
theorem SaysM.tup (c : SaysM fa fn pr cl K) (i : Nat) {d : ClD} {x : Str} {vs : List He.Dv} (hm : (x, vs) ∈ d.tups) (h : cl[i]? = some d := by rfl) (H : Hp) : SqT K H (He.ga K x) (vs.map (He.Dv.v K)) := by
  obtain ⟨b1, b2⟩ := He.ba c.b
  obtain ⟨b3, _⟩ := He.ba b2
  have h1 := List.all_eq_true.mp b3 d (List.mem_of_getElem? h)
  exact He.tupB_ok (List.all_eq_true.mp (He.ba (He.ba h1).2).1 (x, vs) hm) H
theorem SaysM.exc (c : SaysM fa fn pr cl K) (i : Nat) {d : ClD} {x f : Str} (hm : (x, f) ∈ d.exs) (h : cl[i]? = some d := by rfl) : ExOk K x f := by
  obtain ⟨b1, b2⟩ := He.ba c.b
  obtain ⟨b3, _⟩ := He.ba b2
  have h1 := List.all_eq_true.mp b3 d (List.mem_of_getElem? h)
  exact exB_ok (List.all_eq_true.mp (He.ba (He.ba h1).2).2 (x, f) hm)
theorem SaysM.prop (c : SaysM fa fn pr cl K) (i : Nat) {d : PrD} (h : pr[i]? = some d := by rfl) : (∃ fd, FunD K d.prop d.qual d.params d.body d.scope [] [] (pgA K d) fd) ∧ PropOf K (He.ga K d.cls) d.prop (He.ma K (He.ga K d.cls) d.prop) (pgA K d) := by
  obtain ⟨c1, c2⟩ := He.ba c.b
  have e : (pr.map fun d => fnWa K (pgA K d)) = pr.map PrD.val := congrArg (fun z : AlM => z.2.2) c
  have e2 : (pr.map fun d => fnWa K (pgA K d))[i]? = (pr.map PrD.val)[i]? := by rw [e]
  rw [List.getElem?_map, List.getElem?_map, h] at e2
  exact PrD.get (Option.some.inj e2) (List.all_eq_true.mp (He.ba c2).2 d (List.mem_of_getElem? h))
end
/-! ### isinstance's answers -/
theorem kit_b {K : PySem.W.Frag} {ct : Nat → Addr} {ncl : Nat} {T : String} (hT : T ∈ tyAsk) (h : ∀ c, c < ncl → PySem.W.kitOne K (.ref (ct c)) (.type T) = some false) : ∀ d t, tyD ncl d = some t → PySem.W.kitOne K (tyV' ct t) (.type T) = some (isB T t) := by
  intro d t ht
  have hT : T = "int" ∨ T = "bool" ∨ T = "str" ∨ T = "list" ∨ T = "tuple" ∨ T = "dict" := by simpa [tyAsk] using hT
  have hobj : ∀ c, t = .obj c → c < ncl := fun c e => by
    cases d with
    | obj c' ds =>
      have ht : (if c' < ncl then some (MM.TyK.obj c') else none) = some t := ht
      split at ht
      · cases ht; cases e; assumption
      · cases ht
    | non => cases ht; cases e
    | bl b => cases ht; cases e
    | int b => cases ht; cases e
    | str b => cases ht; cases e
    | lst b => cases ht; cases e
    | tup b => cases ht; cases e
    | dic b => cases ht; cases e
    | scr b => cases ht
    | rng _ _ => cases ht
  cases t with
  | obj c => exact h c (hobj c rfl)
  | non => rcases hT with rfl | rfl | rfl | rfl | rfl | rfl <;> exact kit_ty (by decide +kernel)
  | bl => rcases hT with rfl | rfl | rfl | rfl | rfl | rfl <;> exact kit_ty (by decide +kernel)
  | int => rcases hT with rfl | rfl | rfl | rfl | rfl | rfl <;> exact kit_ty (by decide +kernel)
  | str => rcases hT with rfl | rfl | rfl | rfl | rfl | rfl <;> exact kit_ty (by decide +kernel)
  | lst => rcases hT with rfl | rfl | rfl | rfl | rfl | rfl <;> exact kit_ty (by decide +kernel)
  | tup => rcases hT with rfl | rfl | rfl | rfl | rfl | rfl <;> exact kit_ty (by decide +kernel)
  | dic => rcases hT with rfl | rfl | rfl | rfl | rfl | rfl <;> exact kit_ty (by decide +kernel)
theorem kit_o {K : PySem.W.Frag} {ct : Nat → Addr} {ncl c : Nat} (h : ∀ T ∈ tyAll, PySem.W.kitOne K (.type T) (.ref (ct c)) = some false) (ho : ∀ c', c' < ncl → c' ≠ c → PySem.W.kitOne K (.ref (ct c')) (.ref (ct c)) = some false) :
    ∀ d t, tyD ncl d = some t → PySem.W.kitOne K (tyV' ct t) (.ref (ct c)) = some (isO c t) := by
  intro d t ht
  cases d with
  | obj c' ds =>
    have ht : (if c' < ncl then some (MM.TyK.obj c') else none) = some t := ht
    split at ht
    · rename_i hc
      cases ht
      by_cases e : c' = c
      · subst e
        show PySem.W.kitOne K (.ref (ct c')) (.ref (ct c')) = some (c' == c')
        unfold PySem.W.kitOne
        rw [if_pos (by simp)]
        simp
      · show PySem.W.kitOne K (.ref (ct c')) (.ref (ct c)) = some (c' == c)
        rw [ho c' hc e, beq_eq_false_iff_ne.mpr e]
    · cases ht
  | non => cases ht; exact h _ (by decide)
  | bl b => cases ht; exact h _ (by decide)
  | int b => cases ht; exact h _ (by decide)
  | str b => cases ht; exact h _ (by decide)
  | lst b => cases ht; exact h _ (by decide)
  | tup b => cases ht; exact h _ (by decide)
  | dic b => cases ht; exact h _ (by decide)
  | scr b => cases ht
  | rng _ _ => cases ht
theorem kit_2 {K : PySem.W.Frag} {t c1 c2 : Value} {b1 b2 : Bool} (h1 : PySem.W.kitOne K t c1 = some b1) (h2 : PySem.W.kitOne K t c2 = some b2) : PySem.W.kitAny K t [c1, c2] = some (b1 || b2) := by
  refine kitAny_cons h1 (fun e => ?_) (fun e => by rw [e]; rfl)
  subst e
  refine kitAny_cons h2 (fun e => ?_) (fun e => by rw [e]; rfl)
  subst e
  rfl
/-! ### the law's end -/
theorem cx_none {P : Program} {w : World} {H : Hp} {s : Shared} {e : Value} {s' : Shared} (h : L2.CX P w [] H s (fun _ _ _ => False) e s') : False := by
  obtain ⟨_, _, _, _, _, _, _, _, _, _, _, _, z⟩ := h
  exact z
theorem walkM {l : PySem.W.OpenLaw} {n k : Nat} {q : Program} {loose : List Str} {XP : (Str → Option Value) → Heap → Prop} {YP : World → Heap → Prop} {d : DefRec} {x : Str} {F : List EV → Out}
    (hn : l.most = some n) (hn2 : n ≤ sizeLine) (hdf : d.params.defaults = []) (hr : Room k callerA)
    (hF : ∀ (w : World) (mg : Str → Option Value) (fa : Addr) (h : Heap), YP w h → h.Ns mainGlobals mg → mg d.name = some (.ref fa) →
      ∃ (K : PySem.W.Frag) (ct : Nat → Addr) (fd : FuncData), K.In h ∧ (∀ (s : Shared) (u : Value), BindsTo s fd ⟨[u], []⟩ [(x, u)]) ∧ ∀ base : Heap, K.In base → base.Ns mainGlobals mg → FnOk l.prog w K mg base (L2.CX l.prog w) k fa fd [x] (spM ⟨K, ct⟩ F))
    (law : ∀ ns : List Int, ns.length ≤ n → (∀ i ∈ ns, Builtin.Int.intBits i ≤ 1048576) → ∃ ps, F [.d (.scr ns)] = .ret (.d (.bl true)) ps) :
    PySem.W.WalkO q loose XP YP l.row.toRowW d [] (fun f vs => PySem.call f vs) := by
  refine Att.attach_callB hn hdf fun w s₀ s₁ mg mb fa o pm cd doc a vs ns G Y ho hd hcd hmg hobj hints hlen hbits hg => ?_
  obtain ⟨K, ct, fd, KX, hb, hF⟩ := hF w mg fa _ Y G.T.g hmg
  refine law_call KX G.T.g G.T.b G.T.builtins G.T.nolimit hg hobj hints (Nat.le_trans hlen hn2) hr hF hb (fun H hO hS => ?_) fun H e s' h => cx_none h
  obtain ⟨ps, hl⟩ := law ns hlen hbits
  refine ⟨H, [.d (.scr ns)], Same.refl _, ⟨rfl, fun i y hy => ?_, fun i j b h _ => ?_⟩, ?_⟩
  · cases i with
    | zero => cases hy; exact ⟨.ref a, rfl, .scr hS⟩
    | succ i => simp at hy
  · obtain ⟨⟨y, hy⟩, _⟩ := pinA_ok h
    cases i with
    | zero => simp at hy
    | succ i => simp at hy
  · rw [hl]
    intro G' H' v _ hv
    have hv : Rp ⟨K, ct⟩ G' v (.bl true) := hv
    cases hv
    rfl
end MM
end
section
set_option Elab.async false
set_option linter.all false
set_option maxRecDepth 100000
set_option maxHeartbeats 0
namespace K17
open PySem PySem.Spec L2 MM
def top (i : Nat) : Stmt := PySem.Challenge.pw_flippedpoints_k17_whole_any_text_as_a_se.main.body.getD i (.Pass ⟨0, 0, 0, 0⟩)
def dfn : List He.DefD := [⟨("_law_pot", none), "_law_pot", "_law_pot", defArgs (top 37), defBody (top 37), defScope (top 37), [], []⟩, ⟨("_law_draw", none), "_law_draw", "_law_draw", defArgs (top 38), defBody (top 38), defScope (top 38), [], []⟩, ⟨("_law_pick", none), "_law_pick", "_law_pick", defArgs (top 39), defBody (top 39), defScope (top 39), [], []⟩, ⟨("_law_bent", none), "_law_bent", "_law_bent", defArgs (top 45), defBody (top 45), defScope (top 45), [], []⟩, ⟨("_law_tracks", none), "_law_tracks", "_law_tracks", defArgs (top 40), defBody (top 40), defScope (top 40), [], []⟩, ⟨("_law_net", none), "_law_net", "_law_net", defArgs (top 41), defBody (top 41), defScope (top 41), [], []⟩, ⟨("_law_is_figures", none), "_law_is_figures", "_law_is_figures", defArgs (top 42), defBody (top 42), defScope (top 42), [], []⟩, ⟨("_law_read", none), "_law_read", "_law_read", defArgs (top 43), defBody (top 43), defScope (top 43), [], []⟩, ⟨("figures_read", none), "figures_read", "figures_read", defArgs (top 30), defBody (top 30), defScope (top 30), [], []⟩, ⟨("setting_read", none), "setting_read", "setting_read", defArgs (top 31), defBody (top 31), defScope (top 31), [], []⟩, ⟨("BadText", some "__init__"), "__init__", "BadText.__init__", defArgs (inClass (top 5) 0), defBody (inClass (top 5) 0), defScope (inClass (top 5) 0), [], []⟩, ⟨("setting_in", none), "setting_in", "setting_in", defArgs (top 32), defBody (top 32), defScope (top 32), [], []⟩, ⟨("want_net", none), "want_net", "want_net", defArgs (top 23), defBody (top 23), defScope (top 23), [], []⟩, ⟨("want_string", none), "want_string", "want_string", defArgs (top 33), defBody (top 33), defScope (top 33), [], []⟩, ⟨("setting_of", none), "setting_of", "setting_of", defArgs (top 35), defBody (top 35), defScope (top 35), [], []⟩, ⟨("_law_told", none), "_law_told", "_law_told", defArgs (top 44), defBody (top 44), defScope (top 44), [], []⟩, ⟨("is_integer", none), "is_integer", "is_integer", defArgs (top 10), defBody (top 10), defScope (top 10), [], []⟩, ⟨("is_count", none), "is_count", "is_count", defArgs (top 11), defBody (top 11), defScope (top 11), [], []⟩, ⟨("is_list", none), "is_list", "is_list", defArgs (top 12), defBody (top 12), defScope (top 12), [], []⟩, ⟨("is_setting_of", none), "is_setting_of", "is_setting_of", defArgs (top 24), defBody (top 24), defScope (top 24), [], []⟩, ⟨("want_setting", none), "want_setting", "want_setting", defArgs (top 25), defBody (top 25), defScope (top 25), [], []⟩, ⟨("setting_text", none), "setting_text", "setting_text", defArgs (top 34), defBody (top 34), defScope (top 34), [], []⟩, ⟨("is_target_of", none), "is_target_of", "is_target_of", defArgs (top 19), defBody (top 19), defScope (top 19), [], []⟩, ⟨("is_exits_row", none), "is_exits_row", "is_exits_row", defArgs (top 20), defBody (top 20), defScope (top 20), [], []⟩, ⟨("want_at_most", none), "want_at_most", "want_at_most", defArgs (top 13), defBody (top 13), defScope (top 13), [], []⟩, ⟨("want_exits", none), "want_exits", "want_exits", defArgs (top 21), defBody (top 21), defScope (top 21), [], []⟩, ⟨("Net", some "lay"), "lay", "Net.lay", defArgs (inClass (top 22) 1), defBody (inClass (top 22) 1), defScope (inClass (top 22) 1), [], []⟩, ⟨("Net", some "__init__"), "__init__", "Net.__init__", defArgs (inClass (top 22) 0), defBody (inClass (top 22) 0), defScope (inClass (top 22) 0), [], []⟩, ⟨("_law_right", none), "_law_right", "_law_right", defArgs (top 46), defBody (top 46), defScope (top 46), [], []⟩, ⟨("law", none), "law", "law", defArgs (top 47), defBody (top 47), defScope (top 47), [], []⟩]
def pr : List PrD := []
def cd0 : ClD := ⟨0, "Net", ["__init__", "lay"], true, [], [], [("BadText", "line")]⟩
def cl : List ClD := [cd0]
def fa : List He.Fa := [.glo "_law_pot", .glo "_law_draw", .glo "_law_pick", .glo "_law_bent", .glo "_law_tracks", .glo "_law_net", .glo "_law_is_figures", .glo "_law_read", .glo "figures_read", .glo "setting_read", .glo "setting_in", .glo "want_net", .glo "want_string", .glo "setting_of", .glo "_law_told", .glo "is_integer", .glo "is_count", .glo "is_list", .glo "is_setting_of", .glo "want_setting", .glo "setting_text", .glo "is_target_of", .glo "is_exits_row", .glo "want_at_most", .glo "want_exits", .glo "_law_right", .glo "law", .glo "Net", .glo "BadText", .free "repr", .free "len", .free "range", .free "zip", .free "enumerate", .free "isinstance", .free "int", .free "bool", .free "list", .free "tuple", .free "sorted", .free "set", .free "sum", .free "any", .free "all", .free "max", .free "min", .free "abs", .free "divmod", .free "dict", .free "str", .int "MOST_ENDS" 6, .int "MOST_POINTS" 24, .int "MOST_EXITS" 6, .int "MOST_TRACKS" 60, .int "MOST_FIGURES_READ" 2, .str "__name__" "law_flippedpoints_k17_whole_any_text_as_a_se", .str "FIGURES" "0123456789", .str "NEXT_WORD" "next"]
abbrev R : PySem.W.OpenRow := PySem.W.OpenLaw.row PySem.Challenge.rw_flippedpoints_k17_whole_any_text_as_a_se
abbrev hk : PySem.W.Hook := hookM 7 fa dfn pr cl
def ob (s : PySem.W.SharedT) : AlM := obsMG 7 fa dfn pr cl (HandSHeadRun.getT s)
theorem ob_eq (s : PySem.W.SharedT) : ob s = hk.obs s.abs := obsMG_eq (HandSHeadRun.getT_eq s)
def loose : List PySem.Str := (["is_integer", "is_count", "is_list", "want_at_most", "is_target_of", "is_exits_row", "want_exits", "want_net", "is_setting_of", "want_setting", "figures_read", "setting_read", "setting_in", "want_string", "setting_text", "setting_of", "_law_pot", "_law_draw", "_law_pick", "_law_tracks"] : List PySem.Str) ++ (["_law_net", "_law_is_figures", "_law_read", "_law_told", "_law_bent", "_law_right", "TrackError", "LimitError", "InvalidNet", "InvalidSetting", "BadText", "InvalidEnds", "InvalidExits", "TooMany", "Net", "MOST_ENDS", "MOST_POINTS", "MOST_EXITS", "MOST_TRACKS", "FIGURES"] : List PySem.Str) ++ (["MOST_FIGURES_READ", "NEXT_WORD"] : List PySem.Str)
theorem run (w : World) : HandSHeadRun.RunEq R (PySem.W.view R.prog [47]) hk ob 8000 loose w := by
  intro os
  kernel_rfl
end K17
end
section
set_option Elab.async false
set_option linter.all false
set_option autoImplicit false
set_option maxRecDepth 100000
set_option maxHeartbeats 4000000
namespace MM
open PySem PySem.Spec L2
theorem hu1 {k : Nat} {A : Around} (hr : Room k A) : A.units + 1 < cLine := by have := hr.un; omega
theorem pa_cls2 {X : Cx} {a b : Expr} {v1 v2 : V} (h1 : PE X a (tC v1)) (h2 : PE X b (tC v2)) (hs : starEach [a, b] X.env = (false, eval a X.env) :: starEach [b] X.env := by rfl) (hs2 : starEach [b] X.env = (false, eval b X.env) :: starEach [] X.env := by rfl) : PA X [a, b] (fun _ H Q => Q [v1, v2] H) := pa_cons h1 (pa_cons h2 pa_nil hs2) hs
theorem pg_nm {X : Cx} (i : Nat) {x : Str} {pos : Pos} (hN : X.N.Nodup) (hi : X.N[i]? = some x := by rfl) (hx : Loc X.env.scope x := by first | exact Or.inl rfl | exact Or.inr rfl) (hf : X.fn x = true ∨ X.env.scope.names.lookup x = some .local := by first | exact .inl rfl | exact .inr rfl) : PG X (.Name x pos) (gName i) := pg_name hN hi hx hf
section
variable {k : Kc} {W : WX} {c : Fr} {G H : Hp} {σ : L2.St} {e : Env} {Dn : Ends} {i j l : Nat} {fa fb fc : EM EV}
/-- two values are reckoned, then stored -/
theorem par2_core {R : V → V → Hp → Prop} (r : RepS k c G σ H e) (p : PostS k W c G Dn (sPar2 i j fa fb e))
    (hR : ∀ G2 H2 e2 e3 e4 v u va vb, RepS k c G2 σ H2 e2 → RpV k c G2 σ H2 e2 v va → RpV k c G2 σ H2 e2 u vb → (va.own = true → vb.own = true → u ≠ v) → pput i va e2 = some e3 → pput j vb e3 = some e4 → PostS k W c G2 Dn (.nx e4) → R v u H2) :
    TV k W fa σ H fun v H1 => TV k W fb σ H1 fun u H2 => R v u H2 := by
  refine ⟨c, G, e, r, (PostS.sb p).imp fun G1 H1 e1 va s1 r1 p1 v hv => ⟨hold c H1 v va, G1, e1, hold_in r1 hv, ?_⟩⟩
  have p1' : PostS k W c G1 Dn ((fb e1).sb fun y e2 => match pput i va e2 with
    | some e3 => (match pput j y e3 with
      | some e4 => .nx e4
      | none => .stuck)
    | none => .stuck) := p1
  cases h2 : fb e1 with
  | stuck => rw [h2] at p1'; exact p1'.elim
  | exc xx e2 =>
    rw [h2] at p1'
    intro G2 H2 cls dc s2 r2 hx2
    obtain ⟨r2', _, _⟩ := hold_out r1 hv s2 r2
    exact p1' G2 σ H2 cls dc s2 r2' hx2
  | ok vb e2 =>
    rw [h2] at p1'
    intro G2 H2 s2 r2 u hu
    obtain ⟨r2', hv2, hm⟩ := hold_out r1 hv s2 r2
    have p3 : PostS k W c G1 Dn (match pput i va e2 with
      | some e3 => (match pput j vb e3 with
        | some e4 => .nx e4
        | none => .stuck)
      | none => .stuck) := p1'
    split at p3
    · rename_i e3 h3
      split at p3
      · rename_i e4 h4
        exact hR G2 H2 e2 e3 e4 v u va vb r2' hv2 (hu.out hm) (hv_ne hu hm) h3 h4 (PostS.mono p3 s2)
      · exact p3.elim
    · exact p3.elim
/-- three of them -/
theorem par3_core {R : V → V → V → Hp → Prop} (r : RepS k c G σ H e) (p : PostS k W c G Dn (sPar3 i j l fa fb fc e))
    (hR : ∀ G2 H2 e2 e3 e4 e5 v u z va vb vc, RepS k c G2 σ H2 e2 → RpV k c G2 σ H2 e2 v va → RpV k c G2 σ H2 e2 u vb → RpV k c G2 σ H2 e2 z vc → (va.own = true → vb.own = true → u ≠ v) → (va.own = true → vc.own = true → z ≠ v) → (vb.own = true → vc.own = true → z ≠ u) →
      pput i va e2 = some e3 → pput j vb e3 = some e4 → pput l vc e4 = some e5 → PostS k W c G2 Dn (.nx e5) → R v u z H2) :
    TV k W fa σ H fun v H1 => TV k W fb σ H1 fun u H2 => TV k W fc σ H2 fun z H3 => R v u z H3 := by
  refine ⟨c, G, e, r, (PostS.sb p).imp fun G1 H1 e1 va s1 r1 p1 v hv => ⟨hold c H1 v va, G1, e1, hold_in r1 hv, ?_⟩⟩
  have p1' : PostS k W c G1 Dn ((fb e1).sb fun y e2 => (fc e2).sb fun z e3 => match pput i va e3 with
    | some e4 => (match pput j y e4 with
      | some e5 => (match pput l z e5 with
        | some e6 => .nx e6
        | none => .stuck)
      | none => .stuck)
    | none => .stuck) := p1
  cases h2 : fb e1 with
  | stuck => rw [h2] at p1'; exact p1'.elim
  | exc xx e2 =>
    rw [h2] at p1'
    intro G2 H2 cls dc s2 r2 hx2
    obtain ⟨r2', _, _⟩ := hold_out r1 hv s2 r2
    exact p1' G2 σ H2 cls dc s2 r2' hx2
  | ok vb e2 =>
    rw [h2] at p1'
    intro G2 H2 s2 r2 u hu
    refine ⟨hold (hold c H1 v va) H2 u vb, G2, e2, hold_in r2 hu, ?_⟩
    have p2' : PostS k W c G1 Dn ((fc e2).sb fun z e3 => match pput i va e3 with
      | some e4 => (match pput j vb e4 with
        | some e5 => (match pput l z e5 with
          | some e6 => .nx e6
          | none => .stuck)
        | none => .stuck)
      | none => .stuck) := p1'
    cases h3 : fc e2 with
    | stuck => rw [h3] at p2'; exact p2'.elim
    | exc xx e3 =>
      rw [h3] at p2'
      intro G3 H3 cls dc s3 r3 hx3
      obtain ⟨r3', _, _⟩ := hold_out r2 hu s3 r3
      obtain ⟨r3'', _, _⟩ := hold_out r1 hv (s2.trans s3) r3'
      exact p2' G3 σ H3 cls dc (s2.trans s3) r3'' hx3
    | ok vc e3 =>
      rw [h3] at p2'
      intro G3 H3 s3 r3 z hz
      obtain ⟨r3', hu3, hm2⟩ := hold_out r2 hu s3 r3
      obtain ⟨r3'', hv3, hm1⟩ := hold_out r1 hv (s2.trans s3) r3'
      have p3 : PostS k W c G1 Dn (match pput i va e3 with
        | some e4 => (match pput j vb e4 with
          | some e5 => (match pput l vc e5 with
            | some e6 => .nx e6
            | none => .stuck)
          | none => .stuck)
        | none => .stuck) := p2'
      have hz1 := hz.out hm2
      split at p3
      · rename_i e4 h4
        split at p3
        · rename_i e5 h5
          split at p3
          · rename_i e6 h6
            exact hR G3 H3 e3 e4 e5 e6 v u z va vb vc r3'' hv3 (hu3.out hm1) (hz1.out hm1) (hv_ne hu3 hm1) (hv_ne hz1 hm1) (hv_ne hz hm2) h4 h5 h6 (PostS.mono p3 (s2.trans s3))
          · exact p3.elim
        · exact p3.elim
      · exact p3.elim
theorem RpV.lay {v : V} {x : EV} {q : Addr} {o : HO} (h : RpV k c G σ H e v x) (hq : H q = none) : RpV k c G σ (upd H q o) e v x := by
  cases x with
  | d d => exact h
  | p y => exact h
  | m y =>
    obtain ⟨a, e1, ⟨m1, m2, o', m3, m4⟩, l⟩ := h
    exact ⟨a, e1, ⟨m1, m2, o', by rw [upd_ne (ne_of_none m3 hq)]; exact m3, m4⟩, l⟩
  | t _ _ => first | exact h2.elim | exact trivial | cases hw | exact hv.elim | exact h.elim | exact hx.elim | exact hu.elim | cases hy | cases h' | cases hd' | cases h2 | cases h1 | cases hd | cases h3 | cases h4
end
section
variable {X : Cx} {ct : Nat → Addr} {W : WX} {i j l : Nat} {x y z : Str} {a b c : Expr} {fa fb fc : EM EV} {px py pz pt pos : Pos} {kt k2 : Nat} {pt2 : Pos}
/-- by a tuple (a name is a cell) -/
theorem s_par2T (hc : X.calm = true) (hx : PG X (.Name x px) (gName i)) (hy : PG X (.Name y py) (gName j)) (ha : SV X ct W a fa) (hb : SV X ct W b fb)
    (hs : swapsWithSole [.Tuple [.Name x px, .Name y py] kt pt] (.Tuple [a, b] k2 pt2) pos.line X.env = pure false := by rfl)
    (hw : swappedStores [.Tuple [.Name x px, .Name y py] kt pt] (.Tuple [a, b] k2 pt2) X.env = pure none := by rfl)
    (h1 : starEach [a, b] X.env = (false, eval a X.env) :: starEach [b] X.env := by rfl) (h2 : starEach [b] X.env = (false, eval b X.env) :: starEach [] X.env := by rfl)
    (h3 : (assignEach [.Tuple [.Name x px, .Name y py] kt pt] X.env).map (·.2) = [assign (.Tuple [.Name x px, .Name y py] kt pt) X.env] := by rfl)
    (h4 : (assignEach [.Name x px, .Name y py] X.env).length = 2 := by rfl) (h5 : (assignEach [.Name x px, .Name y py] X.env).findIdx? (·.1) = none := by rfl)
    (h6 : (assignEach [.Name x px, .Name y py] X.env).map (·.2) = assign (.Name x px) X.env :: (assignEach [.Name y py] X.env).map (·.2) := by rfl) (h7 : (assignEach [.Name y py] X.env).map (·.2) = assign (.Name y py) X.env :: (assignEach [] X.env).map (·.2) := by rfl) :
    SS X ct W (.Assign [.Tuple [.Name x px, .Name y py] kt pt] (.Tuple [a, b] k2 pt2) pos) (sPar2 i j fa fb) :=
  PSw (ps_asg (pe_tup (pa_cons ha (pa_cons hb pa_nil h2) h1)) (pg_tup hc (pgs_cons hx (pgs_cons hy pgs_nil h7) h6) h4 h5) hs hw h3) fun Dn σ H q => by
  obtain ⟨c, G, e, r, p⟩ := q
  refine par2_core r p fun G2 H2 e2 e3 e4 v u va vb r2 hv hu ne g1 g2 pn => ⟨by rw [sizeLine_eq, List.length_cons, List.length_cons]; simp, fun q hq => ?_⟩
  have r3 := r2.layM (o := .tup [v, u]) hq
  obtain ⟨r4, k4⟩ := pput_ok r3 (hv.lay hq) g1
  obtain ⟨r5, _⟩ := pput_ok r4 (k4 vb u (hu.lay hq) ne) g2
  exact ⟨q, [v, u], rfl, .inl (.inl upd_same), rfl, v, [u], rfl, u, [], rfl, rfl, pn G2 _ _ (Same.refl _) r5⟩
theorem s_par3 (hc : X.calm = true) (hN : X.N.Nodup) (hi : X.N[i]? = some x) (hj : X.N[j]? = some y) (hl : X.N[l]? = some z) (hij : i ≠ j) (hil : i ≠ l) (hjl : j ≠ l)
    (hx : X.env.scope.names.lookup x = some .local) (hy : X.env.scope.names.lookup y = some .local) (hz : X.env.scope.names.lookup z = some .local) (ha : SV X ct W a fa) (hb : SV X ct W b fb) (hcc : SV X ct W c fc)
    (hw : swappedStores [.Tuple [.Name x px, .Name y py, .Name z pz] kt pt] (.Tuple [a, b, c] k2 pt2) X.env = pure (some [x, y, z]))
    (hs : swapsWithSole [.Tuple [.Name x px, .Name y py, .Name z pz] kt pt] (.Tuple [a, b, c] k2 pt2) pos.line X.env = pure false := by rfl)
    (h1 : starEach [a, b, c] X.env = (false, eval a X.env) :: starEach [b, c] X.env := by rfl) (h2 : starEach [b, c] X.env = (false, eval b X.env) :: starEach [c] X.env := by rfl) (h3 : starEach [c] X.env = (false, eval c X.env) :: starEach [] X.env := by rfl) :
    SS X ct W (.Assign [.Tuple [.Name x px, .Name y py, .Name z pz] kt pt] (.Tuple [a, b, c] k2 pt2) pos) (sPar3 i j l fa fb fc) :=
  PSw (ps_par3 hc hN hi hj hl hij hil hjl hx hy hz (pa_cons ha (pa_cons hb (pa_cons hcc pa_nil h3) h2) h1) hw hs) fun Dn σ H q => by
  obtain ⟨c, G, e, r, p⟩ := q
  refine par3_core r p fun G2 H2 e2 e3 e4 e5 v u w va vb vc r2 hv hu hz n1 n2 n3 g1 g2 g3 pn => ?_
  obtain ⟨r3, k3⟩ := pput_ok r2 hv g1
  obtain ⟨r4, k4⟩ := pput_ok r3 (k3 vb u hu n1) g2
  obtain ⟨r5, _⟩ := pput_ok r4 (k4 vc w (k3 vc w hz n2) n3) g3
  exact ⟨v, u, w, rfl, pn G2 _ _ (Same.refl _) r5⟩
theorem s_par3T (hc : X.calm = true) (hx : PG X (.Name x px) (gName i)) (hy : PG X (.Name y py) (gName j)) (hz : PG X (.Name z pz) (gName l)) (ha : SV X ct W a fa) (hb : SV X ct W b fb) (hcc : SV X ct W c fc)
    (hs : swapsWithSole [.Tuple [.Name x px, .Name y py, .Name z pz] kt pt] (.Tuple [a, b, c] k2 pt2) pos.line X.env = pure false := by rfl)
    (hw : swappedStores [.Tuple [.Name x px, .Name y py, .Name z pz] kt pt] (.Tuple [a, b, c] k2 pt2) X.env = pure none := by rfl)
    (h1 : starEach [a, b, c] X.env = (false, eval a X.env) :: starEach [b, c] X.env := by rfl) (h2 : starEach [b, c] X.env = (false, eval b X.env) :: starEach [c] X.env := by rfl) (h3 : starEach [c] X.env = (false, eval c X.env) :: starEach [] X.env := by rfl)
    (h4 : (assignEach [.Tuple [.Name x px, .Name y py, .Name z pz] kt pt] X.env).map (·.2) = [assign (.Tuple [.Name x px, .Name y py, .Name z pz] kt pt) X.env] := by rfl)
    (h5 : (assignEach [.Name x px, .Name y py, .Name z pz] X.env).length = 3 := by rfl) (h6 : (assignEach [.Name x px, .Name y py, .Name z pz] X.env).findIdx? (·.1) = none := by rfl)
    (h7 : (assignEach [.Name x px, .Name y py, .Name z pz] X.env).map (·.2) = assign (.Name x px) X.env :: (assignEach [.Name y py, .Name z pz] X.env).map (·.2) := by rfl)
    (h8 : (assignEach [.Name y py, .Name z pz] X.env).map (·.2) = assign (.Name y py) X.env :: (assignEach [.Name z pz] X.env).map (·.2) := by rfl) (h9 : (assignEach [.Name z pz] X.env).map (·.2) = assign (.Name z pz) X.env :: (assignEach [] X.env).map (·.2) := by rfl) :
    SS X ct W (.Assign [.Tuple [.Name x px, .Name y py, .Name z pz] kt pt] (.Tuple [a, b, c] k2 pt2) pos) (sPar3 i j l fa fb fc) :=
  PSw (ps_asg (pe_tup (pa_cons ha (pa_cons hb (pa_cons hcc pa_nil h3) h2) h1)) (pg_tup hc (pgs_cons hx (pgs_cons hy (pgs_cons hz pgs_nil h9) h8) h7) h5 h6) hs hw h4) fun Dn σ H q => by
  obtain ⟨c, G, e, r, p⟩ := q
  refine par3_core r p fun G2 H2 e2 e3 e4 e5 v u w va vb vc r2 hv hu hz n1 n2 n3 g1 g2 g3 pn => ⟨by rw [sizeLine_eq, List.length_cons, List.length_cons]; simp, fun q hq => ?_⟩
  have r3 := r2.layM (o := .tup [v, u, w]) hq
  obtain ⟨r4, k4⟩ := pput_ok r3 (hv.lay hq) g1
  obtain ⟨r5, k5⟩ := pput_ok r4 (k4 vb u (hu.lay hq) n1) g2
  obtain ⟨r6, _⟩ := pput_ok r5 (k5 vc w (k4 vc w (hz.lay hq) n2) n3) g3
  exact ⟨q, [v, u, w], rfl, .inl (.inl upd_same), rfl, v, [u, w], rfl, u, [w], rfl, w, [], rfl, rfl, pn G2 _ _ (Same.refl _) r6⟩
end
end MM
end
section
set_option Elab.async false
set_option linter.all false
set_option autoImplicit false
set_option maxRecDepth 100000
set_option maxHeartbeats 4000000
namespace MM
open PySem PySem.Spec L2
/-! ### evaluation: simp lemmas -/
def isP : Option EV → Bool
  | some (.p _) => true
  | _ => false
@[simp] theorem isP_none : isP none = false := rfl
@[simp] theorem isP_d {d : D} : isP (some (.d d)) = false := rfl
@[simp] theorem isP_m {d : MV} : isP (some (.m d)) = false := rfl
@[simp] theorem isP_p {d : MV} : isP (some (.p d)) = true := rfl
section
variable {α β : Type} {a : α} {e : Env} {x : EV} {xx : Exn} {d d' : D}
@[simp] theorem bind_ok {f : α → Env → Res β} : (Res.ok a e).bind f = f a e := rfl
@[simp] theorem bind_exc {f : α → Env → Res β} : (Res.exc xx e).bind f = .exc xx e := rfl
@[simp] theorem bind_stuck {f : α → Env → Res β} : (Res.stuck : Res α).bind f = .stuck := rfl
@[simp] theorem sb_ok {f : α → Env → SRes} : (Res.ok a e).sb f = f a e := rfl
@[simp] theorem sb_exc {f : α → Env → SRes} : (Res.exc xx e : Res α).sb f = .exc xx e := rfl
@[simp] theorem sb_stuck {f : α → Env → SRes} : (Res.stuck : Res α).sb f = .stuck := rfl
@[simp] theorem sbind_nx {f : SM} : (SRes.nx e).bind f = f e := rfl
@[simp] theorem sbind_rt {f : SM} : (SRes.rt x e).bind f = .rt x e := rfl
@[simp] theorem sbind_bk {f : SM} : (SRes.bk e).bind f = .bk e := rfl
@[simp] theorem sbind_ct {f : SM} : (SRes.ct e).bind f = .ct e := rfl
@[simp] theorem sbind_exc {f : SM} : (SRes.exc xx e).bind f = .exc xx e := rfl
@[simp] theorem sbind_stuck {f : SM} : SRes.stuck.bind f = .stuck := rfl
@[simp] theorem cC_ev : cC d e = .ok d e := rfl
@[simp] theorem kN_ev {i : Nat} : kN i e = (match e[i]? with
  | some (some _) => .ok (.slot i) e
  | _ => .stuck) := rfl
@[simp] theorem kE_ev {f : EM D} : kE f e = (f e).bind fun d e1 => .ok (.val d) e1 := rfl
@[simp] theorem vD_ev {f : EM D} : vD f e = (f e).bind fun d e1 => .ok (.d d) e1 := rfl
@[simp] theorem cN_ev {i : Nat} : cN i e = (match e[i]? with
  | some (some (.d x)) => .ok x e
  | some (some (.m x)) => (match x.frz with
    | some d => .ok d (e.set i (some (.d d)))
    | none => .stuck)
  | _ => .stuck) := rfl
@[simp] theorem cF_ev {f : EM EV} : cF f e = (f e).bind fun x e1 => match x.rd with
  | some d => .ok d e1
  | none => .stuck := rfl
@[simp] theorem rd_d : (EV.d d).rd = some d := rfl
@[simp] theorem rd_m {y : MV} : (EV.m y).rd = y.frz := rfl
@[simp] theorem rd_p {y : MV} : (EV.p y).rd = y.frz := rfl
@[simp] theorem frz_lst {xs : List D} : (MV.lst xs).frz = some (.lst xs) := rfl
@[simp] theorem frz_dic {ks : List Key} {xs : List D} : (MV.dic ks xs).frz = some (.dic ks xs) := rfl
@[simp] theorem frz_obj {c : Nat} {xs : List D} : (MV.obj c (clsNames c) xs).frz = some (.obj c xs) := by
  show (if clsNames c = clsNames c then _ else _) = _
  rw [if_pos rfl]
@[simp] theorem rdK_val : rdK e (.val d) = some d := rfl
@[simp] theorem rdK_slot {i : Nat} : rdK e (.slot i) = (match e[i]? with
  | some (some x) => x.rd
  | _ => none) := rfl
@[simp] theorem rdKs_nil : rdKs e [] = some [] := rfl
@[simp] theorem rdKs_cons {t : Tk} {ts : List Tk} : rdKs e (t :: ts) = (match rdK e t, rdKs e ts with
  | some d, some ds => some (d :: ds)
  | _, _ => none) := rfl
@[simp] theorem resV_some : resV (some x) e = .ok x e := rfl
@[simp] theorem resB_some {b : Bool} : resB (some b) e = .ok b e := rfl
@[simp] theorem vBin_ev {g : D → D → Option EV} {fa fb : EM Tk} : vBin g fa fb e = (fa e).bind fun t1 e1 => (fb e1).bind fun t2 e2 => match rdK e2 t1, rdK e2 t2 with
  | some a, some b => resV (g a b) e2
  | _, _ => .stuck := rfl
@[simp] theorem tCmpF_ev {g : D → D → Option Bool} {fa fb : EM Tk} : tCmpF g fa fb e = (fa e).bind fun t1 e1 => (fb e1).bind fun t2 e2 => match rdK e2 t1, rdK e2 t2 with
  | some a, some b => resB (g a b) e2
  | _, _ => .stuck := rfl
@[simp] theorem cB_ev {f : EM Bool} : cB f e = (f e).bind fun b e1 => .ok (.bl b) e1 := rfl
@[simp] theorem gI_ev {f : Int → Int → Int} {i j : Int} : gI f (.int i) (.int j) = some (.d (.int (f i j))) := rfl
@[simp] theorem gIC_ev {C : Int → Int → Prop} [∀ i j, Decidable (C i j)] {f : Int → Int → Int} {i j : Int} : gIC C f (.int i) (.int j) = if C i j then some (.d (.int (f i j))) else none := rfl
@[simp] theorem gAdd_int {i j : Int} : gAdd (.int i) (.int j) = some (.d (.int (i + j))) := rfl
@[simp] theorem gAdd_lst {xs ys : List D} : gAdd (.lst xs) (.lst ys) = if xs.length + ys.length ≤ LIM then some (.m (.lst (xs ++ ys))) else none := rfl
@[simp] theorem gMul_int {i j : Int} : gMul (.int i) (.int j) = if CMulW i j then some (.d (.int (i * j))) else none := rfl
@[simp] theorem gMul_lst {xs : List D} {j : Int} : gMul (.lst xs) (.int j) = if j ≤ 1000000 ∧ -1000000 ≤ j ∧ xs.length * j.toNat ≤ LIM then some (.m (.lst (List.replicate j.toNat xs).flatten)) else none := rfl
@[simp] theorem gCmpI_ev {f : Int → Int → Bool} {i j : Int} : gCmpI f (.int i) (.int j) = some (f i j) := rfl
@[simp] theorem tVal_ev {f : EM D} : tVal f e = (f e).bind fun d e1 => resB d.bool? e1 := rfl
@[simp] theorem bool?_bl {b : Bool} : (D.bl b).bool? = some b := rfl
@[simp] theorem tTru_ev {f : EM Tk} : tTru f e = (f e).bind fun t e1 => match rdK e1 t with
  | some d => resB d.tru e1
  | none => .stuck := rfl
@[simp] theorem tru_bl {b : Bool} : (D.bl b).tru = some b := rfl
@[simp] theorem tru_int {i : Int} : (D.int i).tru = some (i != 0) := rfl
@[simp] theorem tru_lst {xs : List D} : (D.lst xs).tru = some (!xs.isEmpty) := rfl
@[simp] theorem tAndF_ev {f g : EM Bool} : tAndF f g e = (f e).bind fun b e1 => if b = true then g e1 else .ok false e1 := rfl
@[simp] theorem tOrF_ev {f g : EM Bool} : tOrF f g e = (f e).bind fun b e1 => if b = true then .ok true e1 else g e1 := rfl
@[simp] theorem tNotF_ev {f : EM Bool} : tNotF f e = (f e).bind fun b e1 => .ok (!b) e1 := rfl
@[simp] theorem cIf_ev {t : EM Bool} {f g : EM D} : cIf t f g e = (t e).bind fun b e1 => if b = true then f e1 else g e1 := rfl
@[simp] theorem vIf_ev {t : EM Bool} {f g : EM EV} : vIf t f g e = (t e).bind fun b e1 => if b = true then f e1 else g e1 := rfl
@[simp] theorem cUn_ev {g : D → Option D} {f : EM Tk} : cUn g f e = (f e).bind fun t e1 => match rdK e1 t with
  | some d => (match g d with
    | some z => .ok z e1
    | none => .stuck)
  | none => .stuck := rfl
@[simp] theorem gNeg_int {i : Int} : gNeg (.int i) = some (.int (-i)) := rfl
@[simp] theorem gFld_obj {c i : Nat} {xs : List D} : gFld c i (.obj c xs) = xs[i]? := by
  show (if c = c then _ else _) = _
  rw [if_pos rfl]
@[simp] theorem cBin_ev {g : D → D → Option D} {fa fb : EM Tk} : cBin g fa fb e = (fa e).bind fun t1 e1 => (fb e1).bind fun t2 e2 => match rdK e2 t1, rdK e2 t2 with
  | some a, some b => (match g a b with
    | some z => .ok z e2
    | none => .stuck)
  | _, _ => .stuck := rfl
@[simp] theorem gIxA_lst {xs : List D} {i : Int} : gIxA (.lst xs) (.int i) = atI xs i := rfl
@[simp] theorem gIxA_tup {xs : List D} {i : Int} : gIxA (.tup xs) (.int i) = atI xs i := rfl
@[simp] theorem gIxA_scr {xs : List Int} {i : Int} : gIxA (.scr xs) (.int i) = (atI xs i).map D.int := rfl
@[simp] theorem gIxA_dic {ks : List Key} {ds : List D} {i : Int} : gIxA (.dic ks ds) (.int i) = valD ks ds (.inl i) := rfl
@[simp] theorem aNil_ev : aNil e = .ok [] e := rfl
@[simp] theorem aCons_ev {f : EM Tk} {g : EM (List Tk)} : aCons f g e = (f e).bind fun t e1 => (g e1).bind fun ts e2 => .ok (t :: ts) e2 := rfl
@[simp] theorem vals_nil : vals [] = some [] := rfl
@[simp] theorem vals_cons {ts : List Tk} : vals (.val d :: ts) = (vals ts).map (d :: ·) := rfl
@[simp] theorem cTup_ev {f : EM (List Tk)} : cTup f e = (f e).bind fun ts e1 => match vals ts with
  | some ds => if ds.length ≤ LIM then .ok (.tup ds) e1 else .stuck
  | none => .stuck := rfl
@[simp] theorem vLst_ev {f : EM (List Tk)} : vLst f e = (f e).bind fun ts e1 => match vals ts with
  | some ds => if ds.length ≤ LIM then .ok (.m (.lst ds)) e1 else .stuck
  | none => .stuck := rfl
@[simp] theorem oNone_ev : oNone e = .ok none e := rfl
@[simp] theorem oSome_ev {f : EM Tk} : oSome f e = (f e).bind fun t e1 => match rdK e1 t with
  | some (.int i) => .ok (some i) e1
  | _ => .stuck := rfl
@[simp] theorem vSl_ev {f : EM Tk} {fl fh : EO} : vSl f fl fh e = (f e).bind fun t e1 => (fl e1).bind fun lo e2 => (fh e2).bind fun hi e3 => match rdK e3 t with
  | some d => resV (gSl d lo hi) e3
  | none => .stuck := rfl
@[simp] theorem gSl_lst {xs : List D} {lo hi : Option Int} : gSl (.lst xs) lo hi = some (.m (.lst (cutD xs lo hi))) := rfl
@[simp] theorem gSl_tup {xs : List D} {lo hi : Option Int} : gSl (.tup xs) lo hi = some (.d (.tup (cutD xs lo hi))) := rfl
@[simp] theorem vCallB_ev {g : List D → Option EV} {f : EM (List Tk)} : vCallB g f e = (f e).bind fun ts e1 => match rdKs e1 ts with
  | some ds => resV (g ds) e1
  | none => .stuck := rfl
@[simp] theorem gF1_ev {f : D → Option EV} : gF1 f [d] = f d := rfl
@[simp] theorem gF2_ev {f : D → D → Option EV} : gF2 f [d, d'] = f d d' := rfl
@[simp] theorem fLen_lst {xs : List D} : fLen (.lst xs) = some (.d (.int xs.length)) := rfl
@[simp] theorem fLen_tup {xs : List D} : fLen (.tup xs) = some (.d (.int xs.length)) := rfl
@[simp] theorem fLen_scr {xs : List Int} : fLen (.scr xs) = some (.d (.int xs.length)) := rfl
@[simp] theorem fAbs_int {i : Int} : fAbs (.int i) = some (.d (.int (if i < 0 then -i else i))) := rfl
@[simp] theorem fInt_int {i : Int} : fInt (.int i) = some (.d (.int i)) := rfl
@[simp] theorem fMax2_int {i j : Int} : fMax2 (.int i) (.int j) = some (.d (.int (if j > i then j else i))) := rfl
@[simp] theorem fMin2_int {i j : Int} : fMin2 (.int i) (.int j) = some (.d (.int (if j < i then j else i))) := rfl
@[simp] theorem fDivmod_int {i j : Int} : fDivmod (.int i) (.int j) = if 0 < j ∧ j < 1073741824 then some (.d (.tup [.int (i / j), .int (i % j)])) else none := rfl
@[simp] theorem fList_lst {xs : List D} : fList (.lst xs) = some (.m (.lst xs)) := rfl
@[simp] theorem fList_tup {xs : List D} : fList (.tup xs) = some (.m (.lst xs)) := rfl
@[simp] theorem fTuple_lst {xs : List D} : fTuple (.lst xs) = some (.d (.tup xs)) := rfl
@[simp] theorem fTuple_tup {xs : List D} : fTuple (.tup xs) = some (.d (.tup xs)) := rfl
@[simp] theorem fSum_ints {ns : List Int} : fSum (.lst (ns.map D.int)) = some (.d (.int ns.sum)) := by
  show (ints? (ns.map D.int)).map _ = _
  rw [ints?_map]; rfl
@[simp] theorem fAny_bls {ns : List Bool} : fAny (.lst (ns.map D.bl)) = some (.d (.bl (ns.any id))) := by
  show (bls? (ns.map D.bl)).map _ = _
  rw [bls?_map]; rfl
@[simp] theorem fAll_bls {ns : List Bool} : fAll (.lst (ns.map D.bl)) = some (.d (.bl (ns.all id))) := by
  show (bls? (ns.map D.bl)).map _ = _
  rw [bls?_map]; rfl
@[simp] theorem fSorted_ints {ns : List Int} : fSorted (.lst (ns.map D.int)) = some (.m (.lst ((sortI ns).map D.int))) := by
  show (ints? (ns.map D.int)).map _ = _
  rw [ints?_map]; rfl
@[simp] theorem iSeq_ev {f : EM D} : iSeq f e = (f e).bind fun d e1 => match d.items with
  | some xs => .ok xs e1
  | none => .stuck := rfl
@[simp] theorem items_lst {xs : List D} : (D.lst xs).items = some xs := rfl
@[simp] theorem items_tup {xs : List D} : (D.tup xs).items = some xs := rfl
@[simp] theorem iRng1_ev {f : EM (List Tk)} : iRng1 f e = (f e).bind fun ts e1 => match rdKs e1 ts with
  | some [.int j] => if rngOk j = true then .ok (rangeD 0 j.toNat) e1 else .stuck
  | _ => .stuck := rfl
@[simp] theorem iRng2_ev {f : EM (List Tk)} : iRng2 f e = (f e).bind fun ts e1 => match rdKs e1 ts with
  | some [.int i, .int j] => if rngOk i = true ∧ rngOk j = true then .ok (rangeD i (j - i).toNat) e1 else .stuck
  | _ => .stuck := rfl
@[simp] theorem iZip2_ev {f : EM (List Tk)} : iZip2 f e = (f e).bind fun ts e1 => match vals ts with
  | some [a, b] => (match a.items, b.items with
    | some xs, some ys => .ok (zip2D xs ys) e1
    | _, _ => .stuck)
  | _ => .stuck := rfl
@[simp] theorem iEnum_ev {f : EM (List Tk)} : iEnum f e = (f e).bind fun ts e1 => match vals ts with
  | some [a] => (match a.items with
    | some xs => .ok (enumD 0 xs) e1
    | _ => .stuck)
  | _ => .stuck := rfl
theorem lr_ok {j : Int} (h0 : -1000000 ≤ j) (h : j ≤ 1000000) : lrOk j = true := by
  unfold lrOk rngOk
  rw [Bool.and_eq_true]
  exact ⟨decide_eq_true (by omega), decide_eq_true (by omega)⟩
@[simp] theorem vLstR_ev {f : EM (List Tk)} : vLstR f e = (f e).bind fun ts e1 => match rdKs e1 ts with
  | some [.int j] => if lrOk j = true then .ok (.m (.lst (rangeD 0 j.toNat))) e1 else .stuck
  | some [.int i, .int j] => if lrOk2 i j = true then .ok (.m (.lst (rangeD i (j - i).toNat))) e1 else .stuck
  | _ => .stuck := rfl
theorem vLstR_at {f : EM (List Tk)} {ts : List Tk} {e1 : Env} {j : Int} (h : f e = .ok ts e1) (h1 : rdKs e1 ts = some [.int j]) (h2 : lrOk j = true) : vLstR f e = .ok (.m (.lst (rangeD 0 j.toNat))) e1 := by
  unfold vLstR
  rw [h, bind_ok, h1]
  exact if_pos h2
@[simp] theorem gSet_ev {i : Nat} : gSet i d e = (match e[i]? with
  | some o => if isP o = true then none else some (e.set i (some (.d d)))
  | none => none) := by
  unfold gSet
  rcases h : e[i]? with _ | _ | x
  · rfl
  · rfl
  · cases x <;> rfl
@[simp] theorem gSets_nil : gSets [] [] e = some e := rfl
@[simp] theorem gSets_cons {i : Nat} {is : List Nat} {ds : List D} : gSets (i :: is) (d :: ds) e = (gSet i d e).bind (gSets is ds) := rfl
@[simp] theorem gUnp_tup {is : List Nat} {ds : List D} : gUnp is (.tup ds) e = gSets is ds e := rfl
@[simp] theorem wipeE_nil : wipeE [] e = some e := rfl
@[simp] theorem wipeE_cons {v : Nat} {vs : List Nat} : wipeE (v :: vs) e = (match wipeE vs e with
    | some e1 => (match e1[v]? with
      | some o => if isP o = true then none else some (e1.set v none)
      | none => none)
    | none => none) := by
  show (match wipeE vs e with
    | some e1 => (match e1[v]? with
      | some (some (.p _)) => none
      | some _ => some (e1.set v none)
      | none => none)
    | none => none) = _
  cases wipeE vs e with
  | none => rfl
  | some e1 =>
    show (match e1[v]? with
      | some (some (.p _)) => none
      | some _ => some (e1.set v none)
      | none => none) = (match e1[v]? with
      | some o => if isP o = true then none else some (e1.set v none)
      | none => none)
    rcases e1[v]? with _ | _ | x
    · rfl
    · rfl
    · cases x <;> rfl
@[simp] theorem tYesF_ev : tYesF e = .ok true e := rfl
@[simp] theorem sNext_ev : sNext e = .nx e := rfl
@[simp] theorem sSeq_ev {f g : SM} : sSeq f g e = (f e).bind g := rfl
@[simp] theorem sIf_ev {t : EM Bool} {f g : SM} : sIf t f g e = (t e).sb fun b e1 => if b = true then f e1 else g e1 := rfl
@[simp] theorem sRet_ev {f : EM EV} : sRet f e = (f e).sb fun x e1 => .rt x e1 := rfl
@[simp] theorem sRetN_ev : sRetN e = .rt (.d .non) e := rfl
@[simp] theorem sRetV_ev {i : Nat} : sRetV i e = (match e[i]? with
  | some (some (.d d)) => .rt (.d d) e
  | some (some (.m x)) => .rt (.m x) e
  | _ => .stuck) := rfl
@[simp] theorem putE_ev {i : Nat} : putE i x e = (match e[i]? with
  | some o => if isP o = true then .stuck else .nx (e.set i (some x))
  | none => .stuck) := by
  unfold putE
  rcases h : e[i]? with _ | _ | y
  · rfl
  · rfl
  · cases y <;> rfl
@[simp] theorem sSet_ev {i : Nat} {f : EM EV} : sSet i f e = (f e).sb fun x e1 => putE i x e1 := rfl
@[simp] theorem sDrop_ev {f : EM EV} : sDrop f e = (f e).sb fun _ e1 => .nx e1 := rfl
@[simp] theorem sFor_ev {fi : EM (List D)} {ft : D → Env → Option Env} {body : SM} : sFor fi ft body e = (fi e).sb fun ds e1 => forGo ft body ds e1 := rfl
@[simp] theorem mutE_ev {i : Nat} : mutE e i = (match e[i]? with
  | some (some (.m y)) => some y
  | some (some (.p y)) => some y
  | _ => none) := rfl
@[simp] theorem reE_ev {i : Nat} {y : MV} : reE e i y = (match e[i]? with
  | some (some (.p _)) => e.set i (some (.p y))
  | _ => e.set i (some (.m y))) := rfl
@[simp] theorem tyM_lst {xs : List D} {T : String} : tyM T (.lst xs) = decide (T = "list") := rfl
@[simp] theorem cMut_ev {T : String} {i : Nat} {g : MV → List D → Option (MV × D)} {f : EM (List Tk)} : cMut T i g f e = (match mutE e i with
  | some y0 => if tyM T y0 = true then (f e).bind fun ts e1 => (match mutE e1 i, vals ts with
    | some y, some ds => (match g y ds with
      | some (y', z) => .ok z (reE e1 i y')
      | none => .stuck)
    | _, _ => .stuck) else .stuck
  | none => .stuck) := rfl
@[simp] theorem gAppend_ev {xs : List D} : gAppend (.lst xs) [d] = if xs.length < LIM then some (.lst (xs ++ [d]), .non) else none := rfl
@[simp] theorem gExtend_lst {xs ys : List D} : gExtend (.lst xs) [.lst ys] = if xs.length + ys.length ≤ LIM then some (.lst (xs ++ ys), .non) else none := rfl
@[simp] theorem gExtend_tup {xs ys : List D} : gExtend (.lst xs) [.tup ys] = if xs.length + ys.length ≤ LIM then some (.lst (xs ++ ys), .non) else none := rfl
@[simp] theorem gNone_ev : gNone [] e = some e := rfl
@[simp] theorem gCon_ev {g : GT} {gs : List D → Env → Option Env} {ds : List D} : gCon g gs (d :: ds) e = (g d e).bind (gs ds) := rfl
@[simp] theorem gTupF_ev {n : Nat} {gs : List D → Env → Option Env} {ds : List D} : gTupF n gs (.tup ds) e = if ds.length = n then gs ds e else none := rfl
@[simp] theorem gStore_ev {i : Nat} {fi : EM Tk} : gStore i fi d e = (match mutE e i with
  | none => none
  | some _ => match fi e with
    | .ok t e2 => (match rdK e2 t, mutE e2 i with
      | some (.int j), some (.lst xs) => (match ixN xs.length j with
        | some m => some (reE e2 i (.lst (xs.set m d)))
        | none => none)
      | _, _ => none)
    | _ => none) := rfl
@[simp] theorem sAsgT_ev {f : EM D} {gt : GT} : sAsgT f gt e = (f e).sb fun d e1 => match gt d e1 with
  | some e2 => .nx e2
  | none => .stuck := rfl
@[simp] theorem pput_ev {i : Nat} : pput i x e = (match e[i]? with
  | some o => if isP o = true then none else some (e.set i (some x))
  | none => none) := by
  unfold pput
  rcases h : e[i]? with _ | _ | y
  · rfl
  · rfl
  · cases y <;> rfl
@[simp] theorem sPar2_ev {i j : Nat} {fa fb : EM EV} : sPar2 i j fa fb e = (fa e).sb fun x e1 => (fb e1).sb fun y e2 => match pput i x e2 with
  | some e3 => (match pput j y e3 with
    | some e4 => .nx e4
    | none => .stuck)
  | none => .stuck := rfl
@[simp] theorem argT_val : argT e (.val d) = some (.d d, none) := rfl
@[simp] theorem argT_slot {i : Nat} : argT e (.slot i) = (match e[i]? with
    | some (some (.d d)) => some (.d d, none)
    | some (some (.m x)) => some (.p x, some i)
    | some (some (.p x)) => some (.p x, some i)
    | _ => none) := rfl
@[simp] theorem argE_nil : argE e [] = some [] := rfl
@[simp] theorem argE_cons {t : Tk} {ts : List Tk} : argE e (t :: ts) = (match argT e t, argE e ts with
    | some a, some as => some (a :: as)
    | _, _ => none) := rfl
@[simp] theorem backE_nil {ps : List (Option MV)} : backE e [] ps = e := rfl
@[simp] theorem backE_no {as : List (EV × Option Nat)} {o : Option MV} {ps : List (Option MV)} : backE e ((x, none) :: as) (o :: ps) = backE e as ps := by
  cases o <;> rfl
@[simp] theorem backE_yes {as : List (EV × Option Nat)} {i : Nat} {y : MV} {ps : List (Option MV)} : backE e ((x, some i) :: as) (some y :: ps) = backE (reE e i y) as ps := rfl
@[simp] theorem slotsOf_nil : slotsOf [] = [] := rfl
@[simp] theorem slotsOf_no {as : List (EV × Option Nat)} : slotsOf ((x, none) :: as) = slotsOf as := rfl
@[simp] theorem slotsOf_yes {as : List (EV × Option Nat)} {i : Nat} : slotsOf ((x, some i) :: as) = i :: slotsOf as := rfl
@[simp] theorem vCall_ev {F : List EV → Out} {fa : EM (List Tk)} : vCall F fa e = (fa e).bind (tailC F) := rfl
@[simp] theorem tailC_ev {F : List EV → Out} {ts : List Tk} : tailC F ts e = (match argE e ts with
  | none => .stuck
  | some as => if (slotsOf as).Nodup then (match (F (as.map (·.1))).noT with
    | .ret x ps => .ok x (backE e as ps)
    | .exc x ps => .exc x (backE e as ps)
    | .stuck => .stuck) else .stuck) := rfl
@[simp] theorem noT_d {ps : List (Option MV)} : (Out.ret (.d d) ps).noT = .ret (.d d) ps := rfl
@[simp] theorem noT_m {y : MV} {ps : List (Option MV)} : (Out.ret (.m y) ps).noT = .ret (.m y) ps := rfl
@[simp] theorem noT_p {y : MV} {ps : List (Option MV)} : (Out.ret (.p y) ps).noT = .ret (.p y) ps := rfl
@[simp] theorem vCallK_ev {n m : Nat} {pm : List Nat} {F : List EV → Out} {fa fk : EM (List Tk)} : vCallK n m pm F fa fk e = (fa e).bind fun ts e1 => (fk e1).bind fun us e2 => if ts.length = n ∧ us.length = m then tailC F (permL pm (ts ++ us)) e2 else .stuck := rfl
@[simp] theorem vMeth_ev {cc : Nat} {m : Str} {F : List EV → Out} {fo : EM Tk} {fa : EM (List Tk)} : vMeth cc m F fo fa e = (fo e).bind fun t e1 => if isObj cc m e1 t = true then (fa e1).bind fun ts e2 => tailC F (t :: ts) e2 else .stuck := rfl
@[simp] theorem vProp_ev {cc : Nat} {F : List EV → Out} {fo : EM Tk} : vProp cc F fo e = (fo e).bind fun t e1 => if isObj cc Str.empty e1 t = true then tailC (fun as => noX (F as)) [t] e1 else .stuck := rfl
@[simp] theorem noX_ret {ps : List (Option MV)} : noX (.ret x ps) = .ret x ps := rfl
@[simp] theorem isObj_ev {cc : Nat} {m : Str} {t : Tk} : isObj cc m e t = (match argT e t with
  | some (.d (.obj c _), _) => decide (c = cc ∧ m ∉ clsNames cc)
  | some (.p (.obj c ns _), _) => decide (c = cc ∧ m ∉ ns)
  | _ => false) := rfl
@[simp] theorem vMake_ev {cc : Nat} {F : List EV → Out} {fa : EM (List Tk)} : vMake cc F fa e = (fa e).bind (tailMk cc F) := rfl
@[simp] theorem tailMk_ev {cc : Nat} {F : List EV → Out} {ts : List Tk} : tailMk cc F ts e = (match argE e ts with
  | none => .stuck
  | some as => if (slotsOf as).Nodup then (match F (.p (.obj cc [] []) :: as.map (·.1)) with
    | .ret (.d .non) (some y :: ps) => .ok (.m y) (backE e as ps)
    | .exc x (_ :: ps) => .exc x (backE e as ps)
    | _ => .stuck) else .stuck) := rfl
@[simp] theorem sFldO_ev {cc i : Nat} {f : Str} {fe : EM D} : sFldO cc i f fe e = (fe e).sb fun d e1 => match mutE e1 i with
  | some (.obj c ns ds) => if c = cc ∧ ns.length < 1000 then .nx (reE e1 i (.obj c (putNs f ns) (putDs f d ns ds))) else .stuck
  | _ => .stuck := rfl
@[simp] theorem cIsi_ev {ncl : Nat} {f : TyK → Bool} {fa : EM Tk} : cIsi ncl f fa e = (fa e).bind fun t e1 => match (rdK e1 t).bind (tyD ncl) with
  | some ty => .ok (.bl (f ty)) e1
  | none => .stuck := rfl
@[simp] theorem tyD_int {n : Nat} {i : Int} : tyD n (.int i) = some .int := rfl
@[simp] theorem tyD_bl {n : Nat} {i : Bool} : tyD n (.bl i) = some .bl := rfl
@[simp] theorem tyD_lst {n : Nat} {i : List D} : tyD n (.lst i) = some .lst := rfl
@[simp] theorem tyD_tup {n : Nat} {i : List D} : tyD n (.tup i) = some .tup := rfl
@[simp] theorem tyD_non {n : Nat} : tyD n .non = some .non := rfl
@[simp] theorem tyD_str {n : Nat} {i : Str} : tyD n (.str i) = some .str := rfl
@[simp] theorem tyD_obj {n c : Nat} {i : List D} : tyD n (.obj c i) = if c < n then some (.obj c) else none := rfl
@[simp] theorem isO_obj {c c' : Nat} : isO c (.obj c') = (c' == c) := rfl
@[simp] theorem isB_int : isB "int" .int = true := by decide
@[simp] theorem isB_int_bl : isB "int" .bl = true := by decide
@[simp] theorem isB_bool_int : isB "bool" .int = false := by decide
@[simp] theorem isB_bool_bl : isB "bool" .bl = true := by decide
@[simp] theorem isB_list_lst : isB "list" .lst = true := by decide
@[simp] theorem isB_tuple_tup : isB "tuple" .tup = true := by decide
@[simp] theorem isB_list_tup : isB "list" .tup = false := by decide
@[simp] theorem isB_tuple_lst : isB "tuple" .lst = false := by decide
@[simp] theorem tChain_ev {g g' : D → D → Option Bool} {fa fb fc : EM Tk} : tChain g g' fa fb fc e = (fa e).bind fun t1 e1 => (fb e1).bind fun t2 e2 => match rdK e2 t1, rdK e2 t2 with
  | some a, some b => (resB (g a b) e2).bind fun z e3 => if z = true then (fc e3).bind fun t3 e4 => (match rdK e4 t2, rdK e4 t3 with
      | some b', some c' => resB (g' b' c') e4
      | _, _ => .stuck) else .ok false e3
  | _, _ => .stuck := rfl
@[simp] theorem pinOf_p {y : MV} : pinOf (some (.p y)) = some y := rfl
@[simp] theorem pinOf_d : pinOf (some (.d d)) = none := rfl
@[simp] theorem pinOf_m {y : MV} : pinOf (some (.m y)) = none := rfl
@[simp] theorem pinOf_none : pinOf none = none := rfl
@[simp] theorem outOf_nx {m : Nat} : outOf m (.nx e) = .ret (.d .non) ((e.take m).map pinOf) := rfl
@[simp] theorem outOf_rt {m : Nat} : outOf m (.rt x e) = .ret x ((e.take m).map pinOf) := rfl
theorem runD_eq {n m : Nat} {f : SM} {as : List EV} (h : as.length = m) : runD n m f as = outOf m (f (as.map some ++ List.replicate (n - m) none)) := by
  unfold runD
  rw [if_pos h]
end
@[simp] theorem runD_0 {n : Nat} {f : SM} : runD n 0 f [] = outOf 0 (f ( List.replicate (n - 0) none)) := rfl
@[simp] theorem runD_1 {n : Nat} {f : SM} {x0 : EV} : runD n 1 f [x0] = outOf 1 (f (some x0 ::  List.replicate (n - 1) none)) := rfl
@[simp] theorem runD_2 {n : Nat} {f : SM} {x0 x1 : EV} : runD n 2 f [x0, x1] = outOf 2 (f (some x0 :: some x1 ::  List.replicate (n - 2) none)) := rfl
@[simp] theorem runD_3 {n : Nat} {f : SM} {x0 x1 x2 : EV} : runD n 3 f [x0, x1, x2] = outOf 3 (f (some x0 :: some x1 :: some x2 ::  List.replicate (n - 3) none)) := rfl
@[simp] theorem runD_4 {n : Nat} {f : SM} {x0 x1 x2 x3 : EV} : runD n 4 f [x0, x1, x2, x3] = outOf 4 (f (some x0 :: some x1 :: some x2 :: some x3 ::  List.replicate (n - 4) none)) := rfl
@[simp] theorem runD_5 {n : Nat} {f : SM} {x0 x1 x2 x3 x4 : EV} : runD n 5 f [x0, x1, x2, x3, x4] = outOf 5 (f (some x0 :: some x1 :: some x2 :: some x3 :: some x4 ::  List.replicate (n - 5) none)) := rfl
@[simp] theorem runD_6 {n : Nat} {f : SM} {x0 x1 x2 x3 x4 x5 : EV} : runD n 6 f [x0, x1, x2, x3, x4, x5] = outOf 6 (f (some x0 :: some x1 :: some x2 :: some x3 :: some x4 :: some x5 ::  List.replicate (n - 6) none)) := rfl
@[simp] theorem runD_7 {n : Nat} {f : SM} {x0 x1 x2 x3 x4 x5 x6 : EV} : runD n 7 f [x0, x1, x2, x3, x4, x5, x6] = outOf 7 (f (some x0 :: some x1 :: some x2 :: some x3 :: some x4 :: some x5 :: some x6 ::  List.replicate (n - 7) none)) := rfl
@[simp] theorem runD_8 {n : Nat} {f : SM} {x0 x1 x2 x3 x4 x5 x6 x7 : EV} : runD n 8 f [x0, x1, x2, x3, x4, x5, x6, x7] = outOf 8 (f (some x0 :: some x1 :: some x2 :: some x3 :: some x4 :: some x5 :: some x6 :: some x7 ::  List.replicate (n - 8) none)) := rfl
/-! ### numbers -/
theorem log2_lt {n k : Nat} (h : n < 2 ^ k) : n.log2 ≤ k := by
  by_cases q : n = 0
  · subst q
    have : Nat.log2 0 = 0 := by decide
    omega
  · exact Nat.le_of_lt ((Nat.log2_lt q).mpr h)
theorem cmulW {i j : Int} {a b : Nat} (ha : i.natAbs < 2 ^ a) (hb : j.natAbs < 2 ^ b) (h : a + b < 1000000 := by decide) : CMulW i j := by
  have h1 := log2_lt ha
  have h2 := log2_lt hb
  show i.natAbs.log2 + j.natAbs.log2 < 1000000
  omega
theorem cdivW {i j : Int} (h0 : 0 < j) (h : j < 2 ^ 64) : CDivW i j := by
  refine ⟨h0, ?_⟩
  have : j.natAbs < 2 ^ 64 := by omega
  have := log2_lt this
  omega
theorem ixN_nat {n : Nat} {i : Int} (h0 : 0 ≤ i) (h : i < n) : ixN n i = some i.toNat := by
  unfold ixN
  rw [if_pos h0, if_pos h]
theorem ixN_neg {n : Nat} {i : Int} (h0 : i < 0) (h : -(n : Int) ≤ i) : ixN n i = some (i + n).toNat := by
  unfold ixN
  rw [if_neg (by omega), if_pos h]
@[simp] theorem atI_0 {α : Type} {x : α} {xs : List α} : atI (x :: xs) 0 = some x := by
  unfold atI
  rw [ixN_nat (by omega) (by simp)]
  rfl
@[simp] theorem atI_1 {α : Type} {x y : α} {xs : List α} : atI (x :: y :: xs) 1 = some y := by
  unfold atI
  rw [ixN_nat (by omega) (by simp; omega)]
  rfl
theorem atI_at {α : Type} {xs : List α} {i : Int} {x : α} (h0 : 0 ≤ i) (h : xs[i.toNat]? = some x) : atI xs i = some x := by
  unfold atI
  have := (List.getElem?_eq_some_iff.mp h).1
  rw [ixN_nat h0 (by omega)]
  exact h
@[simp] theorem ixN_2_0 {n : Nat} : ixN (n + 1) 0 = some 0 := by
  rw [ixN_nat (by omega) (by omega)]
  rfl
@[simp] theorem ixN_2_1 {n : Nat} : ixN (n + 1 + 1) 1 = some 1 := by
  rw [ixN_nat (by omega) (by omega)]
  rfl

/-! ### loops -/
section
variable {ft : D → Env → Option Env} {body : SM} {ff : EM Bool} {fe : EM D} {vs : List Nat}
theorem forGo_go {P : Nat → Env → Prop} : ∀ (ds : List D) (k : Nat) (e : Env), P k e → (∀ i d e, ds[i]? = some d → P (k + i) e → ∃ e1 e2, ft d e = some e1 ∧ body e1 = .nx e2 ∧ P (k + i + 1) e2) → ∃ e', forGo ft body ds e = .nx e' ∧ P (k + ds.length) e'
  | [], k, e, h, _ => ⟨e, rfl, h⟩
  | d :: ds, k, e, h, hs => by
    obtain ⟨e1, e2, h1, h2, h3⟩ := hs 0 d e rfl h
    obtain ⟨e', h4, h5⟩ := forGo_go ds (k + 1) e2 h3 fun i d' e0 hd hp => by
      have := hs (i + 1) d' e0 (by simpa using hd) (by rw [show k + (i + 1) = k + 1 + i by omega]; exact hp)
      rw [show k + (i + 1) + 1 = k + 1 + i + 1 by omega] at this
      exact this
    refine ⟨e', ?_, by rw [List.length_cons, show k + (ds.length + 1) = k + 1 + ds.length by omega]; exact h5⟩
    simp only [forGo, h1, h2]
    exact h4
/-- a loop that ends by itself -/
theorem forGo_inv (P : Nat → Env → Prop) {ds : List D} {e : Env} (h0 : P 0 e) (hs : ∀ i d e, ds[i]? = some d → P i e → ∃ e1 e2, ft d e = some e1 ∧ body e1 = .nx e2 ∧ P (i + 1) e2) : ∃ e', forGo ft body ds e = .nx e' ∧ P ds.length e' := by
  obtain ⟨e', h1, h2⟩ := forGo_go (P := P) ds 0 e h0 fun i d e0 hd hp => by
    rw [Nat.zero_add] at hp ⊢
    exact hs i d e0 hd hp
  exact ⟨e', h1, by rw [Nat.zero_add] at h2; exact h2⟩
theorem lcGo_go {P : Nat → List D → Env → Prop} : ∀ (ds : List D) (k : Nat) (acc : List D) (e : Env), acc.length + ds.length ≤ LIM → P k acc e → (∀ i d acc e, ds[i]? = some d → P (k + i) acc e → ∃ e1, ft d e = some e1 ∧
    ((∃ e2 x e3 e4, ff e1 = .ok true e2 ∧ fe e2 = .ok x e3 ∧ wipeE vs e3 = some e4 ∧ P (k + i + 1) (acc ++ [x]) e4) ∨ ∃ e2 e4, ff e1 = .ok false e2 ∧ wipeE vs e2 = some e4 ∧ P (k + i + 1) acc e4)) →
    ∃ acc' e', lcGo vs ft ff fe ds acc e = .ok acc' e' ∧ P (k + ds.length) acc' e'
  | [], k, acc, e, _, h, _ => ⟨acc, e, rfl, h⟩
  | d :: ds, k, acc, e, hl, h, hs => by
    rw [List.length_cons] at hl
    have next : ∀ (i : Nat) (d' : D) (a0 : List D) (e0 : Env), ds[i]? = some d' → P (k + 1 + i) a0 e0 → ∃ e1, ft d' e0 = some e1 ∧
        ((∃ e2 x e3 e4, ff e1 = .ok true e2 ∧ fe e2 = .ok x e3 ∧ wipeE vs e3 = some e4 ∧ P (k + 1 + i + 1) (a0 ++ [x]) e4) ∨ ∃ e2 e4, ff e1 = .ok false e2 ∧ wipeE vs e2 = some e4 ∧ P (k + 1 + i + 1) a0 e4) := fun i d' a0 e0 hd hp => by
      have := hs (i + 1) d' a0 e0 (by simpa using hd) (by rw [show k + (i + 1) = k + 1 + i by omega]; exact hp)
      rw [show k + (i + 1) + 1 = k + 1 + i + 1 by omega] at this
      exact this
    obtain ⟨e1, h1, h2⟩ := hs 0 d acc e rfl h
    rw [List.length_cons, show k + (ds.length + 1) = k + 1 + ds.length by omega]
    unfold lcGo
    rw [h1]
    rcases h2 with ⟨e2, x, e3, e4, g1, g2, g3, g4⟩ | ⟨e2, e4, g1, g3, g4⟩
    · obtain ⟨acc', e', r1, r2⟩ := lcGo_go ds (k + 1) (acc ++ [x]) e4 (by rw [List.length_append]; simp; omega) g4 next
      refine ⟨acc', e', ?_, r2⟩
      simp only [g1, g2, g3]
      rw [if_pos (by omega)]
      exact r1
    · obtain ⟨acc', e', r1, r2⟩ := lcGo_go ds (k + 1) acc e4 (by omega) g4 next
      refine ⟨acc', e', ?_, r2⟩
      simp only [g1, g3]
      exact r1
/-- a comprehension -/
theorem lcGo_inv (P : Nat → List D → Env → Prop) {ds : List D} {e : Env} (hl : ds.length ≤ LIM) (h0 : P 0 [] e) (hs : ∀ i d acc e, ds[i]? = some d → P i acc e → ∃ e1, ft d e = some e1 ∧
    ((∃ e2 x e3 e4, ff e1 = .ok true e2 ∧ fe e2 = .ok x e3 ∧ wipeE vs e3 = some e4 ∧ P (i + 1) (acc ++ [x]) e4) ∨ ∃ e2 e4, ff e1 = .ok false e2 ∧ wipeE vs e2 = some e4 ∧ P (i + 1) acc e4)) :
    ∃ acc' e', lcGo vs ft ff fe ds [] e = .ok acc' e' ∧ P ds.length acc' e' := by
  obtain ⟨a', e', h1, h2⟩ := lcGo_go (P := P) ds 0 [] e (by simpa using hl) h0 fun i d a0 e0 hd hp => by
    rw [Nat.zero_add] at hp ⊢
    exact hs i d a0 e0 hd hp
  exact ⟨a', e', h1, by rw [Nat.zero_add] at h2; exact h2⟩
/-- without tests, the names as they were -/
theorem lcGo_map {α : Type} (g : α → D) (h : α → D) {xs : List α} {e : Env} (hl : xs.length ≤ LIM) (hs : ∀ x ∈ xs, ∃ e1 e2 e3, ft (h x) e = some e1 ∧ ff e1 = .ok true e2 ∧ fe e2 = .ok (g x) e3 ∧ wipeE vs e3 = some e) :
    lcGo vs ft ff fe (xs.map h) [] e = .ok (xs.map g) e := by
  obtain ⟨a', e', h1, h2, h3⟩ := lcGo_inv (ft := ft) (ff := ff) (fe := fe) (vs := vs) (fun i acc e' => e' = e ∧ acc = (xs.take i).map g) (ds := xs.map h) (e := e) (by simpa using hl) ⟨rfl, by simp⟩ fun i d acc e0 hd ⟨he, ha⟩ => by
    subst he
    rw [List.getElem?_map] at hd
    obtain ⟨x, hx, rfl⟩ := Option.map_eq_some_iff.mp hd
    obtain ⟨e1, e2, e3, g1, g2, g3, g4⟩ := hs x (List.mem_of_getElem? hx)
    exact ⟨e1, g1, .inl ⟨e2, _, e3, _, g2, g3, g4, rfl, by rw [ha, List.take_succ, hx]; simp⟩⟩
  rw [h1, h2, h3]
  simp
/-- with a test -/
theorem lcGo_filter {α : Type} (p : α → Bool) (g : α → D) (h : α → D) {xs : List α} {e : Env} (hl : xs.length ≤ LIM) (hs : ∀ x ∈ xs, ∃ e1, ft (h x) e = some e1 ∧
    ((p x = true ∧ ∃ e2 e3, ff e1 = .ok true e2 ∧ fe e2 = .ok (g x) e3 ∧ wipeE vs e3 = some e) ∨ (p x = false ∧ ∃ e2, ff e1 = .ok false e2 ∧ wipeE vs e2 = some e))) :
    lcGo vs ft ff fe (xs.map h) [] e = .ok ((xs.filter p).map g) e := by
  obtain ⟨a', e', h1, h2, h3⟩ := lcGo_inv (ft := ft) (ff := ff) (fe := fe) (vs := vs) (fun i acc e' => e' = e ∧ acc = ((xs.take i).filter p).map g) (ds := xs.map h) (e := e) (by simpa using hl) ⟨rfl, by simp⟩ fun i d acc e0 hd ⟨he, ha⟩ => by
    subst he
    rw [List.getElem?_map] at hd
    obtain ⟨x, hx, rfl⟩ := Option.map_eq_some_iff.mp hd
    obtain ⟨e1, g1, g2⟩ := hs x (List.mem_of_getElem? hx)
    refine ⟨e1, g1, ?_⟩
    rcases g2 with ⟨q, e2, e3, g2, g3, g4⟩ | ⟨q, e2, g2, g4⟩
    · exact .inl ⟨e2, _, e3, _, g2, g3, g4, rfl, by rw [ha, List.take_succ, hx]; simp [q]⟩
    · exact .inr ⟨e2, _, g2, g4, rfl, by rw [ha, List.take_succ, hx]; simp [q]⟩
  rw [h1, h2, h3]
  simp
end
theorem lcF_ev {vs : List Nat} {fi : EM (List D)} {ft : D → Env → Option Env} {ff : EM Bool} {fe : EM D} {e : Env} : lcF vs fi ft ff fe e = (fi e).bind fun ds e1 => match wipeE vs e1 with
  | none => .stuck
  | some e2 => (lcGo vs ft ff fe ds [] e2).bind fun acc e3 => .ok (.m (.lst acc)) e3 := rfl
@[simp] theorem lim_eq : LIM = 1000000 := rfl
/-! ### equality of data -/
def rowsD (es : List (List Int)) : List D := es.map fun r => D.lst (r.map D.int)
def trowsD (es : List (List Int)) : List D := es.map fun r => D.tup (r.map D.int)
@[simp] theorem rowsD_len {es : List (List Int)} : (rowsD es).length = es.length := by unfold rowsD; simp
@[simp] theorem rowsD_nil : rowsD [] = [] := rfl
@[simp] theorem rowsD_cons {e : List Int} {es : List (List Int)} : rowsD (e :: es) = D.lst (e.map D.int) :: rowsD es := rfl
@[simp] theorem rowsD_app {es fs : List (List Int)} : rowsD (es ++ fs) = rowsD es ++ rowsD fs := by unfold rowsD; simp
@[simp] theorem trowsD_len {es : List (List Int)} : (trowsD es).length = es.length := by unfold trowsD; simp
@[simp] theorem trowsD_nil : trowsD [] = [] := rfl
@[simp] theorem trowsD_cons {e : List Int} {es : List (List Int)} : trowsD (e :: es) = D.tup (e.map D.int) :: trowsD es := rfl
theorem flats_ints : ∀ ns : List Int, D.flats (ns.map D.int) = true
  | [] => by simp [D.flats]
  | n :: ns => by simp [D.flats, D.flat, flats_ints ns]
theorem pys_ints : ∀ ns : List Int, D.pys (ns.map D.int) = ns.map PyData.int
  | [] => by simp [D.pys]
  | n :: ns => by simp [D.pys, D.py, pys_ints ns]
theorem flats_rows : ∀ es : List (List Int), D.flats (rowsD es) = true ∧ D.flats (trowsD es) = true
  | [] => by simp [D.flats]
  | e :: es => by
    obtain ⟨h1, h2⟩ := flats_rows es
    simp [D.flats, D.flat, flats_ints, h1, h2]
theorem pys_rows : ∀ es : List (List Int), D.pys (rowsD es) = es.map (fun r => PyData.list (r.map PyData.int)) ∧ D.pys (trowsD es) = es.map (fun r => PyData.tuple (r.map PyData.int))
  | [] => by simp [D.pys]
  | e :: es => by
    obtain ⟨h1, h2⟩ := pys_rows es
    simp [D.pys, D.py, pys_ints, h1, h2]
theorem lay_ints : ∀ ns : List Int, PyData.canLayAll0 (ns.map PyData.int) = true ∧ PyData.depthAll (ns.map PyData.int) = 0
  | [] => by simp [PyData.canLayAll0, PyData.depthAll]
  | n :: ns => by
    obtain ⟨h1, h2⟩ := lay_ints ns
    simp [PyData.canLayAll0, PyData.canLay0, PyData.depthAll, PyData.depth, h1, h2]
theorem lay_rows : ∀ es : List (List Int), (PyData.canLayAll0 (es.map fun r => PyData.list (r.map PyData.int)) = true ∧ PyData.depthAll (es.map fun r => PyData.list (r.map PyData.int)) ≤ 1) ∧
    PyData.canLayAll0 (es.map fun r => PyData.tuple (r.map PyData.int)) = true ∧ PyData.depthAll (es.map fun r => PyData.tuple (r.map PyData.int)) ≤ 1
  | [] => by simp [PyData.canLayAll0, PyData.depthAll]
  | e :: es => by
    obtain ⟨⟨h1, h2⟩, h3, h4⟩ := lay_rows es
    simp [PyData.canLayAll0, PyData.canLay0, PyData.depthAll, PyData.depth, h1, h3, (lay_ints e).1, (lay_ints e).2]
    omega
theorem eqv_ints : ∀ ns ms : List Int, PyData.eqvAll (ns.map PyData.int) (ms.map PyData.int) = decide (ns = ms)
  | [], [] => by simp [PyData.eqvAll]
  | [], m :: ms => by simp [PyData.eqvAll]
  | n :: ns, [] => by simp [PyData.eqvAll]
  | n :: ns, m :: ms => by
    simp only [List.map_cons, PyData.eqvAll, PyData.eqv, eqv_ints ns ms]
    by_cases h : n = m <;> simp [h]
theorem eqv_rows : ∀ es fs : List (List Int), PyData.eqvAll (es.map fun r => PyData.list (r.map PyData.int)) (fs.map fun r => PyData.list (r.map PyData.int)) = decide (es = fs)
  | [], [] => by simp [PyData.eqvAll]
  | [], m :: ms => by simp [PyData.eqvAll]
  | n :: ns, [] => by simp [PyData.eqvAll]
  | n :: ns, m :: ms => by
    simp only [List.map_cons, PyData.eqvAll, PyData.eqv, eqv_rows ns ms, eqv_ints]
    by_cases h : n = m <;> simp [h]
theorem eqv_trows : ∀ es fs : List (List Int), PyData.eqvAll (es.map fun r => PyData.tuple (r.map PyData.int)) (fs.map fun r => PyData.tuple (r.map PyData.int)) = decide (es = fs)
  | [], [] => by simp [PyData.eqvAll]
  | [], m :: ms => by simp [PyData.eqvAll]
  | n :: ns, [] => by simp [PyData.eqvAll]
  | n :: ns, m :: ms => by
    simp only [List.map_cons, PyData.eqvAll, PyData.eqv, eqv_trows ns ms, eqv_ints]
    by_cases h : n = m <;> simp [h]
theorem okD_int (i : Int) : okD (.int i) = true := by simp [okD, D.flat, D.py, SeqAt.shaped, PyData.canLay0, PyData.depth]
theorem okD_bl (i : Bool) : okD (.bl i) = true := by simp [okD, D.flat, D.py, SeqAt.shaped, PyData.canLay0, PyData.depth]
theorem okD_ints (ns : List Int) : okD (.lst (ns.map D.int)) = true := by
  obtain ⟨h1, h2⟩ := lay_ints ns
  simp [okD, D.flat, D.py, SeqAt.shaped, PyData.canLay0, PyData.depth, flats_ints, pys_ints, h1, h2]
theorem okD_tints (ns : List Int) : okD (.tup (ns.map D.int)) = true := by
  obtain ⟨h1, h2⟩ := lay_ints ns
  simp [okD, D.flat, D.py, SeqAt.shaped, PyData.canLay0, PyData.depth, flats_ints, pys_ints, h1, h2]
theorem okD_rows (es : List (List Int)) : okD (.lst (rowsD es)) = true := by
  obtain ⟨⟨h1, h2⟩, _⟩ := lay_rows es
  simp [okD, D.flat, D.py, SeqAt.shaped, PyData.canLay0, PyData.depth, (flats_rows es).1, (pys_rows es).1, h1]
  omega
theorem okD_trows (es : List (List Int)) : okD (.tup (trowsD es)) = true := by
  obtain ⟨_, h1, h2⟩ := lay_rows es
  simp [okD, D.flat, D.py, SeqAt.shaped, PyData.canLay0, PyData.depth, (flats_rows es).2, (pys_rows es).2, h1]
  omega
@[simp] theorem gEq_int (i j : Int) : gEq (.int i) (.int j) = some (decide (i = j)) := by
  unfold gEq
  rw [if_pos ⟨okD_int i, okD_int j⟩]
  simp only [D.py, PyData.eqv]
  by_cases h : i = j <;> simp [h]
@[simp] theorem gEq_bl (i j : Bool) : gEq (.bl i) (.bl j) = some (decide (i = j)) := by
  unfold gEq
  rw [if_pos ⟨okD_bl i, okD_bl j⟩]
  simp only [D.py, PyData.eqv]
  by_cases h : i = j <;> simp [h]
@[simp] theorem gEq_ints (ns ms : List Int) : gEq (.lst (ns.map D.int)) (.lst (ms.map D.int)) = some (decide (ns = ms)) := by
  unfold gEq
  rw [if_pos ⟨okD_ints ns, okD_ints ms⟩]
  simp only [D.py, PyData.eqv, pys_ints, eqv_ints]
@[simp] theorem gEq_tints (ns ms : List Int) : gEq (.tup (ns.map D.int)) (.tup (ms.map D.int)) = some (decide (ns = ms)) := by
  unfold gEq
  rw [if_pos ⟨okD_tints ns, okD_tints ms⟩]
  simp only [D.py, PyData.eqv, pys_ints, eqv_ints]
@[simp] theorem gEq_rows (es fs : List (List Int)) : gEq (.lst (rowsD es)) (.lst (rowsD fs)) = some (decide (es = fs)) := by
  unfold gEq
  rw [if_pos ⟨okD_rows es, okD_rows fs⟩]
  simp only [D.py, PyData.eqv, (pys_rows _).1, eqv_rows]
@[simp] theorem gEq_trows (es fs : List (List Int)) : gEq (.tup (trowsD es)) (.tup (trowsD fs)) = some (decide (es = fs)) := by
  unfold gEq
  rw [if_pos ⟨okD_trows es, okD_trows fs⟩]
  simp only [D.py, PyData.eqv, (pys_rows _).2, eqv_trows]
@[simp] theorem gNe_eq (a b : D) : gNe a b = (gEq a b).map not := rfl
theorem bls?_fun {α : Type} (p : α → Bool) (xs : List α) : bls? (xs.map fun x => D.bl (p x)) = some (xs.map p) := by
  have : (xs.map fun x => D.bl (p x)) = (xs.map p).map D.bl := by simp
  rw [this, bls?_map]
theorem ints?_fun {α : Type} (p : α → Int) (xs : List α) : ints? (xs.map fun x => D.int (p x)) = some (xs.map p) := by
  have : (xs.map fun x => D.int (p x)) = (xs.map p).map D.int := by simp
  rw [this, ints?_map]
theorem fAll_fun {α : Type} (p : α → Bool) (xs : List α) : fAll (.lst (xs.map fun x => D.bl (p x))) = some (.d (.bl (xs.all p))) := by
  show (bls? _).map _ = _
  rw [bls?_fun]
  simp
theorem fAny_fun {α : Type} (p : α → Bool) (xs : List α) : fAny (.lst (xs.map fun x => D.bl (p x))) = some (.d (.bl (xs.any p))) := by
  show (bls? _).map _ = _
  rw [bls?_fun]
  simp
theorem fSum_fun {α : Type} (p : α → Int) (xs : List α) : fSum (.lst (xs.map fun x => D.int (p x))) = some (.d (.int (xs.map p).sum)) := by
  show (ints? _).map _ = _
  rw [ints?_fun]
  rfl
/-- 0, 1, .. -/
def irange (n : Nat) : List Int := (List.range n).map fun (i : Nat) => (i : Int)
theorem rangeD_0 (n : Nat) : rangeD 0 n = (irange n).map D.int := by
  unfold rangeD irange
  simp
@[simp] theorem irange_len {n : Nat} : (irange n).length = n := by unfold irange; simp
theorem irange_mem {n : Nat} {x : Int} : x ∈ irange n ↔ 0 ≤ x ∧ x < n := by
  unfold irange
  simp only [List.mem_map, List.mem_range]
  constructor
  · rintro ⟨i, hi, rfl⟩; omega
  · intro h; exact ⟨x.toNat, by omega, by omega⟩
theorem irange_at {n i : Nat} (h : i < n) : (irange n)[i]? = some (i : Int) := by
  unfold irange
  rw [List.getElem?_map, List.getElem?_range h]
  rfl
theorem range_at {n i : Nat} {d : D} (h : (rangeD 0 n)[i]? = some d) : d = .int i ∧ i < n := by
  unfold rangeD at h
  rw [List.getElem?_map] at h
  obtain ⟨x, hx, rfl⟩ := Option.map_eq_some_iff.mp h
  obtain ⟨h1, h2⟩ := List.getElem?_eq_some_iff.mp hx
  simp at h1 h2
  subst h2
  exact ⟨by simp, h1⟩
@[simp] theorem range_len {lo : Int} {n : Nat} : (rangeD lo n).length = n := by unfold rangeD; simp
theorem rng_ok {n : Int} (h0 : -1000000 ≤ n) (h : n ≤ 1000000) : rngOk n = true := by
  exact decide_eq_true (by omega)
theorem cut_take {xs : List D} {v : Int} (h0 : 0 ≤ v) (h : v ≤ xs.length) : cutD xs none (some v) = xs.take v.toNat := by
  have e1 : HT.sIx xs.length 0 none = 0 := rfl
  have e2 : HT.sIx xs.length xs.length (some v) = v.toNat := by
    show (if v < 0 then (v + (xs.length : Int)).toNat else min v.toNat xs.length) = v.toNat
    rw [if_neg (by omega)]
    omega
  unfold cutD
  rw [e1, e2]
  simp
theorem cut_drop {xs : List D} {v : Int} (h0 : 0 ≤ v) (h : v ≤ xs.length) : cutD xs (some v) none = xs.drop v.toNat := by
  have e1 : HT.sIx xs.length 0 (some v) = v.toNat := by
    show (if v < 0 then (v + (xs.length : Int)).toNat else min v.toNat xs.length) = v.toNat
    rw [if_neg (by omega)]
    omega
  have e2 : HT.sIx xs.length xs.length none = xs.length := rfl
  unfold cutD
  rw [e1, e2]
  exact List.take_of_length_le (by simp)
theorem erase_perm {α : Type} : ∀ {l : List α} {i : Nat} (h : i < l.length), ([l[i]] ++ l.eraseIdx i).Perm l
  | a :: l, 0, _ => by simp
  | a :: l, i + 1, h => by
    have ih := erase_perm (l := l) (i := i) (by simpa using h)
    simp only [List.getElem_cons_succ, List.eraseIdx_cons_succ]
    exact (List.Perm.swap a _ _).trans (ih.cons a)
end MM
end
section
set_option Elab.async false
set_option linter.all false
set_option autoImplicit false
set_option maxRecDepth 100000
set_option maxHeartbeats 4000000
namespace L2
open PySem PySem.Spec PyProof.Rows SrtO
/-! ### sorted(t), a tuple of ints -/
section
variable {prog : Program} {w : World} {A : Around} {E : Value → Shared → Prop} {s : Shared}
theorem mir_collect_tup {l : Addr} {vs : List Value} {Q : List Value → Shared → Prop} (hl : s.heap.IsTuple l vs.toArray) (hsz : vs.length ≤ sizeLine)
    (h : Q vs { s with heap := (s.heap.push (seqObj "list" #[] 0)).update s.heap.objs.size (Obj.mapSeq (· ++ vs.toArray)) }) : wpAny (model prog w) A (collect (.ref l)) Q E s := by
  obtain ⟨o, ho, hc, n, hd⟩ := id hl
  have ho' : (s.heap.push (seqObj "list" #[] 0)).get? l = some o := Heap.get?_push_of_some _ ho
  have hn : (s.heap.push (seqObj "list" #[] 0)).get? s.heap.objs.size = some (seqObj "list" #[] 0) := Heap.get?_push_size _ rfl
  unfold collect
  refine wpAny_bind (wpAny_runValue (codeAny_builtin entry_proto_collect' ?_))
  show wpAny _ _ (do again (.builtin "list.__iadd__" ⟨[← newList [], .ref l], []⟩)) _ _ s
  refine wpAny_bind (wpAny_newList (wpAny_pure ⟨Code.quiet_builtin _ (by decide +kernel), codeAny_builtin entry_list_iadd' ?_⟩))
  show wpAny _ _ (Builtin.List.listExtendWith (.ref s.heap.objs.size) (.ref l) (.ref s.heap.objs.size)) _ _ { s with heap := s.heap.push (seqObj "list" #[] 0) }
  unfold Builtin.List.listExtendWith
  refine wpAny_bind (wpAny_typeOf (T := "tuple") ⟨o, ho', hc⟩ ?_)
  have ht : (Value.type "tuple" == Value.type "tuple") = true := by rfl
  rw [if_pos (by rw [ht]; simp)]
  refine wpAny_bind (listItems_at ho' hd ?_)
  refine wpAny_bind (listItems_at (xs := #[]) (n := 0) hn rfl ?_)
  rw [if_neg (by simp)]
  refine wpAny_bind (listUpdate_at (xs := #[]) (n := 0) hn rfl ?_ (Nat.zero_le _) (by show (#[] ++ vs.toArray).size ≤ sizeLine + 1; simp only [Array.size_append, List.size_toArray, List.length_nil]; omega))
  refine wpAny_pure ?_
  show wpAny (model prog w) A (do
      let o ← load s.heap.objs.size
      match o.data with
      | .seq xs _ => pure xs.toList
      | _ => unsupported "internal:collect") Q E { s with heap := (s.heap.push (seqObj "list" #[] 0)).update s.heap.objs.size (Obj.mapSeq (· ++ vs.toArray)) }
  refine wpAny_bind (wpAny_load (get?_update_seq hn _) ?_)
  show wpAny _ _ (pure ((#[] : Array Value) ++ vs.toArray).toList) Q E _
  rw [show ((#[] : Array Value) ++ vs.toArray).toList = vs by simp]
  exact wpAny_pure h
theorem mir_sorted_tup {l : Addr} {vs : List Value} {ltv : Value → Value → Bool} {Q : Value → Shared → Prop} (O : Swo ltv) (hl : s.heap.IsTuple l vs.toArray) (hz : vs.length ≤ sizeLine)
    (hS : 2 ≤ vs.length → ∀ (h₁ : Heap) (a : Addr), h₁.get? a = some (seqObj "list" vs.toArray 0) → (∀ b o, s.heap.get? b = some o → b ≠ a ∧ h₁.get? b = some o) → SortableO prog w A.in1.in1 { s with heap := h₁ } a vs ltv)
    (h : ∀ out : List Value, Srtd ltv out → Stb ltv out vs → Q (.ref (s.heap.objs.size + 1)) { s with heap := sortedAll s.heap vs out.toArray }) :
    wpAny (model prog w) A (call (.builtin "sorted") [.ref l]) Q E s := by
  refine Calls.call_function_entry kind_sorted plain_sorted entry_sorted (args_sorted1 _) ?_
  unfold Builtin.«sorted»
  refine wpAny_bind (m := checkCount "sorted" 1 1 _) (wpAny_pure ?_)
  refine wpAny_bind (mir_collect_tup hl hz ?_)
  refine wpAny_bind (wpAny_newList ?_ hz)
  have hsz : ((s.heap.push (seqObj "list" #[] 0)).update s.heap.objs.size (Obj.mapSeq (· ++ vs.toArray))).objs.size = s.heap.objs.size + 1 := by
    rw [Heap.size_update, Heap.size_push]
  have hoL : (((s.heap.push (seqObj "list" #[] 0)).update s.heap.objs.size (Obj.mapSeq (· ++ vs.toArray))).push (seqObj "list" vs.toArray 0)).get? (s.heap.objs.size + 1) = some (seqObj "list" vs.toArray 0) := by
    rw [← hsz]; exact Heap.get?_push_size _ rfl
  have keep : ∀ b o, s.heap.get? b = some o → b ≠ s.heap.objs.size + 1 ∧ (((s.heap.push (seqObj "list" #[] 0)).update s.heap.objs.size (Obj.mapSeq (· ++ vs.toArray))).push (seqObj "list" vs.toArray 0)).get? b = some o := fun b o q => by
    have hlt : b < s.heap.objs.size := Heap.lt_size q
    refine ⟨Nat.ne_of_lt (Nat.lt_succ_of_lt hlt), Heap.get?_push_of_some _ ?_⟩
    rw [Heap.get?_update_ne _ _ _ _ (Nat.ne_of_lt hlt)]
    exact Heap.get?_push_of_some _ q
  show wpAny _ _ _ _ _ { s with heap := ((s.heap.push (seqObj "list" #[] 0)).update s.heap.objs.size (Obj.mapSeq (· ++ vs.toArray))).push (seqObj "list" vs.toArray 0) }
  rw [hsz]
  refine wpAny_bind (wpAny_holding (wpAny_call_entry slot_list_sort ⟨_, hoL, rfl⟩ entry_list_sort (list_sort_ord O hoL hz (fun h2 => hS h2 _ _ hoL keep) fun out hs hb => ⟨_, rfl, ?_⟩) (args_list_sort _)))
  exact wpAny_pure ⟨_, rfl, h out hs hb⟩
end
def rSortedIT (K : PySem.W.Frag) : List V → Hp → VK → Prop := fun vs H Q => ∃ (a : Addr) (ns : List Int), vs = [V.ref a] ∧ SqT K H a (ns.map V.int) ∧
  ∀ (ns' : List Int) (p : Addr), ns'.Perm ns → ns'.Pairwise (· ≤ ·) → H p = none → Q (.ref p) (upd H p (.lst (ns'.map V.int)))
theorem cr_sortedIT {X : Cx} : CallR X (.builtin "sorted") (rSortedIT X.K) := by
  intro pins s σ H vs us Q I r h
  obtain ⟨a, ns, rfl, hs, q⟩ := h
  obtain ⟨its, rv, hl, hz⟩ := I.tuple hs
  rw [Vals.ref1 r]
  have hi := rv.ints
  refine mir_sorted_tup SrtO.swo_int hl (by rw [← rv.length]; exact hz) (fun h2 h₁ a' _ _ => SrtO.ints_sortable hi h2) fun out h1 h2 => ?_
  obtain ⟨k1, k2, k3⟩ := SrtO.ints_out hi h1 h2
  obtain ⟨ep, he'⟩ := PyProof.Rows.sortedAll_at s.heap its out.toArray
  have hlen : ((out.map SrtO.iv).map V.int).length ≤ sizeLine := by
    rw [List.length_map, k2.length_eq]
    rw [List.length_map] at hz
    exact hz
  exact ⟨.ref _, upd H (s.heap.objs.size + 1) (.lst ((out.map SrtO.iv).map V.int)), I.laid (t' := s.toks) (fun _ _ => PyProof.Rows.sortedAll_old) (Nat.le_succ _) ⟨hlen, out, ep, vals_of_ints k1, he'⟩, rfl, q _ _ k2 k3 (I.hok.fresh (Nat.le_succ _))⟩
end L2
namespace MM
open PySem PySem.Spec L2
/-- the ints of a list or a tuple -/
def intsOfT : D → Option (List Int)
  | .tup xs => ints? xs
  | d => intsOf d
def fSortedA (d : D) : Option EV := (intsOfT d).map fun ns => .m (.lst ((sortI ns).map D.int))
theorem RB.intsT {k : Kc} {G H : Hp} {v : V} {xs : List D} (g : Same G H) (h : RB k G H v (.tup xs)) {ns : List Int} (e : ints? xs = some ns) : ∃ a, v = .ref a ∧ SqT k.K H a (ns.map V.int) := by
  obtain ⟨a, vs, rfl, h1, r, _⟩ := h.tup g
  rw [ints?_eq e] at r
  rw [← r.ints]
  exact ⟨a, rfl, h1⟩
theorem g_sortedA {X : Cx} {ct : Nat → Addr} : CallG ⟨X.K, ct⟩ (fun vs H Q => rSortedI X.K vs H Q ∨ rSortedIT X.K vs H Q) (gF1 fSortedA) := callG1 fun c G H σ e v d z Q re rb hz q => by
  have fin : ∀ (ns ns' : List Int) (p : Addr), z = .m (.lst ((sortI ns).map D.int)) → ns'.Perm ns → ns'.Pairwise (· ≤ ·) → H p = none → Q (.ref p) (upd H p (.lst (ns'.map V.int))) := fun ns ns' p ez hp hs hf => by
    subst ez
    have : ns' = sortI ns := sorted_eq (hp.trans (sortI_perm ns).symm) hs (sortI_sorted ns)
    subst this
    obtain ⟨r1, r2, r3⟩ := re.newM (x := .lst ((sortI ns).map D.int)) hf ⟨_, rfl, Rps.ofInts _⟩
    exact q G _ _ (Same.refl _) r1 ⟨p, rfl, r2, r3⟩
  unfold fSortedA at hz
  cases h : intsOfT d with
  | none => rw [h] at hz; cases hz
  | some ns =>
    rw [h] at hz; cases hz
    cases d with
    | tup xs =>
      obtain ⟨a, rfl, h1⟩ := RB.intsT re.gh rb h
      exact .inr ⟨a, ns, rfl, h1, fun ns' p hp hs hf => fin ns ns' p rfl hp hs hf⟩
    | lst xs =>
      obtain ⟨a, rfl, h1⟩ := rb.ints re.gh h
      exact .inl ⟨a, ns, rfl, h1, fun ns' p hp hs hf => fin ns ns' p rfl hp hs hf⟩
    | scr xs =>
      obtain ⟨a, rfl, h1⟩ := rb.ints re.gh h
      exact .inl ⟨a, ns, rfl, h1, fun ns' p hp hs hf => fin ns ns' p rfl hp hs hf⟩
    | _ => cases h
theorem cr_sortedA {X : Cx} : CallR X (.builtin "sorted") (fun vs H Q => rSortedI X.K vs H Q ∨ rSortedIT X.K vs H Q) := CallR.or cr_sortedI cr_sortedIT
@[simp] theorem fSortedA_ints {ns : List Int} : fSortedA (.lst (ns.map D.int)) = some (.m (.lst ((sortI ns).map D.int))) := by
  show (ints? (ns.map D.int)).map _ = _
  rw [ints?_map]; rfl
@[simp] theorem fSortedA_tints {ns : List Int} : fSortedA (.tup (ns.map D.int)) = some (.m (.lst ((sortI ns).map D.int))) := by
  show (ints? (ns.map D.int)).map _ = _
  rw [ints?_map]; rfl
end MM
end
section
set_option Elab.async false
set_option linter.all false
set_option autoImplicit false
set_option maxRecDepth 100000
set_option maxHeartbeats 4000000
namespace MM
open PySem PySem.Spec PyProof.Rows L2
/-! ### repr of a truth -/
def rRepr : List V → Hp → VK → Prop := fun xs H Q => ∃ b : Bool, xs = [.bl b] ∧ Q (.str (if b then "True" else "False")) H
def fRepr : D → Option EV
  | .bl b => some (.d (.str (if b then "True" else "False")))
  | _ => none
section
variable {X : Cx} {ct : Nat → Addr}
theorem cr_repr : CallR X (.builtin "repr") rRepr := by
  intro pins s σ H xs us Q I r h
  obtain ⟨b, rfl, q⟩ := h
  obtain ⟨u, rfl, rv⟩ := vals1 r
  obtain ⟨t, rfl⟩ := rv
  exact PySem.P.repr_of_bool ⟨.str _, H, I.tok _, ⟨_, rfl⟩, q⟩
theorem g_repr : CallG ⟨X.K, ct⟩ rRepr (gF1 fRepr) := callG1 fun c G H σ e v d z Q re rb hz q => by
  cases d with
  | bl b => cases hz; rw [rb.bl]; exact ⟨b, rfl, q G H _ (Same.refl _) re (.str _)⟩
  | _ => cases hz
/-! ### x is True, x is not True -/
theorem op_isB : OpR X (compareOp .Is) (fun x y H Q => ∃ a b : Bool, x = .bl a ∧ y = .bl b ∧ Q (.bl (a == b)) H) := by
  intro pins s σ H x y v u Q I rx ry h
  obtain ⟨a, b, rfl, rfl, q⟩ := h
  obtain ⟨t, rfl⟩ := rx
  obtain ⟨t', rfl⟩ := ry
  exact is_bool (fin_bl I q rfl)
theorem op_notB : OpR X (compareOp .IsNot) (fun x y H Q => ∃ a b : Bool, x = .bl a ∧ y = .bl b ∧ Q (.bl (!(a == b))) H) := by
  intro pins s σ H x y v u Q I rx ry h
  obtain ⟨a, b, rfl, rfl, q⟩ := h
  obtain ⟨t, rfl⟩ := rx
  obtain ⟨t', rfl⟩ := ry
  exact isnot_bool (fin_bl I q rfl)
def gIsB : D → D → Option Bool
  | .bl a, .bl b => some (a == b)
  | _, _ => none
def gNotB (a b : D) : Option Bool := (gIsB a b).map not
theorem opB_isB {k : Kc} : OpB k (fun x y H Q => ∃ a b : Bool, x = .bl a ∧ y = .bl b ∧ Q (.bl (a == b)) H) gIsB := fun G H x y a b z Q g ra rb hz q => by
  unfold gIsB at hz
  split at hz
  · cases hz
    rw [ra.bl, rb.bl]
    exact ⟨_, _, rfl, rfl, q⟩
  · cases hz
theorem opB_notB {k : Kc} : OpB k (fun x y H Q => ∃ a b : Bool, x = .bl a ∧ y = .bl b ∧ Q (.bl (!(a == b))) H) gNotB := fun G H x y a b z Q g ra rb hz q => by
  unfold gNotB gIsB at hz
  split at hz
  · cases hz
    rw [ra.bl, rb.bl]
    exact ⟨_, _, rfl, rfl, q⟩
  · cases hz
theorem x_isB : CmpX X ct .Is gIsB := ⟨_, op_isB, opB_isB⟩
theorem x_notB : CmpX X ct .IsNot gNotB := ⟨_, op_notB, opB_notB⟩
end
end MM
end
section
set_option Elab.async false
set_option linter.all false
set_option autoImplicit false
set_option maxRecDepth 100000
set_option maxHeartbeats 4000000
namespace MM
open PySem PySem.Spec L2
/-! ### a fresh thing of no name is held beside the frame -/
section
variable {k : Kc} {c : Fr} {G H : Hp} {σ : L2.St} {e : Env} {a : Addr} {o : HO}
def Fr.hold (c : Fr) (a : Addr) (o : HO) : Fr := ⟨upd c.O a o, c.G0, c.P⟩
theorem RepS.hold (r : RepS k c G σ H e) (hG : G a = none) (hO : c.O a = none) (hH : H a = some o) (hl : Loose σ e a) : RepS k (c.hold a o) G σ H e := by
  refine ⟨r.g0, r.gh, fun b u q => ?_, fun b g1 g2 => ?_, r.len, fun i x hx => ?_, r.dis, r.pin⟩
  · by_cases hb : b = a
    · subst hb
      have q : (upd c.O b o) b = some u := q
      rw [upd_same] at q; rw [hH, ← q]
    · have q : (upd c.O a o) b = some u := q
      rw [upd_ne hb] at q; exact r.oh _ _ q
  · by_cases hb : b = a
    · subst hb; exact absurd hG g1
    · have g2 : (upd c.O a o) b ≠ none := g2
      rw [upd_ne hb] at g2; exact r.fr b g1 g2
  · obtain ⟨v, h1, h2⟩ := r.slot i x hx
    refine ⟨v, h1, ?_⟩
    have own : x.own = true → ∀ {y : MV}, (∃ b, v = .ref b ∧ MAt k c G H b y) → ∃ b, v = .ref b ∧ MAt k (c.hold a o) G H b y := fun hw {y} ⟨b, e1, m⟩ => by
      have na : b ≠ a := fun z => by
        subst z
        rw [e1] at h1
        exact hl i x hx hw h1
      refine ⟨b, e1, m.1, ?_, m.2.2⟩
      show (upd c.O a o) b = none
      rw [upd_ne na]; exact m.2.1
    cases x with
    | d d => exact h2
    | m x => exact own rfl h2
    | p x => exact own rfl h2
    | t _ _ => first | exact h2.elim | exact trivial | cases hw | exact hv.elim | exact h.elim | exact hx.elim | exact hu.elim | cases hy | cases h' | cases hd' | cases h2 | cases h1 | cases hd | cases h3 | cases h4
/-- and let go again: nobody has touched it, nobody owns it -/
theorem RepS.unhold (r : RepS k (c.hold a o) G σ H e) (hO : c.O a = none) (h0 : c.G0 a = none) : RepS k c G σ H e ∧ G a = none ∧ H a = some o ∧ Loose σ e a := by
  have ha : H a = some o := r.oh a o (show (upd c.O a o) a = some o from upd_same)
  refine ⟨⟨r.g0, r.gh, fun b u q => ?_, fun b g1 g2 => ?_, r.len, fun i x hx => ?_, r.dis, r.pin⟩, ?_, ha, fun i x hx hw h1 => ?_⟩
  · have hb : b ≠ a := ne_of_none q hO
    exact r.oh b u (show (upd c.O a o) b = some u by rw [upd_ne hb]; exact q)
  · have hb : b ≠ a := fun z => g2 (z ▸ hO)
    exact r.fr b g1 (show (upd c.O a o) b ≠ none by rw [upd_ne hb]; exact g2)
  · obtain ⟨v, h1, h2⟩ := r.slot i x hx
    refine ⟨v, h1, ?_⟩
    have own : ∀ {y : MV}, (∃ b, v = .ref b ∧ MAt k (c.hold a o) G H b y) → ∃ b, v = .ref b ∧ MAt k c G H b y := fun {y} ⟨b, e1, m⟩ => by
      have q : (upd c.O a o) b = none := m.2.1
      have na : b ≠ a := fun z => by subst z; rw [upd_same] at q; cases q
      rw [upd_ne na] at q
      exact ⟨b, e1, m.1, q, m.2.2⟩
    cases x with
    | d d => exact h2
    | m x => exact own h2
    | p x => exact own h2
    | t _ _ => first | exact h2.elim | exact trivial | cases hw | exact hv.elim | exact h.elim | exact hx.elim | exact hu.elim | cases hy | cases h' | cases hd' | cases h2 | cases h1 | cases hd | cases h3 | cases h4
  · by_cases hg : G a = none
    · exact hg
    · exact absurd h0 (r.fr a hg (show (upd c.O a o) a ≠ none by rw [upd_same]; exact fun z => by cases z))
  · obtain ⟨b, y, _, hb, m⟩ := r.owner hx hw
    rw [h1] at hb
    obtain rfl : a = b := by injection hb with h; injection h with h; injection h
    have q : (upd c.O a o) a = none := m.2.1
    rw [upd_same] at q; cases q
end
/-- a cell that is nobody's is changed -/
theorem RepS.poke {k : Kc} {c : Fr} {G H : Hp} {σ : L2.St} {e : Env} {a : Addr} {o : HO} (r : RepS k c G σ H e) (hG : G a = none) (hO : c.O a = none) (hl : Loose σ e a) : RepS k c G σ (upd H a o) e := by
  refine ⟨r.g0, fun b u q => ?_, fun b u q => ?_, r.fr, r.len, fun i x hx => ?_, r.dis, r.pin⟩
  · rw [upd_ne (ne_of_none q hG)]; exact r.gh _ _ q
  · rw [upd_ne (ne_of_none q hO)]; exact r.oh _ _ q
  · obtain ⟨v, h1, h2⟩ := r.slot i x hx
    refine ⟨v, h1, ?_⟩
    have own : x.own = true → ∀ {y : MV}, (∃ b, v = .ref b ∧ MAt k c G H b y) → ∃ b, v = .ref b ∧ MAt k c G (upd H a o) b y := fun hw {y} ⟨b, e1, m⟩ => by
      have na : b ≠ a := fun z => by
        subst z
        rw [e1] at h1
        exact hl i x hx hw h1
      exact ⟨b, e1, m.keep (Same.refl _) m.1 (upd_ne na)⟩
    cases x with
    | d d => exact h2
    | m x => exact own rfl h2
    | p x => exact own rfl h2
    | t _ _ => first | exact h2.elim | exact trivial | cases hw | exact hv.elim | exact h.elim | exact hx.elim | exact hu.elim | cases hy | cases h' | cases hd' | cases h2 | cases h1 | cases hd | cases h3 | cases h4
theorem Post.hold {α : Type} {k : Kc} {W : WX} {c : Fr} {G : Hp} {σ : L2.St} {a : Addr} {o : HO} {K : Hp → Hp → Env → α → Prop} {r : Res α} (h : Post k W c G σ K r) (hO : c.O a = none) (h0 : c.G0 a = none) :
    Post k W (c.hold a o) G σ (fun G' H' e x => K G' H' e x ∧ RepS k c G' σ H' e ∧ G' a = none ∧ H' a = some o ∧ Loose σ e a) r := by
  cases r with
  | ok x e =>
    intro G' H' s r
    have u := r.unhold hO h0
    exact ⟨h G' H' s u.1, u⟩
  | exc x e => exact fun G' H' cls dc s r rx => h G' H' cls dc s (r.unhold hO h0).1 rx
  | stuck => exact h
/-- f(..).append(x): what is changed has no name -/
def cMutX (T : String) (g : MV → List D → Option (MV × D)) (fv : EM EV) (f : EM (List Tk)) : EM D := fun e => (fv e).bind fun x e1 => match x with
  | .m y => if tyM T y = true then (f e1).bind fun ts e2 => (match vals ts with
      | some ds => (match g y ds with
        | some (_, z) => .ok z e2
        | none => .stuck)
      | none => .stuck) else .stuck
  | _ => .stuck
section
variable {X : Cx} {ct : Nat → Addr} {W : WX}
variable {name : Str} {apos cpos : Pos} {o a : Expr} {es : List Expr} {fv : EM EV} {fs : EM (List Tk)} {T id : String} {r : V → List V → Hp → VK → Prop} {g : MV → List D → Option (MV × D)}
theorem e_mutX (pa : PlainAttrs T) (slot : Slot T name id) (hty : typeOf (.builtin id) = pure (.type "method_descriptor")) (hm : MtM X id r) (hG : MutG ⟨X.K, ct⟩ r g) (ho : SV X ct W o fv) (ha : SA X ct W (a :: es) fs)
    (hbase : attributeBase o name X.env (eval o X.env) = eval o X.env := by rfl)
    (hfew : ((backTo cpos (starEach (a :: es) X.env)).all (fun x => !x.1) && (backToKw cpos (keywordEach [] X.env)).all (fun x => x.1.isSome)
      && decide ((a :: es).length + ([] : List Keyword).length + (if ([] : List Keyword).isEmpty then 0 else 1) < 30)) = true := by rfl)
    (hline : (apos.endLine == cpos.line) = true := by rfl) (hs : starEach (a :: es) X.env = (false, eval a X.env) :: starEach es X.env := by rfl) (hplain : (backTo cpos (starEach es X.env)).any (·.1) = false := by rfl) :
    SE X ct W (.Call (.Attribute o name apos) (a :: es) [] cpos) (cMutX T g fv fs) := PEw (pe_bm pa slot hty hm ho ha hbase hfew hline hs hplain) fun σ H Q q => by
  obtain ⟨c, G, e, re, p⟩ := q
  refine ⟨c, G, e, re, (Post.bind p).imp fun G1 H1 e1 ev s1 r1 p1 v hv => ?_⟩
  cases ev with
  | d d => exact p1.elim
  | p d => exact p1.elim
  | m y =>
    obtain ⟨b, rfl, ⟨hG1, hO, o1, hH1, m1⟩, hl⟩ := hv
    have h0 : c.G0 b = none := by
      cases hb : c.G0 b with
      | none => rfl
      | some w => rw [r1.g0 b w hb] at hG1; cases hG1
    have p1 : Post ⟨X.K, ct⟩ W c G1 σ (fun G' H' x d => ∀ v, Rp ⟨X.K, ct⟩ G' v d → Q v H') (if tyM T y = true then (fs e1).bind fun ts e2 => (match vals ts with
      | some ds => (match g y ds with
        | some (_, z) => .ok z e2
        | none => .stuck)
      | none => .stuck) else .stuck) := p1
    by_cases ht : tyM T y = true
    · rw [if_pos ht] at p1
      refine ⟨tyM_ok ht hH1 m1, c.hold b o1, G1, e1, r1.hold hG1 hO hH1 hl, (Post.hold (Post.bind p1) hO h0).imp fun G2 H2 e2 ts s2 r2 p2 vs hvs => ?_⟩
      obtain ⟨p2, u1, u2, u3, u4⟩ := p2
      split at p2
      · rename_i ds h2
        split at p2
        · rename_i y' z hg
          refine hG G2 H2 b o1 y y' vs ds z Q u1.gh u3 (m1.mono s2) (vals_ok h2 hvs) hg fun o' v m' hv => p2 G2 _ (Same.refl _) ?_ v hv
          exact u1.poke u2 hO u4
        · exact p2.elim
      · exact p2.elim
    · rw [if_neg ht] at p1; exact p1.elim
  | t _ _ => first | exact h2.elim | exact trivial | cases hw | exact hv.elim | exact h.elim | exact hx.elim | exact hu.elim | cases hy | cases h' | cases hd' | cases h2 | cases h1 | cases hd | cases h3 | cases h4
end
end MM
end
section
set_option Elab.async false
set_option linter.all false
set_option autoImplicit false
set_option maxRecDepth 100000
set_option maxHeartbeats 4000000
namespace MM
open PySem PySem.Spec L2

/-! ### list(range(a, b)) -/
def gRg : D → D → Option EV
  | .int i, .int j => if lrOk2 i j = true then some (.m (.lst (rangeD i (j - i).toNat))) else none
  | _, _ => none
theorem lrOk2_iff {i j : Int} (h : lrOk2 i j = true) : RgOk i j := by
  obtain ⟨h1, h2⟩ := Bool.and_eq_true_iff.mp h
  obtain ⟨h2, h3⟩ := Bool.and_eq_true_iff.mp h2
  have := rngOk_iff h1
  have := rngOk_iff h2
  have := of_decide_eq_true h3
  exact ⟨by omega, by omega, by omega, by omega, by omega⟩
section
variable {X : Cx} {ct : Nat → Addr} {W : WX} {p p2 pos pos2 : Pos} {a b : Expr} {fa fb : EM Tk}
theorem v_listR2 (hc : X.calm = true) (hg : Gl X "list") (hm : X.mg "list" = none) (hg2 : Gl X "range") (hm2 : X.mg "range" = none) (ha : SK X ct W a fa) (hb : SK X ct W b fb)
    (na : starEach [a, b] X.env = (false, eval a X.env) :: starEach [b] X.env := by rfl) (nb : starEach [b] X.env = (false, eval b X.env) :: starEach [] X.env := by rfl)
    (hp : (backTo pos2 (starEach [b] X.env)).any (·.1) = false := by rfl)
    (na2 : starEach [.Call (.Name "range" p2) [a, b] [] pos2] X.env = (false, eval (.Call (.Name "range" p2) [a, b] [] pos2) X.env) :: starEach [] X.env := by rfl) :
    SV X ct W (.Call (.Name "list" p) [.Call (.Name "range" p2) [a, b] [] pos2] [] pos) (vBin gRg fa fb) := by
  refine PEw (pe_listRg hc hg hm (prg_2 hg2 hm2 ha hb na nb hp) na2) fun σ H Q q => ?_
  obtain ⟨c, G, e, re, p⟩ := q
  refine two re (R := fun x y H2 => ∃ i j, x = .int i ∧ y = .int j ∧ RgOk i j ∧ ∀ q, H2 q = none → Q (.ref q) (upd H2 q (.lst (rgV i j)))) p fun G2 H2 e2 t1 t2 x y s r2 hx hy p2 => ?_
  split at p2
  · rename_i d1 d2 h1 h2
    have b1 : RB ⟨X.K, ct⟩ G2 H2 x d1 := .of r2 hx h1
    have b2 : RB ⟨X.K, ct⟩ G2 H2 y d2 := .of r2 hy h2
    cases hz : gRg d1 d2 with
    | none => rw [hz] at p2; exact p2.elim
    | some z =>
      rw [hz] at p2
      cases d1 with
      | int i =>
        cases d2 with
        | int j =>
          have hz' : (if lrOk2 i j = true then some (EV.m (.lst (rangeD i (j - i).toNat))) else none) = some z := hz
          split at hz'
          · rename_i hj
            cases hz'
            refine ⟨i, j, b1.int, b2.int, lrOk2_iff hj, fun q hq => ?_⟩
            obtain ⟨r3, r4, r5⟩ := r2.newM (x := .lst (rangeD i (j - i).toNat)) hq ⟨_, rfl, rgV_rps (k := ⟨X.K, ct⟩) (G := G2) i j⟩
            exact p2 G2 _ (Same.refl _) r3 _ ⟨q, rfl, r4, r5⟩
          · cases hz'
        | _ => cases hz
      | _ => cases hz
  · exact p2.elim
end
end MM
end
section
set_option Elab.async false
set_option linter.all false
set_option autoImplicit false
set_option maxRecDepth 100000
set_option maxHeartbeats 4000000
namespace MM
open PySem PySem.Spec L2

/-! ### a pair of data and an own thing, handed out by a def and taken apart at once -/
def RpP (k : Kc) (c : Fr) (G : Hp) (σ : L2.St) (H : Hp) (e : Env) (v : V) (d : D) (y : MV) : Prop := ∃ q w b, v = .ref q ∧ SqT k.K H q [w, .ref b] ∧ Rp k G w d ∧ MAt k c G H b y ∧ Loose σ e b
def TP (k : Kc) (W : WX) (f : EM (D × MV)) : L2.TE := fun σ H Q => ∃ c G e, RepS k c G σ H e ∧ Post k W c G σ (fun G' H' e' p => ∀ v, RpP k c G' σ H' e' v p.1 p.2 → Q v H') (f e)
abbrev SP (X : Cx) (ct : Nat → Addr) (W : WX) (e : Expr) (f : EM (D × MV)) : Prop := PE X e (TP ⟨X.K, ct⟩ W f)
def pTail (F : List EV → Out) (ts : List Tk) : EM (D × MV) := fun e1 => match argE e1 ts with
  | none => .stuck
  | some as => if (slotsOf as).Nodup then (match F (as.map (·.1)) with
    | .ret (.t d y) ps => .ok (d, y) (backE e1 as ps)
    | .exc x ps => .exc x (backE e1 as ps)
    | _ => .stuck) else .stuck
def pCall (F : List EV → Out) (fa : EM (List Tk)) : EM (D × MV) := fun e => (fa e).bind (pTail F)
section
variable {k : Kc} {c : Fr} {G G' H H' : Hp} {σ : L2.St} {e : Env} {vs : List V} {ts : List Tk} {as : List (EV × Option Nat)} {ps : List (Option MV)}
theorem RRes.hereT (r : RepS k c G σ H e) (r' : RepS k c G' σ H' (backE e as ps)) (hv : RpKs k G σ vs ts) (hA : argE e ts = some as) (nd : (slotsOf as).Nodup) (af : Aft k vs (as.map (·.1)) G H G' H' ps) {v : V} {d : D} {y : MV} (h : RRes k G' H H' v (.t d y)) : RpP k c G' σ H' (backE e as ps) v d y := by
  obtain ⟨q, w, a, o, e1, hs, hw, h1, h2, h3, h4⟩ := h
  obtain ⟨a', ea, m, l⟩ := RRes.here r r' hv hA nd af (v := .ref a) (x := .m y) ⟨a, o, rfl, h1, h2, h3, h4⟩ (fun _ _ z => by cases z)
  cases ea
  exact ⟨q, w, a, e1, hs, hw, m, l⟩
theorem post_callP {K : PySem.W.Frag} {ct : Nat → Addr} {W : WX} {F : List EV → Out} {Q : VK} {E : XK} (him : ∀ cls d H, W cls d σ H → E cls d H) (r : RepS ⟨K, ct⟩ c G σ H e) (hv : RpKs ⟨K, ct⟩ G σ vs ts)
    (h : Post ⟨K, ct⟩ W c G σ (fun G' H' e' p => ∀ v, RpP ⟨K, ct⟩ c G' σ H' e' v p.1 p.2 → Q v H') (pTail F ts e)) : spM ⟨K, ct⟩ F vs H Q E := by
  unfold pTail at h
  cases h1 : argE e ts with
  | none => rw [h1] at h; exact h.elim
  | some as =>
    rw [h1] at h
    have h' : Post ⟨K, ct⟩ W c G σ (fun G' H' e' p => ∀ v, RpP ⟨K, ct⟩ c G' σ H' e' v p.1 p.2 → Q v H') (if (slotsOf as).Nodup then (match F (as.map (·.1)) with
        | .ret (.t d y) ps => .ok (d, y) (backE e as ps)
        | .exc x ps => .exc x (backE e as ps)
        | _ => .stuck) else .stuck) := h
    by_cases nd : (slotsOf as).Nodup
    · rw [if_pos nd] at h'
      refine ⟨G, as.map (·.1), r.gh, args_ok r hv h1 nd, ?_⟩
      cases h2 : F (as.map (·.1)) with
      | stuck => rw [h2] at h'; exact h'.elim
      | ret x ps =>
        rw [h2] at h'
        intro G' H' v af hr
        have r' := r.after hv h1 nd af
        cases x with
        | t d y => exact h' G' H' af.g r' v (RRes.hereT r r' hv h1 nd af hr)
        | d x => exact h'.elim
        | m x => exact h'.elim
        | p x => exact h'.elim
      | exc x ps =>
        rw [h2] at h'
        intro G' H' cls dc af hx
        exact him _ _ _ (h' G' H' cls dc af.g (r.after hv h1 nd af) hx)
    · rw [if_neg nd] at h'; exact h'.elim
end
section
variable {X : Cx} {ct : Nat → Addr} {W : WX} {k : Nat} {x : Str} {ps : List Str} {F : List EV → Out} {p pos : Pos} {a : Expr} {es : List Expr} {fa : EM (List Tk)}
theorem p_call (hF : FnAt X.prog X.w X.K X.mg X.base ct k x ps F) (hr : Room k X.A) (hg : Gl X x) (tk : Takes X W) (ha : SA X ct W (a :: es) fa) (hdb : (x == ("__debug__" : Str)) = false := by decide) (he : starEach (a :: es) X.env = (false, eval a X.env) :: starEach es X.env := by rfl)
    (hpl : (backTo pos (starEach es X.env)).any (·.1) = false := by rfl) : SP X ct W (.Call (.Name x p) (a :: es) [] pos) (pCall F fa) := by
  obtain ⟨f, fd, h1, h2, h3, h4⟩ := hF.ex
  refine PEw (pe_callS h1 hr hg h2 h3 h4 (E := WE W) (fun σ => passAt tk σ) ha hdb he hpl) fun σ H Q q => ?_
  obtain ⟨c, G, e, r, p⟩ := q
  refine ⟨c, G, e, r, (Post.bind p).imp fun G1 H1 e1 ts s1 r1 p1 vs hvs => ?_⟩
  exact post_callP (fun _ _ _ h => h) r1 hvs p1
/-- a, b = f(..): the one data, the other an own thing -/
def sUnpT (i j : Nat) (fp : EM (D × MV)) : SM := fun e => (fp e).sb fun p e1 => match pput i (.d p.1) e1 with
  | some e2 => (match pput j (.m p.2) e2 with
    | some e3 => .nx e3
    | none => .stuck)
  | none => .stuck
theorem s_unpT {i j m : Nat} {t1 t2 ex : Expr} {tpos : Pos} {fp : EM (D × MV)} (hc : X.calm = true) (h1 : PG X t1 (gName i)) (h2 : PG X t2 (gName j)) (he : SP X ct W ex fp)
    (hs : swapsWithSole [.Tuple [t1, t2] m tpos] ex pos.line X.env = pure false := by rfl) (hw : swappedStores [.Tuple [t1, t2] m tpos] ex X.env = pure none := by rfl)
    (h3 : (assignEach [.Tuple [t1, t2] m tpos] X.env).map (·.2) = [assign (.Tuple [t1, t2] m tpos) X.env] := by rfl)
    (h4 : (assignEach [t1, t2] X.env).map (·.2) = assign t1 X.env :: (assignEach [t2] X.env).map (·.2) := by rfl) (h5 : (assignEach [t2] X.env).map (·.2) = assign t2 X.env :: (assignEach [] X.env).map (·.2) := by rfl)
    (hn : (assignEach [t1, t2] X.env).length = 2 := by rfl) (hst : (assignEach [t1, t2] X.env).findIdx? (·.1) = none := by rfl) :
    SS X ct W (.Assign [.Tuple [t1, t2] m tpos] ex pos) (sUnpT i j fp) := PSw (ps_asg he (pg_tup (n := 2) hc (pgs_cons h1 (pgs_cons h2 pgs_nil h5) h4) hn hst) hs hw h3) fun Dn σ H q => by
  obtain ⟨c, G, e, r, p⟩ := q
  refine ⟨c, G, e, r, (PostS.sb p).imp fun G' H' e' y s r' h v hv => ?_⟩
  obtain ⟨d, y⟩ := y
  obtain ⟨q, w, b, rfl, hs, hw, hm, hl⟩ := hv
  have h : PostS ⟨X.K, ct⟩ W c G' Dn (match pput i (.d d) e' with
    | some e2 => (match pput j (.m y) e2 with
      | some e3 => .nx e3
      | none => .stuck)
    | none => .stuck) := h
  refine ⟨q, _, rfl, hs, rfl, w, _, rfl, .ref b, _, rfl, rfl, ?_⟩
  cases g1 : pput i (.d d) e' with
  | none => rw [g1] at h; exact h.elim
  | some e2 =>
    rw [g1] at h
    obtain ⟨r2, k2⟩ := pput_ok r' (show RpV ⟨X.K, ct⟩ c G' σ H' e' w (.d d) from hw) g1
    have h : PostS ⟨X.K, ct⟩ W c G' Dn (match pput j (.m y) e2 with
      | some e3 => .nx e3
      | none => .stuck) := h
    cases g2 : pput j (.m y) e2 with
    | none => rw [g2] at h; exact h.elim
    | some e3 =>
      rw [g2] at h
      obtain ⟨r3, _⟩ := pput_ok r2 (k2 (.m y) (.ref b) ⟨b, rfl, hm, hl⟩ (fun z => by cases z)) g2
      exact h G' _ H' (Same.refl _) r3
/-- return (e, name): the name's own thing is handed out in a pair -/
def sRetT (fe : EM D) (j : Nat) : SM := fun e => (fe e).sb fun d e1 => match e1[j]? with
  | some (some (.m y)) => .rt (.t d y) e1
  | _ => .stuck
theorem s_retT {ex : Expr} {y : Str} {j n : Nat} {fe : EM D} {tpos : Pos} (he : SE X ct W ex fe) (hy : PE X (.Name y p) (tVar j)) (s1 : starEach [ex, .Name y p] X.env = (false, eval ex X.env) :: starEach [.Name y p] X.env := by rfl)
    (s2 : starEach [.Name y p] X.env = (false, eval (.Name y p) X.env) :: starEach [] X.env := by rfl) : SS X ct W (.Return (some (.Tuple [ex, .Name y p] n tpos)) pos) (sRetT fe j) := PSw (ps_ret (pe_tup (pa_cons he (pa_cons hy pa_nil s2) s1))) fun Dn σ H q => by
  obtain ⟨c, G, e, r, p⟩ := q
  refine ⟨c, G, e, r, (PostS.sb p).imp fun G' H' e' d s r' h w hw => ?_⟩
  split at h
  · rename_i y hy
    obtain ⟨v, h1, b, e1, m⟩ := r'.slot j _ hy
    subst e1
    refine ⟨_, h1, by show 2 ≤ sizeLine; decide, fun q hq => ?_⟩
    have r2 := r'.layM (o := .tup [w, .ref b]) hq
    refine h G' σ _ _ (Same.refl _) r2 ⟨q, w, b, rfl, .inl (.inl upd_same), hw, ?_, fun i a ha z => ?_⟩
    · obtain ⟨v, h3, b', e1, m2⟩ := r2.slot j _ hy
      rw [h1] at h3
      cases h3
      cases e1
      exact m2
    · subst z
      obtain ⟨z, h3, h4⟩ := r'.pin i a ha
      have := r'.dis i j a _ _ h3 hy rfl rfl h4 h1
      subst this
      rw [hy] at h3
      cases h3
  · exact h.elim
end
@[simp] theorem pCall_ev {F : List EV → Out} {fa : EM (List Tk)} {e : Env} : pCall F fa e = (fa e).bind (pTail F) := rfl
@[simp] theorem pTail_ev {F : List EV → Out} {ts : List Tk} {e : Env} : pTail F ts e = (match argE e ts with
  | none => .stuck
  | some as => if (slotsOf as).Nodup then (match F (as.map (·.1)) with
    | .ret (.t d y) ps => .ok (d, y) (backE e as ps)
    | .exc x ps => .exc x (backE e as ps)
    | _ => .stuck) else .stuck) := rfl
@[simp] theorem sUnpT_ev {i j : Nat} {fp : EM (D × MV)} {e : Env} : sUnpT i j fp e = (fp e).sb fun p e1 => match pput i (.d p.1) e1 with
  | some e2 => (match pput j (.m p.2) e2 with
    | some e3 => .nx e3
    | none => .stuck)
  | none => .stuck := rfl
@[simp] theorem sRetT_ev {fe : EM D} {j : Nat} {e : Env} : sRetT fe j e = (fe e).sb fun d e1 => match e1[j]? with
  | some (some (.m y)) => .rt (.t d y) e1
  | _ => .stuck := rfl
@[simp] theorem gRg_int {i j : Int} : gRg (.int i) (.int j) = if lrOk2 i j = true then some (EV.m (.lst (rangeD i (j - i).toNat))) else none := rfl
theorem lr2_ok {i j : Int} (h0 : -1000000 ≤ i) (h1 : i ≤ 1000000) (h2 : -1000000 ≤ j) (h3 : j ≤ 1000000) : lrOk2 i j = true := by
  unfold lrOk2
  rw [rng_ok h0 h1, rng_ok h2 h3]
  simp
  omega
end MM
end
section
set_option Elab.async false
set_option linter.all false
set_option autoImplicit false
set_option maxRecDepth 100000
set_option maxHeartbeats 4000000
namespace MM
open PySem PySem.Spec L2
/-! ### loops by a measure; loops that may return -/
section
variable {t : EM Bool} {ft : D → Env → Option Env} {body : SM}
theorem while_by (P : Nat → Env → Prop) (R : SRes → Prop) (hR : ¬ R .stuck)
    (hs : ∀ k e, P k e → (∃ e1, t e = .ok false e1 ∧ R (.nx e1)) ∨ (∃ e1, t e = .ok true e1 ∧ ((∃ e2 k', body e1 = .nx e2 ∧ k' < k ∧ P k' e2) ∨ (∃ x e2, body e1 = .rt x e2 ∧ R (.rt x e2))))) :
    ∀ (k : Nat) (e : Env), P k e → R (sWhile t body e) := by
  have go : ∀ (n k : Nat) (e : Env), k ≤ n → P k e → ∃ m r, whileGo t body m e = r ∧ R r := fun n => by
    induction n with
    | zero =>
      intro k e hk hp
      rcases hs k e hp with ⟨e1, h1, h2⟩ | ⟨e1, h1, ⟨e2, k', h2, h3, h4⟩ | ⟨x, e2, h2, h3⟩⟩
      · exact ⟨1, .nx e1, by simp [whileGo, h1], h2⟩
      · omega
      · exact ⟨1, .rt x e2, by simp [whileGo, h1, h2], h3⟩
    | succ n ih =>
      intro k e hk hp
      rcases hs k e hp with ⟨e1, h1, h2⟩ | ⟨e1, h1, ⟨e2, k', h2, h3, h4⟩ | ⟨x, e2, h2, h3⟩⟩
      · exact ⟨1, .nx e1, by simp [whileGo, h1], h2⟩
      · obtain ⟨m, r, h5, h6⟩ := ih k' e2 (by omega) h4
        exact ⟨m + 1, r, by simp [whileGo, h1, h2, h5], h6⟩
      · exact ⟨1, .rt x e2, by simp [whileGo, h1, h2], h3⟩
  intro k e hp
  obtain ⟨m, r, h1, h2⟩ := go k k e (Nat.le_refl _) hp
  have hr : r ≠ .stuck := fun z => by subst z; exact hR h2
  rw [sWhile_eq h1 hr]
  exact h2
theorem forGo_rt_go {P : Nat → Env → Prop} {R : EV → Env → Prop} : ∀ (ds : List D) (k : Nat) (e : Env), P k e → (∀ i d e, ds[i]? = some d → P (k + i) e → ∃ e1, ft d e = some e1 ∧ ((∃ e2, body e1 = .nx e2 ∧ P (k + i + 1) e2) ∨ (∃ x e2, body e1 = .rt x e2 ∧ R x e2))) →
    (∃ e', forGo ft body ds e = .nx e' ∧ P (k + ds.length) e') ∨ (∃ x e', forGo ft body ds e = .rt x e' ∧ R x e')
  | [], k, e, h, _ => .inl ⟨e, rfl, h⟩
  | d :: ds, k, e, h, hs => by
    obtain ⟨e1, h1, h2⟩ := hs 0 d e rfl h
    rcases h2 with ⟨e2, h2, h3⟩ | ⟨x, e2, h2, h3⟩
    · have := forGo_rt_go (P := P) (R := R) ds (k + 1) e2 h3 fun i d' e0 hd hp => by
        have := hs (i + 1) d' e0 (by simpa using hd) (by rw [show k + (i + 1) = k + 1 + i by omega]; exact hp)
        rw [show k + (i + 1) + 1 = k + 1 + i + 1 by omega] at this
        exact this
      rcases this with ⟨e', h4, h5⟩ | ⟨x, e', h4, h5⟩
      · refine .inl ⟨e', ?_, by rw [List.length_cons, show k + (ds.length + 1) = k + 1 + ds.length by omega]; exact h5⟩
        simp only [forGo, h1, h2]
        exact h4
      · refine .inr ⟨x, e', ?_, h5⟩
        simp only [forGo, h1, h2]
        exact h4
    · refine .inr ⟨x, e2, ?_, h3⟩
      simp only [forGo, h1, h2]
/-- a loop that ends by itself or returns -/
theorem forGo_rt (P : Nat → Env → Prop) (R : EV → Env → Prop) {ds : List D} {e : Env} (h0 : P 0 e) (hs : ∀ i d e, ds[i]? = some d → P i e → ∃ e1, ft d e = some e1 ∧ ((∃ e2, body e1 = .nx e2 ∧ P (i + 1) e2) ∨ (∃ x e2, body e1 = .rt x e2 ∧ R x e2))) :
    (∃ e', forGo ft body ds e = .nx e' ∧ P ds.length e') ∨ (∃ x e', forGo ft body ds e = .rt x e' ∧ R x e') := by
  have := forGo_rt_go (P := P) (R := R) ds 0 e h0 fun i d e0 hd hp => by
    rw [Nat.zero_add] at hp ⊢
    exact hs i d e0 hd hp
  rw [Nat.zero_add] at this
  exact this
end
theorem rangeD_mem {lo : Int} {n : Nat} {d : D} : d ∈ rangeD lo n ↔ ∃ v : Int, d = .int v ∧ lo ≤ v ∧ v < lo + n := by
  unfold rangeD
  simp only [List.mem_map, List.mem_range]
  constructor
  · rintro ⟨i, hi, rfl⟩
    exact ⟨_, rfl, by omega, by omega⟩
  · rintro ⟨v, rfl, h1, h2⟩
    exact ⟨(v - lo).toNat, by omega, by congr 1; omega⟩
theorem ints_mem {xs : List Int} {d : D} : d ∈ xs.map D.int ↔ ∃ v, d = .int v ∧ v ∈ xs := by
  simp only [List.mem_map]
  constructor
  · rintro ⟨v, h, rfl⟩; exact ⟨v, rfl, h⟩
  · rintro ⟨v, rfl, h⟩; exact ⟨v, h, rfl⟩
end MM
end
section
set_option Elab.async false
set_option linter.all false
set_option autoImplicit false
set_option maxRecDepth 100000
set_option maxHeartbeats 4000000
namespace MM
open PySem PySem.Spec L2
/-! ### borrowing: all own things are data while one expression is reckoned, then own again -/
def frzE : Option EV → Option EV
  | some (.m x) => x.frz.map .d
  | some (.p x) => x.frz.map .d
  | some (.d d) => some (.d d)
  | _ => none
def frzAll (e : Env) : Env := e.map frzE
open Classical in
theorem RepS.borrow {k : Kc} {c : Fr} {G H : Hp} {σ : L2.St} {e : Env} (r : RepS k c G σ H e) : ∃ G', Same G G' ∧ RepS k ⟨H, G', fun _ => none⟩ G' σ H (frzAll e) := by
  let own (a : Addr) : Prop := ∃ (i : Nat) (x : EV), e[i]? = some (some x) ∧ x.own = true ∧ σ[i]? = some (some (.ref a))
  let G' : Hp := fun a => if own a then H a else G a
  have ownG : ∀ a, own a → G a = none := fun a ⟨i, x, hx, hw, hs⟩ => by
    obtain ⟨b, y, _, h1, m1, _⟩ := r.owner hx hw
    rw [hs] at h1
    cases h1
    exact m1
  have sG : Same G G' := fun a o h => by
    by_cases q : own a
    · rw [ownG a q] at h; cases h
    · show (if own a then H a else G a) = _
      rw [if_neg q]; exact h
  have sH : Same G' H := fun a o h => by
    have h : (if own a then H a else G a) = some o := h
    by_cases q : own a
    · rw [if_pos q] at h; exact h
    · rw [if_neg q] at h; exact r.gh a o h
  refine ⟨G', sG, Same.refl _, sH, Same.refl _, fun a h _ => h, by unfold frzAll; rw [List.length_map]; exact r.len, fun i x hx => ?_, fun i j a x y hx hy wx wy h1 h2 => ?_, fun i a h => by cases h⟩
  · unfold frzAll at hx
    rw [List.getElem?_map] at hx
    obtain ⟨z, hz, ez⟩ := Option.map_eq_some_iff.mp hx
    cases z with
    | none => cases ez
    | some z =>
      obtain ⟨v, h1, h2⟩ := r.slot i z hz
      refine ⟨v, h1, ?_⟩
      have go : ∀ {y : MV}, z.own = true → (∃ a, v = .ref a ∧ MAt k c G H a y) → y.frz.map EV.d = some x → EVRep k ⟨H, G', fun _ => none⟩ G' H v x := fun {y} hw ⟨a, e1, m1, _, o, m3, m4⟩ hf => by
        obtain ⟨d, hd, ed⟩ := Option.map_eq_some_iff.mp hf
        subst ed
        subst e1
        have oa : own a := ⟨i, z, hz, hw, h1⟩
        exact m4.rp hd sG (by show (if own a then H a else G a) = _; rw [if_pos oa]; exact m3)
      cases z with
      | d d =>
        have ez : some (EV.d d) = some x := ez
        cases ez
        exact Rp.mono sG h2
      | m y => exact go rfl h2 ez
      | p y => exact go rfl h2 ez
      | t _ _ => exact h2.elim
  · unfold frzAll at hx
    rw [List.getElem?_map] at hx
    obtain ⟨z, hz, ez⟩ := Option.map_eq_some_iff.mp hx
    have : x.own = false := by
      cases z with
      | none => cases ez
      | some z =>
        cases z with
        | d d => have ez : some (EV.d d) = some x := ez; cases ez; rfl
        | m y => obtain ⟨d, _, ed⟩ := Option.map_eq_some_iff.mp (show y.frz.map EV.d = some x from ez); subst ed; rfl
        | p y => obtain ⟨d, _, ed⟩ := Option.map_eq_some_iff.mp (show y.frz.map EV.d = some x from ez); subst ed; rfl
        | t _ _ => cases ez
    rw [this] at wx
    cases wx
theorem RepS.thaw {k : Kc} {c : Fr} {G H H' : Hp} {σ : L2.St} {e : Env} (r : RepS k c G σ H e) (s : Same H H') : RepS k c G σ H' e := by
  refine ⟨r.g0, r.gh.trans s, r.oh.trans s, r.fr, r.len, fun i x hx => ?_, r.dis, r.pin⟩
  obtain ⟨v, h1, h2⟩ := r.slot i x hx
  refine ⟨v, h1, ?_⟩
  have own : ∀ {y : MV}, (∃ a, v = .ref a ∧ MAt k c G H a y) → ∃ a, v = .ref a ∧ MAt k c G H' a y := fun {y} ⟨a, e1, m1, m2, o, m3, m4⟩ => ⟨a, e1, m1, m2, o, s a o m3, m4⟩
  cases x with
  | d d => exact h2
  | m y => exact own h2
  | p y => exact own h2
  | t _ _ => exact h2.elim
theorem Rp.sc2 {k : Kc} {G G' : Hp} {v : V} {d : D} (h : Rp k G v d) (hd : d.sc = true) : Rp k G' v d := by
  cases h with
  | non => exact .non
  | bl b => exact .bl b
  | int i => exact .int i
  | str x => exact .str x
  | lst _ _ => cases hd
  | scr _ => cases hd
  | rng _ => cases hd
  | tup _ _ => cases hd
  | obj _ _ _ => cases hd
  | dic _ _ _ => cases hd
theorem Rps.sc2 {k : Kc} {G G' : Hp} : ∀ {vs : List V} {ds : List D}, Rps k G vs ds → ds.all D.sc = true → Rps k G' vs ds
  | _, _, .nil, _ => .nil
  | _, _, .cons a b, h => by
    rw [List.all_cons, Bool.and_eq_true] at h
    exact .cons (Rp.sc2 a h.1) (Rps.sc2 b h.2)
def tBor (f : EM Bool) : EM Bool := fun e => match f (frzAll e) with
  | .ok b _ => .ok b e
  | _ => .stuck
def eBor (f : EM D) : EM D := fun e => match f (frzAll e) with
  | .ok d _ => if d.sc = true then .ok d e else .stuck
  | _ => .stuck
def vBor (f : EM EV) : EM EV := fun e => match f (frzAll e) with
  | .ok (.d d) _ => if d.sc = true then .ok (.d d) e else .stuck
  | .ok (.m (.lst ds)) _ => if ds.all D.sc = true then .ok (.m (.lst ds)) e else .stuck
  | _ => .stuck
section
variable {X : Cx} {ct : Nat → Addr} {W : WX} {ex : Expr}
theorem t_bor {f : EM Bool} (h : ST X ct W ex f) : ST X ct W ex (tBor f) := PTw h fun σ H Q q => by
  obtain ⟨c, G, e, r, p⟩ := q
  obtain ⟨G', sG, r'⟩ := r.borrow
  refine ⟨_, G', _, r', ?_⟩
  unfold tBor at p
  cases hf : f (frzAll e) with
  | stuck => rw [hf] at p; exact p.elim
  | exc y e' => rw [hf] at p; exact p.elim
  | ok b e' =>
    rw [hf] at p
    exact fun G2 H2 s2 r2 => p G H2 (Same.refl _) (r.thaw r2.oh)
theorem e_bor {f : EM D} (h : SE X ct W ex f) : SE X ct W ex (eBor f) := PEw h fun σ H Q q => by
  obtain ⟨c, G, e, r, p⟩ := q
  obtain ⟨G', sG, r'⟩ := r.borrow
  refine ⟨_, G', _, r', ?_⟩
  unfold eBor at p
  cases hf : f (frzAll e) with
  | stuck => rw [hf] at p; exact p.elim
  | exc y e' => rw [hf] at p; exact p.elim
  | ok d e' =>
    rw [hf] at p
    have p : Post ⟨X.K, ct⟩ W c G σ (fun G' H' _ d => ∀ v, Rp ⟨X.K, ct⟩ G' v d → Q v H') (if d.sc = true then .ok d e else .stuck) := p
    by_cases hd : d.sc = true
    · rw [if_pos hd] at p
      exact fun G2 H2 s2 r2 v hv => p G H2 (Same.refl _) (r.thaw r2.oh) v (Rp.sc2 hv hd)
    · rw [if_neg hd] at p; exact p.elim
theorem v_bor {f : EM EV} (h : SV X ct W ex f) : SV X ct W ex (vBor f) := PEw h fun σ H Q q => by
  obtain ⟨c, G, e, r, p⟩ := q
  obtain ⟨G', sG, r'⟩ := r.borrow
  refine ⟨_, G', _, r', ?_⟩
  unfold vBor at p
  cases hf : f (frzAll e) with
  | stuck => rw [hf] at p; exact p.elim
  | exc y e' => rw [hf] at p; exact p.elim
  | ok y e' =>
    rw [hf] at p
    cases y with
    | t _ _ => exact p.elim
    | p _ => exact p.elim
    | d d =>
      have p : Post ⟨X.K, ct⟩ W c G σ (fun G' H' e' x => ∀ v, RpV ⟨X.K, ct⟩ c G' σ H' e' v x → Q v H') (if d.sc = true then .ok (.d d) e else .stuck) := p
      by_cases hd : d.sc = true
      · rw [if_pos hd] at p
        exact fun G2 H2 s2 r2 v hv => p G H2 (Same.refl _) (r.thaw r2.oh) v (show Rp _ _ _ _ from Rp.sc2 hv hd)
      · rw [if_neg hd] at p; exact p.elim
    | m y =>
      cases y with
      | dic _ _ => exact p.elim
      | obj _ _ _ => exact p.elim
      | lst ds =>
        have p : Post ⟨X.K, ct⟩ W c G σ (fun G' H' e' x => ∀ v, RpV ⟨X.K, ct⟩ c G' σ H' e' v x → Q v H') (if ds.all D.sc = true then .ok (.m (.lst ds)) e else .stuck) := p
        by_cases hd : ds.all D.sc = true
        · rw [if_pos hd] at p
          intro G2 H2 s2 r2 v hv
          obtain ⟨a, e1, ⟨m1, m2, o, m3, vs, rfl, m4⟩, l⟩ := hv
          have hHa : H a = none := m2
          have rt := r.thaw r2.oh
          refine p G H2 (Same.refl _) rt v ⟨a, e1, ⟨?_, ?_, _, m3, vs, rfl, Rps.sc2 m4 hd⟩, fun i x hx hw hs => ?_⟩
          · cases q : G a with
            | none => rfl
            | some o => rw [r.gh a o q] at hHa; cases hHa
          · cases q : c.O a with
            | none => rfl
            | some o => rw [r.oh a o q] at hHa; cases hHa
          · obtain ⟨b, y, _, h1, _, _, o, h3, _⟩ := r.owner hx hw
            rw [hs] at h1
            cases h1
            rw [hHa] at h3
            cases h3
        · rw [if_neg hd] at p; exact p.elim
end
@[simp] theorem tBor_ev {f : EM Bool} {e : Env} : tBor f e = (match f (frzAll e) with
  | .ok b _ => .ok b e
  | _ => .stuck) := rfl
@[simp] theorem eBor_ev {f : EM D} {e : Env} : eBor f e = (match f (frzAll e) with
  | .ok d _ => if d.sc = true then .ok d e else .stuck
  | _ => .stuck) := rfl
@[simp] theorem vBor_ev {f : EM EV} {e : Env} : vBor f e = (match f (frzAll e) with
  | .ok (.d d) _ => if d.sc = true then .ok (.d d) e else .stuck
  | .ok (.m (.lst ds)) _ => if ds.all D.sc = true then .ok (.m (.lst ds)) e else .stuck
  | _ => .stuck) := rfl
@[simp] theorem frzAll_nil : frzAll [] = [] := rfl
@[simp] theorem frzAll_cons {x : Option EV} {e : Env} : frzAll (x :: e) = frzE x :: frzAll e := rfl
@[simp] theorem frzE_none : frzE none = none := rfl
@[simp] theorem frzE_d {d : D} : frzE (some (.d d)) = some (.d d) := rfl
@[simp] theorem frzE_m {y : MV} : frzE (some (.m y)) = y.frz.map .d := rfl
@[simp] theorem frzE_p {y : MV} : frzE (some (.p y)) = y.frz.map .d := rfl
@[simp] theorem sc_int {i : Int} : (D.int i).sc = true := rfl
@[simp] theorem sc_bl {i : Bool} : (D.bl i).sc = true := rfl
@[simp] theorem sc_non : (D.non).sc = true := rfl
@[simp] theorem sc_str {i : Str} : (D.str i).sc = true := rfl
@[simp] theorem sc_ints {ns : List Int} : (ns.map D.int).all D.sc = true := by
  rw [List.all_map, List.all_eq_true]
  intros
  rfl
end MM
end
section
set_option Elab.async false
set_option linter.all false
set_option autoImplicit false
set_option maxRecDepth 100000
set_option maxHeartbeats 4000000
namespace MM
open PySem PySem.Spec L2
/-! ### f(new thing): a fresh own thing of no name is handed to a def that may change it -/
section
variable {k : Kc} {c : Fr} {G G' H H' : Hp} {σ : L2.St} {e : Env} {a : Addr} {y : MV} {ps : List (Option MV)}
theorem pin_one {i : Nat} {b : Addr} (h : pinA [.ref a] [.p y] i = some b) : b = a := by
  obtain ⟨_, h2⟩ := pinA_ok h
  cases i with
  | zero => simp at h2; exact h2.symm
  | succ i => simp at h2
theorem RepS.afterF (r : RepS k c G σ H e) (m : MAt k c G H a y) (hl : Loose σ e a) (af : Aft k [.ref a] [.p y] G H G' H' ps) : RepS k c G' σ H' e := by
  obtain ⟨m1, m2, o, m3, m4⟩ := m
  have newN : ∀ {b : Addr}, G b = none → H b ≠ none → G' b = none := fun {b} h1 h2 => by
    cases q : G' b with
    | none => rfl
    | some o => exact absurd (af.new b (by rw [q]; exact fun z => by cases z) h1) h2
  refine ⟨r.g0.trans af.g, af.gh, fun b o h => af.keep b o (r.oh b o h) fun i q => ?_, fun b h1 h2 => ?_, r.len, fun i x hx => ?_, r.dis, r.pin⟩
  · rw [pin_one q, m2] at h; cases h
  · cases q : G b with
    | some o => exact r.fr b (by rw [q]; exact fun z => by cases z) h2
    | none =>
      have := af.new b h1 q
      cases q2 : c.O b with
      | none => exact absurd q2 h2
      | some o => rw [r.oh b o q2] at this; cases this
  · obtain ⟨v, h1, h2⟩ := r.slot i x hx
    refine ⟨v, h1, ?_⟩
    have own : x.own = true → ∀ {z : MV}, (∃ b, v = .ref b ∧ MAt k c G H b z) → ∃ b, v = .ref b ∧ MAt k c G' H' b z := fun hw {z} ⟨b, e1, n1, n2, o2, n3, n4⟩ => by
      subst e1
      have nb : b ≠ a := fun w => by subst w; exact hl i x hx hw h1
      exact ⟨b, rfl, newN n1 (by rw [n3]; exact fun z => by cases z), n2, o2, af.keep b o2 n3 (fun i q => nb (pin_one q)), n4.mono af.g⟩
    cases x with
    | d d => exact Rp.mono af.g h2
    | m z => exact own rfl h2
    | p z => exact own rfl h2
    | t _ _ => exact h2.elim
theorem RRes.hereF (r : RepS k c G σ H e) {v : V} {x : EV} (h : RRes k G' H H' v x) (nt : ∀ d y, x ≠ .t d y) : RpV k c G' σ H' e v x := by
  cases x with
  | d d => exact h
  | p y => exact h.elim
  | m y =>
    obtain ⟨b, o, rfl, h1, h2, h3, h4⟩ := h
    refine ⟨b, rfl, ⟨h1, ?_, o, h3, h4⟩, fun j x hx hw hs => ?_⟩
    · cases q : c.O b with
      | none => rfl
      | some o => rw [r.oh b o q] at h2; cases h2
    · obtain ⟨b', z, _, h5, _, _, o2, h6, _⟩ := r.owner hx hw
      rw [hs] at h5
      cases h5
      rw [h2] at h6
      cases h6
  | t d y => exact absurd rfl (nt d y)
end
def vCallF (F : List EV → Out) (fv : EM EV) : EM EV := fun e => (fv e).bind fun x e1 => match x with
  | .m y => (match (F [.p y]).noT with
    | .ret r _ => .ok r e1
    | .exc x _ => .exc x e1
    | .stuck => .stuck)
  | _ => .stuck
section
variable {X : Cx} {ct : Nat → Addr} {W : WX} {k : Nat} {x : Str} {ps : List Str} {F : List EV → Out} {p pos : Pos} {a : Expr} {fv : EM EV}
theorem v_callF (hF : FnAt X.prog X.w X.K X.mg X.base ct k x ps F) (hr : Room k X.A) (hg : Gl X x) (tk : Takes X W) (ha : SV X ct W a fv) (hdb : (x == ("__debug__" : Str)) = false := by decide) (he : starEach [a] X.env = (false, eval a X.env) :: starEach [] X.env := by rfl)
    (hpl : (backTo pos (starEach [] X.env)).any (·.1) = false := by rfl) : SV X ct W (.Call (.Name x p) [a] [] pos) (vCallF F fv) := by
  obtain ⟨f, fd, h1, h2, h3, h4⟩ := hF.ex
  refine PEw (pe_callS h1 hr hg h2 h3 h4 (E := WE W) (fun σ => passAt tk σ) (pa_cons ha pa_nil he) hdb he hpl) fun σ H Q q => ?_
  obtain ⟨c, G, e, r, p⟩ := q
  refine ⟨c, G, e, r, (Post.bind p).imp fun G1 H1 e1 z s1 r1 p1 v hv => ?_⟩
  show spM ⟨X.K, ct⟩ F [v] H1 Q (WE W σ)
  cases z with
  | d _ => exact p1.elim
  | p _ => exact p1.elim
  | t _ _ => exact p1.elim
  | m y =>
    obtain ⟨b, rfl, m, l⟩ := hv
    have p1 : Post ⟨X.K, ct⟩ W c G1 σ (fun G' H' e' x => ∀ v, RpV ⟨X.K, ct⟩ c G' σ H' e' v x → Q v H') (match (F [.p y]).noT with
      | .ret r _ => .ok r e1
      | .exc x _ => .exc x e1
      | .stuck => .stuck) := p1
    have m' := m
    obtain ⟨m1, m2, o, m3, m4⟩ := m'
    refine ⟨G1, [.p y], r1.gh, ⟨rfl, fun i x hx => ?_, fun i j b' h1 h2 => ?_⟩, ?_⟩
    · cases i with
      | zero => simp at hx; subst hx; exact ⟨.ref b, rfl, b, o, rfl, m1, m3, m4⟩
      | succ i => simp at hx
    · obtain ⟨⟨x1, h3⟩, _⟩ := pinA_ok h1
      obtain ⟨⟨x2, h4⟩, _⟩ := pinA_ok h2
      have g1 := (List.getElem?_eq_some_iff.mp h3).1
      have g2 := (List.getElem?_eq_some_iff.mp h4).1
      simp at g1 g2
      omega
    · cases h2 : F [.p y] with
      | stuck => rw [h2] at p1; exact p1.elim
      | ret z qs =>
        rw [h2] at p1
        intro G' H' v af hr
        have r' := r1.afterF m l af
        cases z with
        | t _ _ => exact p1.elim
        | d x => exact p1 G' H' af.g r' v (RRes.hereF (x := .d x) r1 hr (fun _ _ z => by cases z))
        | m x => exact p1 G' H' af.g r' v (RRes.hereF (x := .m x) r1 hr (fun _ _ z => by cases z))
        | p x => exact hr.elim
      | exc z qs =>
        rw [h2] at p1
        intro G' H' cls dc af hx
        exact p1 G' H' cls dc af.g (r1.afterF m l af) hx
end
@[simp] theorem vCallF_ev {F : List EV → Out} {fv : EM EV} {e : Env} : vCallF F fv e = (fv e).bind fun x e1 => match x with
  | .m y => (match (F [.p y]).noT with
    | .ret r _ => .ok r e1
    | .exc x _ => .exc x e1
    | .stuck => .stuck)
  | _ => .stuck := rfl
end MM
end
section
set_option Elab.async false
set_option linter.all false
set_option autoImplicit false
set_option maxRecDepth 100000
set_option maxHeartbeats 4000000
namespace MM
open PySem PySem.Spec L2
/-! ### xs[::-1] -/
def vRev (f : EM Tk) : EM EV := fun e => (f e).bind fun t e1 => match rdK e1 t with
  | some (.lst xs) => .ok (.m (.lst xs.reverse)) e1
  | _ => .stuck
theorem v_rev {X : Cx} {ct : Nat → Addr} {W : WX} {a : Expr} {k : Nat} {p1 p2 p3 pos : Pos} {fa : EM Tk} (ha : SK X ct W a fa) : SV X ct W (.Subscript a (.Slice none none (some (.UnaryOp .USub (.Constant (.int 1) k p1) p2)) p3) pos) (vRev fa) := by
  refine PEw (pe_revL ha) fun σ H Q q => ?_
  obtain ⟨c, G, e, r, p⟩ := q
  refine ⟨c, G, e, r, (Post.bind p).imp fun G1 H1 e1 t s1 r1 p1 v hv => ?_⟩

  cases hd : rdK e1 t with
  | none => rw [hd] at p1; exact p1.elim
  | some d =>
    rw [hd] at p1
    have rb : RB ⟨X.K, ct⟩ G1 H1 v d := .of r1 hv hd
    cases d with
    | lst xs =>
      obtain ⟨b, vs, rfl, h1, h2⟩ := rb.lst r1.gh
      refine ⟨b, vs, rfl, SqL.of h1, fun q hq => ?_⟩
      obtain ⟨r2, r3, r4⟩ := r1.newM (x := .lst xs.reverse) hq ⟨_, rfl, h2.reverse⟩
      exact p1 G1 _ (Same.refl _) r2 _ ⟨q, rfl, r3, r4⟩
    | _ => exact p1.elim
@[simp] theorem vRev_ev {f : EM Tk} {e : Env} : vRev f e = (f e).bind fun t e1 => match rdK e1 t with
  | some (.lst xs) => .ok (.m (.lst xs.reverse)) e1
  | _ => .stuck := rfl
end MM
end
section
set_option Elab.async false
set_option linter.all false
set_option autoImplicit false
set_option maxRecDepth 100000
set_option maxHeartbeats 4000000
namespace MM
open PySem PySem.Spec L2
@[simp] theorem sPar3_ev {i j l : Nat} {fa fb fc : EM EV} {e : Env} : sPar3 i j l fa fb fc e = (fa e).sb fun x e1 => (fb e1).sb fun y e2 => (fc e2).sb fun z e3 => match pput i x e3 with
  | some e4 => (match pput j y e4 with
    | some e5 => (match pput l z e5 with
      | some e6 => .nx e6
      | none => .stuck)
    | none => .stuck)
  | none => .stuck := rfl
@[simp] theorem fRepr_bl {b : Bool} : fRepr (.bl b) = some (.d (.str (if b then "True" else "False"))) := rfl
theorem gEq_repr (a b : Bool) : gEq (.str (if a then "True" else "False")) (.str (if b then "True" else "False")) = some (decide (a = b)) := by
  cases a <;> cases b <;> decide +kernel
end MM
end
section
set_option Elab.async false
set_option linter.all false
set_option autoImplicit false
set_option maxRecDepth 100000
set_option maxHeartbeats 4000000
namespace MM
open PySem PySem.Spec L2
/-! ### NAME, a tuple of strings of the module -/
theorem strs_rps {k : Kc} {G : Hp} : ∀ zs : List Str, Rps k G (zs.map V.str) (zs.map D.str)
  | [] => .nil
  | z :: zs => .cons (.str z) (strs_rps zs)
section
variable {X : Cx} {ct : Nat → Addr} {W : WX} {pos : Pos} {x : Str} {p : Addr} {zs : List Str}
theorem e_gtup {ds : List D} (hg : Gl X x) (hm : X.mg x = some (.ref p)) (hs : ∀ H, SqT X.K H p (zs.map V.str)) (hz : ds = zs.map D.str := by rfl) (hd : (x == ("__debug__" : Str)) = false := by decide) : SE X ct W (.Name x pos) (cC (.tup ds)) := e_const (v := .ref p) (pe_glob hg hm rfl hd) fun G => .tup (hs G) (by rw [hz]; exact strs_rps zs)
end
/-! ### a tuple so many times -/
open PyProof.Rows in
theorem tuple_mul1 (l : Addr) (items : Array Value) (n : Nat) (dd : Option Addr) (sl : Array (Option Value)) (u : Tok) :
    Meets (Builtin.«tuple.__mul__» ⟨[.ref l, .int 1 u], []⟩) (fun _ R s => s.heap.get? l = some { cls := .type "tuple", dict := dd, data := .seq items n, slots := sl } ∧
      R (.ok (.ret (Value.ref l))) s) :=
  .of_wp fun prog w A R s h => by
    obtain ⟨hp, g, d, tk, os⟩ := s
    obtain ⟨hl, h⟩ := h
    have f1 := AutoSeq1.idx_int
    have c0 : (decide ((1 : Int) < -(2 ^ 63)) || decide ((1 : Int) ≥ 2 ^ 63)) = false := by decide
    have c1 : (items.isEmpty || (1 : Int) == 1) = true := by rw [Bool.or_eq_true]; exact .inr rfl
    wp_walk using wpAny_loadPart' hl
    repeat (first
      | (refine wpAny_ite_false (decide_eq_false (by rw [c0]; exact Bool.false_ne_true)) ?_; wp_walk using wpAny_loadPart' hl)
      | (refine wpAny_ite_true (decide_eq_true c1) ?_; wp_walk using wpAny_loadPart' hl))
    exact ⟨_, rfl, h⟩
def rRepT1 (K : PySem.W.Frag) : R2 := fun x y H Q => ∃ l xs, x = .ref l ∧ y = .int 1 ∧ SqT K H l xs ∧ Q (.ref l) H
section
variable {X : Cx} {ct : Nat → Addr} {W : WX} {pos : Pos} {a b : Expr} {fa fb : EM Tk}
open PyProof.Rows in
theorem op_repT1 : OpR X (binaryOp .Mult) (rRepT1 X.K) := by
  intro pins s σ H x y v u Q I rx ry h
  obtain ⟨l, xs, rfl, rfl, hT, q⟩ := h
  cases rx
  obtain ⟨t, rfl⟩ := ry
  obtain ⟨its, r, ⟨⟨cls, dd, data, sl⟩, ho, hc, n, hd⟩, hs⟩ := I.tuple hT
  simp only at hc hd
  subst hc hd
  refine wpAny_binaryOp_repeat_ref (T := "tuple") (U := "int") (by decide) ⟨_, ho, rfl⟩ (fun s' => typeIs_int s' 1 t) noFill_tuple_mul F.fills_int_mul F.slot_int_rmul repeat_tuple F.slot_int_index.lookup
    (call_meets F.slot_int_rmul (typeIs_int s 1 t) F.entry_int_rmul (F.args_int_rmul_2 _ _) (int_rmul_tuple 1 t l its.toArray n dd sl)
      ⟨ho, rfl, ⟨_, ho, rfl⟩, call_meets F.slot_tuple_mul ⟨_, ho, rfl⟩ F.entry_tuple_mul (F.args_tuple_mul_2 _ _) (tuple_mul1 l its.toArray n dd sl t) ⟨ho, ?_⟩⟩)
  exact ⟨.ref l, H, I, rfl, q⟩
def gMulT : D → D → Option EV
  | .tup xs, .int j => if (xs ≠ [] ∧ 1 ≤ j) ∧ j ≤ 1000 ∧ xs.length ≤ 1000 then some (.d (.tup (List.replicate j.toNat xs).flatten)) else none
  | _, _ => none
theorem opG_mulT : OpG ⟨X.K, ct⟩ (fun x y H Q => rRepT1 X.K x y H Q ∨ rRepT X.K x y H Q) gMulT := fun c G H σ e x y a b z Q r ra rb hz q => by
  unfold gMulT at hz
  split at hz
  · rename_i ds j
    split at hz
    · rename_i hl
      cases hz
      obtain ⟨p, vs, rfl, h1, r1, h2⟩ := ra.tup r.gh
      rw [rb.int]
      by_cases hj : j = 1
      · subst hj
        have e1 : (List.replicate (Int.toNat 1) ds).flatten = ds := by simp
        rw [e1] at q
        exact .inl ⟨_, _, rfl, rfl, h1, fin_d r (.tup h2 r1) q⟩
      · refine .inr ⟨_, _, _, rfl, rfl, h1, fun z => ?_, by omega, by omega, by rw [r1.len]; omega, fin_tup r (r1.rep _) q⟩
        subst z
        have := r1.len
        exact hl.1.1 (List.eq_nil_of_length_eq_zero this.symm)
    · cases hz
  · cases hz
theorem v_mulT (ha : SK X ct W a fa) (hb : SK X ct W b fb) : SV X ct W (.BinOp a .Mult b pos) (vBin gMulT fa fb) := v_bin (op_repT1.or op_repT) opG_mulT ha hb
end
@[simp] theorem gMulT_tup {xs : List D} {j : Int} : gMulT (.tup xs) (.int j) = if (xs ≠ [] ∧ 1 ≤ j) ∧ j ≤ 1000 ∧ xs.length ≤ 1000 then some (.d (.tup (List.replicate j.toNat xs).flatten)) else none := rfl
end MM
end
section
set_option Elab.async false
set_option linter.all false
set_option autoImplicit false
set_option maxRecDepth 100000
set_option maxHeartbeats 4000000
namespace MM
open PySem PySem.Spec L2
/-! ### pairs of data and an own list: called by keywords, handed on, made data -/
def pCallK (n m : Nat) (pm : List Nat) (F : List EV → Out) (fa fk : EM (List Tk)) : EM (D × MV) := fun e => (fa e).bind fun ts e1 => (fk e1).bind fun us e2 => if ts.length = n ∧ us.length = m then pTail F (permL pm (ts ++ us)) e2 else .stuck
def sRetP (fp : EM (D × MV)) : SM := fun e => (fp e).sb fun p e1 => .rt (.t p.1 p.2) e1
def cPair0 (fp : EM (D × MV)) : EM D := fun e => (fp e).bind fun p e1 => .ok p.1 e1
def vPair1 (fp : EM (D × MV)) : EM EV := fun e => (fp e).bind fun p e1 => .ok (.m p.2) e1
section
variable {X : Cx} {ct : Nat → Addr} {W : WX} {k n : Nat} {x : Str} {ps ks : List Str} {pm : List Nat} {F : List EV → Out} {p pos apos : Pos} {a o ex : Expr} {es : List Expr} {kws : List Keyword} {fa fk : EM (List Tk)} {fp : EM (D × MV)} {E : XK}
theorem callKP_sem {c : Fr} {G H : Hp} {σ : L2.St} {e : Env} {vs : List V} {ts : List Tk} {Q : VK} {m : Nat} (him : ∀ cls d H, W cls d σ H → E cls d H) (r : RepS ⟨X.K, ct⟩ c G σ H e) (hv : RpKs ⟨X.K, ct⟩ G σ vs ts)
    (h : Post ⟨X.K, ct⟩ W c G σ (fun G' H' e' p => ∀ v, RpP ⟨X.K, ct⟩ c G' σ H' e' v p.1 p.2 → Q v H') ((fk e).bind fun us e2 => if ts.length = n ∧ us.length = m then pTail F (permL pm (ts ++ us)) e2 else .stuck)) :
    TA ⟨X.K, ct⟩ W fk σ H fun zs H2 => vs.length = n ∧ zs.length = m ∧ spM ⟨X.K, ct⟩ F (permL pm (vs ++ zs)) H2 Q E := by
  refine ⟨c, G, e, r, (Post.bind h).imp fun G2 H2 e2 us s2 r2 p2 zs hzs => ?_⟩
  have l1 := (RpKs.at hv).1
  have l2 := (RpKs.at hzs).1
  by_cases q : ts.length = n ∧ us.length = m
  · rw [if_pos q] at p2
    exact ⟨l1.trans q.1, l2.trans q.2, post_callP him r2 ((hv.mono s2).app hzs |>.perm pm) p2⟩
  · rw [if_neg q] at p2; exact p2.elim
theorem p_callK0 (hF : FnKw X.prog X.w X.K X.mg X.base ct k x ps 0 ks pm F) (hr : Room k X.A) (hg : Gl X x) (hE : XOk X W E) (hkw : SKw X ct W kws fk) (hall : (backToKw pos (keywordEach kws X.env)).all (·.1.isSome) = true := by rfl) (hks : (backToKw pos (keywordEach kws X.env)).filterMap (·.1) = ks := by rfl)
    (hdb : (x == ("__debug__" : Str)) = false := by decide) (hpl : ((backTo pos (starEach [] X.env)).any (·.1) || (backToKw pos (keywordEach kws X.env)).any (·.1.isNone)) = false := by rfl) : SP X ct W (.Call (.Name x p) [] kws pos) (pCallK 0 ks.length pm F aNil fk) := by
  obtain ⟨f, fd, h1, h2, h3, h4⟩ := hF.ex
  refine PEw (pe_callN0 h1 hr hg h2 h3 h4 hE.ps hkw hall hks hdb hpl) fun σ H Q q => ?_
  obtain ⟨c, G, e, r, p⟩ := q
  exact callKP_sem (X := X) (vs := []) (ts := []) (fun cls d H h => hE.im cls d σ H h) r trivial p
theorem s_retP (h : SP X ct W ex fp) : SS X ct W (.Return (some ex) pos) (sRetP fp) := PSw (ps_ret h) fun Dn σ H q => by
  obtain ⟨c, G, e, r, p⟩ := q
  refine ⟨c, G, e, r, (PostS.sb p).imp fun G' H' e' y s r' h v hv => ?_⟩
  obtain ⟨q, w, b, e1, hs, hw, hm, hl⟩ := hv
  refine h G' σ H' v (Same.refl _) r' ⟨q, w, b, e1, hs, hw, hm, fun i a ha z => ?_⟩
  subst z
  obtain ⟨z, h3, h4⟩ := r'.pin i a ha
  exact hl i _ h3 rfl h4
theorem e_pair0 {i : Nat} {p2 : Pos} (h : SP X ct W ex fp) (hs : PlainIx (.Constant (.int 0) i p2) := by exact fun _ _ => rfl) : SE X ct W (.Subscript ex (.Constant (.int 0) i p2) pos) (cPair0 fp) := PEw (pe_ix ix_tup h pe_int hs) fun σ H Q q => by
  obtain ⟨c, G, e, r, p⟩ := q
  refine ⟨c, G, e, r, (Post.bind p).imp fun G' H' e' y s r' h v hv => ?_⟩
  obtain ⟨q, w, b, e1, hs, hw, hm, hl⟩ := hv
  exact ⟨q, _, 0, w, e1, rfl, hs, rfl, h G' H' (Same.refl _) r' w hw⟩
theorem v_pair1 {i : Nat} {p2 : Pos} (h : SP X ct W ex fp) (hs : PlainIx (.Constant (.int 1) i p2) := by exact fun _ _ => rfl) : SV X ct W (.Subscript ex (.Constant (.int 1) i p2) pos) (vPair1 fp) := PEw (pe_ix ix_tup h pe_int hs) fun σ H Q q => by
  obtain ⟨c, G, e, r, p⟩ := q
  refine ⟨c, G, e, r, (Post.bind p).imp fun G' H' e' y s r' h v hv => ?_⟩
  obtain ⟨q, w, b, e1, hs, hw, hm, hl⟩ := hv
  exact ⟨q, _, 1, .ref b, e1, rfl, hs, rfl, h G' H' (Same.refl _) r' (.ref b) ⟨b, rfl, hm, hl⟩⟩
end
end MM
end
section
set_option Elab.async false
set_option linter.all false
set_option autoImplicit false
set_option maxRecDepth 100000
set_option maxHeartbeats 4000000
namespace MM
open PySem PySem.Spec L2
/-! ### told = f(..), looked at twice, then told[1].append(None): told is a pair of data and a fresh list -/
theorem RepS.tell {k : Kc} {c : Fr} {G H : Hp} {σ : L2.St} {e : Env} (r : RepS k c G σ H e) {i : Nat} {q b : Addr} {w : V} {d dy : D} {y : MV} (hs : SqT k.K H q [w, .ref b]) (hw : Rp k G w d) (hm : MAt k c G H b y) (hf : y.frz = some dy) :
    RepS k ⟨H, H, fun _ => none⟩ H (σ.set i (some (.ref q))) H ((frzAll e).set i (some (.d (.tup [d, dy])))) := by
  obtain ⟨G1, s1, r1⟩ := r.borrow
  have own : ∀ {j : Nat} {x : EV}, (frzAll e)[j]? = some (some x) → ∃ d, x = .d d := fun {j x} hx => by
    unfold frzAll at hx
    rw [List.getElem?_map] at hx
    obtain ⟨z, hz, ez⟩ := Option.map_eq_some_iff.mp hx
    cases z with
    | none => cases ez
    | some z =>
      cases z with
      | d d => have ez : some (EV.d d) = some x := ez; cases ez; exact ⟨d, rfl⟩
      | m y => obtain ⟨d, _, ed⟩ := Option.map_eq_some_iff.mp (show y.frz.map EV.d = some x from ez); exact ⟨d, ed.symm⟩
      | p y => obtain ⟨d, _, ed⟩ := Option.map_eq_some_iff.mp (show y.frz.map EV.d = some x from ez); exact ⟨d, ed.symm⟩
      | t _ _ => cases ez
  have r2 : RepS k ⟨H, H, fun _ => none⟩ H σ H (frzAll e) := by
    refine ⟨Same.refl _, Same.refl _, Same.refl _, fun a h _ => h, r1.len, fun j x hx => ?_, fun j l a x z hx hz wx wz _ _ => ?_, fun j a h => by cases h⟩
    · obtain ⟨v, h1, h2⟩ := r1.slot j x hx
      obtain ⟨d, rfl⟩ := own hx
      exact ⟨v, h1, Rp.mono r1.gh h2⟩
    · obtain ⟨d, rfl⟩ := own hx
      cases wx
  obtain ⟨m1, m2, o, m3, m4⟩ := hm
  refine r2.put (v := .ref q) rfl (fun z hz => ?_) (fun z b' hz wz => ?_)
  · cases hz
    exact .tup hs (.cons (Rp.mono r.gh hw) (.cons (m4.rp hf r.gh m3) .nil))
  · cases hz
    cases wz
def sTold (i : Nat) (fp : EM (D × MV)) (t1 t2 : EM Bool) : SM := fun e => (fp e).sb fun p e1 => match e1[i]?, p.2.frz, gAppend p.2 [.non] with
  | some o, some dy, some _ => if isP o = true then .stuck else
      (match t1 ((frzAll e1).set i (some (.d (.tup [p.1, dy])))) with
      | .ok true _ => .rt (.d (.bl false)) (e1.set i none)
      | .ok false _ => (match t2 ((frzAll e1).set i (some (.d (.tup [p.1, dy])))) with
        | .ok true _ => .rt (.d (.bl false)) (e1.set i none)
        | .ok false _ => .nx (e1.set i none)
        | _ => .stuck)
      | _ => .stuck)
  | _, _, _ => .stuck
section
variable {X : Cx} {ct : Nat → Addr} {W : WX} {i j1 j2 j3 j4 : Nat} {y : Str} {ex c1 c2 : Expr} {fp : EM (D × MV)} {t1 t2 : EM Bool} {rest : List Stmt} {g : SM} {p1 a1 q1 r1 f1 q2 r2 f2 p3 q3 s3 apos q4 cpos x4 : Pos}
theorem test_told {k : Kc} {W : WX} {t : EM Bool} {c : Fr} {G H : Hp} {σ : L2.St} {e : Env} {bv : Bool} {e' : Env} {Q : Bool → Hp → Prop} (r : RepS k c G σ H e) (ht : t e = .ok bv e') (hO : c.O = H) (h : ∀ H', Same H H' → Q bv H') : TT k W t σ H Q :=
  ⟨c, G, e, r, by rw [ht]; exact fun G' H' s' r' => h H' (hO ▸ r'.oh)⟩
theorem ss_told (hN : X.N.Nodup) (hi : X.N[i]? = some y) (hx : Loc X.env.scope y) (he : SP X ct W ex fp) (ht1 : ST X ct W c1 t1) (ht2 : ST X ct W c2 t2) (hyv : PE X (.Name y p3) (tVar i)) (hrest : SSs X ct W rest g)
    (hs : swapsWith ex (some (.Name y p1)) a1.line X.env = pure false := by rfl) (hf : X.fn y = true ∨ X.env.scope.names.lookup y = some .local := by first | exact .inl rfl | exact .inr rfl | assumption)
    (hpl : PlainIx (.Constant (.int 1) j3 q3) := by exact fun _ _ => rfl)
    (hbase : attributeBase (.Subscript (.Name y p3) (.Constant (.int 1) j3 q3) s3) "append" X.env (eval (.Subscript (.Name y p3) (.Constant (.int 1) j3 q3) s3) X.env) = eval (.Subscript (.Name y p3) (.Constant (.int 1) j3 q3) s3) X.env := by rfl)
    (hfew : ((backTo cpos (starEach [.Constant .none j4 q4] X.env)).all (fun x => !x.1) && (backToKw cpos (keywordEach [] X.env)).all (fun x => x.1.isSome)
      && decide (([.Constant .none j4 q4] : List Expr).length + ([] : List Keyword).length + (if ([] : List Keyword).isEmpty then 0 else 1) < 30)) = true := by rfl)
    (hline : (apos.endLine == cpos.line) = true := by rfl) (hst : starEach [.Constant .none j4 q4] X.env = (false, eval (.Constant .none j4 q4) X.env) :: starEach [] X.env := by rfl) (hplain : (backTo cpos (starEach [] X.env)).any (·.1) = false := by rfl)
    (hs4 : swapsWith (.Call (.Attribute (.Subscript (.Name y p3) (.Constant (.int 1) j3 q3) s3) "append" apos) [.Constant .none j4 q4] [] cpos) none x4.line X.env = pure false := by rfl) :
    SSs X ct W (.Assign [.Name y p1] ex a1 :: .If c1 [.Return (some (.Constant (.bool false) j1 q1)) r1] [] f1 :: .If c2 [.Return (some (.Constant (.bool false) j2 q2)) r2] [] f2 ::
      .Expr (.Call (.Attribute (.Subscript (.Name y p3) (.Constant (.int 1) j3 q3) s3) "append" apos) [.Constant .none j4 q4] [] cpos) x4 :: rest) (sSeq (sTold i fp t1 t2) g) := by
  have P4 := ps_expr (pe_bm (X := X) PySem.F.plainAttrs_list PySem.F.slot_list_append PySem.F.type_list_append mt_append (pe_ix ix_tup hyv (pe_int (i := 1)) hpl) (pa_cons pe_non pa_nil hst) hbase hfew hline hst hplain) hs4
  have R1 : PSs X [.Return (some (.Constant (.bool false) j1 q1)) r1] (TS ⟨X.K, ct⟩ W (sRet (vD (cC (.bl false))))) := ss_one (s_ret (v_val e_bl))
  have R2 : PSs X [.Return (some (.Constant (.bool false) j2 q2)) r2] (TS ⟨X.K, ct⟩ W (sRet (vD (cC (.bl false))))) := ss_one (s_ret (v_val e_bl))
  refine PSsw (pss_cons (ps_set hN hi hx he hs hf) (pss_cons (ps_if ht1 R1 pss_nil) (pss_cons (ps_if ht2 R2 pss_nil) (pss_cons P4 hrest)))) fun Dn σ H q => ?_
  have q := bind_seq q
  obtain ⟨c, G, e, r, p⟩ := q
  refine ⟨c, G, e, r, (PostS.sb p).imp fun G' H' e1 y s r' h v hv => ?_⟩
  obtain ⟨q, w, b, rfl, hsq, hw, hm, hl⟩ := hv
  obtain ⟨d, y⟩ := y
  cases ho : e1[i]? with
  | none => simp only [ho] at h; exact h.elim
  | some o =>
    cases hfz : y.frz with
    | none => simp only [ho, hfz] at h; exact h.elim
    | some dy =>
      cases hga : gAppend y [.non] with
      | none => simp only [ho, hfz, hga] at h; exact h.elim
      | some gz =>
        simp only [ho, hfz, hga] at h
        by_cases hp : isP o = true
        · rw [if_pos hp] at h; exact h.elim
        · rw [if_neg hp] at h
          have hP : c.P i = none := r'.nopin ho fun z hz => by subst hz; exact hp rfl
          have rb : RepS ⟨X.K, ct⟩ c G' (σ.set i (some (.ref q))) H' (e1.set i none) := r'.put hP (fun z hz => by cases hz) fun z b' hz => by cases hz
          have hil : i < σ.length := by
            have := (List.getElem?_eq_some_iff.mp ho).1
            rw [← r'.len]; exact this
          have hσ : (σ.set i (some (V.ref q)))[i]? = some (some (.ref q)) := List.getElem?_set_self hil
          have rt := r'.tell (i := i) hsq hw hm hfz
          cases h1 : t1 ((frzAll e1).set i (some (.d (.tup [d, dy])))) with
          | stuck => simp only [h1] at h; exact h.elim
          | exc _ _ => simp only [h1] at h; exact h.elim
          | ok b1 e1' =>
            simp only [h1] at h
            refine test_told rt h1 rfl fun H1 s1 => ?_
            have rb1 := rb.thaw s1
            cases b1 with
            | true => exact ⟨c, G', e1.set i none, rb1, h⟩
            | false =>
              have hm1 : MAt ⟨X.K, ct⟩ c G' H1 b y := by
                obtain ⟨m1, m2, o, m3, m4⟩ := hm
                exact ⟨m1, m2, o, s1 _ _ m3, m4⟩
              have hsq1 : SqT X.K H1 q [w, .ref b] := seqT s1 hsq
              have rt1 := (r'.thaw s1).tell (i := i) hsq1 hw hm1 hfz
              cases h2 : t2 ((frzAll e1).set i (some (.d (.tup [d, dy])))) with
              | stuck => simp only [h2] at h; exact h.elim
              | exc _ _ => simp only [h2] at h; exact h.elim
              | ok b2 e2' =>
                simp only [h2] at h
                refine test_told rt1 h2 rfl fun H2 s2 => ?_
                have rb2 := rb1.thaw s2
                cases b2 with
                | true => exact ⟨c, G', e1.set i none, rb2, h⟩
                | false =>
                  have hsq2 : SqT X.K H2 q [w, .ref b] := seqT s2 hsq1
                  obtain ⟨m1, m2, o2, m3, m4⟩ := hm1
                  have m3 := s2 _ _ m3
                  have hyl : ∃ ds, y = .lst ds := by
                    cases y with
                    | lst ds => exact ⟨ds, rfl⟩
                    | dic _ _ => cases hga
                    | obj _ _ _ => cases hga
                  have hloose : Loose (σ.set i (some (V.ref q))) (e1.set i none) b := fun j x hx wx hj => by
                    by_cases hij : i = j
                    · subst hij
                      rw [List.getElem?_set_self (by rw [r'.len]; exact hil)] at hx
                      cases hx
                    · rw [List.getElem?_set_ne hij] at hx hj
                      exact hl j x hx wx hj
                  obtain ⟨y', z⟩ := gz
                  refine ⟨.ref q, hσ, q, _, 1, .ref b, rfl, rfl, hsq2, rfl, ?_, ?_⟩
                  · obtain ⟨ds, rfl⟩ := hyl
                    exact tyM_ok (k := ⟨X.K, ct⟩) (by rfl) m3 m4
                  · exact mutG_append (X := X) (ct := ct) G' H2 b o2 y y' [.non] [.non] z _ rb2.gh m3 m4 (.cons .non .nil) hga fun o' v _ _ => h G' _ _ (Same.refl _) (rb2.poke m1 m2 hloose)
end
@[simp] theorem pCallK_ev {n m : Nat} {pm : List Nat} {F : List EV → Out} {fa fk : EM (List Tk)} {e : Env} : pCallK n m pm F fa fk e = (fa e).bind fun ts e1 => (fk e1).bind fun us e2 => if ts.length = n ∧ us.length = m then pTail F (permL pm (ts ++ us)) e2 else .stuck := rfl
@[simp] theorem sRetP_ev {fp : EM (D × MV)} {e : Env} : sRetP fp e = (fp e).sb fun p e1 => .rt (.t p.1 p.2) e1 := rfl
@[simp] theorem cPair0_ev {fp : EM (D × MV)} {e : Env} : cPair0 fp e = (fp e).bind fun p e1 => .ok p.1 e1 := rfl
@[simp] theorem vPair1_ev {fp : EM (D × MV)} {e : Env} : vPair1 fp e = (fp e).bind fun p e1 => .ok (.m p.2) e1 := rfl
theorem sTold_at {i : Nat} {fp : EM (D × MV)} {t1 t2 : EM Bool} {e e1 e2 e3 : Env} {d dy : D} {y : MV} {o : Option EV} (h : fp e = .ok (d, y) e1) (ho : e1[i]? = some o) (hp : isP o = false) (hf : y.frz = some dy) (hg : (gAppend y [.non]).isSome = true)
    (h1 : t1 ((frzAll e1).set i (some (.d (.tup [d, dy])))) = .ok false e2) (h2 : t2 ((frzAll e1).set i (some (.d (.tup [d, dy])))) = .ok false e3) : sTold i fp t1 t2 e = .nx (e1.set i none) := by
  obtain ⟨z, hz⟩ := Option.isSome_iff_exists.mp hg
  unfold sTold
  rw [h]
  show (match e1[i]?, y.frz, gAppend y [.non] with
    | some o, some dy, some _ => _
    | _, _, _ => SRes.stuck) = _
  simp only [ho, hf, hz, hp, h1, h2]
  simp
end MM
end
section
set_option Elab.async false
set_option linter.all false
set_option autoImplicit false
set_option maxRecDepth 100000
set_option maxHeartbeats 4000000
namespace MM
open PySem PySem.Spec L2
open PyProof.Rows (envOfC IntsAre AllBare)
open Classical
/-! ### defs on a stack on which nothing is being shown: repr of lists, tuples -/
/-- as FnOk, where no guard stands on the stack -/
structure FnG (P : Program) (w : World) (K : PySem.W.Frag) (mg : Str → Option Value) (base : Heap) (k : Nat) (f : Addr) (fd : FuncData) (ps : List Str) (sp : Sp) : Prop where
  len : ∀ vs H Q E, sp vs H Q E → vs.length = ps.length
  run : ∀ (A : Around) (outer : List PySem.Env) (s : Shared) (H : Hp) (args : PySem.Args) (us : List Value) (vs : List V) (Q : VK) (E : XK), A.guards = some [] → Room k A → Env0 P w K mg base A outer s H → BindsTo s fd args (ps.zip us) → Vals vs us → sp vs H Q E →
    codeAny (model P w) A (.call (.ref f) args) (CR (L2.CX P w) outer P w H s Q E) s
theorem FnG.mono {P : Program} {w : World} {K : PySem.W.Frag} {mg : Str → Option Value} {base : Heap} {j k : Nat} {f : Addr} {fd : FuncData} {ps : List Str} {sp : Sp} (F : FnG P w K mg base j f fd ps sp) (h : j ≤ k) : FnG P w K mg base k f fd ps sp :=
  ⟨F.len, fun A outer s H args us vs Q E hg hr => F.run A outer s H args us vs Q E hg (hr.mono h)⟩
theorem FnG.of {P : Program} {w : World} {K : PySem.W.Frag} {mg : Str → Option Value} {base : Heap} {k : Nat} {f : Addr} {fd : FuncData} {ps : List Str} {sp : Sp} (F : FnOk P w K mg base (L2.CX P w) k f fd ps sp) : FnG P w K mg base k f fd ps sp :=
  ⟨F.len, fun A outer s H args us vs Q E _ hr => F.run A outer s H args us vs Q E hr⟩
theorem funD_okG {P : Program} {w : World} {K : PySem.W.Frag} {mg : Str → Option Value} {base : Heap} {x qual : Str} {params : Arguments} {body : List Stmt} {scope : Scope} {dvs : List V} {kws : List (Str × V)} {f : Addr} {fd : FuncData} {N ps : List Str} {k : Nat} {sp : Sp}
    (F : FunD K x qual params body scope dvs kws f fd) (S : FnScope N ps scope) (len : ∀ vs H Q E, sp vs H Q E → vs.length = ps.length)
    (hb : ∀ (cdv : Value) (A : Around) (outer : List PySem.Env) (s : Shared) (H : Hp) (vs : List V) (Q : VK) (E : XK), A.guards = some [] → Room k (A.deeper (envOfC qual scope s.heap.objs.size f cdv)) → sp vs H Q E →
      ∃ t, PSs (cxOf (L2.CX P w) P w K mg base N qual scope f cdv A outer s H E) body t ∧ t { nx := fun _ H' => Q .non H', rt := Q } (start N vs) H) : FnG P w K mg base (k + 1) f fd ps sp := by
  obtain ⟨oc, od, dV, kV, doc, pm, an, cdv, ct, osl, hfd, lk, hcd, _, _⟩ := F.ex
  subst hfd
  refine ⟨len, fun A outer s H args us vs Q E hg hr e0 hbt r hsp => ?_⟩
  have hl := len _ _ _ _ hsp
  have kept : ∀ b o, base.get? b = some o → s.heap.get? b = some o := fun b o e => (e0.bs b o e).1
  have KX : K.In s.heap := e0.mod.kin.keeps kept
  have lim : s.heap.NoLimit := e0.mod.nolimit.keeps kept
  have kinds : ∀ y ∈ ps.zip us, scope.names.lookup y.1 = some .local ∨ (scope.names.lookup y.1 = some .cell ∧ ((cellsFrom (s.heap.objs.size + 1) scope.names []).lookup y.1).isSome = true) := by
    intro y hy
    cases S.par y.1 (List.of_mem_zip (a := y.1) (b := y.2) hy).1 with
    | inl q => exact .inl q
    | inr q => exact .inr ⟨q, PySem.W.cellsFrom_some _ _ _ (.inl q)⟩
  refine codeAny_call_function hr.depth (KX _ _ lk) rfl S.co S.gen rfl (PySem.W.codeRec_of KX hcd) (hbt _ _ _ _ (wpAny_newFunctionEnv_cells S.kind kinds fun env he s1 x => ?_))
  subst he
  refine ⟨lim.keeps x.toInCall.keep, codeAny_func ?_⟩
  obtain ⟨t, ht, hq⟩ := hb cdv A outer s H vs Q E hg (hr.deeper _) hsp
  have I := inv_start (CX := L2.CX P w) (E := E) S hr.hd e0 hl r x
  refine wpAny_mono (ht.run [] s1 (start N vs) H _ I hq) (fun fl s' hs => ?_) fun _ _ hs => hs
  cases fl with
  | ret u =>
    obtain ⟨v, σ', H', J, rv, q⟩ := hs
    exact (⟨v, H', J.os, J.bare, J.base, J.hok, rv, q⟩ : CE outer P w H s Q u s')
  | next =>
    obtain ⟨σ', H', J, q⟩ := hs
    exact (⟨V.non, H', J.os, J.bare, J.base, J.hok, rfl, q⟩ : CE outer P w H s Q Value.none s')
  | brk => obtain ⟨_, _, _, q⟩ := hs; exact q.elim
  | cont => obtain ⟨_, _, _, q⟩ := hs; exact q.elim
/-- THE RULE for such a def -/
theorem fn_mirG {P : Program} {w : World} {K : PySem.W.Frag} {mg : Str → Option Value} {base : Heap} {ct : Nat → Addr} {x qual : Str} {params : Arguments} {body : List Stmt} {scope : Scope} {dvs : List V} {kws : List (Str × V)} {f : Addr} {fd : FuncData} {N ps : List Str} {k n m : Nat} {fb : SM}
    (F : FunD K x qual params body scope dvs kws f fd) (S : FnScope N ps scope) (hm : ps.length = m) (hn : N.length = n)
    (hb : ∀ (cdv : Value) (A : Around) (outer : List PySem.Env) (s : Shared) (H : Hp) (E : XK), A.guards = some [] → Room k (A.deeper (PyProof.Rows.envOfC qual scope s.heap.objs.size f cdv)) → Takes (cxOf (L2.CX P w) P w K mg base N qual scope f cdv A outer s H E) (fun cls d _ H => E cls d H) →
      SSs (cxOf (L2.CX P w) P w K mg base N qual scope f cdv A outer s H E) ct (fun cls d _ H => E cls d H) body fb) :
    FnG P w K mg base (k + 1) f fd ps (spM ⟨K, ct⟩ (runD n m fb)) := by
  have lenA : ∀ {as : List EV} {vs : List V} {G H : Hp} {Q : VK} {E : XK}, EndO ⟨K, ct⟩ vs as G H Q E (runD n m fb as) → as.length = m := fun {as vs G H Q E} h => by
    by_cases q : as.length = m
    · exact q
    · unfold runD at h
      rw [if_neg q] at h
      exact h.elim
  refine funD_okG F S (fun vs H Q E q => ?_) fun cdv A outer s H vs Q E hg hr q => ?_
  · obtain ⟨G, as, _, r, h⟩ := q
    rw [r.len, lenA h, hm]
  · obtain ⟨G, as, sm, r, h⟩ := q
    have hl := lenA h
    refine ⟨_, hb cdv A outer s H E hg hr (takes_of rfl rfl rfl rfl), ?_⟩
    have e1 : L2.start N vs = vs.map some ++ List.replicate (n - m) none := by
      unfold L2.start
      rw [hn, r.len, hl]
    rw [e1]
    refine ⟨frA vs as G H, G, _, repS_start (n := n - m) sm r, ?_⟩
    unfold runD at h
    rw [if_pos hl] at h
    cases hfb : fb (as.map some ++ List.replicate (n - m) none) with
    | stuck => rw [hfb] at h; exact h.elim
    | bk e => rw [hfb] at h; exact h.elim
    | ct e => rw [hfb] at h; exact h.elim
    | nx e =>
      rw [hfb] at h
      intro G' σ H' s' r'
      have af := aft_of r r'
      rw [hl] at af
      exact h G' H' .non af .non
    | exc y e =>
      rw [hfb] at h
      intro G' σ H' cls dc s' r' hx
      have af := aft_of r r'
      rw [hl] at af
      exact h G' H' cls dc af hx
    | rt y e =>
      rw [hfb] at h
      intro G' σ H' v s' r' hv
      have af := aft_of r r'
      rw [hl] at af
      refine h G' H' v af ?_
      cases y with
      | d d => exact hv
      | p z => exact hv.elim
      | m z =>
        obtain ⟨a, rfl, ⟨m1, m2, o, m3, m4⟩, hne⟩ := hv
        refine ⟨a, o, rfl, m1, ?_, m3, m4⟩
        have hO : (frA vs as G H).O a = if ∃ i, pinA vs as i = some a then none else H a := rfl
        rw [m2, if_neg (fun ⟨i, q⟩ => hne i a q rfl)] at hO
        exact hO.symm
      | t d z =>
        obtain ⟨q, w, a, e1, hs, hw, ⟨m1, m2, o, m3, m4⟩, hne⟩ := hv
        refine ⟨q, w, a, o, e1, hs, hw, m1, ?_, m3, m4⟩
        have hO : (frA vs as G H).O a = if ∃ i, pinA vs as i = some a then none else H a := rfl
        rw [m2, if_neg (fun ⟨i, q⟩ => hne i a q rfl)] at hO
        exact hO.symm
/-- such a def that stands in the main module's names -/
structure FnAtG (P : Program) (w : World) (K : PySem.W.Frag) (mg : Str → Option Value) (base : Heap) (ct : Nat → Addr) (k : Nat) (x : Str) (ps : List Str) (F : List EV → Out) : Prop where
  ex : ∃ f fd, FnG P w K mg base k f fd ps (spM ⟨K, ct⟩ F) ∧ mg x = some (.ref f) ∧ PySem.W.keepIn K (.ref f) = true ∧ Binds K fd ps []
section
variable {X : Cx} {ct : Nat → Addr} {W : WX} {k : Nat} {x : Str} {ps : List Str} {F : List EV → Out} {p pos : Pos} {a : Expr} {es : List Expr} {fa : EM (List Tk)} {f : Addr} {fd : FuncData} {sp : Sp} {E : St → XK} {t : L2.TA}
theorem pe_callSG (F : FnG X.prog X.w X.K X.mg X.base k f fd ps sp) (hgu : X.A.guards = some []) (hr : Room k X.A) (hg : Gl X x) (hm : X.mg x = some (.ref f)) (hk : PySem.W.keepIn X.K (.ref f) = true) (hb : Binds X.K fd ps []) (hx : ∀ σ, PassesAt (L2.CX X.prog X.w) X σ (E σ))
    (ha : PA X (a :: es) t) (hdb : (x == ("__debug__" : Str)) = false) (he : starEach (a :: es) X.env = (false, eval a X.env) :: starEach es X.env) (hpl : (backTo pos (starEach es X.env)).any (·.1) = false) : PE X (.Call (.Name x p) (a :: es) [] pos) (tCallS sp E t) := by
  refine ⟨fun pins s σ H Q I h => wpAny_Call_Name_kw (ld_glob I hg hm (PySem.W.callWith_K (h₀ := X.base) I.ok.mod.kin hk (thn (ha.run pos pins s σ H _ I h) fun us s1 ⟨vs, H1, I1, r, q⟩ => ⟨I1.kIn, ?_⟩) he hpl) hdb)⟩
  have hl : us.length = ps.length := by rw [← r.length]; exact F.len _ _ _ _ q
  have b := hb s1 us I1.kIn (by rw [List.append_nil]; exact hl)
  rw [List.append_nil] at b
  refine wpAny_call (codeAny_mono (F.run X.A X.stack s1 H1 ⟨us, []⟩ us vs Q (E σ) hgu hr I1.env0 b r q) fun res s' hq => ?_)
  rcases res with e | fl
  · exact hx σ pins H1 s1 e s' I1 hq
  · cases fl with
    | ret u => exact I1.after hq
    | _ => exact hq.elim
theorem v_callG (hF : FnAtG X.prog X.w X.K X.mg X.base ct k x ps F) (hgu : X.A.guards = some []) (hr : Room k X.A) (hg : Gl X x) (tk : Takes X W) (ha : SA X ct W (a :: es) fa) (hdb : (x == ("__debug__" : Str)) = false := by decide) (he : starEach (a :: es) X.env = (false, eval a X.env) :: starEach es X.env := by rfl)
    (hpl : (backTo pos (starEach es X.env)).any (·.1) = false := by rfl) : SV X ct W (.Call (.Name x p) (a :: es) [] pos) (vCall F fa) := by
  obtain ⟨f, fd, h1, h2, h3, h4⟩ := hF.ex
  refine PEw (pe_callSG h1 hgu hr hg h2 h3 h4 (E := WE W) (fun σ => passAt tk σ) ha hdb he hpl) fun σ H Q q => ?_
  obtain ⟨c, G, e, r, p⟩ := q
  exact ⟨c, G, e, r, (Post.bind p).imp fun G1 H1 e1 ts s1 r1 p1 vs hvs => post_call r1 hvs p1⟩
end
section
variable {X : Cx} {ct : Nat → Addr} {W : WX} {k : Nat} {x : Str} {ps : List Str} {F : List EV → Out} {p pos : Pos} {a : Expr} {fv : EM EV}
theorem v_callFG (hF : FnAtG X.prog X.w X.K X.mg X.base ct k x ps F) (hgu : X.A.guards = some []) (hr : Room k X.A) (hg : Gl X x) (tk : Takes X W) (ha : SV X ct W a fv) (hdb : (x == ("__debug__" : Str)) = false := by decide) (he : starEach [a] X.env = (false, eval a X.env) :: starEach [] X.env := by rfl)
    (hpl : (backTo pos (starEach [] X.env)).any (·.1) = false := by rfl) : SV X ct W (.Call (.Name x p) [a] [] pos) (vCallF F fv) := by
  obtain ⟨f, fd, h1, h2, h3, h4⟩ := hF.ex
  refine PEw (pe_callSG h1 hgu hr hg h2 h3 h4 (E := WE W) (fun σ => passAt tk σ) (pa_cons ha pa_nil he) hdb he hpl) fun σ H Q q => ?_
  obtain ⟨c, G, e, r, p⟩ := q
  refine ⟨c, G, e, r, (Post.bind p).imp fun G1 H1 e1 z s1 r1 p1 v hv => ?_⟩
  show spM ⟨X.K, ct⟩ F [v] H1 Q (WE W σ)
  cases z with
  | d _ => exact p1.elim
  | p _ => exact p1.elim
  | t _ _ => exact p1.elim
  | m y =>
    obtain ⟨b, rfl, m, l⟩ := hv
    have p1 : Post ⟨X.K, ct⟩ W c G1 σ (fun G' H' e' x => ∀ v, RpV ⟨X.K, ct⟩ c G' σ H' e' v x → Q v H') (match (F [.p y]).noT with
      | .ret r _ => .ok r e1
      | .exc x _ => .exc x e1
      | .stuck => .stuck) := p1
    have m' := m
    obtain ⟨m1, m2, o, m3, m4⟩ := m'
    refine ⟨G1, [.p y], r1.gh, ⟨rfl, fun i x hx => ?_, fun i j b' h1 h2 => ?_⟩, ?_⟩
    · cases i with
      | zero => simp at hx; subst hx; exact ⟨.ref b, rfl, b, o, rfl, m1, m3, m4⟩
      | succ i => simp at hx
    · obtain ⟨⟨x1, h3⟩, _⟩ := pinA_ok h1
      obtain ⟨⟨x2, h4⟩, _⟩ := pinA_ok h2
      have g1 := (List.getElem?_eq_some_iff.mp h3).1
      have g2 := (List.getElem?_eq_some_iff.mp h4).1
      simp at g1 g2
      omega
    · cases h2 : F [.p y] with
      | stuck => rw [h2] at p1; exact p1.elim
      | ret z qs =>
        rw [h2] at p1
        intro G' H' v af hr
        have r' := r1.afterF m l af
        cases z with
        | t _ _ => exact p1.elim
        | d x => exact p1 G' H' af.g r' v (RRes.hereF (x := .d x) r1 hr (fun _ _ z => by cases z))
        | m x => exact p1 G' H' af.g r' v (RRes.hereF (x := .m x) r1 hr (fun _ _ z => by cases z))
        | p x => exact hr.elim
      | exc z qs =>
        rw [h2] at p1
        intro G' H' cls dc af hx
        exact p1 G' H' cls dc af.g (r1.afterF m l af) hx
end
/-- the law's call -/
theorem law_callG {P : Program} {w : World} {K : PySem.W.Frag} {mg mb : Str → Option Value} {k : Nat} {fa a : Addr} {fd : FuncData} {x : Str} {sp : Sp} {s₁ : Shared} {vs : List Value} {ns : List Int}
    (KX : K.In s₁.heap) (hns : s₁.heap.Ns mainGlobals mg) (hb : s₁.heap.Ns builtinsNs mb) (hbb : ∀ x : Str, x ≠ "__name__" → mb x = bootBuiltins x) (hlim : s₁.heap.NoLimit) (hg : s₁.gens = #[])
    (ha : s₁.heap.get? a = some { cls := .type "list", data := .seq vs.toArray }) (hi : IntsAre vs ns) (hl : ns.length ≤ sizeLine) (hr : Room k callerA)
    (F : ∀ base : Heap, K.In base → base.Ns mainGlobals mg → FnG P w K mg base k fa fd [x] sp) (hbind : ∀ (s : Shared) (u : Value), BindsTo s fd ⟨[u], []⟩ [(x, u)])
    (hsp : ∀ H : Hp, Only H → SqL K H a (ns.map V.int) → sp [.ref a] H (fun v _ => v = .bl true) fun _ _ _ => False) (hCX : ∀ H e s', L2.CX P w [] H s₁ (fun _ _ _ => False) e s' → False) :
    codeAny (model P w) callerA (.call (.ref fa) ⟨[.ref a], []⟩) (fun r s' => r = .ok (.ret (.bool true)) ∧ OldK s₁.heap s'.heap ∧ s'.os = s₁.os ∧ AllBare s'.gens) s₁ := by
  have rv := vals_ints hi
  have lenV := hi.length
  have core : ∀ T : Hp, Only T → SqL K T a (ns.map V.int) → HOk P w T s₁.heap → (∀ b, T b ≠ none → b = a) → (T a ≠ none → K.lookup a = none) →
      codeAny (model P w) callerA (.call (.ref fa) ⟨[.ref a], []⟩) (fun r s' => r = .ok (.ret (.bool true)) ∧ OldK s₁.heap s'.heap ∧ s'.os = s₁.os ∧ AllBare s'.gens) s₁ := fun T tO tS tok tA tK => by
    have noT : ∀ {b : Addr}, b ≠ a → T b = none := fun {b} nb => by
      cases q : T b with
      | none => rfl
      | some u => exact absurd (tA b (by rw [q]; exact fun z => by cases z)) nb
    have dictT : ∀ {b : Addr} {o : Obj} {es : Array DictEntry} {ep : Nat}, s₁.heap.get? b = some o → o.data = .dict es ep → T b = none := fun {b o es ep} e d => noT fun z => by
      rw [z, ha] at e
      have e := Option.some.inj e
      rw [← e] at d
      cases d
    have nsT : ∀ {b : Addr} {m : Str → Option Value}, s₁.heap.Ns b m → (hidT s₁.heap T).Ns b m := fun {b m} ⟨o, es, ep, e, d, r⟩ => ⟨o, es, ep, hidT_get e (dictT e d), d, r⟩
    have kT : K.In (hidT s₁.heap T) := fun b o e => hidT_get (KX b o e) (by
      cases q : T b with
      | none => rfl
      | some u =>
        have z : b = a := tA b (by rw [q]; exact fun z => by cases z)
        rw [z] at e q
        rw [tK (by rw [q]; exact fun z => by cases z)] at e
        cases e)
    have mT : Mod K mg (hidT s₁.heap T) := ⟨kT, nsT hns, ⟨mb, nsT hb, hbb⟩, by obtain ⟨mc, h1, h2⟩ := hlim; exact ⟨mc, nsT h1, h2⟩⟩
    have e0 : Env0 P w K mg (hidT s₁.heap T) callerA [] s₁ T := by
      refine ⟨rfl, mT, fun b o e => of_hidT e, Nat.le_of_eq (hidT_size _ _), trivial, fun b z => ?_, tok, .of_eq hg⟩
      have z : b ∈ ([] : List Addr) := z
      cases z
    refine codeAny_mono ((F _ kT (nsT hns)).run callerA [] s₁ T ⟨[.ref a], []⟩ [.ref a] [.ref a] _ _ rfl hr e0 (hbind s₁ (.ref a)) (.cons rfl .nil) (hsp T tO tS)) fun r s' h => ?_
    rcases r with e | fl
    · exact (hCX T e s' h).elim
    · cases fl with
      | ret u =>
        obtain ⟨v, T', os, bare, un, tok', r', q⟩ := h
        have q' : v = .bl true := q
        subst q'
        obtain rfl : u = Value.bool true := r'
        refine ⟨rfl, OldK.of_keep fun b o e => ?_, os, bare⟩
        rcases tO b with z | ⟨ob, xs, z⟩
        · exact un.keep b o e z (fun z => by have z : b ∈ ([] : List Addr) := z; cases z) (fun z => by cases z)
        · have z2 := un.frzs b ob _ z
          have e1 := (tok b _ z).1
          have e2 := (tok' b _ z2).1
          rw [e] at e1
          rw [Option.some.inj e1]
          exact e2
      | _ => exact h.elim
  cases hk : K.lookup a with
  | some o =>
    have e := KX a o hk
    rw [ha] at e
    have e := Option.some.inj e
    subst e
    refine core (fun _ => none) (fun _ => .inl rfl) (.inr ⟨_, vs.toArray, _, hk, rfl, rfl, rfl, by rw [List.size_toArray, lenV]; exact hl, by simpa using rv⟩) (fun b u z => ?_) (fun b z => absurd rfl z) fun z => absurd rfl z
    have z : (none : Option HO) = some u := z
    cases z
  | none =>
    let o : HO := .frz { cls := .type "list", data := .seq vs.toArray } (.lst (ns.map V.int))
    have at_ : ∀ b, (fun b => if b = a then some o else none : Hp) b = if b = a then some o else none := fun _ => rfl
    refine core (fun b => if b = a then some o else none) (fun b => ?_) (.inl (.inr ⟨_, if_pos rfl⟩)) (fun b u z => ?_) (fun b z => ?_) fun _ => hk
    · by_cases hb : b = a
      · exact .inr ⟨_, _, if_pos hb⟩
      · exact .inl (if_neg hb)
    · rw [at_] at z
      by_cases hb : b = a
      · rw [if_pos hb] at z
        have z := Option.some.inj z
        subst z
        subst hb
        exact ⟨ha, by rw [List.length_map]; exact hl, vs, _, rv, ha⟩
      · rw [if_neg hb] at z
        cases z
    · by_cases hb : b = a
      · exact hb
      · rw [if_neg hb] at z
        exact absurd rfl z
theorem walkMG {l : PySem.W.OpenLaw} {n k : Nat} {q : Program} {loose : List Str} {XP : (Str → Option Value) → Heap → Prop} {YP : World → Heap → Prop} {d : DefRec} {x : Str} {F : List EV → Out}
    (hn : l.most = some n) (hn2 : n ≤ sizeLine) (hdf : d.params.defaults = []) (hr : Room k callerA)
    (hF : ∀ (w : World) (mg : Str → Option Value) (fa : Addr) (h : Heap), YP w h → h.Ns mainGlobals mg → mg d.name = some (.ref fa) →
      ∃ (K : PySem.W.Frag) (ct : Nat → Addr) (fd : FuncData), K.In h ∧ (∀ (s : Shared) (u : Value), BindsTo s fd ⟨[u], []⟩ [(x, u)]) ∧ ∀ base : Heap, K.In base → base.Ns mainGlobals mg → FnG l.prog w K mg base k fa fd [x] (spM ⟨K, ct⟩ F))
    (law : ∀ ns : List Int, ns.length ≤ n → (∀ i ∈ ns, Builtin.Int.intBits i ≤ 1048576) → ∃ ps, F [.d (.scr ns)] = .ret (.d (.bl true)) ps) :
    PySem.W.WalkO q loose XP YP l.row.toRowW d [] (fun f vs => PySem.call f vs) := by
  refine Att.attach_callB hn hdf fun w s₀ s₁ mg mb fa o pm cd doc a vs ns G Y ho hd hcd hmg hobj hints hlen hbits hg => ?_
  obtain ⟨K, ct, fd, KX, hb, hF⟩ := hF w mg fa _ Y G.T.g hmg
  refine law_callG KX G.T.g G.T.b G.T.builtins G.T.nolimit hg hobj hints (Nat.le_trans hlen hn2) hr hF hb (fun H hO hS => ?_) fun H e s' h => cx_none h
  obtain ⟨ps, hl⟩ := law ns hlen hbits
  refine ⟨H, [.d (.scr ns)], Same.refl _, ⟨rfl, fun i y hy => ?_, fun i j b h _ => ?_⟩, ?_⟩
  · cases i with
    | zero => cases hy; exact ⟨.ref a, rfl, .scr hS⟩
    | succ i => simp at hy
  · obtain ⟨⟨y, hy⟩, _⟩ := pinA_ok h
    cases i with
    | zero => simp at hy
    | succ i => simp at hy
  · rw [hl]
    intro G' H' v _ hv
    have hv : Rp ⟨K, ct⟩ G' v (.bl true) := hv
    cases hv
    rfl
end MM
end
section
set_option Elab.async false
set_option linter.all false
set_option autoImplicit false
set_option maxRecDepth 100000
set_option maxHeartbeats 4000000
namespace MM
open PySem PySem.Spec PyProof.Rows L2
/-! ### repr of data -/
mutual
theorem D.noDict : ∀ d : D, d.py.hasDict = false
  | .non => by rw [D.py, PyData.hasDict]
  | .bl _ => by rw [D.py, PyData.hasDict]
  | .int _ => by rw [D.py, PyData.hasDict]
  | .str _ => by rw [D.py, PyData.hasDict]
  | .lst xs => by rw [D.py, PyData.hasDict]; exact D.noDicts xs
  | .tup xs => by rw [D.py, PyData.hasDict]; exact D.noDicts xs
  | .obj _ _ => by rw [D.py, PyData.hasDict]
  | .dic _ _ => by rw [D.py, PyData.hasDict]
  | .scr _ => by rw [D.py, PyData.hasDict]
  | .rng _ _ => by rw [D.py, PyData.hasDict]
theorem D.noDicts : ∀ ds : List D, PyData.hasDictAll (D.pys ds) = false
  | [] => by rw [D.pys, PyData.hasDictAll]
  | x :: xs => by rw [D.pys, PyData.hasDictAll, D.noDict x, D.noDicts xs]; rfl
end
mutual
/-- what a text of it may come to -/
def D.cst : D → Nat
  | .int _ => 1921
  | .str x => (reprText x).length
  | .lst xs => D.csts xs + 3
  | .tup xs => D.csts xs + 2
  | _ => 5
def D.csts : List D → Nat
  | [] => 0
  | x :: xs => D.cst x + 2 + D.csts xs
end
mutual
/-- data that is shown: no instances, no dicts, no great ints -/
def D.shw : D → Bool
  | .int i => decide (i.natAbs.log2 < 1920)
  | .lst xs => D.shws xs
  | .tup xs => D.shws xs
  | .obj _ _ => false
  | .dic _ _ => false
  | .scr _ => false
  | .rng _ _ => false
  | _ => true
def D.shws : List D → Bool
  | [] => true
  | x :: xs => D.shw x && D.shws xs
end
mutual
theorem D.shw_flat : ∀ d : D, d.shw = true → d.flat = true ∧ d.py.showable = true
  | .non, _ => by simp [D.flat, D.py, PyData.showable]
  | .bl _, _ => by simp [D.flat, D.py, PyData.showable]
  | .int i, h => by rw [D.shw] at h; rw [D.py, PyData.showable]; exact ⟨by simp [D.flat], h⟩
  | .str _, _ => by simp [D.flat, D.py, PyData.showable]
  | .lst xs, h => by rw [D.shw] at h; rw [D.flat, D.py, PyData.showable]; exact D.shws_flat xs h
  | .tup xs, h => by rw [D.shw] at h; rw [D.flat, D.py, PyData.showable]; exact D.shws_flat xs h
  | .obj _ _, h => by rw [D.shw] at h; cases h
  | .dic _ _, h => by rw [D.shw] at h; cases h
  | .scr _, h => by rw [D.shw] at h; cases h
  | .rng _ _, h => by rw [D.shw] at h; cases h
theorem D.shws_flat : ∀ ds : List D, D.shws ds = true → D.flats ds = true ∧ PyData.showableAll (D.pys ds) = true
  | [], _ => by rw [D.flats, D.pys, PyData.showableAll]; exact ⟨rfl, rfl⟩
  | x :: xs, h => by
    rw [D.shws, Bool.and_eq_true] at h
    have h1 := D.shw_flat x h.1
    have h2 := D.shws_flat xs h.2
    rw [D.flats, D.pys, PyData.showableAll, h1.1, h1.2, h2.1, h2.2]
    exact ⟨rfl, rfl⟩
end
mutual
theorem D.shown_len : ∀ d : D, d.shw = true → d.py.shown.length ≤ d.cst
  | .non, _ => by simp only [D.py, PyData.shown, D.cst]; decide +kernel
  | .bl b, _ => by simp only [D.py, PyData.shown, D.cst]; cases b <;> decide +kernel
  | .int i, h => by
    rw [D.shw] at h
    rw [D.py, PyData.shown, D.cst]
    exact int_text_len_1921 (of_decide_eq_true h)
  | .str x, _ => by rw [D.py, PyData.shown, D.cst]; exact Nat.le_refl _
  | .lst xs, h => by
    rw [D.shw] at h
    rw [D.py, PyData.shown, D.cst]
    have h1 := D.shown_lens xs h
    have h2 := listText_len_le (PyData.shownAll (D.pys xs))
    have h3 : ∀ l : List Str, (l.map (·.length)).sum + 2 * l.length = piled l := fun l => by
      induction l with
      | nil => rfl
      | cons t l ih => rw [piled_cons, ← ih, List.map_cons, List.sum_cons, List.length_cons]; omega
    rw [h3] at h2
    omega
  | .tup xs, h => by
    rw [D.shw] at h
    rw [D.py, PyData.shown, D.cst]
    have h1 := D.shown_lens xs h
    have h2 := fmt_text (PyData.shownAll (D.pys xs))
    omega
  | .obj _ _, h => by rw [D.shw] at h; cases h
  | .dic _ _, h => by rw [D.shw] at h; cases h
  | .scr _, h => by rw [D.shw] at h; cases h
  | .rng _ _, h => by rw [D.shw] at h; cases h
theorem D.shown_lens : ∀ ds : List D, D.shws ds = true → piled (PyData.shownAll (D.pys ds)) ≤ D.csts ds
  | [], _ => by rw [D.pys, PyData.shownAll, D.csts]; exact Nat.le_refl _
  | x :: xs, h => by
    rw [D.shws, Bool.and_eq_true] at h
    have h1 := D.shown_len x h.1
    have h2 := D.shown_lens xs h.2
    rw [D.pys, PyData.shownAll, D.csts, piled_cons]
    omega
end
def okR (d : D) : Bool := d.shw && (decide (d.py.depth ≤ 60) && decide (d.cst ≤ LIM))
def fReprD : D → Option EV
  | .dic [] [] => some (.d (.str "{}"))
  | d => if okR d = true then some (.d (.str d.py.shown)) else none
def rReprD (K : PySem.W.Frag) : List V → Hp → VK → Prop := fun xs H Q => ∃ x, xs = [x] ∧ ((∃ d, Dp K H x d ∧ d.hasDict = false ∧ d.showable = true ∧ d.depth ≤ 60 ∧ d.shown.length ≤ sizeLine ∧ Q (.str d.shown) H) ∨ ∃ a, x = .ref a ∧ H a = some (.dK []) ∧ Q (.str "{}") H)
section
variable {X : Cx} {ct : Nat → Addr} {kk : Nat}
theorem cr_reprD (hgu : X.A.guards = some []) (hr : Room kk X.A) : CallR X (.builtin "repr") (rReprD X.K) := by
  intro pins s σ H xs us Q I r h
  have hun := hr.un
  obtain ⟨x, rfl, h⟩ := h
  obtain ⟨u, rfl, rv⟩ := vals1 r
  rcases h with ⟨d, hd, nd, hs, hdp, hsz, q⟩ | ⟨a, rfl, ha, q⟩
  · have rd := Dp.reads I d x u hd rv
    obtain ⟨as, rd⟩ := rd
    have go : ∀ {a : Addr}, Reads s.heap (.ref a) d as → wpAny (model X.prog X.w) X.A (call (.builtin "repr") [.ref a]) (EP X pins σ Q) X.xe s := fun {a} rd =>
      repr_of_reads' rd hs (fun e => by rw [nd] at e; cases e) hgu (by omega) (fun _ _ e => e) (fun h' t tk hk => ⟨.str d.shown, H, I.kept hk, ⟨t, rfl⟩, q⟩) hsz
    cases hd with
    | non => cases rv; simp only [PyData.shown] at q; exact PySem.P.repr_of_none ⟨.str _, H, I.tok _, ⟨_, rfl⟩, q⟩
    | bl b => cases rv; simp only [PyData.shown] at q; exact PySem.P.repr_of_bool ⟨.str _, H, I.tok _, ⟨_, rfl⟩, q⟩
    | int i =>
      obtain ⟨t, rfl⟩ := rv
      simp only [PyData.shown] at q
      simp only [PyData.showable] at hs
      exact PySem.P.repr_of_int (of_decide_eq_true hs) ⟨.str _, H, I.tok _, ⟨_, rfl⟩, q⟩
    | str y =>
      obtain ⟨t, rfl⟩ := rv
      simp only [PyData.shown] at q hsz
      exact PySem.P.repr_of_str ⟨.str _, H, I.tok _, ⟨_, rfl⟩, q⟩ hsz
    | lst _ _ => cases rv; exact go rd
    | tup _ _ => cases rv; exact go rd
  · cases (show u = Value.ref a from rv)
    obtain ⟨_, hsm, vs, hk, o, es, ep, e1, e2, e3, _, hp, _⟩ := (show ObjOk X.prog X.w H s.heap a (.dK []) from I.hok a _ ha)
    cases hk
    have e4 : es.toList = [] := by
      cases hl : es.toList with
      | nil => rfl
      | cons y ys => rw [hl] at hp; cases hp
    have rd : Reads s.heap (.ref a) (.dict []) (a :: [] ++ []) := .dict e1 e2.1 e3 (by rw [e4]; exact .nil) (by rw [e4]; exact .nil)
    refine repr_of_reads' rd (by simp only [PyData.showable, PyData.showableKv]) (fun _ z => ?_) hgu (by simp only [PyData.depth, PyData.depthKv]; omega) (fun _ _ e => e) (fun h' t tk hk => ⟨.str "{}", H, I.kept hk, ⟨t, ?_⟩, q⟩) ?_
    · have z : a = sysModules := by
        have z : sysModules ∈ [a] := z
        exact (List.mem_singleton.mp z).symm
      rw [z] at hsm
      simp at hsm
    · simp only [PyData.shown, PyData.shownKv]
      rfl
    · simp only [PyData.shown, PyData.shownKv]
      decide +kernel
theorem RB.dic0 {k : Kc} {G H : Hp} {v : V} (g : Same G H) (h : RB k G H v (.dic [] [])) : ∃ a, v = .ref a ∧ H a = some (.dK []) := by
  obtain ⟨a, kvs, rfl, h1, h2, _⟩ := h.dic g
  have : kvs = [] := List.map_eq_nil_iff.mp h2
  subst this
  exact ⟨a, rfl, h1⟩
theorem g_reprD : CallG ⟨X.K, ct⟩ (rReprD X.K) (gF1 fReprD) := callG1 fun c G H σ e v d z Q re rb hz q => by
  have key : ∀ {d : D}, okR d = true → RB ⟨X.K, ct⟩ G H v d → some (EV.d (.str d.py.shown)) = some z → rReprD X.K [v] H Q := fun {d} hok rb hz => by
    cases hz
    unfold okR at hok
    rw [Bool.and_eq_true, Bool.and_eq_true] at hok
    have h1 := D.shw_flat d hok.1
    have h2 := D.shown_len d hok.1
    have h3 : d.cst ≤ 1000000 := of_decide_eq_true hok.2.2
    exact ⟨v, rfl, .inl ⟨d.py, rb.dp re.gh h1.1, D.noDict d, h1.2, of_decide_eq_true hok.2.1, by rw [sizeLine_eq]; omega, q G H _ (Same.refl _) re (.str _)⟩⟩
  unfold fReprD at hz
  split at hz
  · cases hz
    obtain ⟨a, rfl, ha⟩ := rb.dic0 re.gh
    exact ⟨_, rfl, .inr ⟨a, rfl, ha, q G H _ (Same.refl _) re (.str _)⟩⟩
  · split at hz
    · rename_i hok
      exact key hok rb hz
    · cases hz
end
/-! ### repr of scalars, wherever -/
def fReprS : D → Option EV
  | .non => some (.d (.str "None"))
  | .bl b => some (.d (.str (if b then "True" else "False")))
  | .int i => if i.natAbs.log2 < 1920 then some (.d (.str (toString i))) else none
  | .str x => if (reprText x).length ≤ LIM then some (.d (.str (reprText x))) else none
  | _ => none
def rReprS : List V → Hp → VK → Prop := fun xs H Q => ∃ (x : V) (y : Str), xs = [x] ∧ ((x = .non ∧ y = "None") ∨ (∃ b : Bool, x = .bl b ∧ y = if b then ("True" : Str) else "False") ∨ (∃ i : Int, x = .int i ∧ i.natAbs.log2 < 1920 ∧ y = (toString i : String)) ∨ ∃ z, x = .str z ∧ (reprText z).length ≤ sizeLine ∧ y = reprText z) ∧ Q (.str y) H
section
variable {X : Cx} {ct : Nat → Addr}
theorem cr_reprS : CallR X (.builtin "repr") rReprS := by
  intro pins s σ H xs us Q I r h
  obtain ⟨x, y, rfl, h, q⟩ := h
  obtain ⟨u, rfl, rv⟩ := vals1 r
  rcases h with ⟨rfl, rfl⟩ | ⟨b, rfl, rfl⟩ | ⟨i, rfl, hi, rfl⟩ | ⟨z, rfl, hz, rfl⟩
  · cases rv; exact PySem.P.repr_of_none ⟨.str _, H, I.tok _, ⟨_, rfl⟩, q⟩
  · cases rv; exact PySem.P.repr_of_bool ⟨.str _, H, I.tok _, ⟨_, by cases b <;> rfl⟩, q⟩
  · obtain ⟨t, rfl⟩ := rv; exact PySem.P.repr_of_int hi ⟨.str _, H, I.tok _, ⟨_, rfl⟩, q⟩
  · obtain ⟨t, rfl⟩ := rv; exact PySem.P.repr_of_str ⟨.str _, H, I.tok _, ⟨_, rfl⟩, q⟩ hz
theorem g_reprS : CallG ⟨X.K, ct⟩ rReprS (gF1 fReprS) := callG1 fun c G H σ e v d z Q re rb hz q => by
  cases d with
  | non => cases hz; rw [rb.non]; exact ⟨_, _, rfl, .inl ⟨rfl, rfl⟩, q G H _ (Same.refl _) re (.str _)⟩
  | bl b => cases hz; rw [rb.bl]; exact ⟨_, _, rfl, .inr (.inl ⟨b, rfl, rfl⟩), q G H _ (Same.refl _) re (.str _)⟩
  | int i =>
    simp only [fReprS] at hz
    split at hz
    · rename_i h; cases hz; rw [rb.int]; exact ⟨_, _, rfl, .inr (.inr (.inl ⟨i, rfl, h, rfl⟩)), q G H _ (Same.refl _) re (.str _)⟩
    · cases hz
  | str x =>
    simp only [fReprS] at hz
    split at hz
    · rename_i h; cases hz; rw [rb.str]; exact ⟨_, _, rfl, .inr (.inr (.inr ⟨x, rfl, by rw [sizeLine_eq]; exact Nat.le_trans h (by decide), rfl⟩)), q G H _ (Same.refl _) re (.str _)⟩
    · cases hz
  | _ => cases hz
end
end MM
end
section
set_option Elab.async false
set_option linter.all false
set_option autoImplicit false
set_option maxRecDepth 100000
set_option maxHeartbeats 4000000
namespace MM
open PySem PySem.Spec PyProof.Rows L2
/-! ### an empty dict; list.insert -/
def vDic0 : EM EV := fun e => .ok (.m (.dic [] [])) e
@[simp] theorem vDic0_ev {e : Env} : vDic0 e = .ok (.m (.dic [] [])) e := rfl
section
variable {X : Cx} {ct : Nat → Addr} {W : WX} {pos : Pos}
theorem v_dic0 : SV X ct W (.Dict [] [] pos) vDic0 := PEw pe_dnewK fun σ H Q q => by
  obtain ⟨c, G, e, r, p⟩ := q
  intro a ha
  have n := r.newM (x := .dic [] []) (o := .dK []) ha ⟨[], rfl, rfl, .nil⟩
  exact p G _ (Same.refl _) n.1 _ ⟨a, rfl, n.2.1, n.2.2⟩
def rInsert : V → List V → Hp → VK → Prop := fun x vs H Q => ∃ (l : Addr) (xs : List V) (i : Int) (y : V), x = .ref l ∧ vs = [.int i, y] ∧ H l = some (.lst xs) ∧ xs.length < sizeLine ∧ 0 ≤ i ∧ i < 2 ^ 63 ∧ Q .non (upd H l (.lst (xs.take i.toNat ++ [y] ++ xs.drop i.toNat)))
def gInsert : MV → List D → Option (MV × D)
  | .lst xs, [.int i, d] => if xs.length < LIM ∧ 0 ≤ i ∧ i ≤ 1000000 then some (.lst (xs.take i.toNat ++ [d] ++ xs.drop i.toNat), .non) else none
  | _, _ => none
theorem mt_insertM : MtM X "list.insert" rInsert := mt_insert
theorem mutG_insert : MutG ⟨X.K, ct⟩ rInsert gInsert := fun G H a o y y' vs ds z Q g hH m rs hg q => by
  unfold gInsert at hg
  split at hg
  · rename_i xs i d
    split at hg
    · rename_i hc
      cases hg
      obtain ⟨us, rfl, ru⟩ := m
      cases rs with
      | cons ri rs =>
        cases rs with
        | cons rd rs =>
          cases rs
          cases ri
          have hl : us.length < 1000000 := by rw [ru.len]; exact hc.1
          exact ⟨a, us, i, _, rfl, rfl, hH, by rw [sizeLine_eq]; omega, hc.2.1, by omega, q _ _ ⟨_, rfl, ((ru.take _).app (.cons rd .nil)).app (ru.drop _)⟩ .non⟩
    · cases hg
  · cases hg
end
@[simp] theorem gInsert_lst {xs : List D} {i : Int} {d : D} : gInsert (.lst xs) [.int i, d] = if xs.length < LIM ∧ 0 ≤ i ∧ i ≤ 1000000 then some (.lst (xs.take i.toNat ++ [d] ++ xs.drop i.toNat), .non) else none := rfl
end MM
end
section
set_option Elab.async false
set_option linter.all false
set_option autoImplicit false
set_option maxRecDepth 100000
set_option maxHeartbeats 4000000
namespace MM
open PySem PySem.Spec PyProof.Rows L2
/-! ### a slice of the script -/
def vSlS (f : EM Tk) (fl fh : EO) : EM EV := fun e => (f e).bind fun t e1 => (fl e1).bind fun lo e2 => (fh e2).bind fun hi e3 => match rdK e3 t with
  | some (.scr ns) => .ok (.m (.lst (cutD (ns.map D.int) lo hi))) e3
  | _ => .stuck
@[simp] theorem vSlS_ev {f : EM Tk} {fl fh : EO} {e : Env} : vSlS f fl fh e = (f e).bind fun t e1 => (fl e1).bind fun lo e2 => (fh e2).bind fun hi e3 => match rdK e3 t with
  | some (.scr ns) => .ok (.m (.lst (cutD (ns.map D.int) lo hi))) e3
  | _ => .stuck := rfl
section
variable {X : Cx} {ct : Nat → Addr} {W : WX} {pos p2 : Pos} {a : Expr} {lo hi : Option Expr} {fa : EM Tk} {fl fh : EO}
theorem v_sliceS (ha : SK X ct W a fa) (hl : SO X ct W lo fl) (hh : SO X ct W hi fh) : SV X ct W (.Subscript a (.Slice lo hi none p2) pos) (vSlS fa fl fh) := PEw (pe_slice sl_list ha hl hh) fun σ H Q q => by
  obtain ⟨c, G, e, r, p⟩ := q
  refine ⟨c, G, e, r, (Post.bind p).imp fun G1 H1 e1 t s1 r1 p1 x hx => ⟨c, G1, e1, r1, (Post.bind p1).imp fun G2 H2 e2 l s2 r2 p2 => ⟨c, G2, e2, r2, (Post.bind p2).imp fun G3 H3 e3 h s3 r3 p3 => ?_⟩⟩⟩
  split at p3
  · rename_i ns hd
    have hr := RB.of r3 ((hx.mono s2).mono s3) hd
    obtain ⟨b, rfl, h1⟩ := hr.scr r3.gh
    exact ⟨_, _, rfl, h1, fin_lst r3 ((Rps.ofInts ns).cut l h) fun G' H' v s' r' hv => p3 G' H' s' r' v hv⟩
  · exact p3.elim
end
/-! ### == of texts -/
def gEqT : D → D → Option Bool
  | .str x, .str y => some (decide (x = y))
  | _, _ => none
def gNeT : D → D → Option Bool
  | .str x, .str y => some (!decide (x = y))
  | _, _ => none
theorem dec_V (x y : Str) : decide (V.str x = V.str y) = decide (x = y) := by
  by_cases h : x = y <;> simp [h]
theorem opB_eqT {k : Kc} : OpB k rEq gEqT := fun G H x y a b z Q g ra rb hz q => by
  unfold gEqT at hz
  split at hz
  · cases hz
    rw [ra.str, rb.str]
    exact ⟨rfl, by rw [dec_V]; exact q⟩
  · cases hz
theorem opB_neT {k : Kc} : OpB k rNe gNeT := fun G H x y a b z Q g ra rb hz q => by
  unfold gNeT at hz
  split at hz
  · cases hz
    rw [ra.str, rb.str]
    exact ⟨rfl, by rw [dec_V]; exact q⟩
  · cases hz
section
variable {X : Cx} {ct : Nat → Addr}
theorem x_eqT : CmpX X ct .Eq gEqT := ⟨_, op_eq, opB_eqT⟩
theorem x_neT : CmpX X ct .NotEq gNeT := ⟨_, op_ne, opB_neT⟩
end
@[simp] theorem gEqT_str (x y : Str) : gEqT (.str x) (.str y) = some (decide (x = y)) := rfl
@[simp] theorem gNeT_str (x y : Str) : gNeT (.str x) (.str y) = some (!decide (x = y)) := rfl
/-! ### which data is shown -/
theorem log_ok {i : Int} (h : -(10 ^ 40) < i ∧ i < 10 ^ 40) : i.natAbs.log2 < 1920 := by
  have h1 : i.natAbs < 2 ^ 1920 := Nat.lt_of_lt_of_le (show i.natAbs < 10 ^ 40 by omega) (by decide +kernel)
  have := log2_lt h1
  by_cases z : i.natAbs = 0
  · rw [z]; decide
  · exact (Nat.log2_lt z).mpr h1
def Shown (ns : List Int) : Prop := ∀ i ∈ ns, i.natAbs.log2 < 1920
theorem shws_ints : ∀ {ns : List Int}, Shown ns → D.shws (ns.map D.int) = true
  | [], _ => by rw [List.map_nil, D.shws]
  | n :: ns, h => by
    rw [List.map_cons, D.shws, D.shw, decide_eq_true (h n (by simp)), shws_ints fun i hi => h i (by simp [hi])]
    rfl
theorem csts_ints : ∀ ns : List Int, D.csts (ns.map D.int) = 1923 * ns.length
  | [] => by rw [List.map_nil, D.csts]; rfl
  | n :: ns => by rw [List.map_cons, D.csts, D.cst, csts_ints ns, List.length_cons]; omega
theorem dep_ints : ∀ ns : List Int, PyData.depthAll (D.pys (ns.map D.int)) = 0
  | [] => by rw [List.map_nil, D.pys, PyData.depthAll]
  | n :: ns => by rw [List.map_cons, D.pys, PyData.depthAll, D.py, PyData.depth, dep_ints ns]; rfl
theorem okR_ints {ns : List Int} (h : Shown ns) (hl : ns.length ≤ 500) : okR (.lst (ns.map D.int)) = true := by
  unfold okR
  rw [D.shw, shws_ints h, D.py, PyData.depth, dep_ints, D.cst, csts_ints]
  have : 1923 * ns.length + 3 ≤ LIM := by show _ ≤ 1000000; omega
  simp [this]
theorem shws_rows : ∀ {R : List (List Int)}, (∀ r ∈ R, Shown r) → D.shws (rowsD R) = true
  | [], _ => by show D.shws [] = _; rw [D.shws]
  | r :: R, h => by
    show D.shws (.lst (r.map D.int) :: rowsD R) = _
    rw [D.shws, D.shw, shws_ints (h r (by simp)), shws_rows fun q hq => h q (by simp [hq])]
    rfl
theorem csts_rows : ∀ R : List (List Int), D.csts (rowsD R) = 1923 * R.flatten.length + 5 * R.length
  | [] => by show D.csts [] = _; rw [D.csts]; rfl
  | r :: R => by
    show D.csts (.lst (r.map D.int) :: rowsD R) = _
    rw [D.csts, D.cst, csts_ints, csts_rows R, List.flatten_cons, List.length_append, List.length_cons]
    omega
theorem dep_rows : ∀ R : List (List Int), PyData.depthAll (D.pys (rowsD R)) ≤ 1
  | [] => by show PyData.depthAll (D.pys []) ≤ _; rw [D.pys, PyData.depthAll]; omega
  | r :: R => by
    show PyData.depthAll (D.pys (.lst (r.map D.int) :: rowsD R)) ≤ _
    have := dep_rows R
    rw [D.pys, PyData.depthAll, D.py, PyData.depth, dep_ints]
    omega
theorem okR_rows {R : List (List Int)} (h : ∀ r ∈ R, Shown r) (hl : R.flatten.length ≤ 400) (hr : R.length ≤ 1000) : okR (.lst (rowsD R)) = true := by
  unfold okR
  have h1 := dep_rows R
  rw [D.shw, shws_rows h, D.py, PyData.depth, D.cst, csts_rows]
  have : 1923 * R.flatten.length + 5 * R.length + 3 ≤ LIM := by show _ ≤ 1000000; omega
  have h2 : PyData.depthAll (D.pys (rowsD R)) + 1 ≤ 60 := by omega
  rw [decide_eq_true this, decide_eq_true h2]
  rfl
theorem fReprD_ok {d : D} (h : okR d = true) (hn : d ≠ .dic [] []) : fReprD d = some (.d (.str d.py.shown)) := by
  unfold fReprD
  split
  · exact absurd rfl hn
  · rw [if_pos h]
end MM
end
section
set_option Elab.async false
set_option linter.all false
set_option autoImplicit false
set_option maxRecDepth 100000
set_option maxHeartbeats 4000000
namespace MM
open PySem PySem.Spec L2
/-! ### data of few nodes is shown -/
mutual
def D.nice : D → Bool
  | .int i => decide (i.natAbs.log2 < 1920)
  | .str x => decide ((reprText x).length ≤ 1921)
  | .lst xs => D.nices xs
  | .tup xs => D.nices xs
  | .obj _ _ => false
  | .dic _ _ => false
  | .scr _ => false
  | .rng _ _ => false
  | _ => true
def D.nices : List D → Bool
  | [] => true
  | x :: xs => D.nice x && D.nices xs
end
mutual
def D.nod : D → Nat
  | .lst xs => D.nods xs + 1
  | .tup xs => D.nods xs + 1
  | _ => 1
def D.nods : List D → Nat
  | [] => 0
  | x :: xs => D.nod x + D.nods xs
end
mutual
theorem D.nice_shw : ∀ d : D, d.nice = true → d.shw = true ∧ d.cst + 2 ≤ 1925 * d.nod ∧ d.py.depth ≤ d.nod
  | .non, _ => by simp [D.shw, D.cst, D.nod, D.py, PyData.depth]
  | .bl _, _ => by simp [D.shw, D.cst, D.nod, D.py, PyData.depth]
  | .int i, h => by rw [D.nice] at h; simp [D.shw, D.cst, D.nod, D.py, PyData.depth]; exact of_decide_eq_true h
  | .str x, h => by rw [D.nice] at h; have := of_decide_eq_true h; simp [D.shw, D.cst, D.nod, D.py, PyData.depth]; omega
  | .lst xs, h => by
    rw [D.nice] at h
    obtain ⟨h1, h2, h3⟩ := D.nices_shw xs h
    rw [D.shw, D.cst, D.nod, D.py, PyData.depth]
    exact ⟨h1, by omega, by omega⟩
  | .tup xs, h => by
    rw [D.nice] at h
    obtain ⟨h1, h2, h3⟩ := D.nices_shw xs h
    rw [D.shw, D.cst, D.nod, D.py, PyData.depth]
    exact ⟨h1, by omega, by omega⟩
  | .obj _ _, h => by rw [D.nice] at h; cases h
  | .dic _ _, h => by rw [D.nice] at h; cases h
  | .scr _, h => by rw [D.nice] at h; cases h
  | .rng _ _, h => by rw [D.nice] at h; cases h
theorem D.nices_shw : ∀ ds : List D, D.nices ds = true → D.shws ds = true ∧ D.csts ds ≤ 1925 * D.nods ds ∧ PyData.depthAll (D.pys ds) ≤ D.nods ds
  | [], _ => by simp [D.shws, D.csts, D.nods, D.pys, PyData.depthAll]
  | x :: xs, h => by
    rw [D.nices, Bool.and_eq_true] at h
    obtain ⟨a1, a2, a3⟩ := D.nice_shw x h.1
    obtain ⟨b1, b2, b3⟩ := D.nices_shw xs h.2
    rw [D.shws, D.csts, D.nods, D.pys, PyData.depthAll, a1, b1]
    exact ⟨rfl, by omega, by omega⟩
end
/-- few nodes, or the empty dict -/
def Good (n : Nat) (v : D) : Prop := v = .dic [] [] ∨ (v.nice = true ∧ v.nod ≤ n)
theorem Good.okR {n : Nat} {v : D} (h : v.nice = true) (hn : v.nod ≤ n) (h60 : n ≤ 60) : okR v = true := by
  obtain ⟨h1, h2, h3⟩ := D.nice_shw v h
  unfold MM.okR
  rw [h1, decide_eq_true (show v.py.depth ≤ 60 by omega), decide_eq_true (show v.cst ≤ LIM by show _ ≤ 1000000; omega)]
  rfl
theorem Good.repr {n : Nat} {v : D} (h : Good n v) (h60 : n ≤ 60) : ∃ T : Str, fReprD v = some (.d (.str T)) := by
  rcases h with rfl | ⟨h1, h2⟩
  · exact ⟨_, rfl⟩
  · exact ⟨_, fReprD_ok (Good.okR h1 h2 h60) fun z => by subst z; rw [D.nice] at h1; cases h1⟩
theorem nices_iff : ∀ {ds : List D}, D.nices ds = true ↔ ∀ d ∈ ds, d.nice = true
  | [] => by simp [D.nices]
  | x :: xs => by rw [D.nices, Bool.and_eq_true, nices_iff]; simp
theorem nods_app : ∀ {a b : List D}, D.nods (a ++ b) = D.nods a + D.nods b
  | [], b => by simp [D.nods]
  | x :: a, b => by rw [List.cons_append, D.nods, D.nods, nods_app]; omega
theorem nods_ints : ∀ ns : List Int, D.nods (ns.map D.int) = ns.length
  | [] => by simp [D.nods]
  | n :: ns => by rw [List.map_cons, D.nods, nods_ints ns, List.length_cons]; simp [D.nod]; omega
theorem nices_ints {ns : List Int} (h : Shown ns) : D.nices (ns.map D.int) = true := nices_iff.mpr fun d hd => by
  obtain ⟨i, hi, rfl⟩ := List.mem_map.mp hd
  rw [D.nice]
  exact decide_eq_true (h i hi)
theorem nods_take {l : List D} (n : Nat) : D.nods (l.take n) ≤ D.nods l := by
  conv => rhs; rw [← List.take_append_drop n l, nods_app]
  omega
theorem nods_drop {l : List D} (n : Nat) : D.nods (l.drop n) ≤ D.nods l := by
  conv => rhs; rw [← List.take_append_drop n l, nods_app]
  omega
theorem nods_cut {l : List D} {lo hi : Option Int} : D.nods (cutD l lo hi) ≤ D.nods l := by
  unfold cutD
  exact Nat.le_trans (nods_take _) (nods_drop _)
theorem nices_cut {l : List D} {lo hi : Option Int} (h : D.nices l = true) : D.nices (cutD l lo hi) = true := nices_iff.mpr fun d hd => by
  unfold cutD at hd
  exact nices_iff.mp h d (List.mem_of_mem_drop (List.mem_of_mem_take hd))
theorem nices_app {a b : List D} (ha : D.nices a = true) (hb : D.nices b = true) : D.nices (a ++ b) = true := nices_iff.mpr fun d hd => by
  rcases List.mem_append.mp hd with h | h
  · exact nices_iff.mp ha d h
  · exact nices_iff.mp hb d h
theorem len_nods : ∀ {l : List D}, l.length ≤ D.nods l
  | [] => by simp
  | x :: l => by
    have := len_nods (l := l)
    have h1 : 1 ≤ x.nod := by cases x <;> simp [D.nod]
    rw [List.length_cons, D.nods]
    omega
theorem cut_le {l : List D} {lo hi : Option Int} : (cutD l lo hi).length ≤ l.length := by
  unfold cutD
  rw [List.length_take, List.length_drop]
  omega
end MM
end
section
set_option Elab.async false
set_option linter.all false
set_option autoImplicit false
set_option maxRecDepth 100000
set_option maxHeartbeats 4000000
namespace MM
open PySem PySem.Spec L2
/-! ### comprehensions whose names are kept outside -/
def keep1 (e1 : Env) (v : Nat) (e : Env) : Env := match e1[v]? with
  | some (some (.d x)) => e.set v (some (.d x))
  | _ => e
def keepE : List Nat → Env → Env → Env
  | [], _, e => e
  | v :: vs, e1, e => keep1 e1 v (keepE vs e1 e)
def lcK (vs : List Nat) (fi : EM (List D)) (ft : D → Env → Option Env) (ff : EM Bool) (fe : EM D) : EM EV := fun e => (fi e).bind fun ds e1 => match wipeE vs e1 with
  | none => .stuck
  | some e2 => (lcGo vs ft ff fe ds [] e2).bind fun acc e3 => .ok (.m (.lst acc)) (keepE vs e1 e3)
theorem keep1_ok {k : Kc} {c : Fr} {G G' H H' : Hp} {σ : L2.St} {e1 e : Env} {v : Nat} (r1 : RepS k c G σ H e1) (s : Same G G') (r : RepS k c G' σ H' e) {D : Addr} (hl : Loose σ e D) : RepS k c G' σ H' (keep1 e1 v e) ∧ Loose σ (keep1 e1 v e) D := by
  unfold keep1
  split
  · rename_i x hx
    obtain ⟨u, hu, hr⟩ := r1.slot v _ hx
    have hr : Rp k G u x := hr
    have hset : σ.set v (some u) = σ := by
      apply List.ext_getElem?
      intro j
      by_cases h : v = j
      · subst h
        rw [List.getElem?_set_self (List.getElem?_eq_some_iff.mp hu).1, hu]
      · rw [List.getElem?_set_ne h]
    have := r.put (i := v) (v := u) (x := some (.d x)) (r1.nopin hx fun z q => by cases q) (fun y hy => by cases hy; exact hr.mono s) (fun y b hy hw => by cases hy; cases hw)
    rw [hset] at this
    refine ⟨this, fun j y hy hw => ?_⟩
    rcases set_get hy with ⟨_, q, _⟩ | ⟨_, q⟩
    · cases q; cases hw
    · exact hl j y q hw
  · exact ⟨r, hl⟩
theorem keep_ok {k : Kc} {c : Fr} {G G' H H' : Hp} {σ : L2.St} {e1 e : Env} (r1 : RepS k c G σ H e1) (s : Same G G') : ∀ {vs : List Nat}, RepS k c G' σ H' e → ∀ {D : Addr}, Loose σ e D → RepS k c G' σ H' (keepE vs e1 e) ∧ Loose σ (keepE vs e1 e) D
  | [], r, D, hl => ⟨r, hl⟩
  | v :: vs, r, D, hl => by
    obtain ⟨r2, l2⟩ := keep_ok r1 s (vs := vs) r hl
    exact keep1_ok r1 s r2 l2
section
variable {X : Cx} {ct : Nat → Addr} {W : WX} {elt tg iter : Expr} {ifs : List Expr} {scope : Scope} {own : List (Str × Nat)} {pos : Pos} {fi : EM (List D)} {ft : D → Env → Option Env} {ff : EM Bool} {fe : EM D} {ts : List Nat}
theorem lc_semK {vs : List Nat} (hts : ∀ i ∈ ts, i ∈ vs) (σ : L2.St) (H : Hp) (Q : VK) (q : TV ⟨X.K, ct⟩ W (lcK vs fi ft ff fe) σ H Q) :
    tLc (TIx ⟨X.K, ct⟩ W fi) (TGt ⟨X.K, ct⟩ ts ft) (TT ⟨X.K, ct⟩ W0 ff) (TE ⟨X.K, ct⟩ W0 fe) vs σ H Q := by
  obtain ⟨c, G, e, r, p⟩ := q
  refine ⟨c, G, e, r, (Post.bind p).imp fun G1 H1 e1 ds s1 r1 p1 J hJ D hD => ?_⟩
  cases hw : wipeE vs e1 with
  | none => rw [hw] at p1; exact p1.elim
  | some e2 =>
    rw [hw] at p1
    have p2 : Post ⟨X.K, ct⟩ W c G1 σ (fun G' H' e' x => ∀ v, RpV ⟨X.K, ct⟩ c G' σ H' e' v x → Q v H') ((lcGo vs ft ff fe ds [] e2).bind fun acc e3 => .ok (.m (.lst acc)) (keepE vs e1 e3)) := p1
    have hO : c.O D = none := r1.oh.free hD
    have h0 : c.G0 D = none := (r1.g0.trans r1.gh).free hD
    generalize hR : lcGo vs ft ff fe ds [] e2 = R at p2
    have notS : R ≠ .stuck := fun z => by rw [z] at p2; exact p2
    refine lc_it (walk_of hJ) (fun i H => ∃ acc e' G' va, RepS ⟨X.K, ct⟩ (c.guard D (.lst va)) G' (wipe σ vs) H e' ∧ Same G1 G' ∧ Rps ⟨X.K, ct⟩ G' va acc ∧ lcGo vs ft ff fe (ds.drop i) acc e' = R ∧ ∀ v ∈ vs, e'[v]? = some none) ?_ ?_ ?_ ?_
    · obtain ⟨r2, _, n2, _⟩ := wipeE_ok r1 hw
      obtain ⟨r3, _, l3⟩ := r2.newM (x := .lst []) (o := .lst []) hD ⟨[], rfl, .nil⟩
      exact ⟨[], e2, G1, [], r3.guard upd_same (r2.gh.free hD) l3, Same.refl _, .nil, hR, n2⟩
    · rintro i H' _ ⟨acc, e', G', va, r', s', _⟩
      exact s'.trans r'.gh
    · rintro i x H' H'' hi ⟨acc, e', G', va, r', s', rs, eq, n'⟩ y
      obtain ⟨G2, d, hd, s2, r2, hx⟩ := item_ok r' s' y
      rw [drop_at hd] at eq
      have eq1 : (match ft d e' with
        | none => (.stuck : Res (List MM.D))
        | some e1 => match ff e1 with
          | .ok true e2 => (match fe e2 with
            | .ok x e3 => if acc.length < LIM then (match wipeE vs e3 with
                | some e4 => lcGo vs ft ff fe (ds.drop (i + 1)) (acc ++ [x]) e4
                | none => .stuck) else .stuck
            | _ => .stuck)
          | .ok false e2 => (match wipeE vs e2 with
            | some e4 => lcGo vs ft ff fe (ds.drop (i + 1)) acc e4
            | none => .stuck)
          | _ => .stuck) = R := eq
      cases h1 : ft d e' with
      | none => rw [h1] at eq1; exact absurd eq1.symm notS
      | some e3 =>
        rw [h1] at eq1
        refine ⟨_, G2, e', d, e3, r2, hx, h1, fun σ' r3 hl hj => ?_⟩
        have hwp : wipe σ' vs = wipe σ vs := by
          rw [wipe_same hl fun j hn => hj j fun z => hn (hts j z), wipe_wipe]
        refine ⟨hwp, _, G2, e3, r3, ?_⟩
        have eq2 : (match ff e3 with
          | .ok true e2 => (match fe e2 with
            | .ok x e3 => if acc.length < LIM then (match wipeE vs e3 with
                | some e4 => lcGo vs ft ff fe (ds.drop (i + 1)) (acc ++ [x]) e4
                | none => .stuck) else .stuck
            | _ => .stuck)
          | .ok false e2 => (match wipeE vs e2 with
            | some e4 => lcGo vs ft ff fe (ds.drop (i + 1)) acc e4
            | none => .stuck)
          | _ => .stuck) = R := eq1
        cases h2 : ff e3 with
        | stuck => rw [h2] at eq2; exact absurd eq2.symm notS
        | exc x e4 => rw [h2] at eq2; exact absurd eq2.symm notS
        | ok b e4 =>
          rw [h2] at eq2
          intro G3 H3 s3 r4
          cases b with
          | false =>
            rw [if_neg Bool.false_ne_true]
            have eq3 : (match wipeE vs e4 with
              | some e4 => lcGo vs ft ff fe (ds.drop (i + 1)) acc e4
              | none => .stuck) = R := eq2
            cases h3 : wipeE vs e4 with
            | none => rw [h3] at eq3; exact absurd eq3.symm notS
            | some e6 =>
              rw [h3] at eq3
              obtain ⟨r6, _, n6, _⟩ := wipeE_ok r4 h3
              rw [hwp] at r6
              exact ⟨acc, e6, G3, va, r6, (s'.trans s2).trans s3, (rs.mono s2).mono s3, eq3, n6⟩
          | true =>
            rw [if_pos rfl]
            refine ⟨_, G3, e4, r4, ?_⟩
            have eq3 : (match fe e4 with
              | .ok x e3 => if acc.length < LIM then (match wipeE vs e3 with
                | some e4 => lcGo vs ft ff fe (ds.drop (i + 1)) (acc ++ [x]) e4
                | none => .stuck) else .stuck
              | _ => .stuck) = R := eq2
            cases h3 : fe e4 with
            | stuck => rw [h3] at eq3; exact absurd eq3.symm notS
            | exc x e5 => rw [h3] at eq3; exact absurd eq3.symm notS
            | ok xd e5 =>
              rw [h3] at eq3
              have eq4 : (if acc.length < LIM then (match wipeE vs e5 with
                | some e4 => lcGo vs ft ff fe (ds.drop (i + 1)) (acc ++ [xd]) e4
                | none => .stuck) else .stuck) = R := eq3
              intro G4 H4 s4 r5 yv hy
              by_cases hlen : acc.length < LIM
              · rw [if_pos hlen] at eq4
                cases h4 : wipeE vs e5 with
                | none => rw [h4] at eq4; exact absurd eq4.symm notS
                | some e6 =>
                  rw [h4] at eq4
                  obtain ⟨r6, _, n6, _⟩ := wipeE_ok r5 h4
                  rw [hwp] at r6
                  obtain ⟨r7, hDD, gD, lD⟩ := r6.unguard hO h0
                  have sall := (s2.trans s3).trans s4
                  refine ⟨va, hDD, by rw [rs.len]; exact Nat.lt_of_lt_of_le hlen (lim_le (Nat.le_refl _)), acc ++ [xd], e6, G4, va ++ [yv], ?_, s'.trans sall, (rs.mono sall).app (.cons hy .nil), eq4, n6⟩
                  exact (r7.other gD hO lD).guard upd_same gD lD
              · rw [if_neg hlen] at eq4; exact absurd eq4.symm notS
    · rintro H' ⟨acc, e', G', va, r', s', rs, eq, n'⟩
      rw [List.drop_length] at eq
      have eq1 : R = .ok acc e' := eq.symm
      rw [eq1] at p2
      obtain ⟨r7, hDD, gD, lD⟩ := r'.unguard hO h0
      have out : ∀ {j : Nat} {x : EV}, e'[j]? = some (some x) → j ∉ vs := fun {j x} hx hj => by rw [n' j hj] at hx; cases hx
      have r8 : RepS ⟨X.K, ct⟩ c G' σ H' e' := r7.unwipe (wipe_length σ vs).symm (fun j hj => (wipe_out' hj).symm) n'
      obtain ⟨r9, lz⟩ := keep_ok r1 s' (vs := vs) r8 (D := D) fun j x hx hw => by
        rw [← wipe_out' (σ := σ) (out hx)]
        exact lD j x hx hw
      exact p2 G' H' s' r9 _ ⟨D, rfl, ⟨gD, hO, _, hDD, va, rfl, rs⟩, lz⟩
theorem v_lcK (hc : X.calm = true) (hN : X.N.Nodup) (hi : SI X ct W tg iter fi) (ok : BlkOk X.N X.env.scope scope own) (hts : ∀ i ∈ ts, i ∈ own.map (·.2))
    (hg : ∀ (s : Shared) (H : Hp) (C : Addr) (cl : List (Str × Addr)) (fp : List Addr), SG (X.blk s H scope (compEnvC scope cl C X.env) fp) ct tg ts ft) (ht : ∀ (s : Shared) (H : Hp) (C : Addr) (cl : List (Str × Addr)) (fp : List Addr), PTs (X.blk s H scope (compEnvC scope cl C X.env) fp) ifs (TT ⟨X.K, ct⟩ W0 ff))
    (he : ∀ (s : Shared) (H : Hp) (C : Addr) (cl : List (Str × Addr)) (fp : List Addr), SE (X.blk s H scope (compEnvC scope cl C X.env) fp) ct W0 elt fe) (hs : ∀ x, foldedSetIterable iter X.env x = pure x := by intro _; rfl) :
    SV X ct W (.ListComp elt [⟨tg, iter, ifs, 0⟩] scope pos) (lcK (own.map (·.2)) fi ft ff fe) := PEw (pe_lc hc hN hi ok hg ht he hs) fun σ H Q q => lc_semK hts σ H Q q
end
section
variable {X : Cx} {ct : Nat → Addr} {W : WX} {elt tg iter : Expr} {ifs : List Expr} {scope : Scope} {own : List (Str × Nat)} {pos spos py : Pos} {fi : EM (List D)} {ft : D → Env → Option Env} {ff : EM Bool} {fe : EM D} {ts : List Nat} {i : Nat} {y : Str}
theorem s_setLcK (hc : X.calm = true) (hN : X.N.Nodup) (hy : X.N[i]? = some y) (hyl : X.env.scope.names.lookup y = some .local)
    (hsw : swapsWith (.ListComp elt [⟨tg, iter, ifs, 0⟩] scope pos) (some (.Name y py)) spos.line X.env = pure true) (hi : SI X ct W tg iter fi) (ok : BlkOk X.N X.env.scope scope own) (hts : ∀ i ∈ ts, i ∈ own.map (·.2))
    (hg : ∀ (s : Shared) (H : Hp) (C : Addr) (cl : List (Str × Addr)) (fp : List Addr), SG (X.blk s H scope (compEnvC scope cl C X.env) fp) ct tg ts ft) (ht : ∀ (s : Shared) (H : Hp) (C : Addr) (cl : List (Str × Addr)) (fp : List Addr), PTs (X.blk s H scope (compEnvC scope cl C X.env) fp) ifs (TT ⟨X.K, ct⟩ W0 ff))
    (he : ∀ (s : Shared) (H : Hp) (C : Addr) (cl : List (Str × Addr)) (fp : List Addr), SE (X.blk s H scope (compEnvC scope cl C X.env) fp) ct W0 elt fe) (hs : ∀ x, foldedSetIterable iter X.env x = pure x := by intro _; rfl) :
    SS X ct W (.Assign [.Name y py] (.ListComp elt [⟨tg, iter, ifs, 0⟩] scope pos) spos) (sSet i (lcK (own.map (·.2)) fi ft ff fe)) := PSw (ps_setLc hc hN hy hyl hsw hi ok hg ht he hs) fun Dn σ H q => by
  obtain ⟨c, G, e, r, p⟩ := q
  refine lc_semK hts σ H _ ⟨c, G, e, r, (PostS.sb p).imp fun G' H' e' y s r' h v hv => putE_ok r' hv h⟩
end
theorem lcK_ev {vs : List Nat} {fi : EM (List D)} {ft : D → Env → Option Env} {ff : EM Bool} {fe : EM D} {e : Env} : lcK vs fi ft ff fe e = (fi e).bind fun ds e1 => match wipeE vs e1 with
  | none => .stuck
  | some e2 => (lcGo vs ft ff fe ds [] e2).bind fun acc e3 => .ok (.m (.lst acc)) (keepE vs e1 e3) := rfl
end MM
end
section
set_option Elab.async false
set_option linter.all false
set_option autoImplicit false
set_option maxRecDepth 100000
set_option maxHeartbeats 4000000
namespace MM
open PySem PySem.Spec L2
/-! ### four names at once -/
def sPar4 (i j l m : Nat) (fa fb fc fd : EM EV) : SM := fun e => (fa e).sb fun x e1 => (fb e1).sb fun y e2 => (fc e2).sb fun z e3 => (fd e3).sb fun w e4 => match pput i x e4 with
  | some e5 => (match pput j y e5 with
    | some e6 => (match pput l z e6 with
      | some e7 => (match pput m w e7 with
        | some e8 => .nx e8
        | none => .stuck)
      | none => .stuck)
    | none => .stuck)
  | none => .stuck
@[simp] theorem sPar4_ev {i j l m : Nat} {fa fb fc fd : EM EV} {e : Env} : sPar4 i j l m fa fb fc fd e = (fa e).sb fun x e1 => (fb e1).sb fun y e2 => (fc e2).sb fun z e3 => (fd e3).sb fun w e4 => match pput i x e4 with
  | some e5 => (match pput j y e5 with
    | some e6 => (match pput l z e6 with
      | some e7 => (match pput m w e7 with
        | some e8 => .nx e8
        | none => .stuck)
      | none => .stuck)
    | none => .stuck)
  | none => .stuck := rfl
section
variable {k : Kc} {W : WX} {c : Fr} {G H : Hp} {σ : L2.St} {e : Env} {Dn : Ends} {i j l m : Nat} {fa fb fc fd : EM EV}
theorem par4_core {R : V → V → V → V → Hp → Prop} (r : RepS k c G σ H e) (p : PostS k W c G Dn (sPar4 i j l m fa fb fc fd e))
    (hR : ∀ G2 H2 e2 e3 e4 e5 e6 v u z y va vb vc vd, RepS k c G2 σ H2 e2 → RpV k c G2 σ H2 e2 v va → RpV k c G2 σ H2 e2 u vb → RpV k c G2 σ H2 e2 z vc → RpV k c G2 σ H2 e2 y vd →
      (va.own = true → vb.own = true → u ≠ v) → (va.own = true → vc.own = true → z ≠ v) → (vb.own = true → vc.own = true → z ≠ u) → (va.own = true → vd.own = true → y ≠ v) → (vb.own = true → vd.own = true → y ≠ u) → (vc.own = true → vd.own = true → y ≠ z) →
      pput i va e2 = some e3 → pput j vb e3 = some e4 → pput l vc e4 = some e5 → pput m vd e5 = some e6 → PostS k W c G2 Dn (.nx e6) → R v u z y H2) :
    TV k W fa σ H fun v H1 => TV k W fb σ H1 fun u H2 => TV k W fc σ H2 fun z H3 => TV k W fd σ H3 fun y H4 => R v u z y H4 := by
  refine ⟨c, G, e, r, (PostS.sb p).imp fun G1 H1 e1 va s1 r1 p1 v hv => ⟨hold c H1 v va, G1, e1, hold_in r1 hv, ?_⟩⟩
  have p1' : PostS k W c G1 Dn ((fb e1).sb fun y e2 => (fc e2).sb fun z e3 => (fd e3).sb fun w e4 => match pput i va e4 with
    | some e5 => (match pput j y e5 with
      | some e6 => (match pput l z e6 with
        | some e7 => (match pput m w e7 with
          | some e8 => .nx e8
          | none => .stuck)
        | none => .stuck)
      | none => .stuck)
    | none => .stuck) := p1
  cases h2 : fb e1 with
  | stuck => rw [h2] at p1'; exact p1'.elim
  | exc xx e2 =>
    rw [h2] at p1'
    intro G2 H2 cls dc s2 r2 hx2
    obtain ⟨r2', _, _⟩ := hold_out r1 hv s2 r2
    exact p1' G2 σ H2 cls dc s2 r2' hx2
  | ok vb e2 =>
    rw [h2] at p1'
    intro G2 H2 s2 r2 u hu
    refine ⟨hold (hold c H1 v va) H2 u vb, G2, e2, hold_in r2 hu, ?_⟩
    have p2' : PostS k W c G1 Dn ((fc e2).sb fun z e3 => (fd e3).sb fun w e4 => match pput i va e4 with
      | some e5 => (match pput j vb e5 with
        | some e6 => (match pput l z e6 with
          | some e7 => (match pput m w e7 with
            | some e8 => .nx e8
            | none => .stuck)
          | none => .stuck)
        | none => .stuck)
      | none => .stuck) := p1'
    cases h3 : fc e2 with
    | stuck => rw [h3] at p2'; exact p2'.elim
    | exc xx e3 =>
      rw [h3] at p2'
      intro G3 H3 cls dc s3 r3 hx3
      obtain ⟨r3', _, _⟩ := hold_out r2 hu s3 r3
      obtain ⟨r3'', _, _⟩ := hold_out r1 hv (s2.trans s3) r3'
      exact p2' G3 σ H3 cls dc (s2.trans s3) r3'' hx3
    | ok vc e3 =>
      rw [h3] at p2'
      intro G3 H3 s3 r3 z hz
      refine ⟨hold (hold (hold c H1 v va) H2 u vb) H3 z vc, G3, e3, hold_in r3 hz, ?_⟩
      have p3' : PostS k W c G1 Dn ((fd e3).sb fun w e4 => match pput i va e4 with
        | some e5 => (match pput j vb e5 with
          | some e6 => (match pput l vc e6 with
            | some e7 => (match pput m w e7 with
              | some e8 => .nx e8
              | none => .stuck)
            | none => .stuck)
          | none => .stuck)
        | none => .stuck) := p2'
      cases h4 : fd e3 with
      | stuck => rw [h4] at p3'; exact p3'.elim
      | exc xx e4 =>
        rw [h4] at p3'
        intro G4 H4 cls dc s4 r4 hx4
        obtain ⟨r4', _, _⟩ := hold_out r3 hz s4 r4
        obtain ⟨r4'', _, _⟩ := hold_out r2 hu (s3.trans s4) r4'
        obtain ⟨r4''', _, _⟩ := hold_out r1 hv (s2.trans (s3.trans s4)) r4''
        exact p3' G4 σ H4 cls dc (s2.trans (s3.trans s4)) r4''' hx4
      | ok vd e4 =>
        rw [h4] at p3'
        intro G4 H4 s4 r4 y hy
        obtain ⟨r4', hz4, hm3⟩ := hold_out r3 hz s4 r4
        obtain ⟨r4'', hu4, hm2⟩ := hold_out r2 hu (s3.trans s4) r4'
        obtain ⟨r4''', hv4, hm1⟩ := hold_out r1 hv (s2.trans (s3.trans s4)) r4''
        have p4 : PostS k W c G1 Dn (match pput i va e4 with
          | some e5 => (match pput j vb e5 with
            | some e6 => (match pput l vc e6 with
              | some e7 => (match pput m vd e7 with
                | some e8 => .nx e8
                | none => .stuck)
              | none => .stuck)
            | none => .stuck)
          | none => .stuck) := p3'
        have hy1 := hy.out hm3
        have hy2 := hy1.out hm2
        have hz2 := hz4.out hm2
        split at p4
        · rename_i e5 h5
          split at p4
          · rename_i e6 h6
            split at p4
            · rename_i e7 h7
              split at p4
              · rename_i e8 h8
                exact hR G4 H4 e4 e5 e6 e7 e8 v u z y va vb vc vd r4''' hv4 (hu4.out hm1) (hz2.out hm1) (hy2.out hm1) (hv_ne hu4 hm1) (hv_ne hz2 hm1) (hv_ne hz4 hm2) (hv_ne hy2 hm1) (hv_ne hy1 hm2) (hv_ne hy hm3) h5 h6 h7 h8 (PostS.mono p4 (s2.trans (s3.trans s4)))
              · exact p4.elim
            · exact p4.elim
          · exact p4.elim
        · exact p4.elim
end
section
variable {X : Cx} {ct : Nat → Addr} {W : WX} {i j l m : Nat} {x y z q : Str} {a b c d : Expr} {fa fb fc fd : EM EV} {px py pz pq pt pos : Pos} {kt k2 : Nat} {pt2 : Pos}
theorem s_par4T (hc : X.calm = true) (hx : PG X (.Name x px) (gName i)) (hy : PG X (.Name y py) (gName j)) (hz : PG X (.Name z pz) (gName l)) (hq' : PG X (.Name q pq) (gName m)) (ha : SV X ct W a fa) (hb : SV X ct W b fb) (hcc : SV X ct W c fc) (hdd : SV X ct W d fd)
    (hs : swapsWithSole [.Tuple [.Name x px, .Name y py, .Name z pz, .Name q pq] kt pt] (.Tuple [a, b, c, d] k2 pt2) pos.line X.env = pure false := by rfl)
    (hw : swappedStores [.Tuple [.Name x px, .Name y py, .Name z pz, .Name q pq] kt pt] (.Tuple [a, b, c, d] k2 pt2) X.env = pure none := by rfl)
    (h1 : starEach [a, b, c, d] X.env = (false, eval a X.env) :: starEach [b, c, d] X.env := by rfl) (h2 : starEach [b, c, d] X.env = (false, eval b X.env) :: starEach [c, d] X.env := by rfl) (h3 : starEach [c, d] X.env = (false, eval c X.env) :: starEach [d] X.env := by rfl) (h3' : starEach [d] X.env = (false, eval d X.env) :: starEach [] X.env := by rfl)
    (h4 : (assignEach [.Tuple [.Name x px, .Name y py, .Name z pz, .Name q pq] kt pt] X.env).map (·.2) = [assign (.Tuple [.Name x px, .Name y py, .Name z pz, .Name q pq] kt pt) X.env] := by rfl)
    (h5 : (assignEach [.Name x px, .Name y py, .Name z pz, .Name q pq] X.env).length = 4 := by rfl) (h6 : (assignEach [.Name x px, .Name y py, .Name z pz, .Name q pq] X.env).findIdx? (·.1) = none := by rfl)
    (h7 : (assignEach [.Name x px, .Name y py, .Name z pz, .Name q pq] X.env).map (·.2) = assign (.Name x px) X.env :: (assignEach [.Name y py, .Name z pz, .Name q pq] X.env).map (·.2) := by rfl)
    (h8 : (assignEach [.Name y py, .Name z pz, .Name q pq] X.env).map (·.2) = assign (.Name y py) X.env :: (assignEach [.Name z pz, .Name q pq] X.env).map (·.2) := by rfl) (h9 : (assignEach [.Name z pz, .Name q pq] X.env).map (·.2) = assign (.Name z pz) X.env :: (assignEach [.Name q pq] X.env).map (·.2) := by rfl)
    (h9' : (assignEach [.Name q pq] X.env).map (·.2) = assign (.Name q pq) X.env :: (assignEach [] X.env).map (·.2) := by rfl) :
    SS X ct W (.Assign [.Tuple [.Name x px, .Name y py, .Name z pz, .Name q pq] kt pt] (.Tuple [a, b, c, d] k2 pt2) pos) (sPar4 i j l m fa fb fc fd) :=
  PSw (ps_asg (pe_tup (pa_cons ha (pa_cons hb (pa_cons hcc (pa_cons hdd pa_nil h3') h3) h2) h1)) (pg_tup hc (pgs_cons hx (pgs_cons hy (pgs_cons hz (pgs_cons hq' pgs_nil h9') h9) h8) h7) h5 h6) hs hw h4) fun Dn σ H qq => by
  obtain ⟨c, G, e, r, p⟩ := qq
  refine par4_core r p fun G2 H2 e2 e3 e4 e5 e6 v u w t va vb vc vd r2 hv hu hz ht n1 n2 n3 n4 n5 n6 g1 g2 g3 g4 pn => ⟨by rw [sizeLine_eq, List.length_cons, List.length_cons]; simp, fun q hq => ?_⟩
  have r3 := r2.layM (o := .tup [v, u, w, t]) hq
  obtain ⟨r4, k4⟩ := pput_ok r3 (hv.lay hq) g1
  obtain ⟨r5, k5⟩ := pput_ok r4 (k4 vb u (hu.lay hq) n1) g2
  obtain ⟨r6, k6⟩ := pput_ok r5 (k5 vc w (k4 vc w (hz.lay hq) n2) n3) g3
  obtain ⟨r7, _⟩ := pput_ok r6 (k6 vd t (k5 vd t (k4 vd t (ht.lay hq) n4) n5) n6) g4
  exact ⟨q, [v, u, w, t], rfl, .inl (.inl upd_same), rfl, v, [u, w, t], rfl, u, [w, t], rfl, w, [t], rfl, t, [], rfl, rfl, pn G2 _ _ (Same.refl _) r7⟩
end
end MM
end
section
set_option Elab.async false
set_option linter.all false
set_option autoImplicit false
set_option maxRecDepth 100000
set_option maxHeartbeats 4000000
namespace MM
open PySem PySem.Spec PyProof.Rows L2
/-! ### list.index, list.remove of an own list of numbers -/
def gIndex : MV → List D → Option (MV × D)
  | .lst ds, [.int k] => match ints? ds with
    | some ns => if k ∈ ns then some (.lst ds, .int (ns.findIdx (· == k) : Nat)) else none
    | none => none
  | _, _ => none
def gRemove : MV → List D → Option (MV × D)
  | .lst ds, [.int k] => match ints? ds with
    | some ns => if k ∈ ns then some (.lst ((ns.eraseIdx (ns.findIdx (· == k))).map D.int), .non) else none
    | none => none
  | _, _ => none
section
variable {X : Cx} {ct : Nat → Addr}
theorem mt_indexM : MtM X "list.index" (rIndex X.K) := fun pins s σ H x xs v us Q I rx rxs h => mt_index pins s σ H x xs v us Q I rx rxs h
theorem find_facts {ns : List Int} {k : Int} (h : k ∈ ns) : ns[ns.findIdx (· == k)]? = some k ∧ ∀ m : Nat, m < ns.findIdx (· == k) → ns[m]? ≠ some k := by
  have hl : ns.findIdx (· == k) < ns.length := List.findIdx_lt_length_of_exists ⟨k, h, by simp⟩
  refine ⟨?_, fun m hm hk => ?_⟩
  · have h2 := List.findIdx_getElem (w := hl)
    rw [List.getElem?_eq_getElem hl]
    have h3 : ns[ns.findIdx (· == k)] = k := by simpa using h2
    rw [h3]
  · have h2 := List.not_of_lt_findIdx hm
    have hml : m < ns.length := by omega
    rw [List.getElem?_eq_getElem hml] at hk
    have h3 : ns[m] = k := Option.some.inj hk
    rw [h3] at h2
    simp at h2
theorem mutG_index : MutG ⟨X.K, ct⟩ (rIndex X.K) gIndex := fun G H a o y y' vs ds z Q g hH m rs hg q => by
  unfold gIndex at hg
  split at hg
  · rename_i xs k
    split at hg
    · rename_i ns hns
      split at hg
      · rename_i hk
        cases hg
        obtain ⟨us, rfl, ru⟩ := m
        cases rs with
        | cons rk rs =>
          cases rs
          cases rk
          have hxs := ints?_eq hns
          have ru' := ru
          rw [hxs] at ru'
          have hus := Rps.ints ru'
          obtain ⟨f1, f2⟩ := find_facts hk
          have hup : upd H a (.lst us) = H := by
            funext b
            by_cases hb : b = a
            · subst hb; rw [upd_same, hH]
            · rw [upd_ne hb]
          have hq := q (.lst us) (.int (ns.findIdx (· == k) : Nat)) ⟨us, rfl, ru⟩ (.int _)
          rw [hup] at hq
          subst hus
          refine ⟨a, ns.map V.int, .int k, ns.findIdx (· == k), .int k, rfl, rfl, SqL.of hH, rfl, ?_, ?_, ?_, fun m z hm hz => ?_, hq⟩
          · rw [List.all_eq_true]
            intro v hv
            obtain ⟨n, _, rfl⟩ := List.mem_map.mp hv
            rfl
          · rw [List.getElem?_map, f1]; rfl
          · show (k == k) = true
            simp
          · rw [List.getElem?_map] at hz
            obtain ⟨n, hn, rfl⟩ := Option.map_eq_some_iff.mp hz
            have := f2 m hm
            show (n == k) = false
            rw [hn] at this
            simpa using this
      · cases hg
    · cases hg
  · cases hg
end
@[simp] theorem gIndex_ints {ns : List Int} {k : Int} : gIndex (.lst (ns.map D.int)) [.int k] = if k ∈ ns then some (.lst (ns.map D.int), .int (ns.findIdx (· == k) : Nat)) else none := by
  unfold gIndex
  simp only [ints?_map]
end MM
end
section
set_option Elab.async false
set_option linter.all false
set_option autoImplicit false
set_option maxRecDepth 100000
set_option maxHeartbeats 4000000
namespace L2
open PySem PySem.Spec PyProof.Rows
/-! ### set(xs) of a tuple of ints -/
set_option maxHeartbeats 8000000 in
theorem mir_set_tuple {P : Program} {w : World} {A : Around} {E : Value → Shared → Prop} {s : Shared} {l : Addr} {items : Array Value} (ns : List Int) {Q : Value → Shared → Prop} (hh : A.handled = none) (hl : s.heap.IsTuple l items) (hit : IntsAre items.toList ns) (hb : ns.length + 1 < scanBound)
    (h : ∀ (h' : Heap) (tk c : Nat), SetR w h' s.heap.objs.size (fun j => decide (j ∈ ns)) c → c ≤ ns.length → (∀ b o, s.heap.get? b = some o → h'.get? b = some o) → Q (.ref s.heap.objs.size) { s with heap := h', toks := tk }) :
    wpAny (model P w) A (call (.type "set") [.ref l]) Q E s := by
  have hisz : items.size = ns.length := by rw [← IntsAre.length hit, Array.length_toList]
  obtain ⟨c, tl, hmro⟩ := F.called_set.mro
  have hmade := F.called_set.made
  have hsub := F.called_set.sub
  have h1 := F.called_set.notType
  have h2 := F.called_set.canCreate
  have hct := F.typeCall_set_1 (.ref l)
  have hS : (s.heap.push (newSet w)).get? s.heap.objs.size = some (newSet w) := Heap.get?_push_size _ rfl
  have hT : Shared.TypeIs { s with heap := s.heap.push (newSet w) } (.ref s.heap.objs.size) "set" := ⟨_, hS, rfl⟩
  have hli := F.called_set.init.lookup
  have hbi := F.called_set.init.bind (.ref s.heap.objs.size)
  refine wpAny_call (codeAny_of_tree ?_)
  show wpAny _ _ (callAny (.type "set") _) _ _ _
  refine wpAny_pure ⟨Code.quiet_builtin _ (by decide +kernel), codeAny_builtin F.entry_type_call ?_⟩
  rw [Around.under_plain (weight_type_call_type "set" [.ref l] []) rfl]
  repeat (any_goals (first | assumption | wp_step))
  refine codeAny_mono (code_set_led1 (.ref l) (E := E) (Q₁ := fun obj s₁ => obj = .ref s.heap.objs.size ∧ s₁ = { s with heap := s.heap.push (newSet w) }) ⟨rfl, rfl⟩) fun r s₁ hr => ?_
  cases r with
  | error e => exact hr
  | ok fl =>
    cases fl with
    | next => exact hr.elim
    | brk => exact hr.elim
    | cont => exact hr.elim
    | ret obj =>
      obtain ⟨rfl, rfl⟩ := hr
      repeat (any_goals (first | assumption | wp_step))
      refine codeAny_mono (codeAny_call_builtin (R := wants (fun r s₂ => r = .none ∧ ∃ h' tk c, s₂ = { s with heap := h', toks := tk } ∧ SetR w h' s.heap.objs.size (fun j => decide (j ∈ ns)) c ∧ c ≤ ns.length ∧
          (∀ b o, s.heap.get? b = some o → h'.get? b = some o)) E) F.called_set.init.plain F.entry_set_init (check_set_init_1 hT ?_)) fun r₂ s₂ hr₂ => ?_
      · obtain ⟨⟨oc, od, odt, os⟩, hol, hcl, nl, hdl⟩ := hl
        simp only at hcl hdl
        subst hcl; subst hdl
        have hol' : (s.heap.push (newSet w)).get? l = some { cls := .type "tuple", dict := od, data := .seq items nl, slots := os } := Heap.get?_push_of_some _ hol
        have hsls := PySem.F.sub_tuple_set
        have hslf := PySem.F.sub_tuple_frozenset
        have hne : (Value.type "tuple" == Value.type "dict") = false := by decide
        have hl1 : (s.heap.push (newSet w)).IsTuple l items := ⟨_, hol', rfl, nl, rfl⟩
        have hlS : l < s.heap.objs.size := Heap.lt_size hol
        have hz1 : (s.heap.push (newSet w)).objs.size = s.heap.objs.size + 1 := Heap.size_push ..
        unfold Builtin.«set.__init__» noKeywords Builtin.Frozenset.updateFrom
        generalize hPI : pyIter = PI
        wp_walk
        subst hPI
        refine wpAny_pyIter_tuple hl1 ?_
        refine wpAny_bind (wpAny_runValue ?_)
        have hneI : l ≠ (s.heap.push (newSet w)).objs.size := by rw [hz1]; exact Nat.ne_of_lt (Nat.lt_succ_of_lt hlS)
        have hSf : s.heap.objs.size ∉ [(s.heap.push (newSet w)).objs.size, l] := by
          rw [hz1]
          simp only [List.mem_cons, List.not_mem_nil, or_false, not_or]
          exact ⟨Nat.ne_of_lt (Nat.lt_succ_self _), Nat.ne_of_gt hlS⟩
        have hval : ∀ (i : Nat) (v : Value), items[i]? = some v → ∃ k t, ns[i]? = some k ∧ v = .int k t := fun i v hv => by
          have hi : i < ns.length := by rw [← hisz]; exact (Array.getElem?_eq_some_iff.mp hv).1
          obtain ⟨t, e⟩ := PyProof.Rows.IntsAre.int_at hit i v (by rw [Array.getElem?_toList]; exact hv)
          refine ⟨ns[i], t, List.getElem?_eq_getElem hi, ?_⟩
          rw [e, List.getD_eq_getElem?_getD, List.getElem?_eq_getElem hi] <;> rfl
        have hh3 : A.in1.in1.in1.handled = none := by simp [hh]
        refine set_update_ints ((Walks.tuple hh3 _ l hneI items).toS) s.heap.objs.size hSf ns hisz hb hval (items.size - 0) 0 _ (by omega) (Nat.zero_le _) ⟨⟨_, Heap.get?_push_size _ rfl, rfl, rfl⟩, (hl1.push _)⟩ ⟨0, Nat.le_refl 0, setR_new_at (Heap.get?_push_of_some _ hS)⟩ ?_
        intro s' c' hm hc' hS'
        obtain ⟨h', g2, d', tk', os'⟩ := s'
        obtain rfl : g2 = s.gens := hm.gens
        obtain rfl : d' = s.drawn := hm.drawn
        obtain rfl : os' = s.os := hm.os
        show wpAny _ _ _ _ _ _
        refine wpAny_pure ?_
        show wpAny _ _ (ret Value.none) _ _ _
        refine wpAny_pure ⟨rfl, h', tk', c', rfl, hS', by rw [← hisz]; exact hc', fun b o e => ?_⟩
        have hb0 : b < s.heap.objs.size := Heap.lt_size e
        refine hm.heap b o ?_ (Heap.get?_push_of_some _ (Heap.get?_push_of_some _ e))
        simp only [List.mem_cons, List.not_mem_nil, or_false, not_or]
        exact ⟨Nat.ne_of_lt hb0, by rw [hz1]; exact Nat.ne_of_lt (Nat.lt_succ_of_lt hb0)⟩
      · cases r₂ with
        | error e => exact hr₂
        | ok fl₂ =>
          cases fl₂ with
          | ret r =>
            obtain ⟨rfl, h', tk, c', rfl, hS', hc', hk'⟩ := hr₂
            repeat (any_goals (first | assumption | wp_step))
            exact h _ _ _ hS' hc' hk'
          | next => exact hr₂.elim
          | brk => exact hr₂.elim
          | cont => exact hr₂.elim
end L2
end
section
set_option Elab.async false
set_option linter.all false
set_option autoImplicit false
set_option maxRecDepth 100000
set_option maxHeartbeats 4000000
namespace L2
open PySem PySem.Spec PyProof.Rows
theorem mir_set_any {P : Program} {w : World} {A : Around} {E : Value → Shared → Prop} {s : Shared} {l : Addr} {items : Array Value} (ns : List Int) {Q : Value → Shared → Prop} (hh : A.handled = none) (hl : s.heap.IsList l items ∨ s.heap.IsTuple l items) (hit : IntsAre items.toList ns) (hb : ns.length + 1 < scanBound)
    (h : ∀ (h' : Heap) (tk c : Nat), SetR w h' s.heap.objs.size (fun j => decide (j ∈ ns)) c → c ≤ ns.length → (∀ b o, s.heap.get? b = some o → h'.get? b = some o) → Q (.ref s.heap.objs.size) { s with heap := h', toks := tk }) :
    wpAny (model P w) A (call (.type "set") [.ref l]) Q E s := by
  rcases hl with hl | hl
  · exact mir_set_list ns hh hl hit hb h
  · exact mir_set_tuple ns hh hl hit hb h
end L2
namespace MM
open PySem PySem.Spec L2
/-! ### sorted(set(xs)), xs a list or a tuple -/
def intsOf2 : D → Option (List Int)
  | .tup xs => ints? xs
  | d => intsOf d
theorem RB.ints2 {k : Kc} {G H : Hp} {v : V} {d : D} {ns : List Int} (h : RB k G H v d) (g : Same G H) (e : intsOf2 d = some ns) : ∃ a, v = .ref a ∧ (SqL k.K H a (ns.map V.int) ∨ SqT k.K H a (ns.map V.int)) := by
  by_cases ht : ∃ xs, d = .tup xs
  · obtain ⟨xs, rfl⟩ := ht
    have e : ints? xs = some ns := e
    obtain ⟨a, vs, rfl, hs, rs, _⟩ := RB.tup g h
    rw [ints?_eq e] at rs
    rw [Rps.ints rs] at hs
    exact ⟨a, rfl, .inr hs⟩
  · have e2 : intsOf d = some ns := by
      cases d with
      | tup xs => exact absurd ⟨xs, rfl⟩ ht
      | _ => exact e
    obtain ⟨a, e3, h3⟩ := RB.ints g h e2
    exact ⟨a, e3, .inl h3⟩
def vSortSet2 (f : EM (List Tk)) : EM EV := fun e => (f e).bind fun ts e1 => match rdKs e1 ts with
  | some [d] => (match intsOf2 d with
    | some ns => if ns.length < 4000 ∧ (usortI ns).length < 64 then .ok (.m (.lst ((usortI ns).map D.int))) e1 else .stuck
    | none => .stuck)
  | _ => .stuck
def tSortSet2 (K : PySem.W.Frag) (ta : L2.TE) : L2.TE := fun σ H Q => ta σ H fun x H1 => ∃ (l : Addr) (ns : List Int), x = V.ref l ∧ (SqL K H1 l (ns.map V.int) ∨ SqT K H1 l (ns.map V.int)) ∧ ns.length < 4000 ∧ (usortI ns).length < 64 ∧ ∀ p, H1 p = none → Q (.ref p) (upd H1 p (.lst ((usortI ns).map V.int)))
section
variable {X : Cx} {ct : Nat → Addr} {W : WX} {a : Expr} {ta : L2.TE} {p p2 q pos : Pos} {fa : EM Tk}
theorem pe_sortSet2 (hc : X.calm = true) (hg : Gl X "sorted") (hm : X.mg "sorted" = none) (hg2 : Gl X "set") (hm2 : X.mg "set" = none) (ha : PE X a ta)
    (na : starEach [a] X.env = (false, eval a X.env) :: starEach [] X.env := by rfl) : PE X (.Call (.Name "sorted" p) [.Call (.Name "set" p2) [a] [] q] [] pos) (tSortSet2 X.K ta) := by
  refine ⟨fun pins s σ H Q I h => ?_⟩
  refine PyProof.Rows.Call_ (ld_blt I hg hm (show bootBuiltins "sorted" = some (.builtin "sorted") by decide +kernel) ?_)
  refine PyProof.Rows.callWith_builtin1 (PyProof.Rows.args_cons ?_ rfl) rfl rfl
  refine PyProof.Rows.Call_ (ld_blt I hg2 hm2 PyProof.Rows.boot_set ?_)
  refine PyProof.Rows.callWith_type1 (PyProof.Rows.args_cons (thn (ha.run pins s σ H _ I h) fun v s1 ⟨x, H1, I1, r1, q1⟩ => PyProof.Rows.args_nil ?_) na) na rfl
  obtain ⟨l, ns, rfl, hq, h1, h2, q1⟩ := q1
  cases r1
  have hq2 : ∃ its : List Value, Vals (ns.map V.int) its ∧ (s1.heap.IsList l its.toArray ∨ s1.heap.IsTuple l its.toArray) := by
    rcases hq with hq | hq
    · obtain ⟨its, r, pl, hz⟩ := I1.list hq
      exact ⟨its, r, .inl pl.isList⟩
    · obtain ⟨its, r, it, hz⟩ := I1.tuple hq
      exact ⟨its, r, .inr it⟩
  obtain ⟨its, r, pl⟩ := hq2
  refine mir_set_any ns (I1.ok.hd hc) pl (by simpa using r.ints) (by unfold scanBound; omega) fun h' tk c hS hcn hk => ?_
  refine PyProof.Rows.args_nil ?_
  have I2 : Inv X pins σ H1 { s1 with heap := h', toks := tk } := I1.kept hk
  have hS0 := hS
  obtain ⟨o, es, ep, t, ho, hex, hd, g, nd, hmm, hb, hf, hn, hr, hl⟩ := hS0
  have hc64 : c < 64 := by
    have hsz : es.size = c := hn
    have hnd : (es.toList.map keyOf).Nodup := nd
    have hsub : ∀ y ∈ es.toList.map keyOf, y ∈ usortI ns := fun y hy => by
      rw [usortI_mem]
      have := (hmm y).mpr hy
      simpa using this
    have hle := nodup_len hnd hsub
    rw [List.length_map, Array.length_toList, hsz] at hle
    omega
  refine sorted_set hS (I2.ok.hd hc) hc64 fun s' p out c2 ns' k g2 o2 hp hg3 hi hs hm3 hl3 => ?_
  have e1 : ns' = usortI ns := lt_unique hs (usortI_lt ns) fun x => by rw [hm3 x, usortI_mem]; simp
  subst e1
  have hnp : H1 p = none := I2.hok.fresh hp
  have hlen : ((usortI ns).map V.int).length ≤ sizeLine := by rw [List.length_map, sizeLine_eq]; omega
  have J : Inv X pins σ (upd H1 p (.lst ((usortI ns).map V.int))) { ({ s1 with heap := h', toks := tk } : Shared) with heap := s'.heap, gens := s'.gens, drawn := s'.drawn, toks := s'.toks } :=
    I2.call (ch := []) (Un.laid k hp hnp) (I2.hok.laid k hp ⟨hlen, out.toList, c2, vals_of_ints hi, hg3⟩) (by rw [g2]; exact I2.bare) (fun _ z => nomatch z)
  have e : s' = { ({ s1 with heap := h', toks := tk } : Shared) with heap := s'.heap, gens := s'.gens, drawn := s'.drawn, toks := s'.toks } := by
    cases s'
    cases s1
    cases o2
    rfl
  rw [e]
  exact ⟨.ref p, _, J, rfl, q1 p hnp⟩
theorem v_sortSet2 (hc : X.calm = true) (hg : Gl X "sorted") (hm : X.mg "sorted" = none) (hg2 : Gl X "set") (hm2 : X.mg "set" = none) (ha : SK X ct W a fa)
    (na : starEach [a] X.env = (false, eval a X.env) :: starEach [] X.env := by rfl) : SV X ct W (.Call (.Name "sorted" p) [.Call (.Name "set" p2) [a] [] q] [] pos) (vSortSet2 (aCons fa aNil)) := by
  refine PEw (pe_sortSet2 hc hg hm hg2 hm2 ha na) fun σ H Q q => ?_
  obtain ⟨c, G, e, r, p⟩ := q
  have p : Post ⟨X.K, ct⟩ W c G σ (fun G' H' e' x => ∀ v, RpV ⟨X.K, ct⟩ c G' σ H' e' v x → Q v H') (((fa e).bind fun t e1 => .ok [t] e1).bind fun ts e1 => match rdKs e1 ts with
    | some [d] => (match intsOf2 d with
      | some ns => if ns.length < 4000 ∧ (usortI ns).length < 64 then .ok (.m (.lst ((usortI ns).map D.int))) e1 else .stuck
      | none => .stuck)
    | _ => .stuck) := p
  refine ⟨c, G, e, r, (Post.bind (Post.bind p)).imp fun G1 H1 e1 t s1 r1 p1 v hv => ?_⟩
  have p1 := p1.now r1
  cases hd : rdK e1 t with
  | none =>
    have hz : rdKs e1 [t] = none := by show (match rdK e1 t, rdKs e1 [] with | some d, some ds => some (d :: ds) | _, _ => none) = none; rw [hd]
    rw [hz] at p1; exact p1.elim
  | some d =>
    have hz : rdKs e1 [t] = some [d] := by show (match rdK e1 t, rdKs e1 [] with | some d, some ds => some (d :: ds) | _, _ => none) = some [d]; rw [hd]; rfl
    rw [hz] at p1
    have rb : RB ⟨X.K, ct⟩ G1 H1 v d := .of r1 hv hd
    cases hi : intsOf2 d with
    | none =>
      have p2 : Post ⟨X.K, ct⟩ W c G1 σ (fun G' H' e' x => ∀ v, RpV ⟨X.K, ct⟩ c G' σ H' e' v x → Q v H') (match intsOf2 d with
        | some ns => if ns.length < 4000 ∧ (usortI ns).length < 64 then .ok (.m (.lst ((usortI ns).map D.int))) e1 else .stuck
        | none => .stuck) := p1
      rw [hi] at p2; exact p2.elim
    | some ns =>
      have p2 : Post ⟨X.K, ct⟩ W c G1 σ (fun G' H' e' x => ∀ v, RpV ⟨X.K, ct⟩ c G' σ H' e' v x → Q v H') (match intsOf2 d with
        | some ns => if ns.length < 4000 ∧ (usortI ns).length < 64 then .ok (.m (.lst ((usortI ns).map D.int))) e1 else .stuck
        | none => .stuck) := p1
      rw [hi] at p2
      have p3 : Post ⟨X.K, ct⟩ W c G1 σ (fun G' H' e' x => ∀ v, RpV ⟨X.K, ct⟩ c G' σ H' e' v x → Q v H') (if ns.length < 4000 ∧ (usortI ns).length < 64 then .ok (.m (.lst ((usortI ns).map D.int))) e1 else .stuck) := p2
      split at p3
      · rename_i hl
        obtain ⟨ad, rfl, h1⟩ := RB.ints2 rb r1.gh hi
        refine ⟨ad, ns, rfl, h1, hl.1, hl.2, fun pp hp => ?_⟩
        obtain ⟨r2, r3, r4⟩ := r1.newM (x := .lst ((usortI ns).map D.int)) hp ⟨_, rfl, Rps.ofInts _⟩
        exact p3 G1 _ (Same.refl _) r2 _ ⟨pp, rfl, r3, r4⟩
      · exact p3.elim
end
end MM
end
section
set_option Elab.async false
set_option linter.all false
set_option autoImplicit false
set_option maxRecDepth 100000
set_option maxHeartbeats 4000000
namespace MM
open PySem PySem.Spec L2
/-! ### // by divisors of either sign -/
instance : ∀ i j, Decidable (CDivN i j) := fun i j => inferInstanceAs (Decidable (_ ∧ _))
abbrev gDivN : D → D → Option EV := gIC CDivN fun i j => i.fdiv j
@[simp] theorem gDivN_int {i j : Int} : gDivN (.int i) (.int j) = if CDivN i j then some (.d (.int (i.fdiv j))) else none := rfl
section
variable {X : Cx} {ct : Nat → Addr} {W : WX} {pos : Pos} {a b : Expr} {fa fb : EM Tk}
theorem v_divN (ha : SK X ct W a fa) (hb : SK X ct W b fb) : SV X ct W (.BinOp a .FloorDiv b pos) (vBin gDivN fa fb) := v_bin op_fdivN opG_IC ha hb
end
end MM
end
section
set_option Elab.async false
set_option linter.all false
set_option autoImplicit false
set_option maxRecDepth 100000
set_option maxHeartbeats 4000000
namespace MM
open PySem PySem.Spec L2
/-! ### a def whose call is never reached -/
theorem ss_never {X : Cx} {ct : Nat → Addr} {W : WX} {st : List Stmt} : SSs X ct W st (fun _ => .stuck) := ⟨fun pins s σ H Dn I q => by
  obtain ⟨c, G, e, r, p⟩ := q
  exact p.elim⟩
end MM
end
section
set_option Elab.async false
set_option linter.all false
set_option autoImplicit false
set_option maxRecDepth 100000
set_option maxHeartbeats 4000000
namespace MM
open PySem PySem.Spec L2
/-! ### in: a list, a tuple, a dict -/
def rInDic : R2 := fun x y H Q => ∃ a o, y = .ref a ∧ DGet H a x o ∧ Q (.bl o.isSome) H
def rNotInDic : R2 := fun x y H Q => ∃ a o, y = .ref a ∧ DGet H a x o ∧ Q (.bl (!o.isSome)) H
theorem op_inDic {X : Cx} (hu : X.A.units + 1 < cLine) : OpR X (compareOp .In) rInDic := fun pins s σ H x y v u Q I rx ry h => by
  obtain ⟨a, o, rfl, g, q⟩ := h
  have eu : u = Value.ref a := ry
  subst eu
  exact d_in hu I g rx fun s' J => ⟨.bl o.isSome, H, J, rfl, q⟩
theorem op_notInDic {X : Cx} (hu : X.A.units + 1 < cLine) : OpR X (compareOp .NotIn) rNotInDic := fun pins s σ H x y v u Q I rx ry h => by
  obtain ⟨a, o, rfl, g, q⟩ := h
  have eu : u = Value.ref a := ry
  subst eu
  exact d_notIn hu I g rx fun s' J => ⟨.bl (!o.isSome), H, J, rfl, q⟩
def memK (ks : List Key) (j : Key) : Bool := ks.any fun k => decide (k = j)
def gInK (a b : D) : Option Bool := match b with
  | .dic ks _ => (D.key a).map fun k => memK ks k
  | b => gIn a b
def gNotInK (a b : D) : Option Bool := (gInK a b).map not
@[simp] theorem gInK_dic {a : D} {ks : List Key} {ds : List D} : gInK a (.dic ks ds) = (D.key a).map fun k => memK ks k := rfl
@[simp] theorem gInK_lst {a : D} {ds : List D} : gInK a (.lst ds) = gIn a (.lst ds) := rfl
@[simp] theorem gInK_tup {a : D} {ds : List D} : gInK a (.tup ds) = gIn a (.tup ds) := rfl
@[simp] theorem gNotInK_eq {a b : D} : gNotInK a b = (gInK a b).map not := rfl
theorem valV_mem {kvs : List (Key × V)} {j : Key} : (valV kvs j).isSome = memK (kvs.map (·.1)) j := by
  rw [← valV_any]
  unfold memK
  rw [List.any_map]
  rfl
theorem opB_inK {k : Kc} : OpB k (fun x y H Q => (rIn k.K false x y H Q ∨ rInD k.K x y H Q) ∨ rInDic x y H Q) gInK := fun G H x y a b z Q g ra rb hz q => by
  cases b with
  | dic ks ds =>
    obtain ⟨j, hj, rfl⟩ := Option.map_eq_some_iff.mp (show (D.key a).map (fun k => memK ks k) = some z from hz)
    obtain ⟨p, kvs, rfl, h1, h2, _⟩ := rb.dic g
    have ex := ra.key hj
    subst ex
    refine .inr ⟨p, _, rfl, DGet.k h1, ?_⟩
    rw [valV_mem, h2]
    exact q
  | lst ds => exact .inl (opB_in G H x y a _ z Q g ra rb hz q)
  | tup ds => exact .inl (opB_in G H x y a _ z Q g ra rb hz q)
  | non => exact .inl (opB_in G H x y a _ z Q g ra rb hz q)
  | bl _ => exact .inl (opB_in G H x y a _ z Q g ra rb hz q)
  | int _ => exact .inl (opB_in G H x y a _ z Q g ra rb hz q)
  | str _ => exact .inl (opB_in G H x y a _ z Q g ra rb hz q)
  | obj _ _ => exact .inl (opB_in G H x y a _ z Q g ra rb hz q)
  | scr _ => exact .inl (opB_in G H x y a _ z Q g ra rb hz q)
  | rng _ _ => exact .inl (opB_in G H x y a _ z Q g ra rb hz q)
theorem opB_notInK {k : Kc} : OpB k (fun x y H Q => (rIn k.K true x y H Q ∨ rNotInD k.K x y H Q) ∨ rNotInDic x y H Q) gNotInK := fun G H x y a b z Q g ra rb hz q => by
  have keep : (∀ ks ds, b ≠ .dic ks ds) → gNotInK a b = gNotIn a b := fun hn => by
    cases b with
    | dic ks ds => exact absurd rfl (hn ks ds)
    | _ => rfl
  cases b with
  | dic ks ds =>
    obtain ⟨y', h3, rfl⟩ := Option.map_eq_some_iff.mp (show ((D.key a).map (fun k => memK ks k)).map not = some z from hz)
    obtain ⟨j, hj, rfl⟩ := Option.map_eq_some_iff.mp h3
    obtain ⟨p, kvs, rfl, h1, h2, _⟩ := rb.dic g
    have ex := ra.key hj
    subst ex
    refine .inr ⟨p, _, rfl, DGet.k h1, ?_⟩
    rw [valV_mem, h2]
    exact q
  | lst ds => exact .inl (opB_notIn G H x y a _ z Q g ra rb (by rw [← keep (fun _ _ h => by cases h)]; exact hz) q)
  | tup ds => exact .inl (opB_notIn G H x y a _ z Q g ra rb (by rw [← keep (fun _ _ h => by cases h)]; exact hz) q)
  | non => exact .inl (opB_notIn G H x y a _ z Q g ra rb (by rw [← keep (fun _ _ h => by cases h)]; exact hz) q)
  | bl _ => exact .inl (opB_notIn G H x y a _ z Q g ra rb (by rw [← keep (fun _ _ h => by cases h)]; exact hz) q)
  | int _ => exact .inl (opB_notIn G H x y a _ z Q g ra rb (by rw [← keep (fun _ _ h => by cases h)]; exact hz) q)
  | str _ => exact .inl (opB_notIn G H x y a _ z Q g ra rb (by rw [← keep (fun _ _ h => by cases h)]; exact hz) q)
  | obj _ _ => exact .inl (opB_notIn G H x y a _ z Q g ra rb (by rw [← keep (fun _ _ h => by cases h)]; exact hz) q)
  | scr _ => exact .inl (opB_notIn G H x y a _ z Q g ra rb (by rw [← keep (fun _ _ h => by cases h)]; exact hz) q)
  | rng _ _ => exact .inl (opB_notIn G H x y a _ z Q g ra rb (by rw [← keep (fun _ _ h => by cases h)]; exact hz) q)
section
variable {X : Cx} {ct : Nat → Addr} {kk : Nat}
theorem x_inK (hr : Room kk X.A) : CmpX X ct .In gInK := ⟨_, (op_in_seq.or (op_inD (hu65 hr))).or (op_inDic (by have := hu65 hr; omega)), opB_inK (k := ⟨X.K, ct⟩)⟩
theorem x_notInK (hr : Room kk X.A) : CmpX X ct .NotIn gNotInK := ⟨_, (op_notIn_seq.or (op_notInD (hu65 hr))).or (op_notInDic (by have := hu65 hr; omega)), opB_notInK (k := ⟨X.K, ct⟩)⟩
end
end MM
end
section
set_option Elab.async false
set_option linter.all false
set_option autoImplicit false
set_option maxRecDepth 100000
set_option maxHeartbeats 4000000
namespace MM
open PySem PySem.Spec PyProof.Rows L2
/-! ### list.remove of an own list of numbers -/
def rRemI : V → List V → Hp → VK → Prop := fun x vs H Q => ∃ (l : Addr) (ns : List Int) (k : Int), x = .ref l ∧ vs = [.int k] ∧ H l = some (.lst (ns.map V.int)) ∧ k ∈ ns ∧ Q .non (upd H l (.lst ((ns.erase k).map V.int)))
def gRem : MV → List D → Option (MV × D)
  | .lst ds, [.int k] => match ints? ds with
    | some ns => if k ∈ ns then some (.lst ((ns.erase k).map D.int), .non) else none
    | none => none
  | _, _ => none
section
variable {X : Cx} {ct : Nat → Addr}
theorem mt_remI : MtM X "list.remove" rRemI := by
  intro pins s σ H x xs v us Q I rx rv h
  obtain ⟨l, ns, k, rfl, rfl, hH, hk, qy⟩ := h
  cases rx
  obtain ⟨u, rfl, ry⟩ := vals1 rv
  obtain ⟨t, rfl⟩ := (show ∃ t, u = Value.int k t from ry)
  obtain ⟨z, its, n, r, hl, e0⟩ := I.lstM hH
  have hi : IntsAre its ns := intsAre_of r
  have heq := eq_isInt k t hi
  have hnl : ns.length = its.length := by rw [← hl, List.length_map]
  have hsz : its.toArray.size ≤ sizeLine := by rw [List.size_toArray, ← hl]; exact z
  obtain ⟨j, j1, j2, j3, j4⟩ := first_at hk
  have hj : j < its.length := by omega
  refine call_meets PySem.F.slot_list_remove ⟨_, e0, rfl⟩ PySem.F.entry_list_remove (PySem.F.args_list_remove_2 _ _)
    (MeetsSeq.list_remove l its.toArray n (.int k t) (isInt k) (fun y hy => heq y (by simpa using hy)) j (by rw [List.size_toArray]; exact hj) ?hit (fun i hi2 hlt => ?hno) hsz) ⟨e0, ?_⟩
  case hit =>
    show isInt k its[j] = true
    exact (L2.isInt_at k hi j hj).mpr j2
  case hno =>
    have hi3 : i < its.length := by rw [List.size_toArray] at hi2; exact hi2
    show isInt k its[i] = false
    rw [Bool.eq_false_iff]
    intro w
    exact j3 i hlt ((L2.isInt_at k hi i hi3).mp w)
  have r2 : Vals ((ns.erase k).map V.int) (its.eraseIdx j) := by
    have w := r.eraseIdx j
    rw [map_eraseIdx', j4] at w
    exact w
  refine ⟨.non, _, I.lset (its' := its.eraseIdx j) hH e0 ?_ r2 ?_, rfl, qy⟩
  · show its.toArray.eraseIdxIfInBounds j = (its.eraseIdx j).toArray
    rw [List.eraseIdxIfInBounds_toArray]
  · rw [List.length_map]
    have := List.length_erase_le (a := k) (l := ns)
    rw [List.length_map] at z
    omega
theorem mutG_remI : MutG ⟨X.K, ct⟩ rRemI gRem := fun G H a o y y' vs ds z Q g hH m rs hg q => by
  unfold gRem at hg
  split at hg
  · rename_i xs k
    split at hg
    · rename_i ns hns
      split at hg
      · rename_i hk
        cases hg
        obtain ⟨us, rfl, ru⟩ := m
        cases rs with
        | cons rk rs =>
          cases rs
          cases rk
          have hxs := ints?_eq hns
          rw [hxs] at ru
          have hus := Rps.ints ru
          subst hus
          exact ⟨a, ns, k, rfl, rfl, hH, hk, q _ _ ⟨_, rfl, Rps.ofInts _⟩ .non⟩
      · cases hg
    · cases hg
  · cases hg
end
@[simp] theorem gRem_ints {ns : List Int} {k : Int} : gRem (.lst (ns.map D.int)) [.int k] = if k ∈ ns then some (.lst ((ns.erase k).map D.int), .non) else none := by
  unfold gRem
  simp only [ints?_map]
/-! ### x[lo::k] -/
/-- each k-th from lo on -/
def pickL {α : Type} (xs : List α) (lo : Option Int) (k : Int) : List α := (sliceRange (sliceBounds lo none (some k) xs.length).1 (sliceBounds lo none (some k) xs.length).2.1 (sliceBounds lo none (some k) xs.length).2.2).filterMap (xs[·]?)
theorem pickL_sub {α : Type} {xs : List α} {lo : Option Int} {k : Int} {x : α} (h : x ∈ pickL xs lo k) : x ∈ xs := by
  obtain ⟨i, _, hi⟩ := List.mem_filterMap.mp h
  exact List.mem_of_getElem? hi
theorem slicePick_pickL {xs : List Value} {lo : Option Int} {k : Int} : slicePick xs.toArray lo none (some k) = (pickL xs lo k).toArray := by
  unfold slicePick pickL
  simp
theorem Rps.pick {kk : Kc} {G : Hp} {vs : List V} {ds : List D} (r : Rps kk G vs ds) (is : List Nat) : Rps kk G (is.filterMap (vs[·]?)) (is.filterMap (ds[·]?)) := by
  induction is with
  | nil => exact .nil
  | cons i is ih =>
    cases h : vs[i]? with
    | none =>
      have : ds[i]? = none := by
        rw [List.getElem?_eq_none_iff] at h ⊢
        rw [← r.len]; exact h
      rw [List.filterMap_cons_none h, List.filterMap_cons_none this]
      exact ih
    | some v =>
      obtain ⟨d, h1, h2⟩ := r.getV h
      rw [List.filterMap_cons_some h, List.filterMap_cons_some h1]
      exact .cons h2 ih
theorem vals_pick : ∀ {vs : List V} {us : List Value}, Vals vs us → ∀ is : List Nat, Vals (is.filterMap (vs[·]?)) (is.filterMap (us[·]?)) := fun {vs us} r is => by
  induction is with
  | nil => exact .nil
  | cons i is ih =>
    cases h : vs[i]? with
    | none =>
      have : us[i]? = none := by
        rw [List.getElem?_eq_none_iff] at h ⊢
        rw [← r.length]; exact h
      rw [List.filterMap_cons_none h, List.filterMap_cons_none this]
      exact ih
    | some v =>
      obtain ⟨d, h1, h2⟩ := r.get h
      rw [List.filterMap_cons_some h, List.filterMap_cons_some h1]
      exact .cons h2 ih
def tSlK (K : PySem.W.Frag) (te : L2.TE) (tl : L2.TO) (k : Int) : L2.TE := fun σ H Q => te σ H fun x H1 => tl σ H1 fun lo H2 => ∃ a xs, x = .ref a ∧ SqL K H2 a xs ∧ (pickL xs lo k).length ≤ sizeLine ∧ ∀ p, H2 p = none → Q (.ref p) (upd H2 p (.lst (pickL xs lo k)))
theorem pe_slK {X : Cx} {e : Expr} {te : L2.TE} {lo : Option Expr} {tl : L2.TO} {k : Int} {j : Nat} {p1 p3 pos : Pos} (hk : k ≠ 0) (he : PE X e te) (hlo : PO X lo tl) : PE X (.Subscript e (.Slice lo none (some (.Constant (.int k) j p1)) p3) pos) (tSlK X.K te tl k) := by
  refine ⟨fun pins s σ H Q I h => ?_⟩
  refine Subscript_ (thn (he.run pins s σ H _ I h) fun v s1 ⟨x, H1, I1, r1, q1⟩ => ?_)
  have hst : PO X (some (.Constant (.int k) j p1)) (tPart (tC (.int k))) := po_some pe_int
  refine wpAny_Slice (thn (hlo.run pins s1 σ H1 _ I1 q1) fun vl s2 ⟨l, H2, I2, pl, q2⟩ => ?_)
  refine thn (po_none.run pins s2 σ H2 (fun o H3 => o = none ∧ H3 = H2) I2 ⟨rfl, rfl⟩) fun vu s3 ⟨u, H3, I3, pu, eu, e3⟩ => ?_
  subst eu e3
  refine thn (hst.run pins s3 σ H3 (fun o H4 => o = some k ∧ H4 = H3) I3 ⟨k, rfl, rfl, rfl⟩) fun vs s4 ⟨o, H4, I4, ps, eo, e4⟩ => ?_
  subst eo e4
  obtain ⟨a, xs, ex, hx, hzz, q⟩ := q2
  subst ex
  cases r1
  have I5 : Inv X pins σ H4 { s4 with heap := s4.heap.push { cls := .type "slice", data := .fields #[vl, vu, vs] } } := I4.kept (t' := s4.toks) fun b ob q => Heap.get?_push_of_some _ q
  obtain ⟨its, r, ht, hz⟩ := I5.list hx
  have hlen := r.length
  show wpAny (model X.prog X.w) X.A (subscriptTail e (.Slice lo none (some (.Constant (.int k) j p1)) p3) (.ref a) (.ref s4.heap.objs.size)) (EP X pins σ Q) X.xe { s4 with heap := s4.heap.push { cls := .type "slice", data := .fields #[vl, vu, vs] } }
  refine tail_any (ops := [.ref a, .ref s4.heap.objs.size]) ht.isList.typeIs (PySem.slot_list_getitem.lookup) ?_ (by with_unfolding_all rfl)
  refine wpAny_getItem_list_slice ht.isList (Heap.IsSliceOf.new _ vl vu vs) pl pu ps (fun z => hk (Option.some.inj z)) ?_ (by rw [List.size_toArray]; omega)
  rw [slicePick_pickL]
  have rp : Vals (pickL xs l k) (pickL its l k) := by
    unfold pickL
    rw [hlen]
    exact vals_pick r _
  refine ⟨.ref _, _, I5.laid (t' := s4.toks) (o := .lst (pickL xs l k)) (fun b ob q => Heap.get?_push_of_some _ q) (Nat.le_refl _) ?_, rfl, q _ (I5.hok.fresh (Nat.le_refl _))⟩
  exact ⟨hzz, _, 0, rp, Heap.get?_push_size _ rfl⟩
def gSlK (d : D) (lo : Option Int) (k : Int) : Option EV := match d with
  | .lst xs => if (pickL xs lo k).length ≤ LIM then some (.m (.lst (pickL xs lo k))) else none
  | _ => none
def vSlK (f : EM Tk) (fl : EO) (k : Int) : EM EV := fun e => (f e).bind fun t e1 => (fl e1).bind fun lo e2 => match rdK e2 t with
  | some d => resV (gSlK d lo k) e2
  | none => .stuck
section
variable {X : Cx} {ct : Nat → Addr} {W : WX} {pos p1 p2 : Pos} {a : Expr} {fa : EM Tk} {lo : Option Expr} {fl : EO} {k : Int} {j : Nat}
theorem v_slK (hk : k ≠ 0) (ha : SK X ct W a fa) (hl : SO X ct W lo fl) : SV X ct W (.Subscript a (.Slice lo none (some (.Constant (.int k) j p1)) p2) pos) (vSlK fa fl k) := PEw (pe_slK hk ha hl) fun σ H Q q => by
  obtain ⟨c, G, e, r, p⟩ := q
  refine ⟨c, G, e, r, (Post.bind p).imp fun G1 H1 e1 t s1 r1 p1 x hx => ⟨c, G1, e1, r1, (Post.bind p1).imp fun G2 H2 e2 l s2 r2 p2 => ?_⟩⟩
  split at p2
  · rename_i d hd
    have hr := RB.of r2 (hx.mono s2) hd
    unfold gSlK at p2
    cases d with
    | lst xs =>
      obtain ⟨pp, vs, rfl, h1, rr⟩ := hr.lst r2.gh
      dsimp only at p2
      split at p2
      · rename_i hle
        have rp : Rps ⟨X.K, ct⟩ G2 (pickL vs l k) (pickL xs l k) := by
          unfold pickL
          rw [rr.len]
          exact rr.pick _
        exact ⟨_, _, rfl, SqL.of h1, by rw [rp.len]; exact lim_le hle, fin_lst r2 rp fun G' H' v s' r' hv => p2 G' H' s' r' v hv⟩
      · exact p2.elim
    | _ => exact p2.elim
  · exact p2.elim
end
end MM
end
section
set_option Elab.async false
set_option linter.all false
set_option autoImplicit false
set_option maxRecDepth 100000
set_option maxHeartbeats 4000000
namespace MM
open PySem PySem.Spec PyProof.Rows L2
/-! ### sorted(list of pairs of a number and a list of numbers) -/
abbrev IL := Int × List Int
def ltL : List Int → List Int → Bool
  | [], [] => false
  | [], _ :: _ => true
  | _ :: _, [] => false
  | x :: xs, y :: ys => if x = y then ltL xs ys else decide (x < y)
theorem ltL_iff : ∀ xs ys : List Int, ltL xs ys = decide (xs < ys)
  | [], [] => by simp [ltL]
  | [], y :: ys => by simp [ltL]
  | x :: xs, [] => by simp [ltL]
  | x :: xs, y :: ys => by
    rw [ltL]
    by_cases h : x = y
    · rw [if_pos h, ltL_iff xs ys]; simp [h, List.cons_lt_cons_iff]
    · rw [if_neg h]; simp [h, List.cons_lt_cons_iff]
def ltIL (a b : IL) : Bool := if a.1 = b.1 then ltL a.2 b.2 else decide (a.1 < b.1)
def leIL (a b : IL) : Bool := !ltIL b a
theorem leIL_iff (a b : IL) : leIL a b = true ↔ a.1 < b.1 ∨ (a.1 = b.1 ∧ a.2 ≤ b.2) := by
  unfold leIL ltIL
  rw [ltL_iff]
  by_cases h : b.1 = a.1
  · rw [if_pos h]
    simp [h, List.not_lt]
  · rw [if_neg h]
    simp
    omega
theorem leIL_trans (a b c : IL) (h1 : leIL a b = true) (h2 : leIL b c = true) : leIL a c = true := by
  rw [leIL_iff] at *
  rcases h1 with h1 | ⟨h1, h1'⟩ <;> rcases h2 with h2 | ⟨h2, h2'⟩
  · left; omega
  · left; omega
  · left; omega
  · right; exact ⟨by omega, List.le_trans h1' h2'⟩
theorem leIL_total (a b : IL) : (leIL a b || leIL b a) = true := by
  rw [Bool.or_eq_true, leIL_iff, leIL_iff]
  rcases Int.lt_trichotomy a.1 b.1 with h | h | h
  · exact .inl (.inl h)
  · rcases List.le_total a.2 b.2 with q | q
    · exact .inl (.inr ⟨h, q⟩)
    · exact .inr (.inr ⟨h.symm, q⟩)
  · exact .inr (.inl h)
theorem leIL_anti (a b : IL) (h1 : leIL a b = true) (h2 : leIL b a = true) : a = b := by
  rw [leIL_iff] at *
  rcases h1 with h1 | ⟨h1, h1'⟩ <;> rcases h2 with h2 | ⟨h2, h2'⟩
  · omega
  · omega
  · omega
  · exact Prod.ext h1 (List.le_antisymm h1' h2')
def insIL (x : IL) : List IL → List IL
  | [] => [x]
  | y :: ys => if leIL x y = true then x :: y :: ys else y :: insIL x ys
def sortIL : List IL → List IL
  | [] => []
  | x :: xs => insIL x (sortIL xs)
theorem insIL_perm (x : IL) : ∀ ys : List IL, (insIL x ys).Perm (x :: ys)
  | [] => .refl _
  | y :: ys => by
    rw [insIL]
    split
    · exact .refl _
    · exact ((insIL_perm x ys).cons y).trans (.swap ..)
theorem sortIL_perm : ∀ xs : List IL, (sortIL xs).Perm xs
  | [] => .refl _
  | x :: xs => (insIL_perm x _).trans ((sortIL_perm xs).cons x)
theorem insIL_sorted (x : IL) : ∀ ys : List IL, ys.Pairwise (fun a b => leIL a b = true) → (insIL x ys).Pairwise (fun a b => leIL a b = true)
  | [], _ => by rw [insIL]; exact List.pairwise_singleton _ _
  | y :: ys, h => by
    rw [insIL]
    have h' := List.pairwise_cons.mp h
    split
    · rename_i hxy
      refine List.pairwise_cons.mpr ⟨fun z hz => ?_, h⟩
      rcases List.mem_cons.mp hz with rfl | hz
      · exact hxy
      · exact leIL_trans _ _ _ hxy (h'.1 z hz)
    · rename_i hxy
      refine List.pairwise_cons.mpr ⟨fun z hz => ?_, insIL_sorted x ys h'.2⟩
      have hz := (insIL_perm x ys).mem_iff.mp hz
      rcases List.mem_cons.mp hz with rfl | hz
      · have := leIL_total z y
        rw [Bool.or_eq_true] at this
        exact this.resolve_left hxy
      · exact h'.1 z hz
theorem sortIL_sorted : ∀ xs : List IL, (sortIL xs).Pairwise (fun a b => leIL a b = true)
  | [] => .nil
  | x :: xs => insIL_sorted x _ (sortIL_sorted xs)
def ilD (p : IL) : D := .tup [.int p.1, .lst (p.2.map D.int)]
def il? : D → Option IL
  | .tup [.int i, .lst xs] => (ints? xs).map fun ns => (i, ns)
  | _ => none
theorem il?_eq {d : D} {p : IL} (h : il? d = some p) : d = ilD p := by
  unfold il? at h
  split at h
  · rename_i i xs
    cases hi : ints? xs with
    | none => rw [hi] at h; cases h
    | some ns =>
      rw [hi] at h
      cases h
      rw [ints?_eq hi]
      rfl
  · cases h
def ils? : List D → Option (List IL)
  | [] => some []
  | d :: ds => match il? d, ils? ds with
    | some p, some ps => some (p :: ps)
    | _, _ => none
theorem ils?_eq : ∀ {ds : List D} {ps : List IL}, ils? ds = some ps → ds = ps.map ilD
  | [], ps, h => by cases h; rfl
  | d :: ds, ps, h => by
    rw [ils?] at h
    split at h
    · rename_i p ps' h1 h2
      cases h
      rw [il?_eq h1, ils?_eq h2, List.map_cons]
    · cases h
theorem ils?_map : ∀ ps : List IL, ils? (ps.map ilD) = some ps
  | [] => rfl
  | p :: ps => by
    rw [List.map_cons, ils?]
    have h1 : il? (ilD p) = some p := by
      show (ints? (p.2.map D.int)).map _ = _
      rw [ints?_map]; rfl
    rw [h1, ils?_map ps]
def fSortedP : D → Option EV
  | .lst ds => (ils? ds).map fun ps => .m (.lst ((sortIL ps).map ilD))
  | _ => none
@[simp] theorem fSortedP_map {ps : List IL} : fSortedP (.lst (ps.map ilD)) = some (.m (.lst ((sortIL ps).map ilD))) := by
  show (ils? _).map _ = _
  rw [ils?_map]; rfl
theorem ilD_py (p : IL) : (ilD p).py = .tuple [.int p.1, .list (p.2.map PyData.int)] := by
  unfold ilD
  rw [D.py, D.pys, D.pys, D.pys, D.py, D.py, pys_ints]
theorem ilD_flat (p : IL) : (ilD p).flat = true := by
  unfold ilD
  rw [D.flat, D.flats, D.flats, D.flats]
  simp [D.flat, flats_ints]
theorem eqv_ints_il (xs ys : List Int) : PyData.eqvAll (xs.map PyData.int) (ys.map PyData.int) = decide (xs = ys) := by
  induction xs generalizing ys with
  | nil => cases ys <;> simp [PyData.eqvAll]
  | cons x xs ih =>
    cases ys with
    | nil => simp [PyData.eqvAll]
    | cons y ys =>
      rw [List.map_cons, List.map_cons, PyData.eqvAll, ih, PyData.eqv]
      by_cases h : x = y <;> by_cases h2 : xs = ys <;> simp [h, h2]
theorem dataLt_il (p q : IL) : PySem.W.dataLt (ilD p).py (ilD q).py = ltIL p q := by
  rw [ilD_py, ilD_py, PySem.W.dataLt_pair (by simp [PySem.W.alike]) (by simp [PySem.W.alike, PySem.W.alike_ints]), PySem.W.dataLt_int]
  have e1 : PySem.W.dataLt (.list (p.2.map PyData.int)) (.list (q.2.map PyData.int)) = ltL p.2 q.2 := by
    rw [PySem.W.dataLt_list, ltL_iff]
    exact PySem.W.dataLt_ints _ _
  rw [e1]
  unfold ltIL
  simp only [PyData.eqv, beq_iff_eq, eqv_ints_il]
  by_cases h : p.1 = q.1
  · rw [if_pos h, if_pos h]
    by_cases h2 : p.2 = q.2
    · rw [if_pos (by simpa using h2), h2, ltL_iff]
      simp
    · rw [if_neg (by simpa using h2)]
  · rw [if_neg h, if_neg h]
theorem dataLe_il : PySem.W.dataLe false (fun z : V × IL => (ilD z.2).py) = fun a b => leIL a.2 b.2 := by
  funext a b
  show (!PySem.W.dataLt (ilD b.2).py (ilD a.2).py) = _
  rw [dataLt_il]
  rfl
def rSortedP (K : PySem.W.Frag) : List V → Hp → VK → Prop := fun xs H Q => ∃ (a : Addr) (zs : List (V × IL)), xs = [.ref a] ∧ SqL K H a (zs.map (·.1)) ∧ (∀ z ∈ zs, Dp K H z.1 (ilD z.2).py) ∧
  ∀ p, H p = none → Q (.ref p) (upd H p (.lst ((zs.mergeSort (fun a b => leIL a.2 b.2)).map (·.1))))
section
variable {X : Cx} {ct : Nat → Addr} {kk : Nat}
theorem vals_each {pins : List (Addr × Obj)} {σ : L2.St} {H : Hp} {s : Shared} (I : Inv X pins σ H s) : ∀ {zs : List (V × IL)} {us : List Value}, Vals (zs.map (·.1)) us → (∀ z ∈ zs, Dp X.K H z.1 (ilD z.2).py) →
    PySem.W.EachIs (fun v (z : V × IL) => RelV z.1 v) us zs ∧ PySem.W.EachIs (fun v (z : V × IL) => ∃ as, Reads s.heap v (ilD z.2).py as) us zs
  | [], _, r, _ => by cases r; exact ⟨.nil, .nil⟩
  | z :: zs, _, r, h => by
    cases r with
    | cons r1 r2 =>
      obtain ⟨a, b⟩ := vals_each I r2 fun z hz => h z (List.mem_cons_of_mem _ hz)
      exact ⟨.cons r1 a, .cons (Dp.reads I _ _ _ (h z List.mem_cons_self) r1) b⟩
theorem each_vals : ∀ {zs : List (V × IL)} {us : List Value}, PySem.W.EachIs (fun v (z : V × IL) => RelV z.1 v) us zs → Vals (zs.map (·.1)) us
  | _, _, .nil => .nil
  | _, _, .cons a b => .cons a (each_vals b)
theorem cr_sortedP' (hr : Room kk X.A) : CallR X (.builtin "sorted") (rSortedP X.K) := by
  intro pins s σ H vs us Q I r h
  obtain ⟨a, zs, rfl, hs, hd, q⟩ := h
  obtain ⟨its, rv, hl, hz⟩ := I.list hs
  rw [List.length_map] at hz
  rw [Vals.ref1 r]
  obtain ⟨e1, e2⟩ := vals_each I rv hd
  have hun := hr.un
  refine PySem.W.sorted_data (enc := fun z : V × IL => (ilD z.2).py) hl.isList e1 e2 (PySem.W.AllAlike.of fun b b' => ?_) (PySem.W.Sortable.tuples fun b => ⟨_, _, ilD_py b.2⟩) hz (fun b _ => ?_) fun out hlen he => ?_
  · rw [ilD_py, ilD_py]
    simp [PySem.W.alike, PySem.W.alikeAll, PySem.W.alike_ints]
  · rw [ilD_py]
    simp only [PyData.depth, PyData.depthAll, PySem.W.depth_ints]
    omega
  rw [dataLe_il] at he
  have hv := each_vals he
  obtain ⟨ep, he'⟩ := PyProof.Rows.sortedAll_at s.heap its out.toArray
  exact ⟨.ref _, upd H (s.heap.objs.size + 1) (.lst ((zs.mergeSort (fun a b => leIL a.2 b.2)).map (·.1))), I.laid (t' := s.toks) (fun _ _ => PyProof.Rows.sortedAll_old) (Nat.le_succ _) ⟨by rw [List.length_map, List.length_mergeSort]; exact hz, out, ep, hv, he'⟩, rfl, q _ (I.hok.fresh (Nat.le_succ _))⟩
theorem Rps.zipIL {k : Kc} {G : Hp} : ∀ {vs : List V} {ps : List IL}, Rps k G vs (ps.map ilD) → ∃ zs : List (V × IL), vs = zs.map (·.1) ∧ ps = zs.map (·.2) ∧ ∀ z ∈ zs, Rp k G z.1 (ilD z.2)
  | [], [], _ => ⟨[], rfl, rfl, fun z hz => by cases hz⟩
  | [], _ :: _, h => by cases h
  | _ :: _, [], h => by cases h
  | v :: vs, p :: ps, h => by
    cases h with
    | cons h1 h2 =>
      obtain ⟨zs, e1, e2, h3⟩ := Rps.zipIL h2
      refine ⟨(v, p) :: zs, by rw [e1]; rfl, by rw [e2]; rfl, fun z hz => ?_⟩
      rcases List.mem_cons.mp hz with rfl | hz
      · exact h1
      · exact h3 z hz
theorem Rps.ofIL {k : Kc} {G : Hp} : ∀ {zs : List (V × IL)}, (∀ z ∈ zs, Rp k G z.1 (ilD z.2)) → Rps k G (zs.map (·.1)) ((zs.map (·.2)).map ilD)
  | [], _ => .nil
  | z :: zs, h => .cons (h z List.mem_cons_self) (Rps.ofIL fun z hz => h z (List.mem_cons_of_mem _ hz))
theorem sort_zip (zs : List (V × IL)) : (zs.mergeSort (fun a b => leIL a.2 b.2)).map (·.2) = sortIL (zs.map (·.2)) := by
  have h1 : ((zs.mergeSort (fun a b => leIL a.2 b.2)).map (·.2)).Perm (sortIL (zs.map (·.2))) := ((List.mergeSort_perm zs _).map _).trans (sortIL_perm _).symm
  refine h1.eq_of_pairwise (le := fun a b => leIL a b = true) (fun a b _ _ => leIL_anti a b) ?_ (sortIL_sorted _)
  refine List.pairwise_map.mpr ?_
  exact List.pairwise_mergeSort (le := fun (a b : V × IL) => leIL a.2 b.2) (fun a b c => leIL_trans a.2 b.2 c.2) (fun a b => leIL_total a.2 b.2) zs
theorem g_sortedP : CallG ⟨X.K, ct⟩ (rSortedP X.K) (gF1 fSortedP) := callG1 fun c G H σ e v d z Q re rb hz q => by
  unfold fSortedP at hz
  split at hz
  · rename_i ds
    cases hp : ils? ds with
    | none => rw [hp] at hz; cases hz
    | some ps =>
      rw [hp] at hz
      cases hz
      rw [ils?_eq hp] at rb
      obtain ⟨a, vs, rfl, h1, rr⟩ := rb.lst re.gh
      obtain ⟨zs, rfl, rfl, hz⟩ := rr.zipIL
      have hr : ∀ z ∈ zs.mergeSort (fun a b => leIL a.2 b.2), Rp ⟨X.K, ct⟩ G z.1 (ilD z.2) := fun z h => hz z ((List.mergeSort_perm zs _).mem_iff.mp h)
      have rp := Rps.ofIL hr
      rw [sort_zip] at rp
      exact ⟨a, zs, rfl, SqL.of h1, fun z hz' => dp_mono re.gh ((hz z hz').dp (ilD_flat z.2)), fin_lst re rp fun G' H' v s' r' hv => q G' H' v s' r' hv⟩
  · cases hz
end
end MM
end
section
set_option Elab.async false
set_option linter.all false
set_option autoImplicit false
set_option maxRecDepth 100000
set_option maxHeartbeats 4000000
namespace MM
open PySem PySem.Spec PyProof.Rows L2
/-! ### x[k] = v of an own dict -/
theorem RelKD.of {k : Kc} {G : Hp} : ∀ {kvs : List (Key × V)} {ds : List D}, Rps k G (kvs.map (·.2)) ds → RelKD k G kvs ((kvs.map (·.1)).zip ds)
  | [], [], _ => trivial
  | [], _ :: _, h => by cases h
  | (a, v) :: kvs, [], h => by cases h
  | (a, v) :: kvs, d :: ds, h => by
    cases h with
    | cons h1 h2 => exact ⟨rfl, h1, RelKD.of h2⟩
theorem RelKD.length {k : Kc} {G : Hp} {l : List (Key × V)} {m : List (Key × D)} (h : RelKD k G l m) : l.length = m.length := by
  have := congrArg List.length h.fst.1
  simpa using this
def gStoreK (i : Nat) (fi : EM Tk) : GT := fun d e => match mutE e i with
  | none => none
  | some _ => match fi e with
    | .ok t e2 => (match rdK e2 t, mutE e2 i with
      | some y, some (.dic ks ds) => (match D.key y with
        | some j => if ks.length < LIM then some (reE e2 i (.dic ((putKD j d (ks.zip ds)).map (·.1)) ((putKD j d (ks.zip ds)).map (·.2)))) else none
        | none => none)
      | _, _ => none)
    | _ => none
section
variable {X : Cx} {ct : Nat → Addr} {W : WX} {pos tpos p : Pos} {x : Str} {i n : Nat} {ix : Expr} {fi : EM Tk}
theorem h_storeK (hu : X.A.units + 1 < cLine) (ho : PE X (.Name x p) (tVar i)) (hi : SK X ct W0 ix fi) (ha : ∀ v, assign (.Subscript (.Name x p) ix tpos) X.env v = (do
      let ov ← holding [v] (eval (.Name x p) X.env)
      let iv ← holding [v, ov] (eval ix X.env)
      standAt tpos
      holding [v, ov, iv] (setItem ov iv v)
      release [v, ov, iv] []) := by intro _; rfl) : SG2 X ct (.Subscript (.Name x p) ix tpos) (gStoreK i fi) := PGw (pg_sub ho hi (set_dict hu) ha) fun v σ H Q q => by
  obtain ⟨c, G, e, d, e', r, hv, hf, q⟩ := q
  unfold gStoreK at hf
  cases h0 : mutE e i with
  | none => rw [h0] at hf; cases hf
  | some y0 =>
    rw [h0] at hf
    obtain ⟨a0, o0, ha0, _⟩ := mutE_ok r h0
    refine ⟨_, ha0, c, G, e, r, ?_⟩
    cases h1 : fi e with
    | stuck => rw [h1] at hf; cases hf
    | exc y e2 => rw [h1] at hf; cases hf
    | ok t e2 =>
      rw [h1] at hf
      intro G2 H2 s2 r2 iv hiv
      dsimp only at hf
      split at hf
      · rename_i y ks ds hj hm
        split at hf
        · rename_i j hkey
          split at hf
          · rename_i hl
            cases hf
            obtain ⟨a1, o1, ha1, hH1, ⟨kvs, rfl, rfl, ru⟩, g1, hre⟩ := mutE_ok r2 hm
            rw [ha0] at ha1
            cases ha1
            have hk : iv = kV j := (RB.of r2 hiv hj).key hkey
            have rel := RelKD.put (j := j) (hv.mono s2) (RelKD.of ru)
            have hl' : kvs.length < sizeLine := by
              rw [sizeLine_eq]
              rw [List.length_map] at hl
              exact Nat.lt_of_lt_of_le hl (by decide)
            rw [hk]
            exact ⟨a0, _, rfl, DPut.k hH1 hl', q G2 σ _ s2 (hre _ _ ⟨_, rfl, rel.fst.1, rel.fst.2⟩)⟩
          · cases hf
        · cases hf
      · cases hf
end
section
variable {e : Env} {d : D}
@[simp] theorem gStoreK_ev {i : Nat} {fi : EM Tk} : gStoreK i fi d e = (match mutE e i with
  | none => none
  | some _ => match fi e with
    | .ok t e2 => (match rdK e2 t, mutE e2 i with
      | some y, some (.dic ks ds) => (match D.key y with
        | some j => if ks.length < LIM then some (reE e2 i (.dic ((putKD j d (ks.zip ds)).map (·.1)) ((putKD j d (ks.zip ds)).map (·.2)))) else none
        | none => none)
      | _, _ => none)
    | _ => none) := rfl
end
end MM
end
section
set_option Elab.async false
set_option linter.all false
set_option autoImplicit false
set_option maxRecDepth 100000
set_option maxHeartbeats 4000000
namespace MM
open PySem PySem.Spec L2
/-! ### x = [.. for .. in ..], all own things borrowed meanwhile -/
section
variable {X : Cx} {ct : Nat → Addr} {W : WX} {ex : Expr}
theorem bor_sem {f : EM EV} (σ : L2.St) (H : Hp) (Q : VK) (q : TV ⟨X.K, ct⟩ W (vBor f) σ H Q) : TV ⟨X.K, ct⟩ W f σ H Q := by
  obtain ⟨c, G, e, r, p⟩ := q
  obtain ⟨G', sG, r'⟩ := r.borrow
  refine ⟨_, G', _, r', ?_⟩
  unfold vBor at p
  cases hf : f (frzAll e) with
  | stuck => rw [hf] at p; exact p.elim
  | exc y e' => rw [hf] at p; exact p.elim
  | ok y e' =>
    rw [hf] at p
    cases y with
    | t _ _ => exact p.elim
    | p _ => exact p.elim
    | d d =>
      have p : Post ⟨X.K, ct⟩ W c G σ (fun G' H' e' x => ∀ v, RpV ⟨X.K, ct⟩ c G' σ H' e' v x → Q v H') (if d.sc = true then .ok (.d d) e else .stuck) := p
      by_cases hd : d.sc = true
      · rw [if_pos hd] at p
        exact fun G2 H2 s2 r2 v hv => p G H2 (Same.refl _) (r.thaw r2.oh) v (show Rp _ _ _ _ from Rp.sc2 hv hd)
      · rw [if_neg hd] at p; exact p.elim
    | m y =>
      cases y with
      | dic _ _ => exact p.elim
      | obj _ _ _ => exact p.elim
      | lst ds =>
        have p : Post ⟨X.K, ct⟩ W c G σ (fun G' H' e' x => ∀ v, RpV ⟨X.K, ct⟩ c G' σ H' e' v x → Q v H') (if ds.all D.sc = true then .ok (.m (.lst ds)) e else .stuck) := p
        by_cases hd : ds.all D.sc = true
        · rw [if_pos hd] at p
          intro G2 H2 s2 r2 v hv
          obtain ⟨a, e1, ⟨m1, m2, o, m3, vs, rfl, m4⟩, l⟩ := hv
          have hHa : H a = none := m2
          have rt := r.thaw r2.oh
          refine p G H2 (Same.refl _) rt v ⟨a, e1, ⟨?_, ?_, _, m3, vs, rfl, Rps.sc2 m4 hd⟩, fun i x hx hw hs => ?_⟩
          · cases q : G a with
            | none => rfl
            | some o => rw [r.gh a o q] at hHa; cases hHa
          · cases q : c.O a with
            | none => rfl
            | some o => rw [r.oh a o q] at hHa; cases hHa
          · obtain ⟨b, y, _, h1, _, _, o, h3, _⟩ := r.owner hx hw
            rw [hs] at h1
            cases h1
            rw [hHa] at h3
            cases h3
        · rw [if_neg hd] at p; exact p.elim
end
section
variable {X : Cx} {ct : Nat → Addr} {W : WX} {elt tg iter : Expr} {ifs : List Expr} {scope : Scope} {own : List (Str × Nat)} {pos spos py : Pos} {fi : EM (List D)} {ft : D → Env → Option Env} {ff : EM Bool} {fe : EM D} {ts : List Nat} {i : Nat} {y : Str}
theorem s_setLcB (hc : X.calm = true) (hN : X.N.Nodup) (hy : X.N[i]? = some y) (hyl : X.env.scope.names.lookup y = some .local)
    (hsw : swapsWith (.ListComp elt [⟨tg, iter, ifs, 0⟩] scope pos) (some (.Name y py)) spos.line X.env = pure true) (hi : SI X ct W tg iter fi) (ok : BlkOk X.N X.env.scope scope own) (hts : ∀ i ∈ ts, i ∈ own.map (·.2))
    (hg : ∀ (s : Shared) (H : Hp) (C : Addr) (cl : List (Str × Addr)) (fp : List Addr), SG (X.blk s H scope (compEnvC scope cl C X.env) fp) ct tg ts ft) (ht : ∀ (s : Shared) (H : Hp) (C : Addr) (cl : List (Str × Addr)) (fp : List Addr), PTs (X.blk s H scope (compEnvC scope cl C X.env) fp) ifs (TT ⟨X.K, ct⟩ W0 ff))
    (he : ∀ (s : Shared) (H : Hp) (C : Addr) (cl : List (Str × Addr)) (fp : List Addr), SE (X.blk s H scope (compEnvC scope cl C X.env) fp) ct W0 elt fe) (hs : ∀ x, foldedSetIterable iter X.env x = pure x := by intro _; rfl) :
    SS X ct W (.Assign [.Name y py] (.ListComp elt [⟨tg, iter, ifs, 0⟩] scope pos) spos) (sSet i (vBor (lcF (own.map (·.2)) fi ft ff fe))) := PSw (ps_setLc hc hN hy hyl hsw hi ok hg ht he hs) fun Dn σ H q => by
  obtain ⟨c, G, e, r, p⟩ := q
  refine lc_sem hts σ H _ (bor_sem σ H _ ⟨c, G, e, r, (PostS.sb p).imp fun G' H' e' y s r' h v hv => putE_ok r' hv h⟩)
end
end MM
end
section
set_option Elab.async false
set_option linter.all false
set_option autoImplicit false
set_option maxRecDepth 100000
set_option maxHeartbeats 4000000
namespace MM
open PySem PySem.Spec PyProof.Rows L2
/-! ### range(n) held by a name; i in it -/
def rRng1 : List V → Hp → VK → Prop := fun vs H Q => ∃ j, vs = [V.int j] ∧ ∀ p, H p = none → Q (.ref p) (upd H p (.rng 0 j))
theorem cr_range1 {X : Cx} : CallR X (.type "range") rRng1 := by
  intro pins s σ H vs us Q I r h
  obtain ⟨j, rfl, q⟩ := h
  obtain ⟨u1, rfl, rj⟩ := vals1 r
  obtain ⟨u, rfl⟩ := rj
  refine call_range_1 ⟨.ref s.heap.objs.size, upd H s.heap.objs.size (.rng 0 j), I.laid (t' := s.toks + 2) (fun b o e => Heap.get?_push_of_some _ e) (Nat.le_refl _) ?_, rfl, q _ (I.hok.fresh (Nat.le_refl _))⟩
  exact ⟨_, _, _, Heap.get?_push_size _ rfl⟩
def fRng : D → Option EV
  | .int j => some (.d (.rng 0 j))
  | _ => none
theorem g_rng {X : Cx} {ct : Nat → Addr} : CallG ⟨X.K, ct⟩ rRng1 (gF1 fRng) := callG1 fun c G H σ e v d z Q re rb hz q => by
  cases d with
  | int j =>
    cases hz
    rw [rb.int]
    refine ⟨j, rfl, fun p hp => ?_⟩
    have gp : G p = none := re.gh.free hp
    exact q _ _ _ (same_upd gp) (re.lay hp) (.rng upd_same)
  | _ => cases hz
def gInR : D → D → Option Bool
  | .int i, .rng lo hi => some (decide (lo ≤ i ∧ i < hi))
  | _, _ => none
@[simp] theorem gInR_ev {i lo hi : Int} : gInR (.int i) (.rng lo hi) = some (decide (lo ≤ i ∧ i < hi)) := rfl
theorem RB.rng {k : Kc} {G H : Hp} {v : V} {lo hi : Int} (g : Same G H) (h : RB k G H v (.rng lo hi)) : ∃ a, v = .ref a ∧ H a = some (.rng lo hi) := by
  rcases h with h | ⟨a, o, x, rfl, h1, h2, h3⟩
  · cases h with
    | rng h1 => exact ⟨_, rfl, g _ _ h1⟩
  · cases x with
    | lst _ => cases h3
    | dic _ _ => cases h3
    | obj _ ns _ =>
      have h3 : (if ns = clsNames _ then some (D.obj _ _) else none) = some (D.rng lo hi) := h3
      split at h3 <;> cases h3
theorem x_inR {X : Cx} {ct : Nat → Addr} : CmpX X ct .In gInR := ⟨_, op_in_rng, fun G H x y a b z Q g ra rb hz q => by
  unfold gInR at hz
  split at hz
  · cases hz
    obtain ⟨p, rfl, h1⟩ := rb.rng g
    exact ⟨_, p, _, _, ra.int, rfl, h1, q⟩
  · cases hz⟩
end MM
end
section
set_option Elab.async false
set_option linter.all false
set_option autoImplicit false
set_option maxRecDepth 100000
set_option maxHeartbeats 4000000
namespace MM
open PySem PySem.Spec PyProof.Rows L2
/-! ### own exceptions over ValueError with one field -/
/-- what __init__(self, y): self.f = y keeps -/
def spX (K : PySem.W.Frag) (f : Str) : Sp := fun vs H Q _ => ∃ (a C : Addr) (y : V), vs = [.ref a, y] ∧ OexC K C ∧ PySem.W.findIn K (.ref C) f = some none ∧ H a = some (exo a C none) ∧
  ∀ dx, H dx = none → dx ≠ a → Q .non (upd (upd H dx (exd dx [(f, y)])) a (exo a C (some dx)))
theorem fn_exinit {P : Program} {w : World} {K : PySem.W.Frag} {mg : Str → Option Value} {base : Heap} {x qual : Str} {params : Arguments} {scope : Scope} {dvs : List V} {kws : List (Str × V)} {fa : Addr} {fd : FuncData} {f n1 n2 : Str} {p1 p2 p3 p4 : Pos}
    (F : FunD K x qual params [.Assign [.Attribute (.Name n1 p1) f p2] (.Name n2 p3) p4] scope dvs kws fa fd) (S : FnScope [n1, n2] [n1, n2] scope) (h1 : Vis scope n1) (h2 : Vis scope n2)
    (d1 : (n1 == ("__debug__" : Str)) = false) (d2 : (n1 == ("__classdict__" : Str)) = false) (d3 : (n2 == ("__debug__" : Str)) = false) (d4 : (n2 == ("__classdict__" : Str)) = false)
    (hs : ∀ env, swapsWith (.Name n2 p3) (some (.Attribute (.Name n1 p1) f p2)) p4.line env = pure false) : FnOk P w K mg base (L2.CX P w) 1 fa fd [n1, n2] (spX K f) := by
  refine F.ok S (fun vs H Q E q => ?_) fun cdv A outer s H vs Q E hr q => ?_
  · obtain ⟨a, C, y, rfl, _⟩ := q
    rfl
  · obtain ⟨a, C, y, rfl, T, hno, ha, hq⟩ := q
    refine ⟨_, pss_one (ps_ost (pe_var (i := 0) rfl h1 d1 d2) (pe_var (i := 1) rfl h2 d3 d4) (hs _)), ?_⟩
    exact ⟨y, rfl, .ref a, rfl, a, C, rfl, T, hno, .inl ⟨ha, fun dx n ne => hq dx n ne⟩⟩
/-- raise C(e) -/
def sRaise (c : Nat) (fe : EM D) : SM := fun e => (fe e).sb fun d e1 => .exc ⟨c, [d]⟩ e1
@[simp] theorem sRaise_ev {c : Nat} {fe : EM D} {e : Env} : sRaise c fe e = (fe e).sb fun d e1 => .exc ⟨c, [d]⟩ e1 := rfl
theorem upd_raise {H : Hp} {a dx : Addr} {o1 o2 o3 o4 : HO} (ha : H a = none) (hd : H dx = none) (hne : dx ≠ a) : upd (del (upd (upd (upd H a o1) dx o2) a o3) a) dx o4 = upd H dx o4 := by
  funext b
  by_cases h1 : b = dx
  · subst h1; rw [upd_same, upd_same]
  · rw [upd_ne h1, upd_ne h1]
    by_cases h2 : b = a
    · subst h2; rw [del_same, ha]
    · rw [del_ne h2, upd_ne h2, upd_ne h1, upd_ne h2]
section
variable {X : Cx} {ct : Nat → Addr} {W : WX} {pos p p2 : Pos} {x : Str} {ex : Expr} {fe : EM D} {C fI : Addr} {cn k : Nat} {fd : FuncData} {f n1 n2 : Str}
theorem s_raise (hcalm : X.calm = true) (tk : Takes X W) (hC : C = ct cn) (hf : clsNames cn = [f]) (T : OexC X.K C) (iC : PySem.W.findIn X.K (.ref C) "__init__" = some (some (.ref fI))) (tI : PySem.W.typeIn X.K (.ref fI) = some (.type "function"))
    (hno : PySem.W.findIn X.K (.ref C) f = some none) (F1 : FnOk X.prog X.w X.K X.mg X.base (L2.CX X.prog X.w) k fI fd [n1, n2] (spX X.K f)) (hr : Room (k + 1) X.A) (hb : Binds X.K fd [n1, n2] [])
    (hg : Gl X x) (hm : X.mg x = some (.ref C)) (he : SE X ct W ex fe) (hdb : (x == ("__debug__" : Str)) = false := by decide)
    (hst : starEach [ex] X.env = (false, eval ex X.env) :: starEach [] X.env := by rfl) (hpl : (backTo p2 (starEach [] X.env)).any (·.1) = false := by rfl) :
    SS X ct W (.Raise (some (.Call (.Name x p) [ex] [] p2)) none pos) (sRaise cn fe) := by
  have hx : Passes (L2.CX X.prog X.w) X (fun _ _ _ => False) := passes_call tk fun _ _ _ _ z => z.elim
  refine PSw (ps_raise hcalm tk (pmk_oex (ds := []) (dvs := []) T iC tI F1 hr hb .nil hx hg hm (a_cons (k_val he) a_nil hst) hdb hst hpl)) fun Dn σ H q => ?_
  obtain ⟨c, G, e, r, p⟩ := q
  refine ⟨c, G, e, r, ?_⟩
  have p : PostS ⟨X.K, ct⟩ W c G Dn ((fe e).sb fun d e1 => .exc ⟨cn, [d]⟩ e1) := p
  show Post ⟨X.K, ct⟩ W c G σ _ (aCons (kE fe) aNil e)
  unfold aCons kE aNil
  cases hfe : fe e with
  | stuck => rw [hfe] at p; exact p.elim
  | exc y e1 => rw [hfe] at p; exact fun G' H' cls dc s' r' hx => p G' σ H' cls dc s' r' hx
  | ok d e1 =>
    rw [hfe] at p
    intro G' H' s' r' vs hvs
    match vs, hvs with
    | [v], hvs =>
      have hv : Rp ⟨X.K, ct⟩ G' v d := hvs.1
      refine ⟨by simp, fun a ha => ⟨a, C, v, rfl, T, hno, upd_same, fun dx hdx hne => ⟨rfl, dx, [(f, v)], upd_same, by rw [upd_ne hne, upd_same], ?_, ?_⟩⟩⟩
      · rw [upd_ne hne] at hdx; exact hdx
      · rw [upd_ne hne] at hdx
        rw [upd_raise ha hdx hne]
        have hg' : G' dx = none := r'.gh.free hdx
        refine p (upd G' dx (.xd [(f, v)])) σ _ (.ref C) (some dx) (s'.trans (same_upd hg')) (r'.lay hdx) ⟨by rw [hC], .inr ⟨dx, [(f, v)], rfl, upd_same, hf.symm, .cons (hv.mono (same_upd hg')) .nil⟩⟩
    | [], hvs => exact hvs.elim
    | _ :: _ :: _, hvs => exact hvs.2.elim
end
end MM
end
section
set_option Elab.async false
set_option linter.all false
set_option autoImplicit false
set_option maxRecDepth 100000
set_option maxHeartbeats 4000000
namespace MM
open PySem PySem.Spec PyProof.Rows L2
/-! ### try: body / except C as e: handler -/
/-- what an except suite with the name of slot i keeps -/
def tH (k : Kc) (i : Nat) (h : Exn → SM) : Addr → Value → Option Addr → L2.TS := fun a cls d D σ H => σ[i]? = some (some (.ref a)) ∧ ∃ x c G e, RepS k c G σ H e ∧ RepX k G H cls d x ∧ PostS k W0 c G D (h x e)
abbrev SH (Y : Cx) (ct : Nat → Addr) (i : Nat) (a : Addr) (cls : Value) (d : Option Addr) (st : Stmt) (h : Exn → SM) : Prop := PS Y st (tH ⟨Y.K, ct⟩ i h a cls d)
/-- an expression of the suite -/
def tHE (k : Kc) (i : Nat) (f : Exn → EM D) : Addr → Value → Option Addr → L2.TE := fun a cls d σ H Q => σ[i]? = some (some (.ref a)) ∧ ∃ x c G e, RepS k c G σ H e ∧ RepX k G H cls d x ∧ Post k W0 c G σ (fun G' H' e' y => ∀ v, Rp k G' v y → Q v H') (f x e)
abbrev HE (Y : Cx) (ct : Nat → Addr) (i : Nat) (a : Addr) (cls : Value) (d : Option Addr) (ex : Expr) (f : Exn → EM D) : Prop := PE Y ex (tHE ⟨Y.K, ct⟩ i f a cls d)
def unE (i : Nat) (e : Env) : Option Env := match e[i]? with
  | some o => if isP o = true then none else some (e.set i none)
  | none => none
/-- behind the suite the name is gone -/
def finE (i : Nat) : SRes → SRes
  | .nx e => match unE i e with | some e => .nx e | none => .stuck
  | .bk e => match unE i e with | some e => .bk e | none => .stuck
  | .ct e => match unE i e with | some e => .ct e | none => .stuck
  | .rt x e => .rt x e
  | .exc _ _ => .stuck
  | .stuck => .stuck
def sTry (c i : Nat) (b : SM) (h : Exn → SM) : SM := fun e => match b e with
  | .exc x e1 => if x.cls = c then (match unE i e1 with
    | some e2 => finE i (h x e2)
    | none => .stuck) else .stuck
  | r => r
@[simp] theorem sTry_ev {c i : Nat} {b : SM} {h : Exn → SM} {e : Env} : sTry c i b h e = (match b e with
  | .exc x e1 => if x.cls = c then (match unE i e1 with
    | some e2 => finE i (h x e2)
    | none => .stuck) else .stuck
  | r => r) := rfl
section
variable {k : Kc} {c : Fr} {G H : Hp} {σ : L2.St} {e e' : Env} {i : Nat}
theorem unE_ok (h : unE i e = some e') : e' = e.set i none ∧ i < e.length ∧ ∀ x, e[i]? ≠ some (some (.p x)) := by
  unfold unE at h
  cases q : e[i]? with
  | none => rw [q] at h; cases h
  | some o =>
    rw [q] at h
    have h : (if isP o = true then none else some (e.set i none)) = some e' := h
    split at h
    · cases h
    · rename_i hp
      cases h
      refine ⟨rfl, (List.getElem?_eq_some_iff.mp q).1, fun x z => ?_⟩
      have z : o = some (.p x) := Option.some.inj z
      subst z
      exact hp rfl
theorem unpinned (r : RepS k c G σ H e) (h : ∀ x, e[i]? ≠ some (some (.p x))) : c.P i = none := by
  cases q : c.P i with
  | none => rfl
  | some a =>
    obtain ⟨x, h1, _⟩ := r.pin i a q
    exact absurd h1 (h x)
/-- the slot's value is another one, of which nothing is known -/
theorem RepS.blank (r : RepS k c G σ H e) (h : unE i e = some e') (o : Option V) : RepS k c G (σ.set i o) H e' := by
  obtain ⟨rfl, hl, hp⟩ := unE_ok h
  have hP := unpinned r hp
  have old : ∀ {j : Nat} {z : EV}, (e.set i none)[j]? = some (some z) → i ≠ j ∧ e[j]? = some (some z) := fun {j z} hz => by
    rcases set_get hz with ⟨_, q, _⟩ | q
    · cases q
    · exact q
  refine ⟨r.g0, r.gh, r.oh, r.fr, by rw [List.length_set, List.length_set]; exact r.len, fun j z hz => ?_, fun j l b z w hz hw z1 z2 s1 s2 => ?_, fun j b hb => ?_⟩
  · obtain ⟨h1, h2⟩ := old hz
    obtain ⟨v, h3, h4⟩ := r.slot j z h2
    exact ⟨v, by rw [List.getElem?_set_ne h1]; exact h3, h4⟩
  · obtain ⟨a1, a2⟩ := old hz
    obtain ⟨b1, b2⟩ := old hw
    rw [List.getElem?_set_ne a1] at s1
    rw [List.getElem?_set_ne b1] at s2
    exact r.dis j l b z w a2 b2 z1 z2 s1 s2
  · obtain ⟨z, h1, h2⟩ := r.pin j b hb
    have hij : i ≠ j := fun q => by subst q; rw [hP] at hb; cases hb
    exact ⟨z, by rw [List.getElem?_set_ne hij]; exact h1, by rw [List.getElem?_set_ne hij]; exact h2⟩
theorem finE_ok {W : WX} {D : Ends} {r : SRes} (p : PostS k W c G D (finE i r)) :
    PostS k W0 c G { nx := fun σ' H' => D.nx (σ'.set i none) H', rt := D.rt, bk := fun σ' H' => D.bk (σ'.set i none) H', ct := fun σ' H' => D.ct (σ'.set i none) H' } r := by
  cases r with
  | stuck => exact p.elim
  | exc _ _ => exact p.elim
  | rt x e => exact p
  | nx e =>
    have p : PostS k W c G D (match unE i e with | some e => .nx e | none => .stuck) := p
    cases hu : unE i e with
    | none => rw [hu] at p; exact p.elim
    | some e2 => rw [hu] at p; exact fun G' σ H s r => p G' _ H s (r.blank hu none)
  | bk e =>
    have p : PostS k W c G D (match unE i e with | some e => .bk e | none => .stuck) := p
    cases hu : unE i e with
    | none => rw [hu] at p; exact p.elim
    | some e2 => rw [hu] at p; exact fun G' σ H s r => p G' _ H s (r.blank hu none)
  | ct e =>
    have p : PostS k W c G D (match unE i e with | some e => .ct e | none => .stuck) := p
    cases hu : unE i e with
    | none => rw [hu] at p; exact p.elim
    | some e2 => rw [hu] at p; exact fun G' σ H s r => p G' _ H s (r.blank hu none)
end
section
variable {X : Cx} {ct : Nat → Addr} {W : WX} {pos pos' np : Pos} {x n : Str} {body : List Stmt} {b₀ : Stmt} {b : SM} {h : Exn → SM} {cn i : Nat}
theorem s_try (hs : X.stack = X.env :: X.outer) (hf : X.env.frame = some X.env.locals) (hN : X.N.Nodup) (hi : X.N[i]? = some n) (hln : X.env.kindOf n = some .local) (hc : Names X x (.ref (ct cn))) (tk : Takes X W)
    (hex : PySem.W.exmOne X.K (.ref (ct cn)) (.ref (ct cn)) = some true)
    (hb : ∀ (W' : WX) (pn : List (Addr × Obj)) (xe : Value → Shared → Prop), Takes (X.tr pn xe) W' → SSs (X.tr pn xe) ct W' body b)
    (hh : ∀ (a : Addr) (oe : Obj) (cls : Value) (d : Option Addr) (pn : List (Addr × Obj)), Zc cls d oe → (∃ vs, oe.data = .fields vs) → SH (X.suite a ((a, oe) :: pn)) ct i a cls d b₀ h) :
    SS X ct W (.Try body [.ExceptHandler (some (.Name x np)) (some n) [b₀] pos'] [] [] pos) (sTry cn i b h) :=
  PSw (ps_try_as (tb := fun W' => TS ⟨X.K, ct⟩ W' b) (ts := tH ⟨X.K, ct⟩ i h) (Wout := W) hs hf hN hi hln hc tk (fun W' pn xe tk' _ => hb W' pn xe tk') (fun a oe cls d pn hz hd => pss_one (hh a oe cls d pn hz hd))) fun D σ H q => by
    obtain ⟨c, G, e, r, p⟩ := q
    refine ⟨c, G, e, r, ?_⟩
    have p : PostS ⟨X.K, ct⟩ W c G D (match b e with
      | .exc x e1 => if x.cls = cn then (match unE i e1 with
        | some e2 => finE i (h x e2)
        | none => .stuck) else .stuck
      | r => r) := p
    cases hbe : b e with
    | stuck => rw [hbe] at p; exact p.elim
    | nx e1 => rw [hbe] at p; exact p
    | bk e1 => rw [hbe] at p; exact p
    | ct e1 => rw [hbe] at p; exact p
    | rt y e1 => rw [hbe] at p; exact p
    | exc y e1 =>
      rw [hbe] at p
      have p : PostS ⟨X.K, ct⟩ W c G D (if y.cls = cn then (match unE i e1 with
        | some e2 => finE i (h y e2)
        | none => .stuck) else .stuck) := p
      by_cases hy : y.cls = cn
      · rw [if_pos hy] at p
        cases hu : unE i e1 with
        | none => rw [hu] at p; exact p.elim
        | some e2 =>
          rw [hu] at p
          intro G' σ' H' cls dc s' r' hx
          have ecls : cls = .ref (ct cn) := by rw [hx.1, hy]
          refine ⟨true, by rw [ecls]; exact hex, fun _ a ha => ?_, fun z => by cases z⟩
          obtain ⟨_, hl, _⟩ := unE_ok hu
          refine ⟨by rw [List.getElem?_set_self (by rw [← r'.len]; exact hl)], y, c, G', e2, r'.blank hu _, hx, (finE_ok p).mono s'⟩
      · rw [if_neg hy] at p; exact p.elim
end
end MM
end
section
set_option Elab.async false
set_option linter.all false
set_option autoImplicit false
set_option maxRecDepth 100000
set_option maxHeartbeats 4000000
namespace MM
open PySem PySem.Spec PyProof.Rows L2
/-! ### expressions in an except suite: e.f, repr, == of texts -/
theorem RepX.mono {k : Kc} {G G' H H' : Hp} {cls : Value} {d : Option Addr} {x : Exn} (h : RepX k G H cls d x) (s : Same G G') : RepX k G' H' cls d x := by
  obtain ⟨h1, h2⟩ := h
  refine ⟨h1, ?_⟩
  rcases h2 with h2 | ⟨dd, fs, e1, e2, e3, e4⟩
  · exact .inl h2
  · exact .inr ⟨dd, fs, e1, s _ _ e2, e3, e4.mono s⟩
def xE (f : EM D) : Exn → EM D := fun _ => f
/-- e.f: the one field -/
def xFld (cn : Nat) : Exn → EM D := fun x e => if x.cls = cn then (match x.fs with
  | [d] => .ok d e
  | _ => .stuck) else .stuck
def xRepr (f : Exn → EM D) : Exn → EM D := fun x e => (f x e).bind fun d e1 => match fReprD d with
  | some (.d z) => .ok z e1
  | _ => .stuck
def xEqT (f g : Exn → EM D) : Exn → EM D := fun x e => (f x e).bind fun a e1 => (g x e1).bind fun b e2 => match a, b with
  | .str s, .str t => .ok (.bl (decide (s = t))) e2
  | _, _ => .stuck
def hSet (j : Nat) (f : Exn → EM D) : Exn → SM := fun x => sSet j (vD (f x))
def hRet (f : Exn → EM D) : Exn → SM := fun x => sRet (vD (f x))
section
variable {Y : Cx} {ct : Nat → Addr} {i j : Nat} {a : Addr} {cls : Value} {d : Option Addr} {ex ex1 ex2 : Expr} {f g : Exn → EM D} {pos p pos' : Pos} {y : Str}
theorem h_e {f : EM D} (h : SE Y ct W0 ex f) : HE Y ct i a cls d ex (xE f) := PEw h fun σ H Q q => by
  obtain ⟨_, x, c, G, e, r, _, p⟩ := q
  exact ⟨c, G, e, r, p⟩
theorem h_eqT (ha : HE Y ct i a cls d ex1 f) (hb : HE Y ct i a cls d ex2 g) (hm : behindInMarks .Eq ex2 = false) : HE Y ct i a cls d (.Compare ex1 [.Eq] [ex2] pos) (xEqT f g) := PEw (pe_cmpR op_eq ha hb hm) fun σ H Q q => by
  obtain ⟨hs, x, c, G, e, r, hx, p⟩ := q
  refine ⟨hs, x, c, G, e, r, hx, (Post.bind p).imp fun G1 H1 e1 d1 s1 r1 p1 v hv => ⟨hs, x, c, G1, e1, r1, hx.mono s1, (Post.bind p1).imp fun G2 H2 e2 d2 s2 r2 p2 w hw => ?_⟩⟩
  split at p2
  · cases hv
    cases hw
    exact ⟨rfl, by rw [dec_V]; exact p2.now r2 _ (.bl _)⟩
  · exact p2.elim
theorem cr_reprD2 {X : Cx} (hgu : X.A.guards = some []) (hun : X.A.units + 200 < cLine) : CallR X (.builtin "repr") (rReprD X.K) := by
  intro pins s σ H xs us Q I r h
  obtain ⟨x, rfl, h⟩ := h
  obtain ⟨u, rfl, rv⟩ := vals1 r
  rcases h with ⟨d, hd, nd, hs, hdp, hsz, q⟩ | ⟨a, rfl, ha, q⟩
  · have rd := Dp.reads I d x u hd rv
    obtain ⟨as, rd⟩ := rd
    have go : ∀ {a : Addr}, Reads s.heap (.ref a) d as → wpAny (model X.prog X.w) X.A (call (.builtin "repr") [.ref a]) (EP X pins σ Q) X.xe s := fun {a} rd =>
      repr_of_reads' rd hs (fun e => by rw [nd] at e; cases e) hgu (by omega) (fun _ _ e => e) (fun h' t tk hk => ⟨.str d.shown, H, I.kept hk, ⟨t, rfl⟩, q⟩) hsz
    cases hd with
    | non => cases rv; simp only [PyData.shown] at q; exact PySem.P.repr_of_none ⟨.str _, H, I.tok _, ⟨_, rfl⟩, q⟩
    | bl b => cases rv; simp only [PyData.shown] at q; exact PySem.P.repr_of_bool ⟨.str _, H, I.tok _, ⟨_, rfl⟩, q⟩
    | int i =>
      obtain ⟨t, rfl⟩ := rv
      simp only [PyData.shown] at q
      simp only [PyData.showable] at hs
      exact PySem.P.repr_of_int (of_decide_eq_true hs) ⟨.str _, H, I.tok _, ⟨_, rfl⟩, q⟩
    | str y =>
      obtain ⟨t, rfl⟩ := rv
      simp only [PyData.shown] at q hsz
      exact PySem.P.repr_of_str ⟨.str _, H, I.tok _, ⟨_, rfl⟩, q⟩ hsz
    | lst _ _ => cases rv; exact go rd
    | tup _ _ => cases rv; exact go rd
  · cases (show u = Value.ref a from rv)
    obtain ⟨_, hsm, vs, hk, o, es, ep, e1, e2, e3, _, hp, _⟩ := (show ObjOk X.prog X.w H s.heap a (.dK []) from I.hok a _ ha)
    cases hk
    have e4 : es.toList = [] := by
      cases hl : es.toList with
      | nil => rfl
      | cons y ys => rw [hl] at hp; cases hp
    have rd : Reads s.heap (.ref a) (.dict []) (a :: [] ++ []) := .dict e1 e2.1 e3 (by rw [e4]; exact .nil) (by rw [e4]; exact .nil)
    refine repr_of_reads' rd (by simp only [PyData.showable, PyData.showableKv]) (fun _ z => ?_) hgu (by simp only [PyData.depth, PyData.depthKv]; omega) (fun _ _ e => e) (fun h' t tk hk => ⟨.str "{}", H, I.kept hk, ⟨t, ?_⟩, q⟩) ?_
    · have z : a = sysModules := by
        have z : sysModules ∈ [a] := z
        exact (List.mem_singleton.mp z).symm
      rw [z] at hsm
      simp at hsm
    · simp only [PyData.shown, PyData.shownKv]
      rfl
    · simp only [PyData.shown, PyData.shownKv]
      decide +kernel
theorem h_repr (hgu : Y.A.guards = some []) (hun : Y.A.units + 200 < cLine) (hg : Gl Y "repr") (hm : Y.mg "repr" = none) (hv : bootBuiltins "repr" = some (.builtin "repr")) (ha : HE Y ct i a cls d ex f)
    (he : starEach [ex] Y.env = (false, eval ex Y.env) :: starEach [] Y.env := by rfl) (hpl : (backTo pos (starEach [] Y.env)).any (·.1) = false := by rfl) : HE Y ct i a cls d (.Call (.Name "repr" p) [ex] [] pos) (xRepr f) :=
  PEw (pe_callB (cr_reprD2 hgu hun) hg hm hv (pa_cons ha pa_nil he) (by decide) (by decide) he hpl) fun σ H Q q => by
    obtain ⟨hs, x, c, G, e, r, hx, p⟩ := q
    refine ⟨hs, x, c, G, e, r, hx, (Post.bind p).imp fun G1 H1 e1 d1 s1 r1 p1 v hv => ?_⟩
    cases hz : fReprD d1 with
    | none => rw [hz] at p1; exact p1.elim
    | some z =>
      rw [hz] at p1
      cases z with
      | d z =>
        refine g_reprD (X := Y) (ct := ct) c G1 H1 σ e1 [v] [d1] (.d z) Q r1 (.cons (.inl hv) .nil) (by simp [gF1, hz]) fun G' H' w s' r' hw => p1 G' H' s' r' w hw
      | _ => exact p1.elim
end
section
variable {X : Cx} {ct : Nat → Addr} {i j cn : Nat} {a : Addr} {oe : Obj} {cls : Value} {d : Option Addr} {pn : List (Addr × Obj)} {n fl y : Str} {pos p pos' : Pos} {ex : Expr} {f : Exn → EM D}
theorem h_fld (T : XfC X.K (ct cn)) (hno : PySem.W.findIn X.K (.ref (ct cn)) fl = some none) (hf : clsNames cn = [fl]) (hz : Zc cls d oe) (hd : ∃ vs, oe.data = .fields vs) (he : PE (X.suite a ((a, oe) :: pn)) ex (tVar i)) (hb : attributeBase ex fl X.env (eval ex X.env) = eval ex X.env := by rfl) :
    HE (X.suite a ((a, oe) :: pn)) ct i a cls d (.Attribute ex fl pos) (xFld cn) := PEw (pe_xf T hno hz hd he hb) fun σ H Q q => by
  obtain ⟨hs, x, c, G, e, r, hx, p⟩ := q
  unfold xFld at p
  by_cases hc : x.cls = cn
  · rw [if_pos hc] at p
    obtain ⟨h1, h2⟩ := hx
    split at p
    · rename_i y hy
      rcases h2 with h2 | ⟨dd, fs, e1, e2, e3, e4⟩
      · rw [hy] at h2; cases h2
      · rw [hc, hf] at e3
        rw [hy] at e4
        match fs, e3, e4 with
        | [q1], e3, e4 =>
          have hq : q1.1 = fl := by simpa using e3
          cases e4 with
          | cons h3 _ =>
            exact ⟨.ref a, hs, rfl, by rw [h1, hc], dd, [q1], q1.2, e1, r.gh _ _ e2, by rw [← hq]; simp [List.lookup], p G H (Same.refl _) r _ h3⟩
        | [], e3, _ => simp at e3
        | _ :: _ :: _, e3, _ => simp at e3
    · exact p.elim
  · rw [if_neg hc] at p; exact p.elim
theorem hs_set (hN : X.N.Nodup) (hj : X.N[j]? = some y) (hx : Loc X.env.scope y) (hf' : X.fn y = true ∨ X.env.scope.names.lookup y = some .local) (he : HE (X.suite a ((a, oe) :: pn)) ct i a cls d ex f) (hs : swapsWith ex (some (.Name y pos')) pos.line X.env = pure false := by rfl) :
    SH (X.suite a ((a, oe) :: pn)) ct i a cls d (.Assign [.Name y pos'] ex pos) (hSet j f) := PSw (ps_set hN hj hx he hs hf') fun D σ H q => by
  obtain ⟨h1, x, c, G, e, r, hx', p⟩ := q
  refine ⟨h1, x, c, G, e, r, hx', ?_⟩
  have p : PostS ⟨X.K, ct⟩ W0 c G D ((vD (f x) e).sb fun y e1 => putE j y e1) := p
  unfold vD at p
  cases hfe : f x e with
  | stuck => rw [hfe] at p; exact p.elim
  | exc y e1 => rw [hfe] at p; exact fun G' H' cls dc s' r' hx => p G' σ H' cls dc s' r' hx
  | ok z e1 =>
    rw [hfe] at p
    intro G' H' s' r' v hv
    exact putE_ok r' (show RpV ⟨X.K, ct⟩ c G' σ H' e1 v (.d z) from hv) (PostS.mono p s')
theorem hs_ret (he : HE (X.suite a ((a, oe) :: pn)) ct i a cls d ex f) : SH (X.suite a ((a, oe) :: pn)) ct i a cls d (.Return (some ex) pos) (hRet f) := PSw (ps_ret he) fun D σ H q => by
  obtain ⟨h1, x, c, G, e, r, hx', p⟩ := q
  refine ⟨h1, x, c, G, e, r, hx', ?_⟩
  have p : PostS ⟨X.K, ct⟩ W0 c G D ((vD (f x) e).sb fun y e1 => .rt y e1) := p
  unfold vD at p
  cases hfe : f x e with
  | stuck => rw [hfe] at p; exact p.elim
  | exc y e1 => rw [hfe] at p; exact fun G' H' cls dc s' r' hx => p G' σ H' cls dc s' r' hx
  | ok z e1 =>
    rw [hfe] at p
    intro G' H' s' r' v hv
    exact p G' σ H' v s' r' hv
end
@[simp] theorem xE_ev {f : EM D} {x : Exn} {e : Env} : xE f x e = f e := rfl
@[simp] theorem xFld_ev {cn : Nat} {x : Exn} {e : Env} : xFld cn x e = if x.cls = cn then (match x.fs with
  | [d] => .ok d e
  | _ => .stuck) else .stuck := rfl
@[simp] theorem xRepr_ev {f : Exn → EM D} {x : Exn} {e : Env} : xRepr f x e = (f x e).bind fun d e1 => match fReprD d with
  | some (.d z) => .ok z e1
  | _ => .stuck := rfl
@[simp] theorem xEqT_ev {f g : Exn → EM D} {x : Exn} {e : Env} : xEqT f g x e = (f x e).bind fun a e1 => (g x e1).bind fun b e2 => match a, b with
  | .str s, .str t => .ok (.bl (decide (s = t))) e2
  | _, _ => .stuck := rfl
@[simp] theorem hSet_ev {j : Nat} {f : Exn → EM D} {x : Exn} : hSet j f x = sSet j (vD (f x)) := rfl
@[simp] theorem hRet_ev {f : Exn → EM D} {x : Exn} : hRet f x = sRet (vD (f x)) := rfl
end MM
end
section
set_option Elab.async false
set_option linter.all false
set_option autoImplicit false
set_option maxRecDepth 100000
set_option maxHeartbeats 4000000
namespace MM
open PySem PySem.Spec PyProof.Rows L2
/-! ### an own exception class, all that is asked of it -/
structure ExAt (P : Program) (w : World) (K : PySem.W.Frag) (mg : Str → Option Value) (base : Heap) (ct : Nat → Addr) (cn : Nat) (x f : Str) : Prop where
  ex : ∃ (fI : Addr) (fd : FuncData) (n1 n2 : Str), FnOk P w K mg base (L2.CX P w) 1 fI fd [n1, n2] (spX K f) ∧ Binds K fd [n1, n2] [] ∧ PySem.W.findIn K (.ref (ct cn)) "__init__" = some (some (.ref fI)) ∧ PySem.W.typeIn K (.ref fI) = some (.type "function")
  T : OexC K (ct cn)
  X : XfC K (ct cn)
  no : PySem.W.findIn K (.ref (ct cn)) f = some none
  em : PySem.W.exmOne K (.ref (ct cn)) (.ref (ct cn)) = some true
  mg : mg x = some (.ref (ct cn))
  nm : clsNames cn = [f]
section
variable {X : Cx} {ct : Nat → Addr} {W : WX} {pos pos' np p p2 : Pos} {x f n : Str} {ex : Expr} {fe : EM D} {cn i k : Nat} {body : List Stmt} {b₀ : Stmt} {b : SM} {h : Exn → SM}
theorem s_raiseA (E : ExAt X.prog X.w X.K X.mg X.base ct cn x f) (hcalm : X.calm = true) (tk : Takes X W) (hr : Room 2 X.A) (hg : Gl X x) (he : SE X ct W ex fe) (hdb : (x == ("__debug__" : Str)) = false := by decide)
    (hst : starEach [ex] X.env = (false, eval ex X.env) :: starEach [] X.env := by rfl) (hpl : (backTo p2 (starEach [] X.env)).any (·.1) = false := by rfl) :
    SS X ct W (.Raise (some (.Call (.Name x p) [ex] [] p2)) none pos) (sRaise cn fe) := by
  obtain ⟨fI, fd, n1, n2, h1, h2, h3, h4⟩ := E.ex
  exact s_raise hcalm tk rfl E.nm E.T h3 h4 E.no h1 hr h2 hg E.mg he hdb hst hpl
theorem s_tryA (E : ExAt X.prog X.w X.K X.mg X.base ct cn x f) (hs : X.stack = X.env :: X.outer) (hf : X.env.frame = some X.env.locals) (hN : X.N.Nodup) (hi : X.N[i]? = some n) (hln : X.env.kindOf n = some .local) (hg : Gl X x) (tk : Takes X W)
    (hb : ∀ (W' : WX) (pn : List (Addr × Obj)) (xe : Value → Shared → Prop), Takes (X.tr pn xe) W' → SSs (X.tr pn xe) ct W' body b)
    (hh : ∀ (a : Addr) (oe : Obj) (cls : Value) (d : Option Addr) (pn : List (Addr × Obj)), Zc cls d oe → (∃ vs, oe.data = .fields vs) → SH (X.suite a ((a, oe) :: pn)) ct i a cls d b₀ h) (hdb : (x == ("__debug__" : Str)) = false := by decide) :
    SS X ct W (.Try body [.ExceptHandler (some (.Name x np)) (some n) [b₀] pos'] [] [] pos) (sTry cn i b h) := s_try hs hf hN hi hln ⟨hg, hdb, .inl E.mg⟩ tk E.em hb hh
end
end MM
namespace MM
theorem hu200 {k : Nat} {A : PySem.Around} (hr : L2.Room k A) : A.units + 200 < PySem.cLine := by have := hr.un; omega
end MM
end
section
set_option Elab.async false
set_option linter.all false
set_option autoImplicit false
set_option maxRecDepth 100000
set_option maxHeartbeats 4000000
namespace MM
open PySem PySem.Spec PyProof.Rows L2
/-! ### len(set(xs)) of numbers -/
def vLenSet2 (f : EM (List Tk)) : EM EV := fun e => (f e).bind fun ts e1 => match rdKs e1 ts with
  | some [d] => (match intsOf2 d with
    | some ns => if ns.length < 4000 then .ok (.d (.int (usortI ns).length)) e1 else .stuck
    | none => .stuck)
  | _ => .stuck
def tLenSet2 (K : PySem.W.Frag) (ta : L2.TE) : L2.TE := fun σ H Q => ta σ H fun x H1 => ∃ (l : Addr) (ns : List Int), x = V.ref l ∧ (SqL K H1 l (ns.map V.int) ∨ SqT K H1 l (ns.map V.int)) ∧ ns.length < 4000 ∧ Q (.int (usortI ns).length) H1
section
variable {X : Cx} {ct : Nat → Addr} {W : WX} {a : Expr} {ta : L2.TE} {p p2 q pos : Pos} {fa : EM Tk}
theorem pe_lenSet2 (hc : X.calm = true) (hg : Gl X "len") (hm : X.mg "len" = none) (hg2 : Gl X "set") (hm2 : X.mg "set" = none) (ha : PE X a ta)
    (na : starEach [a] X.env = (false, eval a X.env) :: starEach [] X.env := by rfl) : PE X (.Call (.Name "len" p) [.Call (.Name "set" p2) [a] [] q] [] pos) (tLenSet2 X.K ta) := by
  refine ⟨fun pins s σ H Q I h => ?_⟩
  refine PyProof.Rows.Call_ (ld_blt I hg hm (show bootBuiltins "len" = some (.builtin "len") by decide +kernel) ?_)
  refine PyProof.Rows.callWith_builtin1 (PyProof.Rows.args_cons ?_ rfl) rfl rfl
  refine PyProof.Rows.Call_ (ld_blt I hg2 hm2 PyProof.Rows.boot_set ?_)
  refine PyProof.Rows.callWith_type1 (PyProof.Rows.args_cons (thn (ha.run pins s σ H _ I h) fun v s1 ⟨x, H1, I1, r1, q1⟩ => PyProof.Rows.args_nil ?_) na) na rfl
  obtain ⟨l, ns, rfl, hq, h1, q1⟩ := q1
  cases r1
  have hq2 : ∃ its : List Value, Vals (ns.map V.int) its ∧ (s1.heap.IsList l its.toArray ∨ s1.heap.IsTuple l its.toArray) := by
    rcases hq with hq | hq
    · obtain ⟨its, r, pl, hz⟩ := I1.list hq
      exact ⟨its, r, .inl pl.isList⟩
    · obtain ⟨its, r, it, hz⟩ := I1.tuple hq
      exact ⟨its, r, .inr it⟩
  obtain ⟨its, r, pl⟩ := hq2
  refine mir_set_any ns (I1.ok.hd hc) pl (by simpa using r.ints) (by unfold scanBound; omega) fun h' tk c hS hcn hk => ?_
  refine PyProof.Rows.args_nil ?_
  have I2 : Inv X pins σ H1 { s1 with heap := h', toks := tk } := I1.kept hk
  have hS0 := hS
  obtain ⟨o, es, ep, t, ho, hex, hd, g, nd, hmm, hb, hf, hn, hr, hl⟩ := hS0
  have e0 : es.size = (usortI ns).length := by
    have hnd : (es.toList.map keyOf).Nodup := nd
    have hsub : ∀ y ∈ es.toList.map keyOf, y ∈ usortI ns := fun y hy => by
      rw [usortI_mem]
      have := (hmm y).mpr hy
      simpa using this
    have hsub2 : ∀ y ∈ usortI ns, y ∈ es.toList.map keyOf := fun y hy => by
      rw [usortI_mem] at hy
      exact (hmm y).mp (by simpa using hy)
    have hnd2 : (usortI ns).Nodup := (usortI_lt ns).imp fun h => Int.ne_of_lt h
    have l1 : (es.toList.map keyOf).length ≤ (usortI ns).length := nodup_len hnd hsub
    have l2 : (usortI ns).length ≤ (es.toList.map keyOf).length := nodup_len hnd2 hsub2
    have l3 : (es.toList.map keyOf).length = es.size := by rw [List.length_map, Array.length_toList]
    omega
  have hul : (usortI ns).length ≤ ns.length := by
    have hnd2 : (usortI ns).Nodup := (usortI_lt ns).imp fun h => Int.ne_of_lt h
    exact nodup_len hnd2 fun x hx => usortI_mem.mp hx
  exact call_len_set ho hex hd hf (by rw [e0]; omega) ⟨.int (usortI ns).length, H1, I2.tok _, ⟨_, by rw [e0]⟩, q1⟩
theorem v_lenSet2 (hc : X.calm = true) (hg : Gl X "len") (hm : X.mg "len" = none) (hg2 : Gl X "set") (hm2 : X.mg "set" = none) (ha : SK X ct W a fa)
    (na : starEach [a] X.env = (false, eval a X.env) :: starEach [] X.env := by rfl) : SV X ct W (.Call (.Name "len" p) [.Call (.Name "set" p2) [a] [] q] [] pos) (vLenSet2 (aCons fa aNil)) := by
  refine PEw (pe_lenSet2 hc hg hm hg2 hm2 ha na) fun σ H Q q => ?_
  obtain ⟨c, G, e, r, p⟩ := q
  have p : Post ⟨X.K, ct⟩ W c G σ (fun G' H' e' x => ∀ v, RpV ⟨X.K, ct⟩ c G' σ H' e' v x → Q v H') (((fa e).bind fun t e1 => .ok [t] e1).bind fun ts e1 => match rdKs e1 ts with
    | some [d] => (match intsOf2 d with
      | some ns => if ns.length < 4000 then .ok (.d (.int (usortI ns).length)) e1 else .stuck
      | none => .stuck)
    | _ => .stuck) := p
  refine ⟨c, G, e, r, (Post.bind (Post.bind p)).imp fun G1 H1 e1 t s1 r1 p1 v hv => ?_⟩
  have p1 := p1.now r1
  cases hd : rdK e1 t with
  | none =>
    have hz : rdKs e1 [t] = none := by show (match rdK e1 t, rdKs e1 [] with | some d, some ds => some (d :: ds) | _, _ => none) = none; rw [hd]
    rw [hz] at p1; exact p1.elim
  | some d =>
    have hz : rdKs e1 [t] = some [d] := by show (match rdK e1 t, rdKs e1 [] with | some d, some ds => some (d :: ds) | _, _ => none) = some [d]; rw [hd]; rfl
    rw [hz] at p1
    have rb : RB ⟨X.K, ct⟩ G1 H1 v d := .of r1 hv hd
    cases hi : intsOf2 d with
    | none =>
      have p2 : Post ⟨X.K, ct⟩ W c G1 σ (fun G' H' e' x => ∀ v, RpV ⟨X.K, ct⟩ c G' σ H' e' v x → Q v H') (match intsOf2 d with
        | some ns => if ns.length < 4000 then .ok (.d (.int (usortI ns).length)) e1 else .stuck
        | none => .stuck) := p1
      rw [hi] at p2; exact p2.elim
    | some ns =>
      have p2 : Post ⟨X.K, ct⟩ W c G1 σ (fun G' H' e' x => ∀ v, RpV ⟨X.K, ct⟩ c G' σ H' e' v x → Q v H') (match intsOf2 d with
        | some ns => if ns.length < 4000 then .ok (.d (.int (usortI ns).length)) e1 else .stuck
        | none => .stuck) := p1
      rw [hi] at p2
      have p3 : Post ⟨X.K, ct⟩ W c G1 σ (fun G' H' e' x => ∀ v, RpV ⟨X.K, ct⟩ c G' σ H' e' v x → Q v H') (if ns.length < 4000 then .ok (.d (.int (usortI ns).length)) e1 else .stuck) := p2
      split at p3
      · rename_i hl
        obtain ⟨ad, rfl, h1⟩ := RB.ints2 rb r1.gh hi
        exact ⟨ad, ns, rfl, h1, hl, p3 G1 _ (Same.refl _) r1 _ (.int _)⟩
      · exact p3.elim
end
@[simp] theorem vLenSet2_ev {f : EM (List Tk)} {e : Env} : vLenSet2 f e = (f e).bind fun ts e1 => match rdKs e1 ts with
  | some [d] => (match intsOf2 d with
    | some ns => if ns.length < 4000 then .ok (.d (.int (usortI ns).length)) e1 else .stuck
    | none => .stuck)
  | _ => .stuck := rfl
end MM
end
section
set_option Elab.async false
set_option linter.all false
set_option autoImplicit false
set_option maxRecDepth 100000
set_option maxHeartbeats 4000000
namespace MM
open PySem PySem.Spec PyProof.Rows L2
/-! ### texts -/
def strs? : List D → Option (List Str)
  | [] => some []
  | .str x :: ds => (strs? ds).map (x :: ·)
  | _ :: _ => none
theorem strs?_ok : ∀ {ds : List D} {ys : List Str}, strs? ds = some ys → ds = ys.map D.str
  | [], ys, h => by cases h; rfl
  | d :: ds, ys, h => by
    cases d with
    | str x =>
      have h : (strs? ds).map (x :: ·) = some ys := h
      obtain ⟨zs, h1, rfl⟩ := Option.map_eq_some_iff.mp h
      rw [strs?_ok h1]
      rfl
    | _ => cases h
@[simp] theorem strs?_map : ∀ ys : List Str, strs? (ys.map D.str) = some ys
  | [] => rfl
  | y :: ys => by
    show (strs? (ys.map D.str)).map (y :: ·) = _
    rw [strs?_map ys]; rfl
theorem Rps.strs {k : Kc} {G : Hp} : ∀ {vs : List V} {ys : List Str}, Rps k G vs (ys.map D.str) → vs = ys.map V.str
  | [], [], _ => rfl
  | _, [], h => by cases h; rfl
  | _, y :: ys, h => by
    cases h with
    | cons a b => cases a; rw [Rps.strs b]; rfl
theorem Rps.ofStrs {k : Kc} {G : Hp} : ∀ ys : List Str, Rps k G (ys.map V.str) (ys.map D.str)
  | [] => .nil
  | y :: ys => .cons (.str y) (Rps.ofStrs ys)
def strsOf : D → Option (List Str)
  | .lst ds => strs? ds
  | .tup ds => strs? ds
  | _ => none
/-! x.split(y) -/
def vSplit (fa fb : EM Tk) : EM EV := fun e => (fa e).bind fun t e1 => match rdK e1 t with
  | some (.str a) => (fb e1).bind fun u e2 => (match rdK e2 u with
    | some (.str b) => if (b.length == 0) = false ∧ a.length + 2 ≤ LIM then .ok (.m (.lst ((Txt.split a b).map D.str))) e2 else .stuck
    | _ => .stuck)
  | _ => .stuck
@[simp] theorem vSplit_ev {fa fb : EM Tk} {e : Env} : vSplit fa fb e = (fa e).bind fun t e1 => match rdK e1 t with
  | some (.str a) => (fb e1).bind fun u e2 => (match rdK e2 u with
    | some (.str b) => if (b.length == 0) = false ∧ a.length + 2 ≤ LIM then .ok (.m (.lst ((Txt.split a b).map D.str))) e2 else .stuck
    | _ => .stuck)
  | _ => .stuck := rfl
/-! x.join(ys) -/
def cJoin (fa fb : EM Tk) : EM D := fun e => (fa e).bind fun t e1 => match rdK e1 t with
  | some (.str a) => (fb e1).bind fun u e2 => (match rdK e2 u with
    | some d => (match strsOf d with
      | some ys => if (ys.map (·.length)).sum + ys.length * a.length ≤ 16777216 then .ok (.str (Txt.join a ys)) e2 else .stuck
      | none => .stuck)
    | _ => .stuck)
  | _ => .stuck
@[simp] theorem cJoin_ev {fa fb : EM Tk} {e : Env} : cJoin fa fb e = (fa e).bind fun t e1 => match rdK e1 t with
  | some (.str a) => (fb e1).bind fun u e2 => (match rdK e2 u with
    | some d => (match strsOf d with
      | some ys => if (ys.map (·.length)).sum + ys.length * a.length ≤ 16777216 then .ok (.str (Txt.join a ys)) e2 else .stuck
      | none => .stuck)
    | _ => .stuck)
  | _ => .stuck := rfl
def gIxT : D → D → Option D
  | .str z, .int i => if z.length ≤ LIM then (atI z.cps.toList i).map fun c => .str ⟨#[c]⟩ else none
  | _, _ => none
def vSlT (f : EM Tk) (fl fh : EO) : EM EV := fun e => (f e).bind fun t e1 => (fl e1).bind fun lo e2 => (fh e2).bind fun hi e3 => match rdK e3 t with
  | some (.str z) => if z.length ≤ LIM then .ok (.d (.str (cutS z lo hi))) e3 else .stuck
  | _ => .stuck
@[simp] theorem vSlT_ev {f : EM Tk} {fl fh : EO} {e : Env} : vSlT f fl fh e = (f e).bind fun t e1 => (fl e1).bind fun lo e2 => (fh e2).bind fun hi e3 => match rdK e3 t with
  | some (.str z) => if z.length ≤ LIM then .ok (.d (.str (cutS z lo hi))) e3 else .stuck
  | _ => .stuck := rfl
def fIntT : D → Option EV
  | .str a => match PySem.intText? a with
    | some n => if a.length ≤ 640 then some (.d (.int n)) else none
    | none => none
  | _ => none
def fStrI : D → Option EV
  | .int i => if i.natAbs.log2 < 1920 then some (.d (.str (toString i))) else none
  | _ => none
def signsD (z : Str) : List D := z.cps.toList.map fun c => D.str ⟨#[c]⟩
def iTxt (f : EM D) : EM (List D) := fun e => (f e).bind fun d e1 => match d with
  | .str z => .ok (signsD z) e1
  | _ => .stuck
@[simp] theorem iTxt_ev {f : EM D} {e : Env} : iTxt f e = (f e).bind fun d e1 => match d with
  | .str z => .ok (signsD z) e1
  | _ => .stuck := rfl
def gInT : D → D → Option Bool
  | .str y, .str z => match y.cps.toList with
    | [c] => some (decide (c ∈ z.cps.toList))
    | _ => none
  | _, _ => none
section
variable {X : Cx} {ct : Nat → Addr} {W : WX} {pos apos p p2 : Pos} {a b tg : Expr} {fa fb : EM Tk} {fe : EM D} {lo hi : Option Expr} {fl fh : EO}
theorem v_split (ha : SK X ct W a fa) (hb : SK X ct W b fb) (hs : starEach [b] X.env = [(false, eval b X.env)] := by rfl) (hbase : attributeBase a "split" X.env (eval a X.env) = eval a X.env := by rfl) (hline : (apos.endLine == pos.line) = true := by rfl) :
    SV X ct W (.Call (.Attribute a "split" apos) [b] [] pos) (vSplit fa fb) := PEw (pe_split ha hb hs hbase hline) fun σ H Q q => by
  obtain ⟨c, G, e, r, p⟩ := q
  refine ⟨c, G, e, r, (Post.bind p).imp fun G1 H1 e1 t s1 r1 p1 x hx => ?_⟩
  cases hd : rdK e1 t with
  | none => rw [hd] at p1; exact p1.elim
  | some d =>
    rw [hd] at p1
    cases d with
    | str z =>
      have rb : RB ⟨X.K, ct⟩ G1 H1 x (.str z) := .of r1 hx hd
      have ex := rb.str
      subst ex
      refine ⟨⟨z, rfl⟩, c, G1, e1, r1, (Post.bind p1).imp fun G2 H2 e2 u s2 r2 p2 y hy => ?_⟩
      cases hd2 : rdK e2 u with
      | none => rw [hd2] at p2; exact p2.elim
      | some d2 =>
        rw [hd2] at p2
        cases d2 with
        | str w =>
          have rb2 : RB ⟨X.K, ct⟩ G2 H2 y (.str w) := .of r2 hy hd2
          rw [rb2.str]
          have p3 : Post ⟨X.K, ct⟩ W c G2 σ (fun G' H' e' x => ∀ v, RpV ⟨X.K, ct⟩ c G' σ H' e' v x → Q v H') (if (w.length == 0) = false ∧ z.length + 2 ≤ LIM then .ok (.m (.lst ((Txt.split z w).map D.str))) e2 else .stuck) := p2
          split at p3
          · rename_i hc
            refine ⟨z, w, rfl, rfl, hc.1, lim_le hc.2, fun q hq => ?_⟩
            obtain ⟨r3, r4, r5⟩ := r2.newM (x := .lst ((Txt.split z w).map D.str)) hq ⟨_, rfl, Rps.ofStrs _⟩
            exact p3 G2 _ (Same.refl _) r3 _ ⟨q, rfl, r4, r5⟩
          · exact p3.elim
        | _ => exact p2.elim
    | _ => exact p1.elim
theorem RB.strsL {k : Kc} {G H : Hp} {v : V} {d : D} {ys : List Str} (h : RB k G H v d) (g : Same G H) (e : strsOf d = some ys) : ∃ p, v = .ref p ∧ (SqL k.K H p (ys.map V.str) ∨ SqT k.K H p (ys.map V.str)) := by
  cases d with
  | lst ds =>
    have e := strs?_ok (show strs? ds = some ys from e)
    subst e
    obtain ⟨p, vs, rfl, h1, h2⟩ := h.lst g
    rw [h2.strs] at h1
    exact ⟨p, rfl, .inl (SqL.of h1)⟩
  | tup ds =>
    have e := strs?_ok (show strs? ds = some ys from e)
    subst e
    obtain ⟨p, vs, rfl, h1, h2, _⟩ := h.tup g
    rw [h2.strs] at h1
    exact ⟨p, rfl, .inr h1⟩
  | _ => cases e
theorem e_join (ha : SK X ct W a fa) (hb : SK X ct W b fb) (hs : starEach [b] X.env = [(false, eval b X.env)] := by rfl) (hbase : attributeBase a "join" X.env (eval a X.env) = eval a X.env := by rfl) (hline : (apos.endLine == pos.line) = true := by rfl) :
    SE X ct W (.Call (.Attribute a "join" apos) [b] [] pos) (cJoin fa fb) := PEw (pe_join ha hb hs hbase hline) fun σ H Q q => by
  obtain ⟨c, G, e, r, p⟩ := q
  refine ⟨c, G, e, r, (Post.bind p).imp fun G1 H1 e1 t s1 r1 p1 x hx => ?_⟩
  cases hd : rdK e1 t with
  | none => rw [hd] at p1; exact p1.elim
  | some d =>
    rw [hd] at p1
    cases d with
    | str z =>
      have rb : RB ⟨X.K, ct⟩ G1 H1 x (.str z) := .of r1 hx hd
      have ex := rb.str
      subst ex
      refine ⟨⟨z, rfl⟩, c, G1, e1, r1, (Post.bind p1).imp fun G2 H2 e2 u s2 r2 p2 y hy => ?_⟩
      cases hd2 : rdK e2 u with
      | none => rw [hd2] at p2; exact p2.elim
      | some d2 =>
        rw [hd2] at p2
        have rb2 : RB ⟨X.K, ct⟩ G2 H2 y d2 := .of r2 hy hd2
        cases hy2 : strsOf d2 with
        | none =>
          have p3 : Post ⟨X.K, ct⟩ W c G2 σ (fun G' H' e' x => ∀ v, Rp ⟨X.K, ct⟩ G' v x → Q v H') (match strsOf d2 with
            | some ys => if (ys.map (·.length)).sum + ys.length * z.length ≤ 16777216 then .ok (.str (Txt.join z ys)) e2 else .stuck
            | none => .stuck) := p2
          rw [hy2] at p3; exact p3.elim
        | some ys =>
          have p3 : Post ⟨X.K, ct⟩ W c G2 σ (fun G' H' e' x => ∀ v, Rp ⟨X.K, ct⟩ G' v x → Q v H') (match strsOf d2 with
            | some ys => if (ys.map (·.length)).sum + ys.length * z.length ≤ 16777216 then .ok (.str (Txt.join z ys)) e2 else .stuck
            | none => .stuck) := p2
          rw [hy2] at p3
          have p4 : Post ⟨X.K, ct⟩ W c G2 σ (fun G' H' e' x => ∀ v, Rp ⟨X.K, ct⟩ G' v x → Q v H') (if (ys.map (·.length)).sum + ys.length * z.length ≤ 16777216 then .ok (.str (Txt.join z ys)) e2 else .stuck) := p3
          obtain ⟨q1, rfl, hq⟩ := rb2.strsL r2.gh hy2
          split at p4
          · rename_i hc
            exact ⟨z, q1, ys, rfl, rfl, hq, hc, p4 G2 _ (Same.refl _) r2 _ (.str _)⟩
          · exact p4.elim
    | _ => exact p1.elim
theorem e_ixT (ha : SK X ct W a fa) (hb : SK X ct W b fb) (hs : PlainIx b := by exact fun _ _ => rfl) : SE X ct W (.Subscript a b pos) (cBin gIxT fa fb) := PEw (pe_ix ix_str ha hb hs) fun σ H Q q => by
  obtain ⟨c0, G, e, r, p⟩ := q
  refine two_d r p fun G2 H2 e2 x y d d' z s r2 hx hy hz q2 => ?_
  unfold gIxT at hz
  split at hz
  · rename_i w i
    split at hz
    · rename_i hl
      obtain ⟨n, h3, h4⟩ := Option.map_eq_some_iff.mp hz
      subst h4
      rw [hx.str, hy.int]
      exact ⟨w, i, n, rfl, rfl, lim_le hl, h3, q2 _ (.str _)⟩
    · cases hz
  · cases hz
theorem v_sliceT (ha : SK X ct W a fa) (hl : SO X ct W lo fl) (hh : SO X ct W hi fh) : SV X ct W (.Subscript a (.Slice lo hi none p2) pos) (vSlT fa fl fh) := PEw (pe_slice sl_str ha hl hh) fun σ H Q q => by
  obtain ⟨c, G, e, r, p⟩ := q
  refine ⟨c, G, e, r, (Post.bind p).imp fun G1 H1 e1 t s1 r1 p1 x hx => ⟨c, G1, e1, r1, (Post.bind p1).imp fun G2 H2 e2 l s2 r2 p2 => ⟨c, G2, e2, r2, (Post.bind p2).imp fun G3 H3 e3 h s3 r3 p3 => ?_⟩⟩⟩
  cases hd : rdK e3 t with
  | none => rw [hd] at p3; exact p3.elim
  | some d =>
    rw [hd] at p3
    cases d with
    | str z =>
      have hr := RB.of r3 ((hx.mono s2).mono s3) hd
      rw [hr.str]
      have p4 : Post ⟨X.K, ct⟩ W c G3 σ (fun G' H' e' x => ∀ v, RpV ⟨X.K, ct⟩ c G' σ H' e' v x → Q v H') (if z.length ≤ LIM then .ok (.d (.str (cutS z l h))) e3 else .stuck) := p3
      split at p4
      · rename_i hc
        exact ⟨z, rfl, lim_le hc, p4 G3 _ (Same.refl _) r3 _ (.str _)⟩
      · exact p4.elim
    | _ => exact p3.elim
theorem g_intT : CallG ⟨X.K, ct⟩ (fun xs H Q => ∃ a n, xs = [.str a] ∧ PySem.intText? a = some n ∧ a.length ≤ 640 ∧ Q (.int n) H) (gF1 fIntT) := callG1 fun c G H σ e v d z Q re rb hz q => by
  cases d with
  | str x =>
    have hz : (match PySem.intText? x with
      | some n => if x.length ≤ 640 then some (EV.d (.int n)) else none
      | none => none) = some z := hz
    cases hi : PySem.intText? x with
    | none => rw [hi] at hz; cases hz
    | some n =>
      rw [hi] at hz
      have hz : (if x.length ≤ 640 then some (EV.d (.int n)) else none) = some z := hz
      split at hz
      · rename_i hl
        cases hz
        rw [rb.str]
        exact ⟨x, n, rfl, hi, hl, q G H _ (Same.refl _) re (.int _)⟩
      · cases hz
  | _ => cases hz
theorem g_strI : CallG ⟨X.K, ct⟩ (fun xs H Q => ∃ i, xs = [.int i] ∧ i.natAbs.log2 < 1920 ∧ Q (.str (toString i)) H) (gF1 fStrI) := callG1 fun c G H σ e v d z Q re rb hz q => by
  cases d with
  | int x =>
    have hz : (if x.natAbs.log2 < 1920 then some (EV.d (.str (toString x))) else none) = some z := hz
    split at hz
    · rename_i hl
      cases hz
      rw [rb.int]
      exact ⟨x, rfl, hl, q G H _ (Same.refl _) re (.str _)⟩
    · cases hz
  | _ => cases hz
theorem x_inT : CmpX X ct .In gInT := ⟨_, op_in_sign, fun G H x y a b z Q g ra rb hz q => by
  unfold gInT at hz
  split at hz
  · rename_i u w
    split at hz
    · rename_i c hc
      cases hz
      have hu : u = ⟨#[c]⟩ := Str.ext' (Array.toList_inj.mp hc)
      subst hu
      rw [ra.str, rb.str]
      exact ⟨c, w, rfl, rfl, q⟩
    · cases hz
  · cases hz⟩
end
end MM
end
section
set_option Elab.async false
set_option linter.all false
set_option autoImplicit false
set_option maxRecDepth 100000
set_option maxHeartbeats 4000000
namespace MM
open PySem PySem.Spec PyProof.Rows L2
/-! ### texts so many times, sign by sign -/
def gMulS : D → D → Option EV
  | .str z, .int n => if 0 ≤ n ∧ n ≤ 1000 ∧ z.length ≤ 10000 then some (.d (.str (Txt.mul z n))) else none
  | _, _ => none
@[simp] theorem gMulS_ev {z : Str} {n : Int} : gMulS (.str z) (.int n) = if 0 ≤ n ∧ n ≤ 1000 ∧ z.length ≤ 10000 then some (.d (.str (Txt.mul z n))) else none := rfl
theorem mulOk {z : Str} {n : Int} (h : 0 ≤ n ∧ n ≤ 1000 ∧ z.length ≤ 10000) : MulOk z n := by
  refine ⟨?_, fun h1 _ => ?_, fun _ _ => ?_⟩
  · simp only [Bool.or_eq_false_iff, decide_eq_false_iff_not]
    omega
  · have h2 : (2 ^ 63 - 1 : Int) / 1000 ≤ (2 ^ 63 - 1) / n := by
      refine Int.le_ediv_of_mul_le (by omega) ?_
      have : (2 ^ 63 - 1 : Int) / 1000 * n ≤ (2 ^ 63 - 1 : Int) / 1000 * 1000 := Int.mul_le_mul_of_nonneg_left h.2.1 (by decide)
      have h3 : (2 ^ 63 - 1 : Int) / 1000 * 1000 ≤ 2 ^ 63 - 1 := by decide
      omega
    have h3 : (10000 : Int) ≤ (2 ^ 63 - 1) / 1000 := by decide
    omega
  · have : z.length * n.toNat ≤ 10000 * 1000 := Nat.mul_le_mul h.2.2 (by omega)
    unfold Builtin.Str.tooLong
    exact decide_eq_false (by
      have h4 : (10000 * 1000 : Nat) ≤ sizeLine := by decide +kernel
      omega)
def rMulS : R2 := fun x y H Q => ∃ (z : Str) (n : Int), x = .str z ∧ y = .int n ∧ MulOk z n ∧ Q (.str (Txt.mul z n)) H
theorem op_mulS {X : Cx} : OpR X (binaryOp .Mult) rMulS := by
  intro pins s σ H x y v u Q I rx ry h
  obtain ⟨z, n, rfl, rfl, hk, q⟩ := h
  obtain ⟨t, rfl⟩ := rx
  obtain ⟨t', rfl⟩ := ry
  exact SB.mul hk fun t2 k => ⟨.str _, H, I.tok _, ⟨_, rfl⟩, q⟩
theorem opG_mulS {k : Kc} : OpG k rMulS gMulS := fun c G H σ e x y d d' z Q re ra rb hz q => by
  unfold gMulS at hz
  split at hz
  · rename_i w n
    split at hz
    · rename_i hc
      cases hz
      exact ⟨w, n, ra.str, rb.int, mulOk hc, q G H _ (Same.refl _) re (.str _)⟩
    · cases hz
  · cases hz
theorem itOk_txt {k : Kc} {G : Hp} {z : Str} : ItOk k G (Its z) (signsD z) := by
  have l : (signsD z).length = z.cps.size := by unfold signsD; simp
  refine ⟨fun i H hi s => by rw [l] at hi; exact hi, fun H s => by rw [l]; exact Nat.le_refl _, fun i H x H' hi s y => ?_⟩
  obtain ⟨e1, c, h1, rfl⟩ := y
  refine ⟨.str ⟨#[c]⟩, ?_, .inl ⟨e1, .str _⟩⟩
  unfold signsD
  rw [List.getElem?_map, Array.getElem?_toList, h1]
  rfl
section
variable {X : Cx} {ct : Nat → Addr} {W : WX} {pos : Pos} {a b tg : Expr} {fa fb : EM Tk} {fe : EM D}
theorem v_mulS (ha : SK X ct W a fa) (hb : SK X ct W b fb) : SV X ct W (.BinOp a .Mult b pos) (vBin gMulS fa fb) := v_bin op_mulS opG_mulS ha hb
theorem i_txt (h : SE X ct W a fe) : SI X ct W tg a (iTxt fe) := PIw (pi_str h) fun σ H R q => by
  obtain ⟨c, G, e, r, p⟩ := q
  refine ⟨c, G, e, r, (Post.bind p).imp fun G1 H1 e1 d s1 r1 p1 v hv => ?_⟩
  cases d with
  | str z =>
    cases hv
    exact ⟨z, rfl, p1.now r1 _ itOk_txt⟩
  | _ => exact p1.elim
end
end MM
namespace MM
open PySem PySem.Spec PyProof.Rows L2
section
variable {X : Cx} {ct : Nat → Addr} {W : WX} {x : Str} {pos : Pos}
theorem e_gstr {z : Str} {t : Tok} (hg : Gl X x) (hm : X.mg x = some (.str z t)) (hd : (x == ("__debug__" : Str)) = false := by decide) : SE X ct W (.Name x pos) (cC (.str z)) := e_const (v := V.str z) (pe_glob hg hm ⟨t, rfl⟩ hd) fun _ => .str z
end
theorem okD_str {x : Str} (h : PyData.strOk x = true) : okD (.str x) = true := by simp [okD, D.flat, D.py, SeqAt.shaped, PyData.canLay0, PyData.depth, h]
theorem okD_non : okD .non = true := by simp [okD, D.flat, D.py, SeqAt.shaped, PyData.canLay0, PyData.depth]
theorem gEq_str {a b : Str} (ha : PyData.strOk a = true) (hb : PyData.strOk b = true) : gEq (.str a) (.str b) = some (decide (a = b)) := by
  unfold gEq
  rw [if_pos ⟨okD_str ha, okD_str hb⟩]
  simp only [D.py, PyData.eqv]
  by_cases z : a = b <;> simp [z]
theorem pys_strs : ∀ ys : List Str, D.pys (ys.map D.str) = ys.map PyData.str
  | [] => by simp [D.pys]
  | y :: ys => by rw [List.map_cons, D.pys, pys_strs ys, D.py]; rfl
theorem flats_strs : ∀ ys : List Str, D.flats (ys.map D.str) = true
  | [] => by simp [D.flats]
  | y :: ys => by rw [List.map_cons, D.flats, flats_strs ys]; simp [D.flat]
theorem eqv_strs : ∀ as bs : List Str, PyData.eqvAll (as.map PyData.str) (bs.map PyData.str) = decide (as = bs)
  | [], [] => by simp [PyData.eqvAll]
  | [], b :: bs => by simp [PyData.eqvAll]
  | a :: as, [] => by simp [PyData.eqvAll]
  | a :: as, b :: bs => by
    simp only [List.map_cons, PyData.eqvAll, PyData.eqv, eqv_strs as bs]
    by_cases z : a = b <;> simp [z]
theorem lay_strs : ∀ {ys : List Str}, (∀ y ∈ ys, PyData.strOk y = true) → PyData.canLayAll0 (ys.map PyData.str) = true ∧ PyData.depthAll (ys.map PyData.str) = 0
  | [], _ => by simp [PyData.canLayAll0, PyData.depthAll]
  | y :: ys, h => by
    obtain ⟨h1, h2⟩ := lay_strs (ys := ys) fun z hz => h z (List.mem_cons_of_mem _ hz)
    simp [PyData.canLayAll0, PyData.canLay0, PyData.depthAll, PyData.depth, h1, h2, h y (List.mem_cons_self ..)]
theorem okD_strs {ys : List Str} (h : ∀ y ∈ ys, PyData.strOk y = true) : okD (.lst (ys.map D.str)) = true := by
  obtain ⟨h1, h2⟩ := lay_strs h
  simp [okD, D.flat, D.py, SeqAt.shaped, PyData.canLay0, PyData.depth, flats_strs, pys_strs, h1, h2]
theorem gEq_strs {as bs : List Str} (ha : ∀ y ∈ as, PyData.strOk y = true) (hb : ∀ y ∈ bs, PyData.strOk y = true) : gEq (.lst (as.map D.str)) (.lst (bs.map D.str)) = some (decide (as = bs)) := by
  unfold gEq
  rw [if_pos ⟨okD_strs ha, okD_strs hb⟩]
  simp only [D.py, PyData.eqv, pys_strs, eqv_strs]
end MM
end
section
set_option Elab.async false
set_option linter.all false
set_option maxRecDepth 100000
set_option maxHeartbeats 0
set_option autoImplicit false
namespace K17
open PySem PySem.Spec L2 MM
noncomputable def fb__law_pot : SM := (sSeq (sSet 2 (vD (cIf (tCmpF gLt (kN 1) (kE (cF (vCallB (gF1 fLen) (aCons (kN 0) aNil))))) (cF (vCallB (gF1 fAbs) (aCons (kE (cBin gIxA (kN 0) (kN 1))) aNil))) (cF (vBin gAdd (kE (cF (vBin gMul (kE (cC (.int 1019))) (kN 1)))) (kE (cC (.int 641))))))))
    (sSeq (sSet 3 (vBin gAdd (kE (cF (vBin gMod (kE (cF (vCallB (gF1 fInt) (aCons (kE (cF (vBin gAdd (kE (cF (vBin gAdd (kE (cF (vBin gMul (kE (cF (vBin gMod (kE (cF (vCallB (gF1 fInt) (aCons (kN 2) aNil)))) (kE (cC (.int 2147483549)))))) (kE (cC (.int 41189)))))) (kE (cF (vBin gMul (kE (cC (.int 1811))) (kN 1))))))) (kE (cC (.int 109)))))) aNil)))) (kE (cC (.int 2147483563)))))) (kE (cC (.int 1)))))
    (sRet (vLst (aCons (kE (cF (vCallB (gF2 fMax2) (aCons (kE (cC (.int 0))) (aCons (kE (cF (vBin gSub (kN 2) (kE (cF (vBin gPow (kE (cC (.int 10))) (kE (cC (.int 18))))))))) aNil))))) (aCons (kE (cN 3)) aNil))))))
noncomputable def F__law_pot : List EV → Out := runD 4 2 fb__law_pot
noncomputable def fb__law_draw : SM := (sSeq (sIf (tCmpF gGt (kE (cBin gIxA (kN 0) (kE (cC (.int 0))))) (kE (cC (.int 0)))) (sSeq (sAsgT (cF (vCallB (gF2 fDivmod) (aCons (kE (cBin gIxA (kN 0) (kE (cC (.int 0))))) (aCons (kN 1) aNil)))) (gTupF 2 (gCon (gStore 0 (kE (cC (.int 0)))) (gCon (gSet 2) gNone))))
    (sRetV 2)) sNext)
    (sSeq (sAsgT (cF (vBin gMod (kE (cF (vCallB (gF1 fInt) (aCons (kE (cF (vBin gMul (kE (cBin gIxA (kN 0) (kE (cC (.int 1))))) (kE (cC (.int 16807)))))) aNil)))) (kE (cC (.int 2147483647))))) (gStore 0 (kE (cC (.int 1)))))
    (sRet (vBin gMod (kE (cF (vCallB (gF1 fInt) (aCons (kE (cF (vBin gDiv (kE (cBin gIxA (kN 0) (kE (cC (.int 1))))) (kE (cC (.int 13)))))) aNil)))) (kN 1)))))
noncomputable def F__law_draw : List EV → Out := runD 3 2 fb__law_draw
noncomputable def fb__law_pick : SM := (sRet (vD (cBin gIxA (kN 1) (kE (cF (vCall F__law_draw (aCons (kN 0) (aCons (kE (cF (vCallB (gF1 fLen) (aCons (kN 1) aNil)))) aNil))))))))
noncomputable def F__law_pick : List EV → Out := runD 2 2 fb__law_pick
noncomputable def fb__law_bent : SM := (sSeq (sPar2 3 4 (vCall F__law_draw (aCons (kN 0) (aCons (kE (cC (.int 6))) aNil))) (vCall F__law_draw (aCons (kN 0) (aCons (kE (cF (vBin gAdd (kE (cF (vCallB (gF1 fLen) (aCons (kN 1) aNil)))) (kE (cC (.int 1)))))) aNil))))
    (sSeq (sSet 2 (vCall F__law_pick (aCons (kN 0) (aCons (kE (cF (vLst (aCons (kE (cC (.str "0"))) (aCons (kE (cC (.str "1"))) (aCons (kE (cC (.str "3"))) (aCons (kE (cC (.str "-"))) (aCons (kE (cC (.str " "))) (aCons (kE (cC (.str "\n"))) (aCons (kE (cC (.str "00"))) (aCons (kE (cC (.str "next"))) (aCons (kE (cC (.str "x"))) (aCons (kE (cC (.str "next 0\n"))) aNil))))))))))))) aNil))))
    (sSeq (sIf (tCmpF gLt (kN 3) (kE (cC (.int 2)))) (sRet (vBin gAdd (kE (cF (vSlT (kN 1) oNone (oSome (kN 4))))) (kE (cF (vSlT (kN 1) (oSome (kE (cF (vBin gAdd (kN 4) (kE (cC (.int 1))))))) oNone))))) sNext)
    (sSeq (sIf (tCmpF gLt (kN 3) (kE (cC (.int 4)))) (sRet (vBin gAdd (kE (cF (vBin gAdd (kE (cF (vSlT (kN 1) oNone (oSome (kN 4))))) (kN 2)))) (kE (cF (vSlT (kN 1) (oSome (kE (cF (vBin gSub (kE (cF (vBin gAdd (kN 4) (kN 3)))) (kE (cC (.int 2))))))) oNone))))) sNext)
    (sRet (vD (cIf (tCmpF gEq (kN 3) (kE (cC (.int 4)))) (cF (vBin gAdd (kN 1) (kN 2))) (cF (vBin gAdd (kN 2) (kN 1))))))))))
noncomputable def F__law_bent : List EV → Out := runD 5 2 fb__law_bent
noncomputable def lb__law_tracks_1 : SM := (sIf (tAndF (tCmpF gGt (kN 1) (kE (cC (.int 0)))) (tCmpF gEq (kE (cF (vCall F__law_draw (aCons (kN 0) (aCons (kE (cC (.int 3))) aNil))))) (kE (cC (.int 0))))) (sDrop (vD (cMut "list" 3 gAppend (aCons (kE (cF (vBin gSub (kE (cUn gNeg (kE (cC (.int 1))))) (kE (cF (vCall F__law_draw (aCons (kN 0) (aCons (kN 1) aNil)))))))) aNil)))) (sDrop (vD (cMut "list" 3 gAppend (aCons (kE (cF (vCall F__law_draw (aCons (kN 0) (aCons (kN 2) aNil))))) aNil)))))
noncomputable def fb__law_tracks : SM := (sSeq (sSet 3 (vLst aNil))
    (sSeq (sFor (iRng1 (aCons (kE (cF (vBin gAdd (kE (cC (.int 1))) (kE (cF (vCall F__law_draw (aCons (kN 0) (aCons (kE (cC (.int 4))) aNil)))))))) aNil)) (gSet 4) lb__law_tracks_1)
    (sRetV 3)))
noncomputable def F__law_tracks : List EV → Out := runD 5 3 fb__law_tracks
noncomputable def lb__law_net_1 : SM := (sDrop (vD (cMut "list" 4 gAppend (aCons (kE (cF (vCall F__law_tracks (aCons (kN 0) (aCons (kE (cN 2)) (aCons (kE (cN 3)) aNil)))))) aNil))))
noncomputable def fb__law_net : SM := (sSeq (sPar3 2 3 4 (vCall F__law_draw (aCons (kN 0) (aCons (kE (cC (.int 4))) aNil))) (vBin gAdd (kE (cC (.int 1))) (kE (cF (vCall F__law_draw (aCons (kN 0) (aCons (kE (cC (.int 4))) aNil)))))) (vLst aNil))
    (sSeq (sFor (iRng1 (aCons (kN 3) aNil)) (gSet 1) lb__law_net_1)
    (sRet (vD (cTup (aCons (kE (cN 2)) (aCons (kE (cN 4)) aNil)))))))
noncomputable def F__law_net : List EV → Out := runD 5 1 fb__law_net
noncomputable def ce__law_is_figures_1 : EM D := (cB (tCmpF gInT (kN 1) (kE (cC (.str "0123456789")))))
noncomputable def fb__law_is_figures : SM := (sSeq (sIf (tOrF (tCmpF gEqT (kN 0) (kE (cC (.str "")))) (tAndF (tCmpF gGt (kE (cF (vCallB (gF1 fLen) (aCons (kN 0) aNil)))) (kE (cC (.int 1)))) (tCmpF gEqT (kE (cBin gIxT (kN 0) (kE (cC (.int 0))))) (kE (cC (.str "0")))))) (sRet (vD (cC (.bl false)))) sNext)
    (sRet (vCallB (gF1 fAll) (aCons (kE (cF (lcF [1] (iTxt (cN 0)) (gSet 1) tYesF ce__law_is_figures_1))) aNil))))
noncomputable def F__law_is_figures : List EV → Out := runD 2 1 fb__law_is_figures
noncomputable def lb__law_read_1 : SM := (sIf (tOrF (tNotF (tVal (cF (vCall F__law_is_figures (aCons (kE (cN 4)) aNil))))) (tCmpF gGe (kE (cF (vCallB (gF1 fIntT) (aCons (kN 4) aNil)))) (kE (cF (vCallB (gF1 fLen) (aCons (kN 5) aNil)))))) (sRet (vD (cC (.int 0)))) sNext)
noncomputable def ce__law_read_1 : EM D := (cF (vCallB (gF1 fIntT) (aCons (kN 4) aNil)))
noncomputable def fb__law_read : SM := (sSeq (sSet 2 (vSplit (kN 1) (kE (cC (.str "\n")))))
    (sSeq (sSet 3 (vSplit (kE (cBin gIxA (kN 2) (kE (cC (.int 0))))) (kE (cC (.str " ")))))
    (sSeq (sIf (tOrF (tCmpF gEq (kE (cF (vCallB (gF1 fLen) (aCons (kN 2) aNil)))) (kE (cC (.int 1)))) (tOrF (tCmpF gNeT (kE (cBin gIxA (kN 3) (kE (cC (.int 0))))) (kE (cC (.str "next")))) (tCmpF gNe (kE (cF (vCallB (gF1 fLen) (aCons (kN 3) aNil)))) (kE (cF (vBin gAdd (kE (cF (vCallB (gF1 fLen) (aCons (kN 0) aNil)))) (kE (cC (.int 1))))))))) (sRet (vD (cC (.int 0)))) sNext)
    (sSeq (sFor (iZip2 (aCons (kE (cF (vSl (kN 3) (oSome (kE (cC (.int 1)))) oNone))) (aCons (kE (cN 0)) aNil))) (gUnp [4, 5]) lb__law_read_1)
    (sRet (vD (cIf (tCmpF gNe (kE (cF (vSl (kN 2) (oSome (kE (cC (.int 1)))) oNone))) (kE (cF (vLst (aCons (kE (cC (.str ""))) aNil))))) (cC (.int 1)) (cF (lcF [4] (iSeq (cF (vSl (kN 3) (oSome (kE (cC (.int 1)))) oNone))) (gSet 4) tYesF ce__law_read_1)))))))))
noncomputable def F__law_read : List EV → Out := runD 6 2 fb__law_read
noncomputable def ce_figures_read_1 : EM D := (cB (tCmpF gInT (kN 1) (kE (cC (.str "0123456789")))))
noncomputable def fb_figures_read : SM := (sSeq (sIf (tOrF (tNotF (tChain gLe gLe (kE (cC (.int 1))) (kE (cF (vCallB (gF1 fLen) (aCons (kN 0) aNil)))) (kE (cC (.int 2))))) (tNotF (tVal (cF (vCallB (gF1 fAll) (aCons (kE (cF (lcF [1] (iTxt (cN 0)) (gSet 1) tYesF ce_figures_read_1))) aNil)))))) (sRet (vD (cC .non))) sNext)
    (sRet (vD (cIf (tOrF (tCmpF gEqT (kN 0) (kE (cC (.str "0")))) (tCmpF gNeT (kE (cBin gIxT (kN 0) (kE (cC (.int 0))))) (kE (cC (.str "0"))))) (cF (vCallB (gF1 fIntT) (aCons (kN 0) aNil))) (cC .non)))))
noncomputable def F_figures_read : List EV → Out := runD 2 1 fb_figures_read
noncomputable def ce_setting_read_1 : EM D := (cF (vCall F_figures_read (aCons (kE (cN 4)) aNil)))
noncomputable def ce_setting_read_2 : EM D := (cB (tCmpF gIsN (kN 5) (kE (cC .non))))
noncomputable def ce_setting_read_3 : EM D := (cB (tCmpF gLt (kN 5) (kE (cF (vCallB (gF1 fLen) (aCons (kN 6) aNil))))))
noncomputable def fb_setting_read : SM := (sSeq (sSet 2 (vSplit (kN 1) (kE (cC (.str " ")))))
    (sSeq (sIf (tOrF (tCmpF gNeT (kE (cBin gIxA (kN 2) (kE (cC (.int 0))))) (kE (cC (.str "next")))) (tCmpF gNe (kE (cF (vCallB (gF1 fLen) (aCons (kN 2) aNil)))) (kE (cF (vBin gAdd (kE (cC (.int 1))) (kE (cF (vCallB (gF1 fLen) (aCons (kE (cUn (gFld 0 1) (kN 0))) aNil))))))))) (sRet (vD (cC .non))) sNext)
    (sSeq (sSet 3 (lcF [4] (iSeq (cF (vSl (kN 2) (oSome (kE (cC (.int 1)))) oNone))) (gSet 4) tYesF ce_setting_read_1))
    (sSeq (sIf (tVal (cF (vCallB (gF1 fAny) (aCons (kE (cF (lcF [5] (iSeq (cN 3)) (gSet 5) tYesF ce_setting_read_2))) aNil)))) (sRet (vD (cC .non))) sNext)
    (sRet (vD (cIf (tVal (cF (vCallB (gF1 fAll) (aCons (kE (cF (lcF [5, 6] (iZip2 (aCons (kE (cN 3)) (aCons (kE (cUn (gFld 0 1) (kN 0))) aNil))) (gUnp [5, 6]) tYesF ce_setting_read_3))) aNil)))) (cN 3) (cC .non))))))))
noncomputable def F_setting_read : List EV → Out := runD 7 2 fb_setting_read
noncomputable def fb_setting_in : SM := (sSeq (sSet 2 (vSplit (kN 1) (kE (cC (.str "\n")))))
    (sSeq (sSet 3 (vCall F_setting_read (aCons (kN 0) (aCons (kE (cBin gIxA (kN 2) (kE (cC (.int 0))))) aNil))))
    (sSeq (sIf (tOrF (tCmpF gIsN (kN 3) (kE (cC .non))) (tCmpF gEq (kE (cF (vCallB (gF1 fLen) (aCons (kN 2) aNil)))) (kE (cC (.int 1))))) (sRaise 220 (cC (.int 0))) sNext)
    (sSeq (sIf (tCmpF gNe (kN 2) (kE (cF (vLst (aCons (kE (cBin gIxA (kN 2) (kE (cC (.int 0))))) (aCons (kE (cC (.str ""))) aNil)))))) (sRaise 220 (cC (.int 1))) sNext)
    (sRetV 3)))))
noncomputable def F_setting_in : List EV → Out := runD 4 2 fb_setting_in
noncomputable def fb_want_net : SM := (sSeq (sIf (tNotF (tVal (cIsi 1 (isO 0) (kN 0)))) (fun _ => .stuck) sNext)
    (sRetV 0))
noncomputable def F_want_net : List EV → Out := runD 1 1 fb_want_net
noncomputable def fb_want_string : SM := (sSeq (sIf (tNotF (tVal (cIsi 1 (isB "str") (kN 0)))) (sRaise 220 (cC .non)) sNext)
    (sRetV 0))
noncomputable def F_want_string : List EV → Out := runD 1 1 fb_want_string
noncomputable def fb_setting_of : SM := (sSeq (sSet 2 (vCall F_want_net (aCons (kN 0) aNil)))
    (sRet (vCall F_setting_in (aCons (kE (cN 2)) (aCons (kE (cF (vCall F_want_string (aCons (kN 1) aNil)))) aNil)))))
noncomputable def F_setting_of : List EV → Out := runD 3 2 fb_setting_of
noncomputable def fb__law_told : SM := (sTry 220 2 (sRet (vCall F_setting_of (aCons (kN 0) (aCons (kN 1) aNil)))) (hRet (xFld 220)))
noncomputable def F__law_told : List EV → Out := runD 3 2 fb__law_told
noncomputable def fb_is_integer : SM := (sRet (vD (cIf (tVal (cIsi 1 (isB "int") (kN 0))) (cB (tNotF (tVal (cIsi 1 (isB "bool") (kN 0))))) (cC (.bl false)))))
noncomputable def F_is_integer : List EV → Out := runD 1 1 fb_is_integer
noncomputable def fb_is_count : SM := (sRet (vD (cIf (tVal (cF (vCall F_is_integer (aCons (kN 0) aNil)))) (cB (tCmpF gGe (kN 0) (kE (cC (.int 0))))) (cC (.bl false)))))
noncomputable def F_is_count : List EV → Out := runD 1 1 fb_is_count
noncomputable def fb_is_list : SM := (sRet (vD (cIsi 1 (fun t => isB "list" t || isB "tuple" t) (kN 0))))
noncomputable def F_is_list : List EV → Out := runD 1 1 fb_is_list
noncomputable def ce_is_setting_of_1 : EM D := (cIf (tVal (cF (vCall F_is_count (aCons (kE (cN 2)) aNil)))) (cB (tCmpF gLt (kN 2) (kE (cF (vCallB (gF1 fLen) (aCons (kN 3) aNil)))))) (cC (.bl false)))
noncomputable def fb_is_setting_of : SM := (sSeq (sIf (tOrF (tNotF (tVal (cF (vCall F_is_list (aCons (kN 1) aNil))))) (tCmpF gNe (kE (cF (vCallB (gF1 fLen) (aCons (kN 1) aNil)))) (kE (cF (vCallB (gF1 fLen) (aCons (kE (cUn (gFld 0 1) (kN 0))) aNil)))))) (sRet (vD (cC (.bl false)))) sNext)
    (sRet (vCallB (gF1 fAll) (aCons (kE (cF (lcF [2, 3] (iZip2 (aCons (kE (cN 1)) (aCons (kE (cUn (gFld 0 1) (kN 0))) aNil))) (gUnp [2, 3]) tYesF ce_is_setting_of_1))) aNil))))
noncomputable def F_is_setting_of : List EV → Out := runD 4 2 fb_is_setting_of
noncomputable def fb_want_setting : SM := (sSeq (sIf (tNotF (tVal (cF (vCall F_is_setting_of (aCons (kN 0) (aCons (kN 1) aNil)))))) (fun _ => .stuck) sNext)
    (sRet (vCallB (gF1 fList) (aCons (kN 1) aNil))))
noncomputable def F_want_setting : List EV → Out := runD 2 2 fb_want_setting
noncomputable def ce_setting_text_1 : EM D := (cF (vCallB (gF1 fStrI) (aCons (kN 3) aNil)))
noncomputable def fb_setting_text : SM := (sSeq (sSet 2 (vCall F_want_setting (aCons (kE (cF (vCall F_want_net (aCons (kN 0) aNil)))) (aCons (kN 1) aNil))))
    (sRet (vBin gAdd (kE (cJoin (kE (cC (.str " "))) (kE (cF (vBin gAdd (kE (cF (vLst (aCons (kE (cC (.str "next"))) aNil)))) (kE (cF (lcF [3] (iSeq (cN 2)) (gSet 3) tYesF ce_setting_text_1)))))))) (kE (cC (.str "\n"))))))
noncomputable def F_setting_text : List EV → Out := runD 4 2 fb_setting_text
noncomputable def fb_is_target_of : SM := (sRet (vD (cIf (tVal (cF (vCall F_is_integer (aCons (kN 2) aNil)))) (cB (tChain gLe gLt (kE (cUn gNeg (kN 0))) (kN 2) (kN 1))) (cC (.bl false)))))
noncomputable def F_is_target_of : List EV → Out := runD 3 3 fb_is_target_of
noncomputable def ce_is_exits_row_1 : EM D := (cF (vCall F_is_target_of (aCons (kN 0) (aCons (kN 1) (aCons (kE (cN 3)) aNil)))))
noncomputable def fb_is_exits_row : SM := (sSeq (sIf (tOrF (tNotF (tVal (cF (vCall F_is_list (aCons (kN 2) aNil))))) (tNotF (tChain gLe gLe (kE (cC (.int 1))) (kE (cF (vCallB (gF1 fLen) (aCons (kN 2) aNil)))) (kE (cC (.int 6)))))) (sRet (vD (cC (.bl false)))) sNext)
    (sRet (vCallB (gF1 fAll) (aCons (kE (cF (lcF [3] (iSeq (cN 2)) (gSet 3) tYesF ce_is_exits_row_1))) aNil))))
noncomputable def F_is_exits_row : List EV → Out := runD 4 3 fb_is_exits_row
noncomputable def fb_want_at_most : SM := (sIf (tCmpF gGt (kN 2) (kN 1)) (fun _ => .stuck) sNext)
noncomputable def F_want_at_most : List EV → Out := runD 3 3 fb_want_at_most
noncomputable def ce_want_exits_1 : EM D := (cF (vCall F_is_exits_row (aCons (kN 0) (aCons (kE (cF (vCallB (gF1 fLen) (aCons (kN 1) aNil)))) (aCons (kE (cN 2)) aNil)))))
noncomputable def ce_want_exits_2 : EM D := (cF (vCallB (gF1 fLen) (aCons (kN 2) aNil)))
noncomputable def ce_want_exits_3 : EM D := (cF (vCallB (gF1 fTuple) (aCons (kN 2) aNil)))
noncomputable def fb_want_exits : SM := (sSeq (sIf (tOrF (tNotF (tVal (cF (vCall F_is_list (aCons (kN 1) aNil))))) (tNotF (tChain gLe gLe (kE (cC (.int 1))) (kE (cF (vCallB (gF1 fLen) (aCons (kN 1) aNil)))) (kE (cC (.int 24)))))) (fun _ => .stuck) sNext)
    (sSeq (sIf (tNotF (tVal (cF (vCallB (gF1 fAll) (aCons (kE (cF (lcF [2] (iSeq (cN 1)) (gSet 2) tYesF ce_want_exits_1))) aNil))))) (fun _ => .stuck) sNext)
    (sSeq (sDrop (vCall F_want_at_most (aCons (kE (cC (.str "tracks"))) (aCons (kE (cC (.int 60))) (aCons (kE (cF (vCallB (gF1 fSum) (aCons (kE (cF (lcF [2] (iSeq (cN 1)) (gSet 2) tYesF ce_want_exits_2))) aNil)))) aNil)))))
    (sRet (vCallB (gF1 fTuple) (aCons (kE (cF (lcF [2] (iSeq (cN 1)) (gSet 2) tYesF ce_want_exits_3))) aNil))))))
noncomputable def F_want_exits : List EV → Out := runD 3 2 fb_want_exits
noncomputable def lb_Net_lay_1 : SM := (sSeq (sDrop (vD (cMut "list" 5 gAppend (aCons (kE (cF (vCallB (gF1 fLen) (aCons (kN 4) aNil)))) aNil))))
    (sDrop (vD (cMut "list" 4 gExtend (aCons (kE (cN 3)) aNil)))))
noncomputable def fb_Net_lay : SM := (sSeq (sPar2 4 5 (vLst aNil) (vLst aNil))
    (sSeq (sFor (iSeq (cN 2)) (gSet 3) lb_Net_lay_1)
    (sSeq (sFldO 0 0 "own_ends" (cN 1))
    (sSeq (sFldO 0 0 "own_exits" (cN 2))
    (sSeq (sFldO 0 0 "own_targets" (cF (vCallB (gF1 fTuple) (aCons (kN 4) aNil))))
    (sFldO 0 0 "own_firsts" (cF (vCallB (gF1 fTuple) (aCons (kN 5) aNil)))))))))
noncomputable def F_Net_lay : List EV → Out := runD 6 3 fb_Net_lay
noncomputable def fb_Net___init__ : SM := (sSeq (sIf (tOrF (tNotF (tVal (cF (vCall F_is_count (aCons (kN 1) aNil))))) (tCmpF gGt (kN 1) (kE (cC (.int 6))))) (fun _ => .stuck) sNext)
    (sDrop (vMeth 0 "lay" F_Net_lay (kN 0) (aCons (kN 1) (aCons (kE (cF (vCall F_want_exits (aCons (kN 1) (aCons (kN 2) aNil))))) aNil)))))
noncomputable def F_Net___init__ : List EV → Out := runD 3 3 fb_Net___init__
noncomputable def lb__law_right_1 : SM := (sDrop (vD (cMut "list" 8 gAppend (aCons (kE (cF (vCall F__law_draw (aCons (kN 0) (aCons (kE (cF (vCallB (gF1 fLen) (aCons (kN 1) aNil)))) aNil))))) aNil))))
noncomputable def ce__law_right_1 : EM D := (cF (vCallB (gF1 fReprD) (aCons (kN 10) aNil)))
noncomputable def lb__law_right_2 : SM := (sDrop (vD (cMut "list" 3 gAppend (aCons (kE (cF (vCall F__law_bent (aCons (kN 0) (aCons (kE (cN 2)) aNil))))) aNil))))
noncomputable def ce__law_right_2 : EM D := (cB (tCmpF gEqT (kE (cF (vCallB (gF1 fReprD) (aCons (kE (cF (vCall F__law_told (aCons (kE (cN 7)) (aCons (kE (cN 9)) aNil))))) aNil)))) (kE (cF (vCallB (gF1 fReprD) (aCons (kE (cF (vCall F__law_read (aCons (kE (cN 6)) (aCons (kE (cN 9)) aNil))))) aNil))))))
noncomputable def fb__law_right : SM := (sSeq (sAsgT (cF (vCall F__law_net (aCons (kN 0) aNil))) (gTupF 2 (gCon (gSet 5) (gCon (gSet 6) gNone))))
    (sSeq (sPar2 7 8 (vMake 0 F_Net___init__ (aCons (kE (cN 5)) (aCons (kE (cN 6)) aNil))) (vLst aNil))
    (sSeq (sFor (iSeq (cN 6)) (gSet 1) lb__law_right_1)
    (sSeq (sSet 2 (vBin gAdd (kE (cJoin (kE (cC (.str " "))) (kE (cF (vBin gAdd (kE (cF (vLst (aCons (kE (cC (.str "next"))) aNil)))) (kE (cF (lcF [10] (iSeq (cN 8)) (gSet 10) tYesF ce__law_right_1)))))))) (kE (cC (.str "\n")))))
    (sSeq (sIf (tOrF (tCmpF gNeT (kE (cF (vCall F_setting_text (aCons (kE (cN 7)) (aCons (kE (cN 8)) aNil))))) (kN 2)) (tCmpF gNeT (kE (cF (vCallK 0 2 [1, 0] F_setting_text aNil (aCons (kE (cF (vCallB (gF1 fTuple) (aCons (kN 8) aNil)))) (aCons (kE (cN 7)) aNil))))) (kN 2))) (sRet (vD (cC (.bl false)))) sNext)
    (sSeq (sIf (tCmpF gNe (kE (cF (vCallK 0 2 [1, 0] F_setting_of aNil (aCons (kE (cN 2)) (aCons (kE (cN 7)) aNil))))) (kN 8)) (sRet (vD (cC (.bl false)))) sNext)
    (sSeq (sSet 3 (vLst (aCons (kE (cC (.str ""))) (aCons (kE (cC (.str "\n"))) (aCons (kE (cC (.str "next"))) (aCons (kE (cC (.str "next\n"))) (aCons (kE (cC (.str "next 0\n"))) (aCons (kE (cC (.str "next 0 0\n"))) (aCons (kE (cF (vSlT (kN 2) oNone (oSome (kE (cUn gNeg (kE (cC (.int 1))))))))) (aCons (kE (cF (vBin gMulS (kN 2) (kE (cC (.int 2)))))) aNil))))))))))
    (sSeq (sFor (iRng1 (aCons (kE (cC (.int 8))) aNil)) (gSet 4) lb__law_right_2)
    (sRet (vCallB (gF1 fAll) (aCons (kE (cF (lcF [9] (iSeq (cN 3)) (gSet 9) tYesF ce__law_right_2))) aNil)))))))))))
noncomputable def F__law_right : List EV → Out := runD 11 1 fb__law_right
noncomputable def fb_law : SM := (sRet (vCallF F__law_right (vCall F__law_pot (aCons (kN 0) (aCons (kE (cC (.int 0))) aNil)))))
noncomputable def F_law : List EV → Out := runD 1 1 fb_law
end K17
end
section
set_option Elab.async false
set_option linter.all false
set_option maxRecDepth 100000
set_option maxHeartbeats 0
namespace K17
open PySem PySem.Spec L2 MM
def ctK (K : PySem.W.Frag) : Nat → Addr
  | 0 => He.ga K "Net"
  | 220 => He.ga K "BadText"
  | _ => 0
structure Wd (K : PySem.W.Frag) (mg : Str → Option Value) : Prop where
  ex : ∃ h : Heap, K.In h ∧ h.Ns mainGlobals mg
  c : SaysM fa dfn pr cl K
namespace Wd
variable {K : PySem.W.Frag} {mg : Str → Option Value} (Z : Wd K mg)
include Z
theorem glo__law_pot : mg "_law_pot" = some (.ref (He.ga K "_law_pot")) := by
  obtain ⟨h, X, G⟩ := Z.ex
  exact He.glo_ok X G (Z.c.d.fact 0)
theorem glo__law_draw : mg "_law_draw" = some (.ref (He.ga K "_law_draw")) := by
  obtain ⟨h, X, G⟩ := Z.ex
  exact He.glo_ok X G (Z.c.d.fact 1)
theorem glo__law_pick : mg "_law_pick" = some (.ref (He.ga K "_law_pick")) := by
  obtain ⟨h, X, G⟩ := Z.ex
  exact He.glo_ok X G (Z.c.d.fact 2)
theorem glo__law_bent : mg "_law_bent" = some (.ref (He.ga K "_law_bent")) := by
  obtain ⟨h, X, G⟩ := Z.ex
  exact He.glo_ok X G (Z.c.d.fact 3)
theorem glo__law_tracks : mg "_law_tracks" = some (.ref (He.ga K "_law_tracks")) := by
  obtain ⟨h, X, G⟩ := Z.ex
  exact He.glo_ok X G (Z.c.d.fact 4)
theorem glo__law_net : mg "_law_net" = some (.ref (He.ga K "_law_net")) := by
  obtain ⟨h, X, G⟩ := Z.ex
  exact He.glo_ok X G (Z.c.d.fact 5)
theorem glo__law_is_figures : mg "_law_is_figures" = some (.ref (He.ga K "_law_is_figures")) := by
  obtain ⟨h, X, G⟩ := Z.ex
  exact He.glo_ok X G (Z.c.d.fact 6)
theorem glo__law_read : mg "_law_read" = some (.ref (He.ga K "_law_read")) := by
  obtain ⟨h, X, G⟩ := Z.ex
  exact He.glo_ok X G (Z.c.d.fact 7)
theorem glo_figures_read : mg "figures_read" = some (.ref (He.ga K "figures_read")) := by
  obtain ⟨h, X, G⟩ := Z.ex
  exact He.glo_ok X G (Z.c.d.fact 8)
theorem glo_setting_read : mg "setting_read" = some (.ref (He.ga K "setting_read")) := by
  obtain ⟨h, X, G⟩ := Z.ex
  exact He.glo_ok X G (Z.c.d.fact 9)
theorem glo_setting_in : mg "setting_in" = some (.ref (He.ga K "setting_in")) := by
  obtain ⟨h, X, G⟩ := Z.ex
  exact He.glo_ok X G (Z.c.d.fact 10)
theorem glo_want_net : mg "want_net" = some (.ref (He.ga K "want_net")) := by
  obtain ⟨h, X, G⟩ := Z.ex
  exact He.glo_ok X G (Z.c.d.fact 11)
theorem glo_want_string : mg "want_string" = some (.ref (He.ga K "want_string")) := by
  obtain ⟨h, X, G⟩ := Z.ex
  exact He.glo_ok X G (Z.c.d.fact 12)
theorem glo_setting_of : mg "setting_of" = some (.ref (He.ga K "setting_of")) := by
  obtain ⟨h, X, G⟩ := Z.ex
  exact He.glo_ok X G (Z.c.d.fact 13)
theorem glo__law_told : mg "_law_told" = some (.ref (He.ga K "_law_told")) := by
  obtain ⟨h, X, G⟩ := Z.ex
  exact He.glo_ok X G (Z.c.d.fact 14)
theorem glo_is_integer : mg "is_integer" = some (.ref (He.ga K "is_integer")) := by
  obtain ⟨h, X, G⟩ := Z.ex
  exact He.glo_ok X G (Z.c.d.fact 15)
theorem glo_is_count : mg "is_count" = some (.ref (He.ga K "is_count")) := by
  obtain ⟨h, X, G⟩ := Z.ex
  exact He.glo_ok X G (Z.c.d.fact 16)
theorem glo_is_list : mg "is_list" = some (.ref (He.ga K "is_list")) := by
  obtain ⟨h, X, G⟩ := Z.ex
  exact He.glo_ok X G (Z.c.d.fact 17)
theorem glo_is_setting_of : mg "is_setting_of" = some (.ref (He.ga K "is_setting_of")) := by
  obtain ⟨h, X, G⟩ := Z.ex
  exact He.glo_ok X G (Z.c.d.fact 18)
theorem glo_want_setting : mg "want_setting" = some (.ref (He.ga K "want_setting")) := by
  obtain ⟨h, X, G⟩ := Z.ex
  exact He.glo_ok X G (Z.c.d.fact 19)
theorem glo_setting_text : mg "setting_text" = some (.ref (He.ga K "setting_text")) := by
  obtain ⟨h, X, G⟩ := Z.ex
  exact He.glo_ok X G (Z.c.d.fact 20)
theorem glo_is_target_of : mg "is_target_of" = some (.ref (He.ga K "is_target_of")) := by
  obtain ⟨h, X, G⟩ := Z.ex
  exact He.glo_ok X G (Z.c.d.fact 21)
theorem glo_is_exits_row : mg "is_exits_row" = some (.ref (He.ga K "is_exits_row")) := by
  obtain ⟨h, X, G⟩ := Z.ex
  exact He.glo_ok X G (Z.c.d.fact 22)
theorem glo_want_at_most : mg "want_at_most" = some (.ref (He.ga K "want_at_most")) := by
  obtain ⟨h, X, G⟩ := Z.ex
  exact He.glo_ok X G (Z.c.d.fact 23)
theorem glo_want_exits : mg "want_exits" = some (.ref (He.ga K "want_exits")) := by
  obtain ⟨h, X, G⟩ := Z.ex
  exact He.glo_ok X G (Z.c.d.fact 24)
theorem glo__law_right : mg "_law_right" = some (.ref (He.ga K "_law_right")) := by
  obtain ⟨h, X, G⟩ := Z.ex
  exact He.glo_ok X G (Z.c.d.fact 25)
theorem glo_law : mg "law" = some (.ref (He.ga K "law")) := by
  obtain ⟨h, X, G⟩ := Z.ex
  exact He.glo_ok X G (Z.c.d.fact 26)
theorem glo_Net : mg "Net" = some (.ref (He.ga K "Net")) := by
  obtain ⟨h, X, G⟩ := Z.ex
  exact He.glo_ok X G (Z.c.d.fact 27)
theorem glo_BadText : mg "BadText" = some (.ref (He.ga K "BadText")) := by
  obtain ⟨h, X, G⟩ := Z.ex
  exact He.glo_ok X G (Z.c.d.fact 28)
theorem free_repr : mg "repr" = none := by
  obtain ⟨h, X, G⟩ := Z.ex
  exact He.free_ok X G (Z.c.d.fact 29)
theorem free_len : mg "len" = none := by
  obtain ⟨h, X, G⟩ := Z.ex
  exact He.free_ok X G (Z.c.d.fact 30)
theorem free_range : mg "range" = none := by
  obtain ⟨h, X, G⟩ := Z.ex
  exact He.free_ok X G (Z.c.d.fact 31)
theorem free_zip : mg "zip" = none := by
  obtain ⟨h, X, G⟩ := Z.ex
  exact He.free_ok X G (Z.c.d.fact 32)
theorem free_enumerate : mg "enumerate" = none := by
  obtain ⟨h, X, G⟩ := Z.ex
  exact He.free_ok X G (Z.c.d.fact 33)
theorem free_isinstance : mg "isinstance" = none := by
  obtain ⟨h, X, G⟩ := Z.ex
  exact He.free_ok X G (Z.c.d.fact 34)
theorem free_int : mg "int" = none := by
  obtain ⟨h, X, G⟩ := Z.ex
  exact He.free_ok X G (Z.c.d.fact 35)
theorem free_bool : mg "bool" = none := by
  obtain ⟨h, X, G⟩ := Z.ex
  exact He.free_ok X G (Z.c.d.fact 36)
theorem free_list : mg "list" = none := by
  obtain ⟨h, X, G⟩ := Z.ex
  exact He.free_ok X G (Z.c.d.fact 37)
theorem free_tuple : mg "tuple" = none := by
  obtain ⟨h, X, G⟩ := Z.ex
  exact He.free_ok X G (Z.c.d.fact 38)
theorem free_sorted : mg "sorted" = none := by
  obtain ⟨h, X, G⟩ := Z.ex
  exact He.free_ok X G (Z.c.d.fact 39)
theorem free_set : mg "set" = none := by
  obtain ⟨h, X, G⟩ := Z.ex
  exact He.free_ok X G (Z.c.d.fact 40)
theorem free_sum : mg "sum" = none := by
  obtain ⟨h, X, G⟩ := Z.ex
  exact He.free_ok X G (Z.c.d.fact 41)
theorem free_any : mg "any" = none := by
  obtain ⟨h, X, G⟩ := Z.ex
  exact He.free_ok X G (Z.c.d.fact 42)
theorem free_all : mg "all" = none := by
  obtain ⟨h, X, G⟩ := Z.ex
  exact He.free_ok X G (Z.c.d.fact 43)
theorem free_max : mg "max" = none := by
  obtain ⟨h, X, G⟩ := Z.ex
  exact He.free_ok X G (Z.c.d.fact 44)
theorem free_min : mg "min" = none := by
  obtain ⟨h, X, G⟩ := Z.ex
  exact He.free_ok X G (Z.c.d.fact 45)
theorem free_abs : mg "abs" = none := by
  obtain ⟨h, X, G⟩ := Z.ex
  exact He.free_ok X G (Z.c.d.fact 46)
theorem free_divmod : mg "divmod" = none := by
  obtain ⟨h, X, G⟩ := Z.ex
  exact He.free_ok X G (Z.c.d.fact 47)
theorem free_dict : mg "dict" = none := by
  obtain ⟨h, X, G⟩ := Z.ex
  exact He.free_ok X G (Z.c.d.fact 48)
theorem free_str : mg "str" = none := by
  obtain ⟨h, X, G⟩ := Z.ex
  exact He.free_ok X G (Z.c.d.fact 49)
theorem int_MOST_ENDS : ∃ t, mg "MOST_ENDS" = some (.int 6 t) := by
  obtain ⟨h, X, G⟩ := Z.ex
  exact He.int_ok X G (Z.c.d.fact 50)
theorem int_MOST_POINTS : ∃ t, mg "MOST_POINTS" = some (.int 24 t) := by
  obtain ⟨h, X, G⟩ := Z.ex
  exact He.int_ok X G (Z.c.d.fact 51)
theorem int_MOST_EXITS : ∃ t, mg "MOST_EXITS" = some (.int 6 t) := by
  obtain ⟨h, X, G⟩ := Z.ex
  exact He.int_ok X G (Z.c.d.fact 52)
theorem int_MOST_TRACKS : ∃ t, mg "MOST_TRACKS" = some (.int 60 t) := by
  obtain ⟨h, X, G⟩ := Z.ex
  exact He.int_ok X G (Z.c.d.fact 53)
theorem int_MOST_FIGURES_READ : ∃ t, mg "MOST_FIGURES_READ" = some (.int 2 t) := by
  obtain ⟨h, X, G⟩ := Z.ex
  exact He.int_ok X G (Z.c.d.fact 54)
theorem str___name__ : ∃ t, mg "__name__" = some (.str "law_flippedpoints_k17_whole_any_text_as_a_se" t) := by
  obtain ⟨h, X, G⟩ := Z.ex
  exact He.str_ok X G (Z.c.d.fact 55)
theorem str_FIGURES : ∃ t, mg "FIGURES" = some (.str "0123456789" t) := by
  obtain ⟨h, X, G⟩ := Z.ex
  exact He.str_ok X G (Z.c.d.fact 56)
theorem str_NEXT_WORD : ∃ t, mg "NEXT_WORD" = some (.str "next" t) := by
  obtain ⟨h, X, G⟩ := Z.ex
  exact He.str_ok X G (Z.c.d.fact 57)
theorem cls_Net : ClsOk K 0 "Net" ["__init__", "lay"] [] := (Z.c.cls 0).1
theorem eq_Net : eqOwn K (He.ga K "Net") (He.ma K (He.ga K "Net") "__eq__") = true := (Z.c.cls 0).2 rfl
theorem exc_BadText : ExOk K "BadText" "line" := Z.c.exc 0 (d := cd0) (x := "BadText") (f := "line") (List.Mem.head _) rfl
theorem objs : ∀ c, c < 1 → ObjC K (ctK K c)
  | 0, _ => Z.cls_Net.obj
  | n + 1, h => absurd h (by omega)
theorem ask_int : ∀ c, c < 1 → PySem.W.kitOne K (.ref (ctK K c)) (.type "int") = some false
  | 0, _ => Z.cls_Net.ask "int" (by decide)
  | n + 1, h => absurd h (by omega)
theorem ask_bool : ∀ c, c < 1 → PySem.W.kitOne K (.ref (ctK K c)) (.type "bool") = some false
  | 0, _ => Z.cls_Net.ask "bool" (by decide)
  | n + 1, h => absurd h (by omega)
theorem ask_str : ∀ c, c < 1 → PySem.W.kitOne K (.ref (ctK K c)) (.type "str") = some false
  | 0, _ => Z.cls_Net.ask "str" (by decide)
  | n + 1, h => absurd h (by omega)
theorem ask_list : ∀ c, c < 1 → PySem.W.kitOne K (.ref (ctK K c)) (.type "list") = some false
  | 0, _ => Z.cls_Net.ask "list" (by decide)
  | n + 1, h => absurd h (by omega)
theorem ask_tuple : ∀ c, c < 1 → PySem.W.kitOne K (.ref (ctK K c)) (.type "tuple") = some false
  | 0, _ => Z.cls_Net.ask "tuple" (by decide)
  | n + 1, h => absurd h (by omega)
theorem ask_dict : ∀ c, c < 1 → PySem.W.kitOne K (.ref (ctK K c)) (.type "dict") = some false
  | 0, _ => Z.cls_Net.ask "dict" (by decide)
  | n + 1, h => absurd h (by omega)
theorem kit_Net : ∀ d t, tyD 1 d = some t → PySem.W.kitOne K (tyV' (ctK K) t) (.ref (He.ga K "Net")) = some (isO 0 t) := kit_o (ct := ctK K) (c := 0) Z.cls_Net.all (fun c' h1 h2 => match c', h1, h2 with
  | 0, _, h2 => absurd rfl h2
  | n + 1, h1, _ => absurd h1 (by omega))
end Wd
theorem sc__law_pot : FnScope (["_law_script", "_law_k", "_law_cell", "_law_mixed"] : List PySem.Str) (["_law_script", "_law_k"] : List PySem.Str) (defScope (top 37)) := ⟨rfl, rfl, rfl, by decide +kernel, rfl, by decide +kernel, by decide +kernel⟩
theorem ok__law_pot {P : Program} {w : World} {K : PySem.W.Frag} {mg : Str → Option Value} {base : Heap} (Z : Wd K mg) {x qual : Str} {params : Arguments} {f : Addr} {fd : FuncData} (D : FunD K x qual params (defBody (top 37)) (defScope (top 37)) [] [] f fd) : FnOk P w K mg base (L2.CX P w) 1 f fd (["_law_script", "_law_k"] : List PySem.Str) (spM ⟨K, ctK K⟩ F__law_pot) := by
  refine fn_mir (k := 0) (ct := ctK K) (fb := fb__law_pot) D sc__law_pot rfl rfl (fun cdv A outer s H E hr tk => ?_)
  exact (ss_cons (s_set sc__law_pot.nd rfl (by first | exact Or.inl rfl | exact Or.inr rfl) (v_val (e_if (t_cp x_lt (k_name (pv 1)) (k_val (e_frz (v_callB cr_len g_len rfl Z.free_len (by decide +kernel) (a_cons (k_name (pv 0)) a_nil)))) (nomark _)) (e_frz (v_callB call_abs g_abs rfl Z.free_abs (by decide +kernel) (a_cons (k_val (e_ixA (hu1 hr) (k_name (pv 0)) (k_name (pv 1)))) a_nil))) (e_frz (v_add (k_val (e_frz (v_mul (k_val e_int) (k_name (pv 1))))) (k_val e_int))))))
    (ss_cons (s_set sc__law_pot.nd rfl (by first | exact Or.inl rfl | exact Or.inr rfl) (v_add (k_val (e_frz (v_mod (k_val (e_frz (v_callTy call_int1 g_int rfl Z.free_int (by decide +kernel) (a_cons (k_val (e_frz (v_add (k_val (e_frz (v_add (k_val (e_frz (v_mul (k_val (e_frz (v_mod (k_val (e_frz (v_callTy call_int1 g_int rfl Z.free_int (by decide +kernel) (a_cons (k_name (pv 2)) a_nil)))) (k_val e_int)))) (k_val e_int)))) (k_val (e_frz (v_mul (k_val e_int) (k_name (pv 1)))))))) (k_val e_int)))) a_nil)))) (k_val e_int)))) (k_val e_int)))
    (ss_one (s_ret (v_lst (a_cons (k_val (e_frz (v_callB (call_max2 rfl) g_max2 rfl Z.free_max (by decide +kernel) (a_cons (k_val e_int) (a_cons (k_val (e_frz (v_sub (k_name (pv 2)) (k_val (e_frz (v_pow (k_val e_int) (k_val e_int))))))) a_nil))))) (a_cons (k_val (e_name (pv 3))) a_nil)))))))
theorem at__law_pot {P : Program} {w : World} {K : PySem.W.Frag} {mg : Str → Option Value} {base : Heap} (Z : Wd K mg) : FnAt P w K mg base (ctK K) 1 "_law_pot" (["_law_script", "_law_k"] : List PySem.Str) F__law_pot := by
  obtain ⟨fd, D⟩ := Z.c.d.def_ 0
  exact ⟨⟨_, fd, ok__law_pot Z D, Z.glo__law_pot, D.kp, D.bindsN fun _ _ _ _ _ _ us hl => match us, hl with | [_, _], _ => rfl⟩⟩
theorem sc__law_draw : FnScope (["_law_pot_here", "_law_many", "_law_drawn"] : List PySem.Str) (["_law_pot_here", "_law_many"] : List PySem.Str) (defScope (top 38)) := ⟨rfl, rfl, rfl, by decide +kernel, rfl, by decide +kernel, by decide +kernel⟩
theorem ok__law_draw {P : Program} {w : World} {K : PySem.W.Frag} {mg : Str → Option Value} {base : Heap} (Z : Wd K mg) {x qual : Str} {params : Arguments} {f : Addr} {fd : FuncData} (D : FunD K x qual params (defBody (top 38)) (defScope (top 38)) [] [] f fd) : FnOk P w K mg base (L2.CX P w) 1 f fd (["_law_pot_here", "_law_many"] : List PySem.Str) (spM ⟨K, ctK K⟩ F__law_draw) := by
  refine fn_mir (k := 0) (ct := ctK K) (fb := fb__law_draw) D sc__law_draw rfl rfl (fun cdv A outer s H E hr tk => ?_)
  exact (ss_cons (s_if (t_cp x_gt (k_val (e_ixA (hu1 hr) (k_name (pv 0)) (k_val e_int))) (k_val e_int) (nomark _)) (ss_cons (s_asgT (e_frz (v_callB call_divmod g_divmod rfl Z.free_divmod (by decide +kernel) (a_cons (k_val (e_ixA (hu1 hr) (k_name (pv 0)) (k_val e_int))) (a_cons (k_name (pv 1)) a_nil)))) (h_tup rfl (hs_cons (h_store (pv 0) (k_val e_int)) (hs_cons (h_name (pg_nm 2 sc__law_draw.nd)) hs_nil))))
    (ss_one (s_retV (pv 2)))) ss_nil)
    (ss_cons (s_asgT (e_frz (v_mod (k_val (e_frz (v_callTy call_int1 g_int rfl Z.free_int (by decide +kernel) (a_cons (k_val (e_frz (v_mul (k_val (e_ixA (hu1 hr) (k_name (pv 0)) (k_val e_int))) (k_val e_int)))) a_nil)))) (k_val e_int))) (h_store (pv 0) (k_val e_int)))
    (ss_one (s_ret (v_mod (k_val (e_frz (v_callTy call_int1 g_int rfl Z.free_int (by decide +kernel) (a_cons (k_val (e_frz (v_div (k_val (e_ixA (hu1 hr) (k_name (pv 0)) (k_val e_int))) (k_val e_int)))) a_nil)))) (k_name (pv 1)))))))
theorem at__law_draw {P : Program} {w : World} {K : PySem.W.Frag} {mg : Str → Option Value} {base : Heap} (Z : Wd K mg) : FnAt P w K mg base (ctK K) 1 "_law_draw" (["_law_pot_here", "_law_many"] : List PySem.Str) F__law_draw := by
  obtain ⟨fd, D⟩ := Z.c.d.def_ 1
  exact ⟨⟨_, fd, ok__law_draw Z D, Z.glo__law_draw, D.kp, D.bindsN fun _ _ _ _ _ _ us hl => match us, hl with | [_, _], _ => rfl⟩⟩
theorem sc__law_pick : FnScope (["_law_pot_here", "_law_some"] : List PySem.Str) (["_law_pot_here", "_law_some"] : List PySem.Str) (defScope (top 39)) := ⟨rfl, rfl, rfl, by decide +kernel, rfl, by decide +kernel, by decide +kernel⟩
theorem ok__law_pick {P : Program} {w : World} {K : PySem.W.Frag} {mg : Str → Option Value} {base : Heap} (Z : Wd K mg) {x qual : Str} {params : Arguments} {f : Addr} {fd : FuncData} (D : FunD K x qual params (defBody (top 39)) (defScope (top 39)) [] [] f fd) : FnOk P w K mg base (L2.CX P w) 2 f fd (["_law_pot_here", "_law_some"] : List PySem.Str) (spM ⟨K, ctK K⟩ F__law_pick) := by
  refine fn_mir (k := 1) (ct := ctK K) (fb := fb__law_pick) D sc__law_pick rfl rfl (fun cdv A outer s H E hr tk => ?_)
  exact (ss_one (s_ret (v_val (e_ixA (hu1 hr) (k_name (pv 1)) (k_val (e_frz (v_call (at__law_draw Z) (hr.mono (by decide)) rfl tk (a_cons (k_name (pv 0)) (a_cons (k_val (e_frz (v_callB cr_len g_len rfl Z.free_len (by decide +kernel) (a_cons (k_name (pv 1)) a_nil)))) a_nil)))))))))
theorem at__law_pick {P : Program} {w : World} {K : PySem.W.Frag} {mg : Str → Option Value} {base : Heap} (Z : Wd K mg) : FnAt P w K mg base (ctK K) 2 "_law_pick" (["_law_pot_here", "_law_some"] : List PySem.Str) F__law_pick := by
  obtain ⟨fd, D⟩ := Z.c.d.def_ 2
  exact ⟨⟨_, fd, ok__law_pick Z D, Z.glo__law_pick, D.kp, D.bindsN fun _ _ _ _ _ _ us hl => match us, hl with | [_, _], _ => rfl⟩⟩
theorem sc__law_bent : FnScope (["_law_pot_here", "_law_text", "_law_odd", "_law_kind", "_law_at"] : List PySem.Str) (["_law_pot_here", "_law_text"] : List PySem.Str) (defScope (top 45)) := ⟨rfl, rfl, rfl, by decide +kernel, rfl, by decide +kernel, by decide +kernel⟩
theorem ok__law_bent {P : Program} {w : World} {K : PySem.W.Frag} {mg : Str → Option Value} {base : Heap} (Z : Wd K mg) {x qual : Str} {params : Arguments} {f : Addr} {fd : FuncData} (D : FunD K x qual params (defBody (top 45)) (defScope (top 45)) [] [] f fd) : FnOk P w K mg base (L2.CX P w) 3 f fd (["_law_pot_here", "_law_text"] : List PySem.Str) (spM ⟨K, ctK K⟩ F__law_bent) := by
  refine fn_mir (k := 2) (ct := ctK K) (fb := fb__law_bent) D sc__law_bent rfl rfl (fun cdv A outer s H E hr tk => ?_)
  exact (ss_cons (s_par2 rfl sc__law_bent.nd rfl rfl (by decide) rfl rfl (v_call (at__law_draw Z) (hr.mono (by decide)) rfl tk (a_cons (k_name (pv 0)) (a_cons (k_val e_int) a_nil))) (v_call (at__law_draw Z) (hr.mono (by decide)) rfl tk (a_cons (k_name (pv 0)) (a_cons (k_val (e_frz (v_add (k_val (e_frz (v_callB cr_len g_len rfl Z.free_len (by decide +kernel) (a_cons (k_name (pv 1)) a_nil)))) (k_val e_int)))) a_nil))) rfl)
    (ss_cons (s_set sc__law_bent.nd rfl (by first | exact Or.inl rfl | exact Or.inr rfl) (v_call (at__law_pick Z) (hr.mono (by decide)) rfl tk (a_cons (k_name (pv 0)) (a_cons (k_val (e_frz (v_lst (a_cons (k_val e_str) (a_cons (k_val e_str) (a_cons (k_val e_str) (a_cons (k_val e_str) (a_cons (k_val e_str) (a_cons (k_val e_str) (a_cons (k_val e_str) (a_cons (k_val e_str) (a_cons (k_val e_str) (a_cons (k_val e_str) a_nil))))))))))))) a_nil))))
    (ss_cons (s_if (t_cp x_lt (k_name (pv 3)) (k_val e_int) (nomark _)) (ss_one (s_ret (v_add (k_val (e_frz (v_sliceT (k_name (pv 1)) o_none (o_some (k_name (pv 4)))))) (k_val (e_frz (v_sliceT (k_name (pv 1)) (o_some (k_val (e_frz (v_add (k_name (pv 4)) (k_val e_int))))) o_none)))))) ss_nil)
    (ss_cons (s_if (t_cp x_lt (k_name (pv 3)) (k_val e_int) (nomark _)) (ss_one (s_ret (v_add (k_val (e_frz (v_add (k_val (e_frz (v_sliceT (k_name (pv 1)) o_none (o_some (k_name (pv 4)))))) (k_name (pv 2))))) (k_val (e_frz (v_sliceT (k_name (pv 1)) (o_some (k_val (e_frz (v_sub (k_val (e_frz (v_add (k_name (pv 4)) (k_name (pv 3))))) (k_val e_int))))) o_none)))))) ss_nil)
    (ss_one (s_ret (v_val (e_if (t_cp (x_eq hr) (k_name (pv 3)) (k_val e_int) (nomark _)) (e_frz (v_add (k_name (pv 1)) (k_name (pv 2)))) (e_frz (v_add (k_name (pv 2)) (k_name (pv 1))))))))))))
theorem at__law_bent {P : Program} {w : World} {K : PySem.W.Frag} {mg : Str → Option Value} {base : Heap} (Z : Wd K mg) : FnAt P w K mg base (ctK K) 3 "_law_bent" (["_law_pot_here", "_law_text"] : List PySem.Str) F__law_bent := by
  obtain ⟨fd, D⟩ := Z.c.d.def_ 3
  exact ⟨⟨_, fd, ok__law_bent Z D, Z.glo__law_bent, D.kp, D.bindsN fun _ _ _ _ _ _ us hl => match us, hl with | [_, _], _ => rfl⟩⟩
theorem sc__law_tracks : FnScope (["_law_pot_here", "_law_ends", "_law_points", "_law_found", "_law_turn"] : List PySem.Str) (["_law_pot_here", "_law_ends", "_law_points"] : List PySem.Str) (defScope (top 40)) := ⟨rfl, rfl, rfl, by decide +kernel, rfl, by decide +kernel, by decide +kernel⟩
theorem ok__law_tracks {P : Program} {w : World} {K : PySem.W.Frag} {mg : Str → Option Value} {base : Heap} (Z : Wd K mg) {x qual : Str} {params : Arguments} {f : Addr} {fd : FuncData} (D : FunD K x qual params (defBody (top 40)) (defScope (top 40)) [] [] f fd) : FnOk P w K mg base (L2.CX P w) 2 f fd (["_law_pot_here", "_law_ends", "_law_points"] : List PySem.Str) (spM ⟨K, ctK K⟩ F__law_tracks) := by
  refine fn_mir (k := 1) (ct := ctK K) (fb := fb__law_tracks) D sc__law_tracks rfl rfl (fun cdv A outer s H E hr tk => ?_)
  exact (ss_cons (s_set sc__law_tracks.nd rfl (by first | exact Or.inl rfl | exact Or.inr rfl) (v_lst a_nil))
    (ss_cons (s_for (passes_of rfl) rfl (i_range1 rfl Z.free_range (a_cons (k_val (e_frz (v_add (k_val e_int) (k_val (e_frz (v_call (at__law_draw Z) (hr.mono (by decide)) rfl tk (a_cons (k_name (pv 0)) (a_cons (k_val e_int) a_nil)))))))) a_nil)) (g_name (pg_nm 4 sc__law_tracks.nd)) (ss_one (s_if (t_w (w_and (t_cp x_gt (k_name (pv 1)) (k_val e_int) (nomark _)) (w_and1 (t_cp (x_eq hr) (k_val (e_frz (v_call (at__law_draw Z) (hr.mono (by decide)) rfl tk (a_cons (k_name (pv 0)) (a_cons (k_val e_int) a_nil))))) (k_val e_int) (nomark _))))) (ss_one (s_expr (v_val (e_mut PySem.F.plainAttrs_list PySem.F.slot_list_append PySem.F.type_list_append mt_append mutG_append (pv 3) (a_cons (k_val (e_frz (v_sub (k_val (e_neg (k_val e_int))) (k_val (e_frz (v_call (at__law_draw Z) (hr.mono (by decide)) rfl tk (a_cons (k_name (pv 0)) (a_cons (k_name (pv 1)) a_nil)))))))) a_nil))))) (ss_one (s_expr (v_val (e_mut PySem.F.plainAttrs_list PySem.F.slot_list_append PySem.F.type_list_append mt_append mutG_append (pv 3) (a_cons (k_val (e_frz (v_call (at__law_draw Z) (hr.mono (by decide)) rfl tk (a_cons (k_name (pv 0)) (a_cons (k_name (pv 2)) a_nil))))) a_nil))))))))
    (ss_one (s_retV (pv 3)))))
theorem at__law_tracks {P : Program} {w : World} {K : PySem.W.Frag} {mg : Str → Option Value} {base : Heap} (Z : Wd K mg) : FnAt P w K mg base (ctK K) 2 "_law_tracks" (["_law_pot_here", "_law_ends", "_law_points"] : List PySem.Str) F__law_tracks := by
  obtain ⟨fd, D⟩ := Z.c.d.def_ 4
  exact ⟨⟨_, fd, ok__law_tracks Z D, Z.glo__law_tracks, D.kp, D.bindsN fun _ _ _ _ _ _ us hl => match us, hl with | [_, _, _], _ => rfl⟩⟩
theorem sc__law_net : FnScope (["_law_pot_here", "_law_turn", "_law_ends", "_law_points", "_law_exits"] : List PySem.Str) (["_law_pot_here"] : List PySem.Str) (defScope (top 41)) := ⟨rfl, rfl, rfl, by decide +kernel, rfl, by decide +kernel, by decide +kernel⟩
theorem ok__law_net {P : Program} {w : World} {K : PySem.W.Frag} {mg : Str → Option Value} {base : Heap} (Z : Wd K mg) {x qual : Str} {params : Arguments} {f : Addr} {fd : FuncData} (D : FunD K x qual params (defBody (top 41)) (defScope (top 41)) [] [] f fd) : FnOk P w K mg base (L2.CX P w) 3 f fd (["_law_pot_here"] : List PySem.Str) (spM ⟨K, ctK K⟩ F__law_net) := by
  refine fn_mir (k := 2) (ct := ctK K) (fb := fb__law_net) D sc__law_net rfl rfl (fun cdv A outer s H E hr tk => ?_)
  exact (ss_cons (s_par3 rfl sc__law_net.nd rfl rfl rfl (by decide) (by decide) (by decide) rfl rfl rfl (v_call (at__law_draw Z) (hr.mono (by decide)) rfl tk (a_cons (k_name (pv 0)) (a_cons (k_val e_int) a_nil))) (v_add (k_val e_int) (k_val (e_frz (v_call (at__law_draw Z) (hr.mono (by decide)) rfl tk (a_cons (k_name (pv 0)) (a_cons (k_val e_int) a_nil)))))) (v_lst a_nil) rfl)
    (ss_cons (s_for (passes_of rfl) rfl (i_range1 rfl Z.free_range (a_cons (k_name (pv 3)) a_nil)) (g_name (pg_nm 1 sc__law_net.nd)) (ss_one (s_expr (v_val (e_mut PySem.F.plainAttrs_list PySem.F.slot_list_append PySem.F.type_list_append mt_append mutG_append (pv 4) (a_cons (k_val (e_frz (v_call (at__law_tracks Z) (hr.mono (by decide)) rfl tk (a_cons (k_name (pv 0)) (a_cons (k_val (e_name (pv 2))) (a_cons (k_val (e_name (pv 3))) a_nil)))))) a_nil))))))
    (ss_one (s_ret (v_val (e_tup (a_cons (k_val (e_name (pv 2))) (a_cons (k_val (e_name (pv 4))) a_nil))))))))
theorem at__law_net {P : Program} {w : World} {K : PySem.W.Frag} {mg : Str → Option Value} {base : Heap} (Z : Wd K mg) : FnAt P w K mg base (ctK K) 3 "_law_net" (["_law_pot_here"] : List PySem.Str) F__law_net := by
  obtain ⟨fd, D⟩ := Z.c.d.def_ 5
  exact ⟨⟨_, fd, ok__law_net Z D, Z.glo__law_net, D.kp, D.bindsN fun _ _ _ _ _ _ us hl => match us, hl with | [_], _ => rfl⟩⟩
theorem sc__law_is_figures : FnScope (["_law_word", "_law_sign"] : List PySem.Str) (["_law_word"] : List PySem.Str) (defScope (top 42)) := ⟨rfl, rfl, rfl, by decide +kernel, rfl, by decide +kernel, by decide +kernel⟩
theorem ok__law_is_figures {P : Program} {w : World} {K : PySem.W.Frag} {mg : Str → Option Value} {base : Heap} (Z : Wd K mg) {x qual : Str} {params : Arguments} {f : Addr} {fd : FuncData} (D : FunD K x qual params (defBody (top 42)) (defScope (top 42)) [] [] f fd) : FnOk P w K mg base (L2.CX P w) 1 f fd (["_law_word"] : List PySem.Str) (spM ⟨K, ctK K⟩ F__law_is_figures) := by
  refine fn_mir (k := 0) (ct := ctK K) (fb := fb__law_is_figures) D sc__law_is_figures rfl rfl (fun cdv A outer s H E hr tk => ?_)
  exact (ss_cons (s_if (t_w (w_or (t_cp x_eqT (k_name (pv 0)) (k_val e_str) (nomark _)) (w_or1 (t_w (w_and (t_cp x_gt (k_val (e_frz (v_callB cr_len g_len rfl Z.free_len (by decide +kernel) (a_cons (k_name (pv 0)) a_nil)))) (k_val e_int) (nomark _)) (w_and1 (t_cp x_eqT (k_val (e_ixT (k_name (pv 0)) (k_val e_int))) (k_val e_str) (nomark _)))))))) (ss_one (s_ret (v_val e_bl))) ss_nil)
    (ss_one (s_ret (v_callB (cr_all rfl) g_all rfl Z.free_all (by decide +kernel) (a_cons (k_val (e_frz (v_lc (own := [("_law_sign", 1)]) rfl sc__law_is_figures.nd (i_txt (e_name (pv 0))) (blkOk_by (by kernel_rfl)) (by decide) (fun _ _ _ _ _ => (g_name (pg_nm 1 sc__law_is_figures.nd))) (fun _ _ _ _ _ => pts_yes) (fun _ _ _ _ _ => (e_cp x_inT (k_name (pv 1)) (k_val e_str) (by with_unfolding_all rfl)))))) a_nil)))))
theorem at__law_is_figures {P : Program} {w : World} {K : PySem.W.Frag} {mg : Str → Option Value} {base : Heap} (Z : Wd K mg) : FnAt P w K mg base (ctK K) 1 "_law_is_figures" (["_law_word"] : List PySem.Str) F__law_is_figures := by
  obtain ⟨fd, D⟩ := Z.c.d.def_ 6
  exact ⟨⟨_, fd, ok__law_is_figures Z D, Z.glo__law_is_figures, D.kp, D.bindsN fun _ _ _ _ _ _ us hl => match us, hl with | [_], _ => rfl⟩⟩
theorem sc__law_read : FnScope (["_law_exits", "_law_text", "_law_lines", "_law_words", "_law_word", "_law_row"] : List PySem.Str) (["_law_exits", "_law_text"] : List PySem.Str) (defScope (top 43)) := ⟨rfl, rfl, rfl, by decide +kernel, rfl, by decide +kernel, by decide +kernel⟩
theorem ok__law_read {P : Program} {w : World} {K : PySem.W.Frag} {mg : Str → Option Value} {base : Heap} (Z : Wd K mg) {x qual : Str} {params : Arguments} {f : Addr} {fd : FuncData} (D : FunD K x qual params (defBody (top 43)) (defScope (top 43)) [] [] f fd) : FnOk P w K mg base (L2.CX P w) 2 f fd (["_law_exits", "_law_text"] : List PySem.Str) (spM ⟨K, ctK K⟩ F__law_read) := by
  refine fn_mir (k := 1) (ct := ctK K) (fb := fb__law_read) D sc__law_read rfl rfl (fun cdv A outer s H E hr tk => ?_)
  exact (ss_cons (s_set sc__law_read.nd rfl (by first | exact Or.inl rfl | exact Or.inr rfl) (v_split (k_name (pv 1)) (k_val e_str)))
    (ss_cons (s_set sc__law_read.nd rfl (by first | exact Or.inl rfl | exact Or.inr rfl) (v_split (k_val (e_ixA (hu1 hr) (k_name (pv 2)) (k_val e_int))) (k_val e_str)))
    (ss_cons (s_if (t_w (w_or (t_cp (x_eq hr) (k_val (e_frz (v_callB cr_len g_len rfl Z.free_len (by decide +kernel) (a_cons (k_name (pv 2)) a_nil)))) (k_val e_int) (nomark _)) (w_or (t_cp x_neT (k_val (e_ixA (hu1 hr) (k_name (pv 3)) (k_val e_int))) (k_val e_str) (nomark _)) (w_or1 (t_cp (x_ne hr) (k_val (e_frz (v_callB cr_len g_len rfl Z.free_len (by decide +kernel) (a_cons (k_name (pv 3)) a_nil)))) (k_val (e_frz (v_add (k_val (e_frz (v_callB cr_len g_len rfl Z.free_len (by decide +kernel) (a_cons (k_name (pv 0)) a_nil)))) (k_val e_int)))) (nomark _)))))) (ss_one (s_ret (v_val e_int))) ss_nil)
    (ss_cons (s_for (passes_of rfl) rfl (i_zip2 rfl Z.free_zip (a_cons (k_val (e_frz (v_slice (k_name (pv 3)) (o_some (k_val e_int)) o_none))) (a_cons (k_val (e_name (pv 0))) a_nil))) (g_tup (is := [4, 5]) rfl (pgs_cons (pg_nm 4 sc__law_read.nd) (pgs_cons (pg_nm 5 sc__law_read.nd) pgs_nil))) (ss_one (s_if (t_w (w_or (t_not (t_val (e_frz (v_call (at__law_is_figures Z) (hr.mono (by decide)) rfl tk (a_cons (k_val (e_name (pv 4))) a_nil))))) (w_or1 (t_cp x_ge (k_val (e_frz (v_callTy call_int_str g_intT rfl Z.free_int (by decide +kernel) (a_cons (k_name (pv 4)) a_nil)))) (k_val (e_frz (v_callB cr_len g_len rfl Z.free_len (by decide +kernel) (a_cons (k_name (pv 5)) a_nil)))) (nomark _))))) (ss_one (s_ret (v_val e_int))) ss_nil)))
    (ss_one (s_ret (v_val (e_if (t_cp (x_ne hr) (k_val (e_frz (v_slice (k_name (pv 2)) (o_some (k_val e_int)) o_none))) (k_val (e_frz (v_lst (a_cons (k_val e_str) a_nil)))) (nomark _)) e_int (e_frz (v_lc (own := [("_law_word", 4)]) rfl sc__law_read.nd (i_seq (e_frz (v_slice (k_name (pv 3)) (o_some (k_val e_int)) o_none))) (blkOk_by (by kernel_rfl)) (by decide) (fun _ _ _ _ _ => (g_name (pg_nm 4 sc__law_read.nd))) (fun _ _ _ _ _ => pts_yes) (fun _ _ _ _ _ => (e_frz (v_callTy call_int_str g_intT rfl Z.free_int (by decide +kernel) (a_cons (k_name (pv 4)) a_nil))))))))))))))
theorem at__law_read {P : Program} {w : World} {K : PySem.W.Frag} {mg : Str → Option Value} {base : Heap} (Z : Wd K mg) : FnAt P w K mg base (ctK K) 2 "_law_read" (["_law_exits", "_law_text"] : List PySem.Str) F__law_read := by
  obtain ⟨fd, D⟩ := Z.c.d.def_ 7
  exact ⟨⟨_, fd, ok__law_read Z D, Z.glo__law_read, D.kp, D.bindsN fun _ _ _ _ _ _ us hl => match us, hl with | [_, _], _ => rfl⟩⟩
theorem sc_figures_read : FnScope (["word", "sign"] : List PySem.Str) (["word"] : List PySem.Str) (defScope (top 30)) := ⟨rfl, rfl, rfl, by decide +kernel, rfl, by decide +kernel, by decide +kernel⟩
theorem ok_figures_read {P : Program} {w : World} {K : PySem.W.Frag} {mg : Str → Option Value} {base : Heap} (Z : Wd K mg) {x qual : Str} {params : Arguments} {f : Addr} {fd : FuncData} (D : FunD K x qual params (defBody (top 30)) (defScope (top 30)) [] [] f fd) : FnOk P w K mg base (L2.CX P w) 1 f fd (["word"] : List PySem.Str) (spM ⟨K, ctK K⟩ F_figures_read) := by
  obtain ⟨_, h_MOST_FIGURES_READ⟩ := Z.int_MOST_FIGURES_READ
  obtain ⟨_, h_FIGURES⟩ := Z.str_FIGURES
  refine fn_mir (k := 0) (ct := ctK K) (fb := fb_figures_read) D sc_figures_read rfl rfl (fun cdv A outer s H E hr tk => ?_)
  exact (ss_cons (s_if (t_w (w_or (t_not (t_chain x_le x_le (k_val e_int) (k_val (e_frz (v_callB cr_len g_len rfl Z.free_len (by decide +kernel) (a_cons (k_name (pv 0)) a_nil)))) (k_val (e_gint rfl h_MOST_FIGURES_READ)))) (w_or1 (t_not (t_val (e_frz (v_callB (cr_all rfl) g_all rfl Z.free_all (by decide +kernel) (a_cons (k_val (e_frz (v_lc (own := [("sign", 1)]) rfl sc_figures_read.nd (i_txt (e_name (pv 0))) (blkOk_by (by kernel_rfl)) (by decide) (fun _ _ _ _ _ => (g_name (pg_nm 1 sc_figures_read.nd))) (fun _ _ _ _ _ => pts_yes) (fun _ _ _ _ _ => (e_cp x_inT (k_name (pv 1)) (k_val (e_gstr rfl h_FIGURES)) (by with_unfolding_all rfl)))))) a_nil)))))))) (ss_one (s_ret (v_val e_non))) ss_nil)
    (ss_one (s_ret (v_val (e_if (t_w (w_or (t_cp x_eqT (k_name (pv 0)) (k_val e_str) (nomark _)) (w_or1 (t_cp x_neT (k_val (e_ixT (k_name (pv 0)) (k_val e_int))) (k_val e_str) (nomark _))))) (e_frz (v_callTy call_int_str g_intT rfl Z.free_int (by decide +kernel) (a_cons (k_name (pv 0)) a_nil))) e_non)))))
theorem at_figures_read {P : Program} {w : World} {K : PySem.W.Frag} {mg : Str → Option Value} {base : Heap} (Z : Wd K mg) : FnAt P w K mg base (ctK K) 1 "figures_read" (["word"] : List PySem.Str) F_figures_read := by
  obtain ⟨fd, D⟩ := Z.c.d.def_ 8
  exact ⟨⟨_, fd, ok_figures_read Z D, Z.glo_figures_read, D.kp, D.bindsN fun _ _ _ _ _ _ us hl => match us, hl with | [_], _ => rfl⟩⟩
theorem sc_setting_read : FnScope (["net", "line", "words", "found", "word", "place", "row"] : List PySem.Str) (["net", "line"] : List PySem.Str) (defScope (top 31)) := ⟨rfl, rfl, rfl, by decide +kernel, rfl, by decide +kernel, by decide +kernel⟩
theorem ok_setting_read {P : Program} {w : World} {K : PySem.W.Frag} {mg : Str → Option Value} {base : Heap} (Z : Wd K mg) {x qual : Str} {params : Arguments} {f : Addr} {fd : FuncData} (D : FunD K x qual params (defBody (top 31)) (defScope (top 31)) [] [] f fd) : FnOk P w K mg base (L2.CX P w) 2 f fd (["net", "line"] : List PySem.Str) (spM ⟨K, ctK K⟩ F_setting_read) := by
  obtain ⟨_, h_NEXT_WORD⟩ := Z.str_NEXT_WORD
  refine fn_mir (k := 1) (ct := ctK K) (fb := fb_setting_read) D sc_setting_read rfl rfl (fun cdv A outer s H E hr tk => ?_)
  exact (ss_cons (s_set sc_setting_read.nd rfl (by first | exact Or.inl rfl | exact Or.inr rfl) (v_split (k_name (pv 1)) (k_val e_str)))
    (ss_cons (s_if (t_w (w_or (t_cp x_neT (k_val (e_ixA (hu1 hr) (k_name (pv 2)) (k_val e_int))) (k_val (e_gstr rfl h_NEXT_WORD)) (nomark _)) (w_or1 (t_cp (x_ne hr) (k_val (e_frz (v_callB cr_len g_len rfl Z.free_len (by decide +kernel) (a_cons (k_name (pv 2)) a_nil)))) (k_val (e_frz (v_add (k_val e_int) (k_val (e_frz (v_callB cr_len g_len rfl Z.free_len (by decide +kernel) (a_cons (k_val (e_fld 0 1 (k_name (pv 0)) rfl Z.cls_Net.obj.cls (Z.cls_Net.noat "own_exits" (by decide)))) a_nil))))))) (nomark _))))) (ss_one (s_ret (v_val e_non))) ss_nil)
    (ss_cons (s_setLc (own := [("word", 4)]) rfl sc_setting_read.nd rfl rfl (sw_true rfl rfl rfl (by kernel_rfl)) (i_seq (e_frz (v_slice (k_name (pv 2)) (o_some (k_val e_int)) o_none))) (blkOk_by (by kernel_rfl)) (by decide) (fun _ _ _ _ _ => (g_name (pg_nm 4 sc_setting_read.nd))) (fun _ _ _ _ _ => pts_yes) (fun _ _ _ _ _ => (e_frz (v_call (at_figures_read Z) (hr.mono (by decide)) rfl takes0 (a_cons (k_val (e_name (pv 4))) a_nil)))))
    (ss_cons (s_if (t_val (e_frz (v_callB (cr_any rfl) g_any rfl Z.free_any (by decide +kernel) (a_cons (k_val (e_frz (v_lc (own := [("place", 5)]) rfl sc_setting_read.nd (i_seq (e_name (pv 3))) (blkOk_by (by kernel_rfl)) (by decide) (fun _ _ _ _ _ => (g_name (pg_nm 5 sc_setting_read.nd))) (fun _ _ _ _ _ => pts_yes) (fun _ _ _ _ _ => (e_cp x_isN (k_name (pv 5)) (k_val e_non) (nomark _)))))) a_nil)))) (ss_one (s_ret (v_val e_non))) ss_nil)
    (ss_one (s_ret (v_val (e_if (t_val (e_frz (v_callB (cr_all rfl) g_all rfl Z.free_all (by decide +kernel) (a_cons (k_val (e_frz (v_lc (own := [("place", 5), ("row", 6)]) rfl sc_setting_read.nd (i_zip2 rfl Z.free_zip (a_cons (k_val (e_name (pv 3))) (a_cons (k_val (e_fld 0 1 (k_name (pv 0)) rfl Z.cls_Net.obj.cls (Z.cls_Net.noat "own_exits" (by decide)))) a_nil))) (blkOk_by (by kernel_rfl)) (by decide) (fun _ _ _ _ _ => (g_tup (is := [5, 6]) rfl (pgs_cons (pg_nm 5 sc_setting_read.nd) (pgs_cons (pg_nm 6 sc_setting_read.nd) pgs_nil)))) (fun _ _ _ _ _ => pts_yes) (fun _ _ _ _ _ => (e_cp x_lt (k_name (pv 5)) (k_val (e_frz (v_callB cr_len g_len rfl Z.free_len (by decide +kernel) (a_cons (k_name (pv 6)) a_nil)))) (nomark _)))))) a_nil)))) (e_name (pv 3)) e_non))))))))
theorem at_setting_read {P : Program} {w : World} {K : PySem.W.Frag} {mg : Str → Option Value} {base : Heap} (Z : Wd K mg) : FnAt P w K mg base (ctK K) 2 "setting_read" (["net", "line"] : List PySem.Str) F_setting_read := by
  obtain ⟨fd, D⟩ := Z.c.d.def_ 9
  exact ⟨⟨_, fd, ok_setting_read Z D, Z.glo_setting_read, D.kp, D.bindsN fun _ _ _ _ _ _ us hl => match us, hl with | [_, _], _ => rfl⟩⟩
theorem sx_BadText : FnScope (["self", "line"] : List PySem.Str) (["self", "line"] : List PySem.Str) (defScope (inClass (top 5) 0)) := ⟨rfl, rfl, rfl, by decide +kernel, rfl, by decide +kernel, by decide +kernel⟩
theorem ex_BadText {P : Program} {w : World} {K : PySem.W.Frag} {mg : Str → Option Value} {base : Heap} (Z : Wd K mg) : ExAt P w K mg base (ctK K) 220 "BadText" "line" := by
  obtain ⟨fd, D⟩ := Z.c.d.def_ 10
  exact ⟨⟨_, fd, "self", "line", fn_exinit D sx_BadText (by first | exact Or.inl rfl | exact Or.inl (by decide +kernel)) (by first | exact Or.inl rfl | exact Or.inl (by decide +kernel)) (by decide) (by decide) (by decide) (by decide) (fun _ => rfl), D.bindsN fun _ _ _ _ _ _ us hl => match us, hl with | [_, _], _ => rfl, Z.exc_BadText.init, Z.exc_BadText.tI⟩, Z.exc_BadText.T, Z.exc_BadText.X, Z.exc_BadText.no, Z.exc_BadText.em, Z.glo_BadText, rfl⟩
theorem sc_setting_in : FnScope (["net", "text", "parts", "found"] : List PySem.Str) (["net", "text"] : List PySem.Str) (defScope (top 32)) := ⟨rfl, rfl, rfl, by decide +kernel, rfl, by decide +kernel, by decide +kernel⟩
theorem ok_setting_in {P : Program} {w : World} {K : PySem.W.Frag} {mg : Str → Option Value} {base : Heap} (Z : Wd K mg) {x qual : Str} {params : Arguments} {f : Addr} {fd : FuncData} (D : FunD K x qual params (defBody (top 32)) (defScope (top 32)) [] [] f fd) : FnOk P w K mg base (L2.CX P w) 3 f fd (["net", "text"] : List PySem.Str) (spM ⟨K, ctK K⟩ F_setting_in) := by
  refine fn_mir (k := 2) (ct := ctK K) (fb := fb_setting_in) D sc_setting_in rfl rfl (fun cdv A outer s H E hr tk => ?_)
  exact (ss_cons (s_set sc_setting_in.nd rfl (by first | exact Or.inl rfl | exact Or.inr rfl) (v_split (k_name (pv 1)) (k_val e_str)))
    (ss_cons (s_set sc_setting_in.nd rfl (by first | exact Or.inl rfl | exact Or.inr rfl) (v_call (at_setting_read Z) (hr.mono (by decide)) rfl tk (a_cons (k_name (pv 0)) (a_cons (k_val (e_ixA (hu1 hr) (k_name (pv 2)) (k_val e_int))) a_nil))))
    (ss_cons (s_if (t_w (w_or (t_cp x_isN (k_name (pv 3)) (k_val e_non) (nomark _)) (w_or1 (t_cp (x_eq hr) (k_val (e_frz (v_callB cr_len g_len rfl Z.free_len (by decide +kernel) (a_cons (k_name (pv 2)) a_nil)))) (k_val e_int) (nomark _))))) (ss_one (s_raiseA (ex_BadText Z) rfl tk (hr.mono (by decide)) rfl e_int)) ss_nil)
    (ss_cons (s_if (t_cp (x_ne hr) (k_name (pv 2)) (k_val (e_frz (v_lst (a_cons (k_val (e_ixA (hu1 hr) (k_name (pv 2)) (k_val e_int))) (a_cons (k_val e_str) a_nil))))) (nomark _)) (ss_one (s_raiseA (ex_BadText Z) rfl tk (hr.mono (by decide)) rfl e_int)) ss_nil)
    (ss_one (s_retV (pv 3)))))))
theorem at_setting_in {P : Program} {w : World} {K : PySem.W.Frag} {mg : Str → Option Value} {base : Heap} (Z : Wd K mg) : FnAt P w K mg base (ctK K) 3 "setting_in" (["net", "text"] : List PySem.Str) F_setting_in := by
  obtain ⟨fd, D⟩ := Z.c.d.def_ 11
  exact ⟨⟨_, fd, ok_setting_in Z D, Z.glo_setting_in, D.kp, D.bindsN fun _ _ _ _ _ _ us hl => match us, hl with | [_, _], _ => rfl⟩⟩
theorem sc_want_net : FnScope (["value"] : List PySem.Str) (["value"] : List PySem.Str) (defScope (top 23)) := ⟨rfl, rfl, rfl, by decide +kernel, rfl, by decide +kernel, by decide +kernel⟩
theorem ok_want_net {P : Program} {w : World} {K : PySem.W.Frag} {mg : Str → Option Value} {base : Heap} (Z : Wd K mg) {x qual : Str} {params : Arguments} {f : Addr} {fd : FuncData} (D : FunD K x qual params (defBody (top 23)) (defScope (top 23)) [] [] f fd) : FnOk P w K mg base (L2.CX P w) 1 f fd (["value"] : List PySem.Str) (spM ⟨K, ctK K⟩ F_want_net) := by
  refine fn_mir (k := 0) (ct := ctK K) (fb := fb_want_net) D sc_want_net rfl rfl (fun cdv A outer s H E hr tk => ?_)
  exact (ss_cons (s_if (t_not (t_val (e_isi Z.objs rfl Z.free_isinstance (pe_glob (v := .ref _) rfl Z.glo_Net rfl) (.own _) (Z.kit_Net) (k_name (pv 0))))) (ss_one s_never) ss_nil)
    (ss_one (s_retV (pv 0))))
theorem at_want_net {P : Program} {w : World} {K : PySem.W.Frag} {mg : Str → Option Value} {base : Heap} (Z : Wd K mg) : FnAt P w K mg base (ctK K) 1 "want_net" (["value"] : List PySem.Str) F_want_net := by
  obtain ⟨fd, D⟩ := Z.c.d.def_ 12
  exact ⟨⟨_, fd, ok_want_net Z D, Z.glo_want_net, D.kp, D.bindsN fun _ _ _ _ _ _ us hl => match us, hl with | [_], _ => rfl⟩⟩
theorem sc_want_string : FnScope (["value"] : List PySem.Str) (["value"] : List PySem.Str) (defScope (top 33)) := ⟨rfl, rfl, rfl, by decide +kernel, rfl, by decide +kernel, by decide +kernel⟩
theorem ok_want_string {P : Program} {w : World} {K : PySem.W.Frag} {mg : Str → Option Value} {base : Heap} (Z : Wd K mg) {x qual : Str} {params : Arguments} {f : Addr} {fd : FuncData} (D : FunD K x qual params (defBody (top 33)) (defScope (top 33)) [] [] f fd) : FnOk P w K mg base (L2.CX P w) 3 f fd (["value"] : List PySem.Str) (spM ⟨K, ctK K⟩ F_want_string) := by
  refine fn_mir (k := 2) (ct := ctK K) (fb := fb_want_string) D sc_want_string rfl rfl (fun cdv A outer s H E hr tk => ?_)
  exact (ss_cons (s_if (t_not (t_val (e_isi Z.objs rfl Z.free_isinstance (pe_bltn (v := .ty "str") (u := .type "str") rfl Z.free_str (by decide +kernel) rfl) (.ty "str") (kit_b (by decide) Z.ask_str) (k_name (pv 0))))) (ss_one (s_raiseA (ex_BadText Z) rfl tk (hr.mono (by decide)) rfl e_non)) ss_nil)
    (ss_one (s_retV (pv 0))))
theorem at_want_string {P : Program} {w : World} {K : PySem.W.Frag} {mg : Str → Option Value} {base : Heap} (Z : Wd K mg) : FnAt P w K mg base (ctK K) 3 "want_string" (["value"] : List PySem.Str) F_want_string := by
  obtain ⟨fd, D⟩ := Z.c.d.def_ 13
  exact ⟨⟨_, fd, ok_want_string Z D, Z.glo_want_string, D.kp, D.bindsN fun _ _ _ _ _ _ us hl => match us, hl with | [_], _ => rfl⟩⟩
theorem sc_setting_of : FnScope (["net", "text", "told"] : List PySem.Str) (["net", "text"] : List PySem.Str) (defScope (top 35)) := ⟨rfl, rfl, rfl, by decide +kernel, rfl, by decide +kernel, by decide +kernel⟩
theorem ok_setting_of {P : Program} {w : World} {K : PySem.W.Frag} {mg : Str → Option Value} {base : Heap} (Z : Wd K mg) {x qual : Str} {params : Arguments} {f : Addr} {fd : FuncData} (D : FunD K x qual params (defBody (top 35)) (defScope (top 35)) [] [] f fd) : FnOk P w K mg base (L2.CX P w) 4 f fd (["net", "text"] : List PySem.Str) (spM ⟨K, ctK K⟩ F_setting_of) := by
  refine fn_mir (k := 3) (ct := ctK K) (fb := fb_setting_of) D sc_setting_of rfl rfl (fun cdv A outer s H E hr tk => ?_)
  exact (ss_cons (s_set sc_setting_of.nd rfl (by first | exact Or.inl rfl | exact Or.inr rfl) (v_call (at_want_net Z) (hr.mono (by decide)) rfl tk (a_cons (k_name (pv 0)) a_nil)))
    (ss_one (s_ret (v_call (at_setting_in Z) (hr.mono (by decide)) rfl tk (a_cons (k_val (e_name (pv 2))) (a_cons (k_val (e_frz (v_call (at_want_string Z) (hr.mono (by decide)) rfl tk (a_cons (k_name (pv 1)) a_nil)))) a_nil))))))
theorem at_setting_of {P : Program} {w : World} {K : PySem.W.Frag} {mg : Str → Option Value} {base : Heap} (Z : Wd K mg) : FnAt P w K mg base (ctK K) 4 "setting_of" (["net", "text"] : List PySem.Str) F_setting_of := by
  obtain ⟨fd, D⟩ := Z.c.d.def_ 14
  exact ⟨⟨_, fd, ok_setting_of Z D, Z.glo_setting_of, D.kp, D.bindsN fun _ _ _ _ _ _ us hl => match us, hl with | [_, _], _ => rfl⟩⟩
theorem kw_setting_of_0_text_net {P : Program} {w : World} {K : PySem.W.Frag} {mg : Str → Option Value} {base : Heap} (Z : Wd K mg) : FnKw P w K mg base (ctK K) 4 "setting_of" (["net", "text"] : List PySem.Str) 0 (["text", "net"] : List PySem.Str) [1, 0] F_setting_of := by
  obtain ⟨fd, D⟩ := Z.c.d.def_ 14
  exact ⟨⟨_, fd, ok_setting_of Z D, Z.glo_setting_of, D.kp, kbn_of D fun _ _ _ _ _ _ us ws h1 h2 => match us, ws, h1, h2 with | [], [_, _], _, _ => rfl⟩⟩
theorem sc__law_told : FnScope (["_law_net_here", "_law_text", "e"] : List PySem.Str) (["_law_net_here", "_law_text"] : List PySem.Str) (defScope (top 44)) := ⟨rfl, rfl, rfl, by decide +kernel, rfl, by decide +kernel, by decide +kernel⟩
theorem ok__law_told {P : Program} {w : World} {K : PySem.W.Frag} {mg : Str → Option Value} {base : Heap} (Z : Wd K mg) {x qual : Str} {params : Arguments} {f : Addr} {fd : FuncData} (D : FunD K x qual params (defBody (top 44)) (defScope (top 44)) [] [] f fd) : FnOk P w K mg base (L2.CX P w) 5 f fd (["_law_net_here", "_law_text"] : List PySem.Str) (spM ⟨K, ctK K⟩ F__law_told) := by
  refine fn_mir (k := 4) (ct := ctK K) (fb := fb__law_told) D sc__law_told rfl rfl (fun cdv A outer s H E hr tk => ?_)
  exact (ss_one (s_tryA (ex_BadText Z) rfl rfl sc__law_told.nd rfl rfl rfl tk (fun W' pn xe tk => (ss_one (s_ret (v_call (at_setting_of Z) (hr.mono (by decide)) rfl tk (a_cons (k_name (pv 0)) (a_cons (k_name (pv 1)) a_nil)))))) (fun a oe cls d pn hz hd => (hs_ret (h_fld (ex_BadText (P := P) (w := w) (base := base) Z).X (ex_BadText (P := P) (w := w) (base := base) Z).no rfl hz hd (pv 2))))))
theorem at__law_told {P : Program} {w : World} {K : PySem.W.Frag} {mg : Str → Option Value} {base : Heap} (Z : Wd K mg) : FnAt P w K mg base (ctK K) 5 "_law_told" (["_law_net_here", "_law_text"] : List PySem.Str) F__law_told := by
  obtain ⟨fd, D⟩ := Z.c.d.def_ 15
  exact ⟨⟨_, fd, ok__law_told Z D, Z.glo__law_told, D.kp, D.bindsN fun _ _ _ _ _ _ us hl => match us, hl with | [_, _], _ => rfl⟩⟩
theorem sc_is_integer : FnScope (["value"] : List PySem.Str) (["value"] : List PySem.Str) (defScope (top 10)) := ⟨rfl, rfl, rfl, by decide +kernel, rfl, by decide +kernel, by decide +kernel⟩
theorem ok_is_integer {P : Program} {w : World} {K : PySem.W.Frag} {mg : Str → Option Value} {base : Heap} (Z : Wd K mg) {x qual : Str} {params : Arguments} {f : Addr} {fd : FuncData} (D : FunD K x qual params (defBody (top 10)) (defScope (top 10)) [] [] f fd) : FnOk P w K mg base (L2.CX P w) 1 f fd (["value"] : List PySem.Str) (spM ⟨K, ctK K⟩ F_is_integer) := by
  refine fn_mir (k := 0) (ct := ctK K) (fb := fb_is_integer) D sc_is_integer rfl rfl (fun cdv A outer s H E hr tk => ?_)
  exact (ss_one (s_ret (v_val (e_and (e_isi Z.objs rfl Z.free_isinstance (pe_bltn (v := .ty "int") (u := .type "int") rfl Z.free_int (by decide +kernel) rfl) (.ty "int") (kit_b (by decide) Z.ask_int) (k_name (pv 0))) (e_one (e_not (e_isi Z.objs rfl Z.free_isinstance (pe_bltn (v := .ty "bool") (u := .type "bool") rfl Z.free_bool (by decide +kernel) rfl) (.ty "bool") (kit_b (by decide) Z.ask_bool) (k_name (pv 0)))))))))
theorem at_is_integer {P : Program} {w : World} {K : PySem.W.Frag} {mg : Str → Option Value} {base : Heap} (Z : Wd K mg) : FnAt P w K mg base (ctK K) 1 "is_integer" (["value"] : List PySem.Str) F_is_integer := by
  obtain ⟨fd, D⟩ := Z.c.d.def_ 16
  exact ⟨⟨_, fd, ok_is_integer Z D, Z.glo_is_integer, D.kp, D.bindsN fun _ _ _ _ _ _ us hl => match us, hl with | [_], _ => rfl⟩⟩
theorem sc_is_count : FnScope (["value"] : List PySem.Str) (["value"] : List PySem.Str) (defScope (top 11)) := ⟨rfl, rfl, rfl, by decide +kernel, rfl, by decide +kernel, by decide +kernel⟩
theorem ok_is_count {P : Program} {w : World} {K : PySem.W.Frag} {mg : Str → Option Value} {base : Heap} (Z : Wd K mg) {x qual : Str} {params : Arguments} {f : Addr} {fd : FuncData} (D : FunD K x qual params (defBody (top 11)) (defScope (top 11)) [] [] f fd) : FnOk P w K mg base (L2.CX P w) 2 f fd (["value"] : List PySem.Str) (spM ⟨K, ctK K⟩ F_is_count) := by
  refine fn_mir (k := 1) (ct := ctK K) (fb := fb_is_count) D sc_is_count rfl rfl (fun cdv A outer s H E hr tk => ?_)
  exact (ss_one (s_ret (v_val (e_and (e_frz (v_call (at_is_integer Z) (hr.mono (by decide)) rfl tk (a_cons (k_name (pv 0)) a_nil))) (e_one (e_cp x_ge (k_name (pv 0)) (k_val e_int) (nomark _)))))))
theorem at_is_count {P : Program} {w : World} {K : PySem.W.Frag} {mg : Str → Option Value} {base : Heap} (Z : Wd K mg) : FnAt P w K mg base (ctK K) 2 "is_count" (["value"] : List PySem.Str) F_is_count := by
  obtain ⟨fd, D⟩ := Z.c.d.def_ 17
  exact ⟨⟨_, fd, ok_is_count Z D, Z.glo_is_count, D.kp, D.bindsN fun _ _ _ _ _ _ us hl => match us, hl with | [_], _ => rfl⟩⟩
theorem sc_is_list : FnScope (["value"] : List PySem.Str) (["value"] : List PySem.Str) (defScope (top 12)) := ⟨rfl, rfl, rfl, by decide +kernel, rfl, by decide +kernel, by decide +kernel⟩
theorem ok_is_list {P : Program} {w : World} {K : PySem.W.Frag} {mg : Str → Option Value} {base : Heap} (Z : Wd K mg) {x qual : Str} {params : Arguments} {f : Addr} {fd : FuncData} (D : FunD K x qual params (defBody (top 12)) (defScope (top 12)) [] [] f fd) : FnOk P w K mg base (L2.CX P w) 1 f fd (["value"] : List PySem.Str) (spM ⟨K, ctK K⟩ F_is_list) := by
  refine fn_mir (k := 0) (ct := ctK K) (fb := fb_is_list) D sc_is_list rfl rfl (fun cdv A outer s H E hr tk => ?_)
  exact (ss_one (s_ret (v_val (e_isiT Z.objs rfl Z.free_isinstance (pa_cls2 (pe_bltn (v := .ty "list") (u := .type "list") rfl Z.free_list (by decide +kernel) rfl) (pe_bltn (v := .ty "tuple") (u := .type "tuple") rfl Z.free_tuple (by decide +kernel) rfl)) (by decide) (.cons (.ty "list") (.cons (.ty "tuple") .nil)) (fun d t h => kit_2 ((kit_b (by decide) Z.ask_list) d t h) ((kit_b (by decide) Z.ask_tuple) d t h)) (k_name (pv 0))))))
theorem at_is_list {P : Program} {w : World} {K : PySem.W.Frag} {mg : Str → Option Value} {base : Heap} (Z : Wd K mg) : FnAt P w K mg base (ctK K) 1 "is_list" (["value"] : List PySem.Str) F_is_list := by
  obtain ⟨fd, D⟩ := Z.c.d.def_ 18
  exact ⟨⟨_, fd, ok_is_list Z D, Z.glo_is_list, D.kp, D.bindsN fun _ _ _ _ _ _ us hl => match us, hl with | [_], _ => rfl⟩⟩
theorem sc_is_setting_of : FnScope (["net", "value", "exit_at", "exits"] : List PySem.Str) (["net", "value"] : List PySem.Str) (defScope (top 24)) := ⟨rfl, rfl, rfl, by decide +kernel, rfl, by decide +kernel, by decide +kernel⟩
theorem ok_is_setting_of {P : Program} {w : World} {K : PySem.W.Frag} {mg : Str → Option Value} {base : Heap} (Z : Wd K mg) {x qual : Str} {params : Arguments} {f : Addr} {fd : FuncData} (D : FunD K x qual params (defBody (top 24)) (defScope (top 24)) [] [] f fd) : FnOk P w K mg base (L2.CX P w) 3 f fd (["net", "value"] : List PySem.Str) (spM ⟨K, ctK K⟩ F_is_setting_of) := by
  refine fn_mir (k := 2) (ct := ctK K) (fb := fb_is_setting_of) D sc_is_setting_of rfl rfl (fun cdv A outer s H E hr tk => ?_)
  exact (ss_cons (s_if (t_w (w_or (t_not (t_val (e_frz (v_call (at_is_list Z) (hr.mono (by decide)) rfl tk (a_cons (k_name (pv 1)) a_nil))))) (w_or1 (t_cp (x_ne hr) (k_val (e_frz (v_callB cr_len g_len rfl Z.free_len (by decide +kernel) (a_cons (k_name (pv 1)) a_nil)))) (k_val (e_frz (v_callB cr_len g_len rfl Z.free_len (by decide +kernel) (a_cons (k_val (e_fld 0 1 (k_name (pv 0)) rfl Z.cls_Net.obj.cls (Z.cls_Net.noat "own_exits" (by decide)))) a_nil)))) (nomark _))))) (ss_one (s_ret (v_val e_bl))) ss_nil)
    (ss_one (s_ret (v_callB (cr_all rfl) g_all rfl Z.free_all (by decide +kernel) (a_cons (k_val (e_frz (v_lc (own := [("exit_at", 2), ("exits", 3)]) rfl sc_is_setting_of.nd (i_zip2 rfl Z.free_zip (a_cons (k_val (e_name (pv 1))) (a_cons (k_val (e_fld 0 1 (k_name (pv 0)) rfl Z.cls_Net.obj.cls (Z.cls_Net.noat "own_exits" (by decide)))) a_nil))) (blkOk_by (by kernel_rfl)) (by decide) (fun _ _ _ _ _ => (g_tup (is := [2, 3]) rfl (pgs_cons (pg_nm 2 sc_is_setting_of.nd) (pgs_cons (pg_nm 3 sc_is_setting_of.nd) pgs_nil)))) (fun _ _ _ _ _ => pts_yes) (fun _ _ _ _ _ => (e_and (e_frz (v_call (at_is_count Z) (hr.mono (by decide)) rfl takes0 (a_cons (k_val (e_name (pv 2))) a_nil))) (e_one (e_cp x_lt (k_name (pv 2)) (k_val (e_frz (v_callB cr_len g_len rfl Z.free_len (by decide +kernel) (a_cons (k_name (pv 3)) a_nil)))) (nomark _)))))))) a_nil)))))
theorem at_is_setting_of {P : Program} {w : World} {K : PySem.W.Frag} {mg : Str → Option Value} {base : Heap} (Z : Wd K mg) : FnAt P w K mg base (ctK K) 3 "is_setting_of" (["net", "value"] : List PySem.Str) F_is_setting_of := by
  obtain ⟨fd, D⟩ := Z.c.d.def_ 19
  exact ⟨⟨_, fd, ok_is_setting_of Z D, Z.glo_is_setting_of, D.kp, D.bindsN fun _ _ _ _ _ _ us hl => match us, hl with | [_, _], _ => rfl⟩⟩
theorem sc_want_setting : FnScope (["net", "value"] : List PySem.Str) (["net", "value"] : List PySem.Str) (defScope (top 25)) := ⟨rfl, rfl, rfl, by decide +kernel, rfl, by decide +kernel, by decide +kernel⟩
theorem ok_want_setting {P : Program} {w : World} {K : PySem.W.Frag} {mg : Str → Option Value} {base : Heap} (Z : Wd K mg) {x qual : Str} {params : Arguments} {f : Addr} {fd : FuncData} (D : FunD K x qual params (defBody (top 25)) (defScope (top 25)) [] [] f fd) : FnOk P w K mg base (L2.CX P w) 4 f fd (["net", "value"] : List PySem.Str) (spM ⟨K, ctK K⟩ F_want_setting) := by
  refine fn_mir (k := 3) (ct := ctK K) (fb := fb_want_setting) D sc_want_setting rfl rfl (fun cdv A outer s H E hr tk => ?_)
  exact (ss_cons (s_if (t_not (t_val (e_frz (v_call (at_is_setting_of Z) (hr.mono (by decide)) rfl tk (a_cons (k_name (pv 0)) (a_cons (k_name (pv 1)) a_nil)))))) (ss_one s_never) ss_nil)
    (ss_one (s_ret (v_callTy call_list_of g_list rfl Z.free_list (by decide +kernel) (a_cons (k_name (pv 1)) a_nil)))))
theorem at_want_setting {P : Program} {w : World} {K : PySem.W.Frag} {mg : Str → Option Value} {base : Heap} (Z : Wd K mg) : FnAt P w K mg base (ctK K) 4 "want_setting" (["net", "value"] : List PySem.Str) F_want_setting := by
  obtain ⟨fd, D⟩ := Z.c.d.def_ 20
  exact ⟨⟨_, fd, ok_want_setting Z D, Z.glo_want_setting, D.kp, D.bindsN fun _ _ _ _ _ _ us hl => match us, hl with | [_, _], _ => rfl⟩⟩
theorem sc_setting_text : FnScope (["net", "setting", "told", "place"] : List PySem.Str) (["net", "setting"] : List PySem.Str) (defScope (top 34)) := ⟨rfl, rfl, rfl, by decide +kernel, rfl, by decide +kernel, by decide +kernel⟩
theorem ok_setting_text {P : Program} {w : World} {K : PySem.W.Frag} {mg : Str → Option Value} {base : Heap} (Z : Wd K mg) {x qual : Str} {params : Arguments} {f : Addr} {fd : FuncData} (D : FunD K x qual params (defBody (top 34)) (defScope (top 34)) [] [] f fd) : FnOk P w K mg base (L2.CX P w) 5 f fd (["net", "setting"] : List PySem.Str) (spM ⟨K, ctK K⟩ F_setting_text) := by
  obtain ⟨_, h_NEXT_WORD⟩ := Z.str_NEXT_WORD
  refine fn_mir (k := 4) (ct := ctK K) (fb := fb_setting_text) D sc_setting_text rfl rfl (fun cdv A outer s H E hr tk => ?_)
  exact (ss_cons (s_set sc_setting_text.nd rfl (by first | exact Or.inl rfl | exact Or.inr rfl) (v_call (at_want_setting Z) (hr.mono (by decide)) rfl tk (a_cons (k_val (e_frz (v_call (at_want_net Z) (hr.mono (by decide)) rfl tk (a_cons (k_name (pv 0)) a_nil)))) (a_cons (k_name (pv 1)) a_nil))))
    (ss_one (s_ret (v_add (k_val (e_join (k_val e_str) (k_val (e_frz (v_add (k_val (e_frz (v_lst (a_cons (k_val (e_gstr rfl h_NEXT_WORD)) a_nil)))) (k_val (e_frz (v_lc (own := [("place", 3)]) rfl sc_setting_text.nd (i_seq (e_name (pv 2))) (blkOk_by (by kernel_rfl)) (by decide) (fun _ _ _ _ _ => (g_name (pg_nm 3 sc_setting_text.nd))) (fun _ _ _ _ _ => pts_yes) (fun _ _ _ _ _ => (e_frz (v_callTy call_str_int g_strI rfl Z.free_str (by decide +kernel) (a_cons (k_name (pv 3)) a_nil)))))))))))) (k_val e_str)))))
theorem at_setting_text {P : Program} {w : World} {K : PySem.W.Frag} {mg : Str → Option Value} {base : Heap} (Z : Wd K mg) : FnAt P w K mg base (ctK K) 5 "setting_text" (["net", "setting"] : List PySem.Str) F_setting_text := by
  obtain ⟨fd, D⟩ := Z.c.d.def_ 21
  exact ⟨⟨_, fd, ok_setting_text Z D, Z.glo_setting_text, D.kp, D.bindsN fun _ _ _ _ _ _ us hl => match us, hl with | [_, _], _ => rfl⟩⟩
theorem kw_setting_text_0_setting_net {P : Program} {w : World} {K : PySem.W.Frag} {mg : Str → Option Value} {base : Heap} (Z : Wd K mg) : FnKw P w K mg base (ctK K) 5 "setting_text" (["net", "setting"] : List PySem.Str) 0 (["setting", "net"] : List PySem.Str) [1, 0] F_setting_text := by
  obtain ⟨fd, D⟩ := Z.c.d.def_ 21
  exact ⟨⟨_, fd, ok_setting_text Z D, Z.glo_setting_text, D.kp, kbn_of D fun _ _ _ _ _ _ us ws h1 h2 => match us, ws, h1, h2 with | [], [_, _], _, _ => rfl⟩⟩
theorem sc_is_target_of : FnScope (["ends", "points", "value"] : List PySem.Str) (["ends", "points", "value"] : List PySem.Str) (defScope (top 19)) := ⟨rfl, rfl, rfl, by decide +kernel, rfl, by decide +kernel, by decide +kernel⟩
theorem ok_is_target_of {P : Program} {w : World} {K : PySem.W.Frag} {mg : Str → Option Value} {base : Heap} (Z : Wd K mg) {x qual : Str} {params : Arguments} {f : Addr} {fd : FuncData} (D : FunD K x qual params (defBody (top 19)) (defScope (top 19)) [] [] f fd) : FnOk P w K mg base (L2.CX P w) 2 f fd (["ends", "points", "value"] : List PySem.Str) (spM ⟨K, ctK K⟩ F_is_target_of) := by
  refine fn_mir (k := 1) (ct := ctK K) (fb := fb_is_target_of) D sc_is_target_of rfl rfl (fun cdv A outer s H E hr tk => ?_)
  exact (ss_one (s_ret (v_val (e_and (e_frz (v_call (at_is_integer Z) (hr.mono (by decide)) rfl tk (a_cons (k_name (pv 2)) a_nil))) (e_one (e_chain x_le x_lt (k_val (e_neg (k_name (pv 0)))) (k_name (pv 2)) (k_name (pv 1))))))))
theorem at_is_target_of {P : Program} {w : World} {K : PySem.W.Frag} {mg : Str → Option Value} {base : Heap} (Z : Wd K mg) : FnAt P w K mg base (ctK K) 2 "is_target_of" (["ends", "points", "value"] : List PySem.Str) F_is_target_of := by
  obtain ⟨fd, D⟩ := Z.c.d.def_ 22
  exact ⟨⟨_, fd, ok_is_target_of Z D, Z.glo_is_target_of, D.kp, D.bindsN fun _ _ _ _ _ _ us hl => match us, hl with | [_, _, _], _ => rfl⟩⟩
theorem sc_is_exits_row : FnScope (["ends", "points", "value", "target"] : List PySem.Str) (["ends", "points", "value"] : List PySem.Str) (defScope (top 20)) := ⟨rfl, rfl, rfl, by decide +kernel, rfl, by decide +kernel, by decide +kernel⟩
theorem ok_is_exits_row {P : Program} {w : World} {K : PySem.W.Frag} {mg : Str → Option Value} {base : Heap} (Z : Wd K mg) {x qual : Str} {params : Arguments} {f : Addr} {fd : FuncData} (D : FunD K x qual params (defBody (top 20)) (defScope (top 20)) [] [] f fd) : FnOk P w K mg base (L2.CX P w) 3 f fd (["ends", "points", "value"] : List PySem.Str) (spM ⟨K, ctK K⟩ F_is_exits_row) := by
  obtain ⟨_, h_MOST_EXITS⟩ := Z.int_MOST_EXITS
  refine fn_mir (k := 2) (ct := ctK K) (fb := fb_is_exits_row) D sc_is_exits_row rfl rfl (fun cdv A outer s H E hr tk => ?_)
  exact (ss_cons (s_if (t_w (w_or (t_not (t_val (e_frz (v_call (at_is_list Z) (hr.mono (by decide)) rfl tk (a_cons (k_name (pv 2)) a_nil))))) (w_or1 (t_not (t_chain x_le x_le (k_val e_int) (k_val (e_frz (v_callB cr_len g_len rfl Z.free_len (by decide +kernel) (a_cons (k_name (pv 2)) a_nil)))) (k_val (e_gint rfl h_MOST_EXITS))))))) (ss_one (s_ret (v_val e_bl))) ss_nil)
    (ss_one (s_ret (v_callB (cr_all rfl) g_all rfl Z.free_all (by decide +kernel) (a_cons (k_val (e_frz (v_lc (own := [("target", 3)]) rfl sc_is_exits_row.nd (i_seq (e_name (pv 2))) (blkOk_by (by kernel_rfl)) (by decide) (fun _ _ _ _ _ => (g_name (pg_nm 3 sc_is_exits_row.nd))) (fun _ _ _ _ _ => pts_yes) (fun _ _ _ _ _ => (e_frz (v_call (at_is_target_of Z) (hr.mono (by decide)) rfl takes0 (a_cons (k_name (pv 0)) (a_cons (k_name (pv 1)) (a_cons (k_val (e_name (pv 3))) a_nil))))))))) a_nil)))))
theorem at_is_exits_row {P : Program} {w : World} {K : PySem.W.Frag} {mg : Str → Option Value} {base : Heap} (Z : Wd K mg) : FnAt P w K mg base (ctK K) 3 "is_exits_row" (["ends", "points", "value"] : List PySem.Str) F_is_exits_row := by
  obtain ⟨fd, D⟩ := Z.c.d.def_ 23
  exact ⟨⟨_, fd, ok_is_exits_row Z D, Z.glo_is_exits_row, D.kp, D.bindsN fun _ _ _ _ _ _ us hl => match us, hl with | [_, _, _], _ => rfl⟩⟩
theorem sc_want_at_most : FnScope (["what", "limit", "number"] : List PySem.Str) (["what", "limit", "number"] : List PySem.Str) (defScope (top 13)) := ⟨rfl, rfl, rfl, by decide +kernel, rfl, by decide +kernel, by decide +kernel⟩
theorem ok_want_at_most {P : Program} {w : World} {K : PySem.W.Frag} {mg : Str → Option Value} {base : Heap} (Z : Wd K mg) {x qual : Str} {params : Arguments} {f : Addr} {fd : FuncData} (D : FunD K x qual params (defBody (top 13)) (defScope (top 13)) [] [] f fd) : FnOk P w K mg base (L2.CX P w) 1 f fd (["what", "limit", "number"] : List PySem.Str) (spM ⟨K, ctK K⟩ F_want_at_most) := by
  refine fn_mir (k := 0) (ct := ctK K) (fb := fb_want_at_most) D sc_want_at_most rfl rfl (fun cdv A outer s H E hr tk => ?_)
  exact (ss_one (s_if (t_cp x_gt (k_name (pv 2)) (k_name (pv 1)) (nomark _)) (ss_one s_never) ss_nil))
theorem at_want_at_most {P : Program} {w : World} {K : PySem.W.Frag} {mg : Str → Option Value} {base : Heap} (Z : Wd K mg) : FnAt P w K mg base (ctK K) 1 "want_at_most" (["what", "limit", "number"] : List PySem.Str) F_want_at_most := by
  obtain ⟨fd, D⟩ := Z.c.d.def_ 24
  exact ⟨⟨_, fd, ok_want_at_most Z D, Z.glo_want_at_most, D.kp, D.bindsN fun _ _ _ _ _ _ us hl => match us, hl with | [_, _, _], _ => rfl⟩⟩
theorem sc_want_exits : FnScope (["ends", "value", "exits"] : List PySem.Str) (["ends", "value"] : List PySem.Str) (defScope (top 21)) := ⟨rfl, rfl, rfl, by decide +kernel, rfl, by decide +kernel, by decide +kernel⟩
theorem ok_want_exits {P : Program} {w : World} {K : PySem.W.Frag} {mg : Str → Option Value} {base : Heap} (Z : Wd K mg) {x qual : Str} {params : Arguments} {f : Addr} {fd : FuncData} (D : FunD K x qual params (defBody (top 21)) (defScope (top 21)) [] [] f fd) : FnOk P w K mg base (L2.CX P w) 4 f fd (["ends", "value"] : List PySem.Str) (spM ⟨K, ctK K⟩ F_want_exits) := by
  obtain ⟨_, h_MOST_POINTS⟩ := Z.int_MOST_POINTS
  obtain ⟨_, h_MOST_TRACKS⟩ := Z.int_MOST_TRACKS
  refine fn_mir (k := 3) (ct := ctK K) (fb := fb_want_exits) D sc_want_exits rfl rfl (fun cdv A outer s H E hr tk => ?_)
  exact (ss_cons (s_if (t_w (w_or (t_not (t_val (e_frz (v_call (at_is_list Z) (hr.mono (by decide)) rfl tk (a_cons (k_name (pv 1)) a_nil))))) (w_or1 (t_not (t_chain x_le x_le (k_val e_int) (k_val (e_frz (v_callB cr_len g_len rfl Z.free_len (by decide +kernel) (a_cons (k_name (pv 1)) a_nil)))) (k_val (e_gint rfl h_MOST_POINTS))))))) (ss_one s_never) ss_nil)
    (ss_cons (s_if (t_not (t_val (e_frz (v_callB (cr_all rfl) g_all rfl Z.free_all (by decide +kernel) (a_cons (k_val (e_frz (v_lc (own := [("exits", 2)]) rfl sc_want_exits.nd (i_seq (e_name (pv 1))) (blkOk_by (by kernel_rfl)) (by decide) (fun _ _ _ _ _ => (g_name (pg_nm 2 sc_want_exits.nd))) (fun _ _ _ _ _ => pts_yes) (fun _ _ _ _ _ => (e_frz (v_call (at_is_exits_row Z) (hr.mono (by decide)) rfl takes0 (a_cons (k_name (pv 0)) (a_cons (k_val (e_frz (v_callB cr_len g_len rfl Z.free_len (by decide +kernel) (a_cons (k_name (pv 1)) a_nil)))) (a_cons (k_val (e_name (pv 2))) a_nil))))))))) a_nil))))) (ss_one s_never) ss_nil)
    (ss_cons (s_expr (v_call (at_want_at_most Z) (hr.mono (by decide)) rfl tk (a_cons (k_val e_str) (a_cons (k_val (e_gint rfl h_MOST_TRACKS)) (a_cons (k_val (e_frz (v_callB (cr_sum rfl) g_sum rfl Z.free_sum (by decide +kernel) (a_cons (k_val (e_frz (v_lc (own := [("exits", 2)]) rfl sc_want_exits.nd (i_seq (e_name (pv 1))) (blkOk_by (by kernel_rfl)) (by decide) (fun _ _ _ _ _ => (g_name (pg_nm 2 sc_want_exits.nd))) (fun _ _ _ _ _ => pts_yes) (fun _ _ _ _ _ => (e_frz (v_callB cr_len g_len rfl Z.free_len (by decide +kernel) (a_cons (k_name (pv 2)) a_nil))))))) a_nil)))) a_nil)))))
    (ss_one (s_ret (v_callTy call_tuple_of g_tuple rfl Z.free_tuple (by decide +kernel) (a_cons (k_val (e_frz (v_lc (own := [("exits", 2)]) rfl sc_want_exits.nd (i_seq (e_name (pv 1))) (blkOk_by (by kernel_rfl)) (by decide) (fun _ _ _ _ _ => (g_name (pg_nm 2 sc_want_exits.nd))) (fun _ _ _ _ _ => pts_yes) (fun _ _ _ _ _ => (e_frz (v_callTy call_tuple_of g_tuple rfl Z.free_tuple (by decide +kernel) (a_cons (k_name (pv 2)) a_nil))))))) a_nil)))))))
theorem at_want_exits {P : Program} {w : World} {K : PySem.W.Frag} {mg : Str → Option Value} {base : Heap} (Z : Wd K mg) : FnAt P w K mg base (ctK K) 4 "want_exits" (["ends", "value"] : List PySem.Str) F_want_exits := by
  obtain ⟨fd, D⟩ := Z.c.d.def_ 25
  exact ⟨⟨_, fd, ok_want_exits Z D, Z.glo_want_exits, D.kp, D.bindsN fun _ _ _ _ _ _ us hl => match us, hl with | [_, _], _ => rfl⟩⟩
theorem sc_Net_lay : FnScope (["self", "ends", "rows", "exits", "targets", "firsts"] : List PySem.Str) (["self", "ends", "rows"] : List PySem.Str) (defScope (inClass (top 22) 1)) := ⟨rfl, rfl, rfl, by decide +kernel, rfl, by decide +kernel, by decide +kernel⟩
theorem ok_Net_lay {P : Program} {w : World} {K : PySem.W.Frag} {mg : Str → Option Value} {base : Heap} (Z : Wd K mg) {x qual : Str} {params : Arguments} {f : Addr} {fd : FuncData} (D : FunD K x qual params (defBody (inClass (top 22) 1)) (defScope (inClass (top 22) 1)) [] [] f fd) : FnOk P w K mg base (L2.CX P w) 1 f fd (["self", "ends", "rows"] : List PySem.Str) (spM ⟨K, ctK K⟩ F_Net_lay) := by
  refine fn_mir (k := 0) (ct := ctK K) (fb := fb_Net_lay) D sc_Net_lay rfl rfl (fun cdv A outer s H E hr tk => ?_)
  exact (ss_cons (s_par2 rfl sc_Net_lay.nd rfl rfl (by decide) rfl rfl (v_lst a_nil) (v_lst a_nil) rfl)
    (ss_cons (s_for (passes_of rfl) rfl (i_seq (e_name (pv 2))) (g_name (pg_nm 3 sc_Net_lay.nd)) (ss_cons (s_expr (v_val (e_mut PySem.F.plainAttrs_list PySem.F.slot_list_append PySem.F.type_list_append mt_append mutG_append (pv 5) (a_cons (k_val (e_frz (v_callB cr_len g_len rfl Z.free_len (by decide +kernel) (a_cons (k_name (pv 4)) a_nil)))) a_nil))))
    (ss_one (s_expr (v_val (e_mut PySem.F.plainAttrs_list PySem.F.slot_list_extend PySem.F.type_list_extend (MtM.or mt_extend mt_extendT) mutG_extend (pv 4) (a_cons (k_val (e_name (pv 3))) a_nil)))))))
    (ss_cons (s_fld (pv 0) (e_name (pv 1)) Z.cls_Net.obj.cls (Z.cls_Net.noat "own_ends" (by decide)))
    (ss_cons (s_fld (pv 0) (e_name (pv 2)) Z.cls_Net.obj.cls (Z.cls_Net.noat "own_exits" (by decide)))
    (ss_cons (s_fld (pv 0) (e_frz (v_callTy call_tuple_of g_tuple rfl Z.free_tuple (by decide +kernel) (a_cons (k_name (pv 4)) a_nil))) Z.cls_Net.obj.cls (Z.cls_Net.noat "own_targets" (by decide)))
    (ss_one (s_fld (pv 0) (e_frz (v_callTy call_tuple_of g_tuple rfl Z.free_tuple (by decide +kernel) (a_cons (k_name (pv 5)) a_nil))) Z.cls_Net.obj.cls (Z.cls_Net.noat "own_firsts" (by decide)))))))))
theorem meth_Net_lay {P : Program} {w : World} {K : PySem.W.Frag} {mg : Str → Option Value} {base : Heap} (Z : Wd K mg) : MethAt P w K mg base (ctK K) 1 0 "lay" (["self", "ends", "rows"] : List PySem.Str) F_Net_lay := by
  obtain ⟨fd, D⟩ := Z.c.d.def_ 26
  exact ⟨⟨_, fd, ok_Net_lay Z D, Z.cls_Net.obj.cls, Z.cls_Net.meth "lay" (by decide), D.bindsN fun _ _ _ _ _ _ us hl => match us, hl with | [_, _, _], _ => rfl⟩⟩
theorem sc_Net___init__ : FnScope (["self", "ends", "exits"] : List PySem.Str) (["self", "ends", "exits"] : List PySem.Str) (defScope (inClass (top 22) 0)) := ⟨rfl, rfl, rfl, by decide +kernel, rfl, by decide +kernel, by decide +kernel⟩
theorem ok_Net___init__ {P : Program} {w : World} {K : PySem.W.Frag} {mg : Str → Option Value} {base : Heap} (Z : Wd K mg) {x qual : Str} {params : Arguments} {f : Addr} {fd : FuncData} (D : FunD K x qual params (defBody (inClass (top 22) 0)) (defScope (inClass (top 22) 0)) [] [] f fd) : FnOk P w K mg base (L2.CX P w) 5 f fd (["self", "ends", "exits"] : List PySem.Str) (spM ⟨K, ctK K⟩ F_Net___init__) := by
  obtain ⟨_, h_MOST_ENDS⟩ := Z.int_MOST_ENDS
  refine fn_mir (k := 4) (ct := ctK K) (fb := fb_Net___init__) D sc_Net___init__ rfl rfl (fun cdv A outer s H E hr tk => ?_)
  exact (ss_cons (s_if (t_w (w_or (t_not (t_val (e_frz (v_call (at_is_count Z) (hr.mono (by decide)) rfl tk (a_cons (k_name (pv 1)) a_nil))))) (w_or1 (t_cp x_gt (k_name (pv 1)) (k_val (e_gint rfl h_MOST_ENDS)) (nomark _))))) (ss_one s_never) ss_nil)
    (ss_one (s_expr (v_meth (meth_Net_lay Z) (hr.mono (by decide)) (xok_def tk) (k_name (pv 0)) (a_cons (k_name (pv 1)) (a_cons (k_val (e_frz (v_call (at_want_exits Z) (hr.mono (by decide)) rfl tk (a_cons (k_name (pv 1)) (a_cons (k_name (pv 2)) a_nil))))) a_nil))))))
theorem make_Net {P : Program} {w : World} {K : PySem.W.Frag} {mg : Str → Option Value} {base : Heap} (Z : Wd K mg) : MakeAt P w K mg base (ctK K) 5 "Net" 0 (["self", "ends", "exits"] : List PySem.Str) F_Net___init__ := by
  obtain ⟨fd, D⟩ := Z.c.d.def_ 27
  exact ⟨⟨_, fd, ok_Net___init__ Z D, Z.cls_Net.mkr, Z.glo_Net, D.bindsN fun _ _ _ _ _ _ us hl => match us, hl with | [_, _, _], _ => rfl⟩⟩
theorem sc__law_right : FnScope (["_law_pot_here", "_law_row", "_law_text", "_law_values", "_law_turn", "_law_ends", "_law_exits", "_law_net_here", "_law_setting", "_law_value", "_law_one"] : List PySem.Str) (["_law_pot_here"] : List PySem.Str) (defScope (top 46)) := ⟨rfl, rfl, rfl, by decide +kernel, rfl, by decide +kernel, by decide +kernel⟩
theorem ok__law_right {P : Program} {w : World} {K : PySem.W.Frag} {mg : Str → Option Value} {base : Heap} (Z : Wd K mg) {x qual : Str} {params : Arguments} {f : Addr} {fd : FuncData} (D : FunD K x qual params (defBody (top 46)) (defScope (top 46)) [] [] f fd) : FnG P w K mg base 7 f fd (["_law_pot_here"] : List PySem.Str) (spM ⟨K, ctK K⟩ F__law_right) := by
  refine fn_mirG (k := 6) (ct := ctK K) (fb := fb__law_right) D sc__law_right rfl rfl (fun cdv A outer s H E hgu hr tk => ?_)
  exact (ss_cons (s_asgT (e_frz (v_call (at__law_net Z) (hr.mono (by decide)) rfl tk (a_cons (k_name (pv 0)) a_nil))) (h_tup rfl (hs_cons (h_name (pg_nm 5 sc__law_right.nd)) (hs_cons (h_name (pg_nm 6 sc__law_right.nd)) hs_nil))))
    (ss_cons (s_par2T rfl (pg_nm 7 sc__law_right.nd) (pg_nm 8 sc__law_right.nd) (v_make (make_Net Z) (hr.mono (by decide)) rfl (xok_def tk) (a_cons (k_val (e_name (pv 5))) (a_cons (k_val (e_name (pv 6))) a_nil))) (v_lst a_nil))
    (ss_cons (s_for (passes_of rfl) rfl (i_seq (e_name (pv 6))) (g_name (pg_nm 1 sc__law_right.nd)) (ss_one (s_expr (v_val (e_mut PySem.F.plainAttrs_list PySem.F.slot_list_append PySem.F.type_list_append mt_append mutG_append (pv 8) (a_cons (k_val (e_frz (v_call (at__law_draw Z) (hr.mono (by decide)) rfl tk (a_cons (k_name (pv 0)) (a_cons (k_val (e_frz (v_callB cr_len g_len rfl Z.free_len (by decide +kernel) (a_cons (k_name (pv 1)) a_nil)))) a_nil))))) a_nil))))))
    (ss_cons (s_set sc__law_right.nd rfl (by first | exact Or.inl rfl | exact Or.inr rfl) (v_add (k_val (e_join (k_val e_str) (k_val (e_frz (v_add (k_val (e_frz (v_lst (a_cons (k_val e_str) a_nil)))) (k_val (e_frz (v_lc (own := [("_law_one", 10)]) rfl sc__law_right.nd (i_seq (e_name (pv 8))) (blkOk_by (by kernel_rfl)) (by decide) (fun _ _ _ _ _ => (g_name (pg_nm 10 sc__law_right.nd))) (fun _ _ _ _ _ => pts_yes) (fun _ _ _ _ _ => (e_frz (v_callB (cr_reprD hgu hr) g_reprD rfl Z.free_repr (by decide +kernel) (a_cons (k_name (pv 10)) a_nil)))))))))))) (k_val e_str)))
    (ss_cons (s_if (t_w (w_or (t_cp x_neT (k_val (e_frz (v_call (at_setting_text Z) (hr.mono (by decide)) rfl tk (a_cons (k_val (e_name (pv 7))) (a_cons (k_val (e_name (pv 8))) a_nil))))) (k_name (pv 2)) (nomark _)) (w_or1 (t_cp x_neT (k_val (e_frz (v_callK0 (kw_setting_text_0_setting_net Z) (hr.mono (by decide)) rfl (xok_def tk) (kw_cons (k_val (e_frz (v_callTy call_tuple_of g_tuple rfl Z.free_tuple (by decide +kernel) (a_cons (k_name (pv 8)) a_nil)))) (kw_cons (k_val (e_name (pv 7))) kw_nil))))) (k_name (pv 2)) (nomark _))))) (ss_one (s_ret (v_val e_bl))) ss_nil)
    (ss_cons (s_if (t_cp (x_ne hr) (k_val (e_frz (v_callK0 (kw_setting_of_0_text_net Z) (hr.mono (by decide)) rfl (xok_def tk) (kw_cons (k_val (e_name (pv 2))) (kw_cons (k_val (e_name (pv 7))) kw_nil))))) (k_name (pv 8)) (nomark _)) (ss_one (s_ret (v_val e_bl))) ss_nil)
    (ss_cons (s_set sc__law_right.nd rfl (by first | exact Or.inl rfl | exact Or.inr rfl) (v_lst (a_cons (k_val e_str) (a_cons (k_val e_str) (a_cons (k_val e_str) (a_cons (k_val e_str) (a_cons (k_val e_str) (a_cons (k_val e_str) (a_cons (k_val (e_frz (v_sliceT (k_name (pv 2)) o_none (o_some (k_val (e_neg (k_val e_int))))))) (a_cons (k_val (e_frz (v_mulS (k_name (pv 2)) (k_val e_int)))) a_nil))))))))))
    (ss_cons (s_for (passes_of rfl) rfl (i_range1 rfl Z.free_range (a_cons (k_val e_int) a_nil)) (g_name (pg_nm 4 sc__law_right.nd)) (ss_one (s_expr (v_val (e_mut PySem.F.plainAttrs_list PySem.F.slot_list_append PySem.F.type_list_append mt_append mutG_append (pv 3) (a_cons (k_val (e_frz (v_call (at__law_bent Z) (hr.mono (by decide)) rfl tk (a_cons (k_name (pv 0)) (a_cons (k_val (e_name (pv 2))) a_nil))))) a_nil))))))
    (ss_one (s_ret (v_callB (cr_all rfl) g_all rfl Z.free_all (by decide +kernel) (a_cons (k_val (e_frz (v_lc (own := [("_law_value", 9)]) rfl sc__law_right.nd (i_seq (e_name (pv 3))) (blkOk_by (by kernel_rfl)) (by decide) (fun _ _ _ _ _ => (g_name (pg_nm 9 sc__law_right.nd))) (fun _ _ _ _ _ => pts_yes) (fun _ _ _ _ _ => (e_cp x_eqT (k_val (e_frz (v_callB (cr_reprD hgu hr) g_reprD rfl Z.free_repr (by decide +kernel) (a_cons (k_val (e_frz (v_call (at__law_told Z) (hr.mono (by decide)) rfl takes0 (a_cons (k_val (e_name (pv 7))) (a_cons (k_val (e_name (pv 9))) a_nil))))) a_nil)))) (k_val (e_frz (v_callB (cr_reprD hgu hr) g_reprD rfl Z.free_repr (by decide +kernel) (a_cons (k_val (e_frz (v_call (at__law_read Z) (hr.mono (by decide)) rfl takes0 (a_cons (k_val (e_name (pv 6))) (a_cons (k_val (e_name (pv 9))) a_nil))))) a_nil)))) (nomark _)))))) a_nil))))))))))))
theorem at__law_right {P : Program} {w : World} {K : PySem.W.Frag} {mg : Str → Option Value} {base : Heap} (Z : Wd K mg) : FnAtG P w K mg base (ctK K) 7 "_law_right" (["_law_pot_here"] : List PySem.Str) F__law_right := by
  obtain ⟨fd, D⟩ := Z.c.d.def_ 28
  exact ⟨⟨_, fd, ok__law_right Z D, Z.glo__law_right, D.kp, D.bindsN fun _ _ _ _ _ _ us hl => match us, hl with | [_], _ => rfl⟩⟩
theorem sc_law : FnScope (["_law_script"] : List PySem.Str) (["_law_script"] : List PySem.Str) (defScope (top 47)) := ⟨rfl, rfl, rfl, by decide +kernel, rfl, by decide +kernel, by decide +kernel⟩
theorem ok_law {P : Program} {w : World} {K : PySem.W.Frag} {mg : Str → Option Value} {base : Heap} (Z : Wd K mg) {x qual : Str} {params : Arguments} {f : Addr} {fd : FuncData} (D : FunD K x qual params (defBody (top 47)) (defScope (top 47)) [] [] f fd) : FnG P w K mg base 8 f fd (["_law_script"] : List PySem.Str) (spM ⟨K, ctK K⟩ F_law) := by
  refine fn_mirG (k := 7) (ct := ctK K) (fb := fb_law) D sc_law rfl rfl (fun cdv A outer s H E hgu hr tk => ?_)
  exact (ss_one (s_ret (v_callFG (at__law_right Z) hgu (hr.mono (by decide)) rfl tk (v_call (at__law_pot Z) (hr.mono (by decide)) rfl tk (a_cons (k_name (pv 0)) (a_cons (k_val e_int) a_nil))))))
theorem at_law {P : Program} {w : World} {K : PySem.W.Frag} {mg : Str → Option Value} {base : Heap} (Z : Wd K mg) : FnAtG P w K mg base (ctK K) 8 "law" (["_law_script"] : List PySem.Str) F_law := by
  obtain ⟨fd, D⟩ := Z.c.d.def_ 29
  exact ⟨⟨_, fd, ok_law Z D, Z.glo_law, D.kp, D.bindsN fun _ _ _ _ _ _ us hl => match us, hl with | [_], _ => rfl⟩⟩
end K17
end
section
set_option Elab.async false
set_option linter.all false
set_option autoImplicit false
set_option maxRecDepth 100000
set_option maxHeartbeats 4000000
namespace K17
open PySem PySem.Spec L2 MM

/-! ### draws -/
def PotOk (b : Int) : Prop := 0 ≤ b ∧ b ≤ 2147483647
abbrev pot (a b : Int) : MV := .lst [.int a, .int b]
theorem draw (a b n : Int) (hb : PotOk b) (h1 : 1 ≤ n) (h2 : n < 1073741824) : ∃ v a' b', F__law_draw [.p (pot a b), .d (.int n)] = .ret (.d (.int v)) [some (pot a' b'), none] ∧ PotOk b' ∧ 0 ≤ v ∧ v < n := by
  obtain ⟨b1, b2⟩ := hb
  by_cases h : 0 < a
  · refine ⟨a % n, a / n, b, ?_, ⟨b1, b2⟩, Int.emod_nonneg _ (by omega), Int.emod_lt_of_pos _ (by omega)⟩
    rw [F__law_draw, runD_2, fb__law_draw]
    have h3 : 0 < n ∧ n < 1073741824 := ⟨by omega, h2⟩
    simp [pot, h, h3]
  · have c1 : CMulW b 16807 := cmulW (a := 64) (b := 64) (by omega) (by decide)
    refine ⟨((b * 16807) % 2147483647 / 13) % n, a, (b * 16807) % 2147483647, ?_, ⟨Int.emod_nonneg _ (by omega), by have := Int.emod_lt_of_pos (b * 16807) (show (0 : Int) < 2147483647 by omega); omega⟩, Int.emod_nonneg _ (by omega : n ≠ 0), Int.emod_lt_of_pos _ (by omega)⟩
    · have q1 := Int.emod_nonneg (b * 16807) (show (2147483647 : Int) ≠ 0 by omega)
      have q2 := Int.emod_lt_of_pos (b * 16807) (show (0 : Int) < 2147483647 by omega)
      have c3 : CDivW ((b * 16807) % 2147483647) 13 := cdivW (by omega) (by omega)
      have c4 : 0 < n := by omega
      rw [F__law_draw, runD_2, fb__law_draw]
      simp [pot, h, c1, c3, c4]
theorem pot_ok (ns : List Int) : ∃ a b, F__law_pot [.d (.scr ns), .d (.int 0)] = .ret (.m (pot a b)) [none, none] ∧ PotOk b := by
  have hp : CPow 10 18 := by decide
  have m0 : CMulW 1019 0 := by decide
  have m1 : CMulW 1811 0 := by decide
  have m2 : CMulW 641 41189 := by decide
  have mm : ∀ x : Int, CMulW (x % 2147483549) 41189 := fun x => by
    have q1 := Int.emod_nonneg x (show (2147483549 : Int) ≠ 0 by omega)
    have q2 := Int.emod_lt_of_pos x (show (0 : Int) < 2147483549 by omega)
    exact cmulW (a := 64) (b := 64) (by omega) (by decide)
  have ok : ∀ x : Int, PotOk (x % 2147483563 + 1) := fun x => by
    have q1 := Int.emod_nonneg x (show (2147483563 : Int) ≠ 0 by omega)
    have q2 := Int.emod_lt_of_pos x (show (0 : Int) < 2147483563 by omega)
    exact ⟨by omega, by omega⟩
  cases ns with
  | nil =>
    refine ⟨0, _, ?_, ok ((641 % 2147483549) * 41189 + 109)⟩
    rw [F__law_pot, runD_2, fb__law_pot]
    simp [pot, hp, m0, m1, m2, mm]
  | cons n ns =>
    refine ⟨if (if n < 0 then -n else n) - 10 ^ 18 > 0 then (if n < 0 then -n else n) - 10 ^ 18 else 0, _, ?_, ok (((if n < 0 then -n else n) % 2147483549) * 41189 + 109)⟩
    rw [F__law_pot, runD_2, fb__law_pot]
    have hl : (0 : Int) < ((n :: ns).length : Int) := by simp
    simp [pot, hp, m0, m1, mm]

/-- exits of points: rows of targets, of ends (negative) or points -/
def Tgt (ends points t : Int) : Prop := -ends ≤ t ∧ t < points
/-- each a place in its row -/
def SetOk (es : List (List Int)) (xs : List Int) : Prop := xs.length = es.length ∧ ∀ (i : Nat) (x : Int) (r : List Int), xs[i]? = some x → es[i]? = some r → 0 ≤ x ∧ x < r.length
@[simp] theorem is_integer_int (i : Int) : F_is_integer [.d (.int i)] = .ret (.d (.bl true)) [none] := by
  rw [F_is_integer, runD_1, fb_is_integer]
  simp
@[simp] theorem is_count_int (i : Int) : F_is_count [.d (.int i)] = .ret (.d (.bl (decide (0 ≤ i)))) [none] := by
  rw [F_is_count, runD_1, fb_is_count]
  simp
@[simp] theorem is_list_lst (xs : List D) : F_is_list [.d (.lst xs)] = .ret (.d (.bl true)) [none] := by
  rw [F_is_list, runD_1, fb_is_list]
  simp
@[simp] theorem is_list_tup (xs : List D) : F_is_list [.d (.tup xs)] = .ret (.d (.bl true)) [none] := by
  rw [F_is_list, runD_1, fb_is_list]
  simp
@[simp] theorem is_target_of_int (e p t : Int) : F_is_target_of [.d (.int e), .d (.int p), .d (.int t)] = .ret (.d (.bl (decide (-e ≤ t) && decide (t < p)))) [none, none, none] := by
  rw [F_is_target_of, runD_3, fb_is_target_of]
  by_cases h : -e ≤ t <;> simp [h]
@[simp] theorem want_net_obj (ds : List D) : F_want_net [.d (.obj 0 ds)] = .ret (.d (.obj 0 ds)) [none] := by
  rw [F_want_net, runD_1, fb_want_net]
  simp
theorem want_at_most_ok (x : Str) (l n : Int) (h : n ≤ l) : F_want_at_most [.d (.str x), .d (.int l), .d (.int n)] = .ret (.d .non) [none, none, none] := by
  rw [F_want_at_most, runD_3, fb_want_at_most]
  have : ¬ l < n := by omega
  simp [this]
/-- a row that may be -/
def RowOk (e p : Int) (r : List Int) : Prop := 1 ≤ r.length ∧ r.length ≤ 6 ∧ ∀ t ∈ r, Tgt e p t
theorem row_all {e p : Int} {r : List Int} (h : ∀ t ∈ r, Tgt e p t) : (r.all fun t => decide (-e ≤ t) && decide (t < p)) = true := by
  rw [List.all_eq_true]
  intro t ht
  obtain ⟨h1, h2⟩ := h t ht
  simp [h1, h2]
theorem is_exits_row_lst (e p : Int) (r : List Int) (h : RowOk e p r) : F_is_exits_row [.d (.int e), .d (.int p), .d (.lst (r.map D.int))] = .ret (.d (.bl true)) [none, none, none] := by
  obtain ⟨h1, h2, h3⟩ := h
  have hc : lcGo [3] (gSet 3) tYesF ce_is_exits_row_1 (r.map D.int) [] [some (.d (.int e)), some (.d (.int p)), some (.d (.lst (r.map D.int))), none] = .ok (r.map fun t => D.bl (decide (-e ≤ t) && decide (t < p))) [some (.d (.int e)), some (.d (.int p)), some (.d (.lst (r.map D.int))), none] :=
    lcGo_map _ _ (by simp; omega) fun t ht => ⟨_, _, _, by simp; rfl, by simp; rfl, by simp [ce_is_exits_row_1]; rfl, by simp⟩
  have e1 : (1 : Int) ≤ r.length := by omega
  have e2 : (r.length : Int) ≤ 6 := by omega
  rw [F_is_exits_row, runD_3, fb_is_exits_row]
  simp [lcF_ev, hc, fAll_fun, row_all h3, e1, e2]
/-- exits that may be a net's -/
structure NetOk (e : Int) (es : List (List Int)) : Prop where
  e0 : 0 ≤ e
  e6 : e ≤ 6
  p1 : 1 ≤ es.length
  p24 : es.length ≤ 24
  row : ∀ r ∈ es, RowOk e es.length r
  sum : (es.map fun r => (r.length : Int)).sum ≤ 60
theorem want_exits_lst (e : Int) (es : List (List Int)) (h : NetOk e es) : F_want_exits [.d (.int e), .d (.lst (rowsD es))] = .ret (.d (.tup (trowsD es))) [none, none] := by
  have hl : es.length ≤ LIM := by have := h.p24; show es.length ≤ 1000000; omega
  have h1 : lcGo [2] (gSet 2) tYesF ce_want_exits_1 (rowsD es) [] [some (.d (.int e)), some (.d (.lst (rowsD es))), none] = .ok (es.map fun _ => D.bl true) [some (.d (.int e)), some (.d (.lst (rowsD es))), none] :=
    lcGo_map (h := fun r => D.lst (r.map D.int)) _ hl fun r hr => ⟨_, _, _, by simp; rfl, by simp; rfl, by simp [ce_want_exits_1, is_exits_row_lst _ _ _ (h.row r hr)]; rfl, by simp⟩
  have h2 : lcGo [2] (gSet 2) tYesF ce_want_exits_2 (rowsD es) [] [some (.d (.int e)), some (.d (.lst (rowsD es))), none] = .ok (es.map fun r => D.int r.length) [some (.d (.int e)), some (.d (.lst (rowsD es))), none] :=
    lcGo_map (h := fun r => D.lst (r.map D.int)) _ hl fun r hr => ⟨_, _, _, by simp; rfl, by simp; rfl, by simp [ce_want_exits_2]; rfl, by simp⟩
  have h3 : lcGo [2] (gSet 2) tYesF ce_want_exits_3 (rowsD es) [] [some (.d (.int e)), some (.d (.lst (rowsD es))), none] = .ok (trowsD es) [some (.d (.int e)), some (.d (.lst (rowsD es))), none] :=
    lcGo_map (h := fun r => D.lst (r.map D.int)) (fun r => D.tup (r.map D.int)) hl fun r hr => ⟨_, _, _, by simp; rfl, by simp; rfl, by simp [ce_want_exits_3]; rfl, by simp⟩
  have e1 : (1 : Int) ≤ es.length := by have := h.p1; omega
  have e2 : (es.length : Int) ≤ 24 := by have := h.p24; omega
  have a1 : (es.all fun _ => true) = true := by rw [List.all_eq_true]; intros; rfl
  rw [F_want_exits, runD_2, fb_want_exits]
  simp [lcF_ev, h1, h2, h3, fAll_fun (fun _ => true), fSum_fun, want_at_most_ok _ _ _ h.sum, e1, e2]
/-- where the points' tracks begin -/
def firsts : Nat → List (List Int) → List Int
  | _, [] => []
  | k, r :: rs => (k : Int) :: firsts (k + r.length) rs
theorem firsts_app (r : List Int) : ∀ (es : List (List Int)) (k : Nat), firsts k (es ++ [r]) = firsts k es ++ [((k + es.flatten.length : Nat) : Int)]
  | [], k => by simp [firsts]
  | e :: es, k => by
    rw [List.cons_append, firsts, firsts_app r es, firsts]
    simp
    omega
abbrev netF (e : Int) (es : List (List Int)) : List D := [.int e, .tup (trowsD es), .tup (es.flatten.map D.int), .tup ((firsts 0 es).map D.int)]
abbrev netD (e : Int) (es : List (List Int)) : D := .obj 0 (netF e es)
theorem len_flat (es : List (List Int)) : ((es.flatten.length : Nat) : Int) = (es.map fun r => (r.length : Int)).sum := by
  induction es with
  | nil => rfl
  | cons r es ih => rw [List.flatten_cons, List.length_append, Int.natCast_add, ih, List.map_cons, List.sum_cons]
abbrev laE (x : MV) (e : Int) (es fs : List (List Int)) (o3 : Option EV) : MM.Env := [some (.p x), some (.d (.int e)), some (.d (.tup (trowsD es))), o3, some (.m (.lst (fs.flatten.map D.int))), some (.m (.lst ((firsts 0 fs).map D.int)))]
theorem firsts_len : ∀ (es : List (List Int)) (k : Nat), (firsts k es).length = es.length
  | [], _ => rfl
  | e :: es, k => by simp [firsts, firsts_len es]
theorem lay_loop (x : MV) (e : Int) (es : List (List Int)) (h24 : es.length ≤ 1000) (h60 : es.flatten.length ≤ 1000) : ∃ o3, forGo (gSet 3) lb_Net_lay_1 (trowsD es) (laE x e es [] none) = .nx (laE x e es es o3) := by
  obtain ⟨e', h1, o3, rfl, _⟩ := forGo_inv (body := lb_Net_lay_1) (ft := gSet 3) (ds := trowsD es) (fun i e' => ∃ (o3 : Option EV), e' = laE x e es (es.take i) o3 ∧ isP o3 = false) (e := laE x e es [] none) ⟨none, by simp, rfl⟩ fun i d e' hd => by
    rintro ⟨o3, rfl, h3⟩
    unfold trowsD at hd
    rw [List.getElem?_map] at hd
    obtain ⟨r, hr, rfl⟩ := Option.map_eq_some_iff.mp hd
    have hi : i < es.length := (List.getElem?_eq_some_iff.mp hr).1
    have ht : es.take (i + 1) = es.take i ++ [r] := by rw [List.take_succ, hr]; rfl
    have hs : (es.take (i + 1)).flatten.length ≤ es.flatten.length := by
      have := List.length_flatten (L := es)
      conv => rhs; rw [← List.take_append_drop (i + 1) es]
      rw [List.flatten_append, List.length_append]
      omega
    rw [ht] at hs
    rw [List.flatten_append, List.length_append] at hs
    simp only [List.flatten_cons, List.flatten_nil, List.append_nil] at hs
    refine ⟨laE x e es (es.take i) (some (.d (.tup (r.map D.int)))), laE x e es (es.take (i + 1)) (some (.d (.tup (r.map D.int)))), by simp [laE, h3], ?_, _, rfl, rfl⟩
    have l1 : (firsts 0 (es.take i)).length < 1000000 := by rw [firsts_len, List.length_take]; omega
    have l2 : (es.take i).flatten.length + r.length ≤ 1000000 := by omega
    rw [ht]
    simp only [laE, firsts_app, List.flatten_append, List.flatten_cons, List.flatten_nil, List.append_nil, Nat.zero_add]
    generalize (es.take i).flatten = F at l2
    generalize firsts 0 (es.take i) = G at l1
    simp [lb_Net_lay_1, l1, l2]
  rw [trowsD_len, List.take_length] at h1
  exact ⟨o3, h1⟩
theorem pn1 : putNs "own_ends" [] = (["own_ends"] : List PySem.Str) := by kernel_rfl
theorem pn2 : putNs "own_exits" ["own_ends"] = (["own_ends", "own_exits"] : List PySem.Str) := by kernel_rfl
theorem pn3 : putNs "own_targets" ["own_ends", "own_exits"] = (["own_ends", "own_exits", "own_targets"] : List PySem.Str) := by kernel_rfl
theorem pn4 : putNs "own_firsts" ["own_ends", "own_exits", "own_targets"] = clsNames 0 := by kernel_rfl
theorem pd1 (x : D) : putDs "own_ends" x [] [] = [x] := by kernel_rfl
theorem pd2 (a x : D) : putDs "own_exits" x ["own_ends"] [a] = [a, x] := by kernel_rfl
theorem pd3 (a b x : D) : putDs "own_targets" x ["own_ends", "own_exits"] [a, b] = [a, b, x] := by kernel_rfl
theorem pd4 (a b c x : D) : putDs "own_firsts" x ["own_ends", "own_exits", "own_targets"] [a, b, c] = [a, b, c, x] := by kernel_rfl
theorem cl0 : (clsNames 0).length = 4 := rfl
theorem lay_new (e : Int) (es : List (List Int)) (h24 : es.length ≤ 1000) (h60 : es.flatten.length ≤ 1000) : F_Net_lay [.p (.obj 0 [] []), .d (.int e), .d (.tup (trowsD es))] = .ret (.d .non) [some (.obj 0 (clsNames 0) (netF e es)), none, none] := by
  obtain ⟨o3, h⟩ := lay_loop (.obj 0 [] []) e es h24 h60
  simp only [laE, List.flatten_nil, List.map_nil, firsts] at h
  rw [F_Net_lay, runD_3, fb_Net_lay]
  simp [h, pn1, pn2, pn3, pn4, pd1, pd2, pd3, pd4]
theorem NetOk.flat {e : Int} {es : List (List Int)} (h : NetOk e es) : es.flatten.length ≤ 1000 := by
  have h1 := len_flat es
  have h2 := h.sum
  omega
theorem init_lst (e : Int) (es : List (List Int)) (h : NetOk e es) : F_Net___init__ [.p (.obj 0 [] []), .d (.int e), .d (.lst (rowsD es))] = .ret (.d .non) [some (.obj 0 (clsNames 0) (netF e es)), none, none] := by
  have hl := lay_new e es (by have := h.p24; omega) h.flat
  have c1 := h.e0
  have c2 : ¬ 6 < e := by have := h.e6; omega
  rw [F_Net___init__, runD_3, fb_Net___init__]
  simp [c1, c2, want_exits_lst e es h, hl]
end K17
end
section
set_option Elab.async false
set_option linter.all false
set_option autoImplicit false
set_option maxRecDepth 100000
set_option maxHeartbeats 4000000
namespace K17
open PySem PySem.Spec L2 MM
theorem get_of {xs : List Int} {n i : Nat} (h : xs.length = n) (hi : i < n) : ∃ x, xs[i]? = some x := ⟨xs[i], List.getElem?_eq_getElem (by omega)⟩
theorem int_at {xs : List Int} {i : Nat} {x : Int} (h : xs[i]? = some x) : atI (xs.map D.int) (i : Int) = some (.int x) := atI_at (by omega) (by rw [List.getElem?_map, Int.toNat_natCast, h]; rfl)
theorem zip2_it : ∀ (xs : List Int) (es : List (List Int)), zip2D (xs.map D.int) (trowsD es) = (xs.zip es).map fun q => D.tup [.int q.1, .tup (q.2.map D.int)]
  | [], _ => by simp [zip2D]
  | x :: xs, [] => by simp [zip2D]
  | x :: xs, r :: es => by simp [zip2D, zip2_it xs es]
theorem SetOk.zip {es : List (List Int)} {xs : List Int} (h : SetOk es xs) : ∀ q ∈ xs.zip es, 0 ≤ q.1 ∧ q.1 < q.2.length := fun q hq => by
  obtain ⟨i, hi⟩ := List.getElem?_of_mem hq
  rw [List.getElem?_zip_eq_some] at hi
  exact h.2 i _ _ hi.1 hi.2
theorem want_setting_ok (e : Int) (es : List (List Int)) (xs : List Int) (h : SetOk es xs) (hl : es.length ≤ 1000) : F_want_setting [.d (netD e es), .d (.lst (xs.map D.int))] = .ret (.m (.lst (xs.map D.int))) [none, none] := by
  have hc : lcGo [2, 3] (gUnp [2, 3]) tYesF ce_is_setting_of_1 ((xs.zip es).map fun q => D.tup [.int q.1, .tup (q.2.map D.int)]) [] [some (.d (netD e es)), some (.d (.lst (xs.map D.int))), none, none] = .ok ((xs.zip es).map fun q => D.bl (decide (0 ≤ q.1) && decide (q.1 < q.2.length))) [some (.d (netD e es)), some (.d (.lst (xs.map D.int))), none, none] :=
    lcGo_map _ _ (by rw [List.length_zip, h.1]; show min _ _ ≤ 1000000; omega) fun q hq => ⟨_, _, [some (.d (netD e es)), some (.d (.lst (xs.map D.int))), some (.d (.int q.1)), some (.d (.tup (q.2.map D.int)))], by simp; rfl, by simp; rfl, by
      by_cases h0 : 0 ≤ q.1 <;> simp [ce_is_setting_of_1, h0], by simp⟩
  have ha : ((xs.zip es).all fun q => decide (0 ≤ q.1) && decide (q.1 < q.2.length)) = true := by
    rw [List.all_eq_true]
    intro q hq
    obtain ⟨a, b⟩ := h.zip q hq
    simp [a, b]
  have hs : F_is_setting_of [.d (netD e es), .d (.lst (xs.map D.int))] = .ret (.d (.bl true)) [none, none] := by
    rw [F_is_setting_of, runD_2, fb_is_setting_of]
    simp [lcF_ev, zip2_it, hc, fAll_fun, ha, h.1]
  rw [F_want_setting, runD_2, fb_want_setting]
  simp [hs]
theorem want_setting_tup (e : Int) (es : List (List Int)) (xs : List Int) (h : SetOk es xs) (hl : es.length ≤ 1000) : F_want_setting [.d (netD e es), .d (.tup (xs.map D.int))] = .ret (.m (.lst (xs.map D.int))) [none, none] := by
  have hc : lcGo [2, 3] (gUnp [2, 3]) tYesF ce_is_setting_of_1 ((xs.zip es).map fun q => D.tup [.int q.1, .tup (q.2.map D.int)]) [] [some (.d (netD e es)), some (.d (.tup (xs.map D.int))), none, none] = .ok ((xs.zip es).map fun q => D.bl (decide (0 ≤ q.1) && decide (q.1 < q.2.length))) [some (.d (netD e es)), some (.d (.tup (xs.map D.int))), none, none] :=
    lcGo_map _ _ (by rw [List.length_zip, h.1]; show min _ _ ≤ 1000000; omega) fun q hq => ⟨_, _, [some (.d (netD e es)), some (.d (.tup (xs.map D.int))), some (.d (.int q.1)), some (.d (.tup (q.2.map D.int)))], by simp; rfl, by simp; rfl, by
      by_cases h0 : 0 ≤ q.1 <;> simp [ce_is_setting_of_1, h0], by simp⟩
  have ha : ((xs.zip es).all fun q => decide (0 ≤ q.1) && decide (q.1 < q.2.length)) = true := by
    rw [List.all_eq_true]
    intro q hq
    obtain ⟨a, b⟩ := h.zip q hq
    simp [a, b]
  have hs : F_is_setting_of [.d (netD e es), .d (.tup (xs.map D.int))] = .ret (.d (.bl true)) [none, none] := by
    rw [F_is_setting_of, runD_2, fb_is_setting_of]
    simp [lcF_ev, zip2_it, hc, fAll_fun, ha, h.1]
  rw [F_want_setting, runD_2, fb_want_setting]
  simp [hs]
theorem pick_ok (a b : Int) (ds : List D) (hb : PotOk b) (h1 : 1 ≤ ds.length) (h2 : ds.length < 1073741824) : ∃ d a' b', F__law_pick [.p (pot a b), .d (.lst ds)] = .ret (.d d) [some (pot a' b'), none] ∧ PotOk b' ∧ d ∈ ds := by
  obtain ⟨v, a', b', hdr, hb', hv0, hv1⟩ := draw a b (ds.length : Int) hb (by omega) (by omega)
  have hv : v.toNat < ds.length := by omega
  have hat : atI ds v = some ds[v.toNat] := atI_at hv0 (List.getElem?_eq_getElem hv)
  refine ⟨ds[v.toNat], a', b', ?_, hb', List.getElem_mem hv⟩
  rw [F__law_pick, runD_2, fb__law_pick]
  simp [hdr, hat]

abbrev trE (a b e p : Int) (f : List Int) (o4 : Option EV) : MM.Env := [some (.p (pot a b)), some (.d (.int e)), some (.d (.int p)), some (.m (.lst (f.map D.int))), o4]
theorem tracks_ok (a b e p : Int) (hb : PotOk b) (e0 : 0 ≤ e) (e1 : e ≤ 100) (p1 : 1 ≤ p) (p2 : p ≤ 100) : ∃ (row : List Int) (a' b' : Int), F__law_tracks [.p (pot a b), .d (.int e), .d (.int p)] = .ret (.m (.lst (row.map D.int))) [some (pot a' b'), none, none] ∧ PotOk b' ∧ 1 ≤ row.length ∧ row.length ≤ 4 ∧ ∀ t ∈ row, Tgt e p t := by
  obtain ⟨w, a3, b3, hw, hb3, w0, w1⟩ := draw a b 4 hb (by omega) (by omega)
  obtain ⟨x', g1, row, a', b', o4, rfl, hb', hl, hv, h4⟩ := forGo_inv (body := lb__law_tracks_1) (ft := gSet 4) (ds := rangeD 0 (1 + w).toNat) (fun i x => ∃ (row : List Int) (a b : Int) (o4 : Option EV), x = trE a b e p row o4 ∧ PotOk b ∧ row.length = i ∧ (∀ t ∈ row, Tgt e p t) ∧ isP o4 = false)
    (e := trE a3 b3 e p [] none) ⟨[], a3, b3, none, rfl, hb3, rfl, fun v hv => by simp at hv, rfl⟩ fun i d x hd => by
    rintro ⟨row, a, b, o4, rfl, hb, hl, hv, h4⟩
    obtain ⟨rfl, hi⟩ := range_at hd
    have hlen : row.length < 1000000 := by omega
    have mem : ∀ {z : Int}, Tgt e p z → ∀ t ∈ row ++ [z], Tgt e p t := fun {z} hz t ht => by
      rcases List.mem_append.mp ht with h | h
      · exact hv t h
      · have : t = z := by simpa using h
        subst this
        exact hz
    by_cases he : 0 < e
    · obtain ⟨u, a1, b1, hu, hb1, u0, u1⟩ := draw a b 3 hb (by omega) (by omega)
      by_cases hz : u = 0
      · obtain ⟨v, a2, b2, hd2, hb2, v0, v1⟩ := draw a1 b1 e hb1 (by omega) (by omega)
        refine ⟨trE a b e p row (some (.d (.int i))), trE a2 b2 e p (row ++ [-1 - v]) (some (.d (.int i))), by simp [trE, h4], ?_, row ++ [-1 - v], a2, b2, _, rfl, hb2, by simp [hl], mem (by unfold Tgt; omega), rfl⟩
        simp [trE, lb__law_tracks_1, he, hu, hz, hd2, hlen]
      · obtain ⟨v, a2, b2, hd2, hb2, v0, v1⟩ := draw a1 b1 p hb1 (by omega) (by omega)
        refine ⟨trE a b e p row (some (.d (.int i))), trE a2 b2 e p (row ++ [v]) (some (.d (.int i))), by simp [trE, h4], ?_, row ++ [v], a2, b2, _, rfl, hb2, by simp [hl], mem (by unfold Tgt; omega), rfl⟩
        simp [trE, lb__law_tracks_1, he, hu, hz, hd2, hlen]
    · obtain ⟨v, a2, b2, hd2, hb2, v0, v1⟩ := draw a b p hb (by omega) (by omega)
      refine ⟨trE a b e p row (some (.d (.int i))), trE a2 b2 e p (row ++ [v]) (some (.d (.int i))), by simp [trE, h4], ?_, row ++ [v], a2, b2, _, rfl, hb2, by simp [hl], mem (by unfold Tgt; omega), rfl⟩
      simp [trE, lb__law_tracks_1, he, hd2, hlen]
  rw [range_len] at hl
  have hrg := rng_ok (n := 1 + w) (by omega) (by omega)
  refine ⟨row, a', b', ?_, hb', by omega, by omega, hv⟩
  rw [F__law_tracks, runD_3, fb__law_tracks]
  simp only [trE, List.map_nil] at g1
  simp [hw, hrg, g1]
abbrev neE (a b : Int) (o1 : Option EV) (e p : Int) (f : List (List Int)) : MM.Env := [some (.p (pot a b)), o1, some (.d (.int e)), some (.d (.int p)), some (.m (.lst (rowsD f)))]
theorem net_ok (a b : Int) (hb : PotOk b) : ∃ (e : Int) (es : List (List Int)) (a' b' : Int), F__law_net [.p (pot a b)] = .ret (.d (.tup [.int e, .lst (rowsD es)])) [some (pot a' b')] ∧ PotOk b' ∧ 0 ≤ e ∧ e ≤ 3 ∧ 1 ≤ es.length ∧ es.length ≤ 4 ∧ ∀ r ∈ es, 1 ≤ r.length ∧ r.length ≤ 4 ∧ ∀ t ∈ r, Tgt e es.length t := by
  obtain ⟨e, a1, b1, hu, hb1, u0, u1⟩ := draw a b 4 hb (by omega) (by omega)
  obtain ⟨v, a2, b2, hv, hb2, v0, v1⟩ := draw a1 b1 4 hb1 (by omega) (by omega)
  generalize hp : 1 + v = p at *
  obtain ⟨x', g1, es, a', b', o1, rfl, hb', hl, hr, _⟩ := forGo_inv (body := lb__law_net_1) (ft := gSet 1) (ds := rangeD 0 p.toNat) (fun i x => ∃ (es : List (List Int)) (a b : Int) (o1 : Option EV), x = neE a b o1 e p es ∧ PotOk b ∧ es.length = i ∧ (∀ r ∈ es, 1 ≤ r.length ∧ r.length ≤ 4 ∧ ∀ t ∈ r, Tgt e p t) ∧ isP o1 = false)
    (e := neE a2 b2 none e p []) ⟨[], a2, b2, none, rfl, hb2, rfl, fun r hr => by simp at hr, rfl⟩ fun i d x hd => by
    rintro ⟨es, a, b, o1, rfl, hb, hl, hr, h1⟩
    obtain ⟨rfl, hi⟩ := range_at hd
    obtain ⟨row, a4, b4, k1, hb4, l1, l2, kt⟩ := tracks_ok a b e p hb u0 (by omega) (by omega) (by omega)
    have hl2 : (rowsD es).length < 1000000 := by rw [rowsD_len]; omega
    have er : ∀ r : List Int, rowsD (es ++ [r]) = rowsD es ++ [.lst (r.map D.int)] := fun r => by unfold rowsD; rw [List.map_append]; rfl
    refine ⟨neE a b (some (.d (.int i))) e p es, neE a4 b4 (some (.d (.int i))) e p (es ++ [row]), by simp [neE, h1], ?_, es ++ [row], a4, b4, _, rfl, hb4, by simp [hl], fun r hr' => ?_, rfl⟩
    · simp only [neE, er]
      generalize rowsD es = R at *
      simp [lb__law_net_1, k1, hl2]
    · rcases List.mem_append.mp hr' with h | h
      · exact hr r h
      · have : r = row := by simpa using h
        subst this
        exact ⟨l1, l2, kt⟩
  rw [range_len] at hl
  have hlp : (es.length : Int) = p := by omega
  have hrg := rng_ok (n := p) (by omega) (by omega)
  refine ⟨e, es, a', b', ?_, hb', u0, by omega, by omega, by omega, fun r hr' => ?_⟩
  · rw [F__law_net, runD_1, fb__law_net]
    have e0 : rowsD [] = [] := rfl
    simp only [neE, e0] at g1
    simp [hu, hv, hp, hrg, g1]
  · rw [hlp]
    exact hr r hr'

end K17
end
section
set_option Elab.async false
set_option linter.all false
set_option autoImplicit false
set_option maxRecDepth 100000
set_option maxHeartbeats 4000000
namespace K17
open PySem PySem.Spec L2 MM

/-! ### texts -/
def TOk (n : Nat) (z : Str) : Prop := z.length ≤ n ∧ ∀ c ∈ TL.tl z, c < 256
theorem TOk.mono {n m : Nat} {z : Str} (h : TOk n z) (hm : n ≤ m) : TOk m z := ⟨Nat.le_trans h.1 hm, h.2⟩
theorem TOk.strOk {n : Nat} {z : Str} (h : TOk n z) : PyData.strOk z = true := by
  unfold PyData.strOk
  rw [← Array.all_toList, List.all_eq_true]
  intro c hc
  have := h.2 c hc
  exact decide_eq_true (by omega)
theorem TOk.app {n m : Nat} {x y : Str} (h : TOk n x) (g : TOk m y) : TOk (n + m) (x ++ y) := by
  refine ⟨?_, fun c hc => ?_⟩
  · have h1 := h.1
    have g1 := g.1
    rw [TL.len_tl] at h1 g1 ⊢
    rw [TL.tl_append, List.length_append]
    omega
  · rw [TL.tl_append] at hc
    rcases List.mem_append.mp hc with z | z
    · exact h.2 c z
    · exact g.2 c z
theorem TOk.cut {n : Nat} {z : Str} (h : TOk n z) (lo hi : Option Int) : TOk n (cutS z lo hi) := by
  refine ⟨Nat.le_trans (cutS_length z lo hi) h.1, fun c hc => ?_⟩
  have hc : c ∈ (z.cps.toList.drop (HT.sIx z.length 0 lo)).take (HT.sIx z.length z.length hi - HT.sIx z.length 0 lo) := hc
  exact h.2 c (List.mem_of_mem_drop (List.mem_of_mem_take hc))
theorem TOk.twice {n : Nat} {z : Str} (h : TOk n z) : TOk (n * 2) (Txt.mul z 2) := by
  unfold Txt.mul
  rw [if_neg (by omega)]
  by_cases hz : ((2 : Int) == 1 || z.length == 0) = true
  · rw [if_pos hz]; exact h.mono (by omega)
  · rw [if_neg hz]
    have e : (⟨(List.replicate (2 : Int).toNat z.cps).foldl (· ++ ·) #[]⟩ : Str) = z ++ z := TL.ext_tl (by
      rw [TL.tl_append]
      show (((#[] ++ z.cps) ++ z.cps)).toList = _
      simp)
    rw [e]
    exact (h.app h).mono (by omega)
@[simp] theorem gAdd_str (x y : Str) : gAdd (.str x) (.str y) = if x.length + y.length ≤ LIM then some (.d (.str (x ++ y))) else none := rfl
@[simp] theorem fLen_str (x : Str) : fLen (.str x) = if x.length ≤ LIM then some (.d (.int x.length)) else none := rfl
theorem app_len (x y : Str) : (x ++ y).length = x.length + y.length := by rw [TL.len_tl, TL.tl_append, List.length_append, ← TL.len_tl, ← TL.len_tl]
theorem bent_ok (a b : Int) (n : Nat) (z : Str) (hb : PotOk b) (hz : TOk n z) (hn : n ≤ 100) : ∃ (y : Str) (a' b' : Int), F__law_bent [.p (pot a b), .d (.str z)] = .ret (.d (.str y)) [some (pot a' b'), none] ∧ PotOk b' ∧ TOk (n + n + 7) y := by
  have hl := hz.1
  have hl1 : z.length ≤ 1000000 := by omega
  obtain ⟨h, a1, b1, e1, hb1, u0, u1⟩ := draw a b 6 hb (by omega) (by omega)
  obtain ⟨at_, a2, b2, e2, hb2, v0, v1⟩ := draw a1 b1 ((z.length : Int) + 1) hb1 (by omega) (by omega)
  obtain ⟨d, a3, b3, e3, hb3, hd⟩ := pick_ok a2 b2 [.str "0", .str "1", .str "3", .str "-", .str " ", .str "\n", .str "00", .str "next", .str "x", .str "next 0\n"] hb2 (by simp) (by simp)
  obtain ⟨s, rfl, hs⟩ : ∃ s : Str, d = .str s ∧ TOk 7 s := by
    simp only [List.mem_cons, List.not_mem_nil, or_false] at hd
    rcases hd with rfl | rfl | rfl | rfl | rfl | rfl | rfl | rfl | rfl | rfl <;> exact ⟨_, rfl, by decide +kernel, by decide +kernel⟩
  have hsl := hs.1
  have c1 : ∀ lo hi, (cutS z lo hi).length ≤ n := fun lo hi => (hz.cut lo hi).1
  by_cases k2 : h < 2
  · refine ⟨cutS z none (some at_) ++ cutS z (some (at_ + 1)) none, a3, b3, ?_, hb3, ((hz.cut _ _).app (hz.cut _ _)).mono (by omega)⟩
    have q1 := c1 none (some at_)
    have q2 := c1 (some (at_ + 1)) none
    have q3 : (cutS z none (some at_)).length + (cutS z (some (at_ + 1)) none).length ≤ 1000000 := by omega
    rw [F__law_bent, runD_2, fb__law_bent]
    simp [e1, e2, e3, hl1, k2, q3]
  · by_cases k4 : h < 4
    · refine ⟨cutS z none (some at_) ++ s ++ cutS z (some (at_ + h - 2)) none, a3, b3, ?_, hb3, (((hz.cut _ _).app hs).app (hz.cut _ _)).mono (by omega)⟩
      have q1 := c1 none (some at_)
      have q2 := c1 (some (at_ + h - 2)) none
      have q4 : (cutS z none (some at_)).length + s.length ≤ 1000000 := by omega
      have q3 : (cutS z none (some at_)).length + s.length + (cutS z (some (at_ + h - 2)) none).length ≤ 1000000 := by omega
      rw [F__law_bent, runD_2, fb__law_bent]
      simp [e1, e2, e3, hl1, k2, k4, q3, q4, app_len]
    · by_cases k5 : h = 4
      · refine ⟨z ++ s, a3, b3, ?_, hb3, (hz.app hs).mono (by omega)⟩
        have q4 : z.length + s.length ≤ 1000000 := by omega
        rw [F__law_bent, runD_2, fb__law_bent]
        simp [e1, e2, e3, hl1, k5, q4]
      · refine ⟨s ++ z, a3, b3, ?_, hb3, (hs.app hz).mono (by omega)⟩
        have q4 : s.length + z.length ≤ 1000000 := by omega
        rw [F__law_bent, runD_2, fb__law_bent]
        simp [e1, e2, e3, hl1, k2, k4, k5, q4]

end K17
end
section
set_option Elab.async false
set_option linter.all false
set_option autoImplicit false
set_option maxRecDepth 100000
set_option maxHeartbeats 4000000
namespace K17
open PySem PySem.Spec L2 MM

/-! ### parts of texts -/
def S (l : List Nat) : Str := ⟨l.toArray⟩
@[simp] theorem S_len (l : List Nat) : (S l).length = l.length := SX.S_len l
theorem S_tl (z : Str) : S (TL.tl z) = z := TL.mk_tl z
def sp (c : Nat) (l : List Nat) : List (List Nat) := TL.spl [c] 0 [] l
theorem spl_props (c : Nat) : ∀ (l acc : List Nat), TL.spl [c] 0 acc l ≠ [] ∧ (TL.spl [c] 0 acc l).length ≤ l.length + 1 ∧ ∀ p ∈ TL.spl [c] 0 acc l, p.length ≤ acc.length + l.length ∧ ∀ x ∈ p, x ∈ acc ∨ x ∈ l
  | [], acc => by
    rw [TL.spl_nil]
    refine ⟨by simp, by simp, fun p hp => ?_⟩
    have : p = acc := by simpa using hp
    subst this
    exact ⟨by simp, fun x hx => .inl hx⟩
  | d :: r, acc => by
    by_cases h : TL.pre [c] (d :: r) = true
    · rw [TL.spl_hit h]
      obtain ⟨h1, h2, h3⟩ := spl_props c r []
      have e : [c].length - 1 = 0 := rfl
      rw [e]
      refine ⟨by simp, by simp only [List.length_cons]; omega, fun p hp => ?_⟩
      rcases List.mem_cons.mp hp with rfl | hp
      · exact ⟨by omega, fun x hx => .inl hx⟩
      · obtain ⟨k1, k2⟩ := h3 p hp
        refine ⟨by simp only [List.length_nil, List.length_cons] at *; omega, fun x hx => ?_⟩
        rcases k2 x hx with z | z
        · cases z
        · exact .inr (List.mem_cons_of_mem _ z)
    · rw [TL.spl_miss (Bool.eq_false_iff.mpr h)]
      obtain ⟨h1, h2, h3⟩ := spl_props c r (acc ++ [d])
      refine ⟨h1, by simp only [List.length_cons]; omega, fun p hp => ?_⟩
      obtain ⟨k1, k2⟩ := h3 p hp
      refine ⟨by simp only [List.length_append, List.length_cons, List.length_nil] at *; omega, fun x hx => ?_⟩
      rcases k2 x hx with z | z
      · rcases List.mem_append.mp z with z | z
        · exact .inl z
        · exact .inr (by rw [List.mem_singleton.mp z]; exact List.mem_cons_self ..)
      · exact .inr (List.mem_cons_of_mem _ z)
theorem sp_ne (c : Nat) (l : List Nat) : sp c l ≠ [] := (spl_props c l []).1
theorem sp_len (c : Nat) (l : List Nat) : (sp c l).length ≤ l.length + 1 := (spl_props c l []).2.1
theorem sp_part {c : Nat} {l p : List Nat} (h : p ∈ sp c l) : p.length ≤ l.length := by have := ((spl_props c l []).2.2 p h).1; simpa using this
theorem sp_sub {c : Nat} {l p : List Nat} (h : p ∈ sp c l) : ∀ x ∈ p, x ∈ l := fun x hx => by
  rcases ((spl_props c l []).2.2 p h).2 x hx with z | z
  · cases z
  · exact z
theorem st_nl : ("\n" : Str) = S [10] := TL.ext_tl (by decide +kernel)
theorem st_sp : (" " : Str) = S [32] := TL.ext_tl (by decide +kernel)
theorem st_0 : ("0" : Str) = S [48] := TL.ext_tl (by decide +kernel)
theorem st_e : ("" : Str) = S [] := TL.ext_tl (by decide +kernel)
theorem st_next : ("next" : Str) = S [110, 101, 120, 116] := TL.ext_tl (by decide +kernel)
theorem st_figs : ("0123456789" : Str).cps.toList = [48, 49, 50, 51, 52, 53, 54, 55, 56, 57] := by decide +kernel
theorem split_nl (l : List Nat) : Txt.split (S l) "\n" = (sp 10 l).map S := by rw [st_nl]; exact SX.split_S (by decide) (by decide)
theorem split_sp (l : List Nat) : Txt.split (S l) " " = (sp 32 l).map S := by rw [st_sp]; exact SX.split_S (by decide) (by decide)
@[simp] theorem S_eq {a b : List Nat} : (S a = S b) ↔ a = b := ⟨SX.S_inj, fun h => by rw [h]⟩
/-! ### figures -/
def dg (c : Nat) : Bool := decide (48 ≤ c) && decide (c ≤ 57)
abbrev dv (w : List Nat) : Nat := NumText.digitsVal w
@[simp] theorem in_figs (c : Nat) : gInT (.str (S [c])) (.str "0123456789") = some (dg c) := by
  show some (decide (c ∈ ("0123456789" : Str).cps.toList)) = _
  rw [st_figs]
  congr 1
  rw [Bool.eq_iff_iff]
  simp [dg]
  omega
theorem int_fig {w : List Nat} (h : w.all dg = true) (hne : w ≠ []) (hl : w.length ≤ 500) : fIntT (.str (S w)) = some (.d (.int (dv w))) := by
  have e : intText? (S w) = some ((dv w : Nat) : Int) := SX.int_S h hne (by omega)
  have hl2 : (S w).length ≤ 640 := by rw [S_len]; omega
  show (match intText? (S w) with
    | some n => if (S w).length ≤ 640 then some (EV.d (.int n)) else none
    | none => none) = _
  rw [e]
  exact if_pos hl2
theorem signs_S (w : List Nat) : signsD (S w) = w.map fun c => D.str (S [c]) := rfl
/-- as the law reads figures -/
def fg (w : List Nat) : Bool := decide (w ≠ []) && (!(decide (1 < w.length) && decide (w.head? = some 48)) && w.all dg)
/-- as the program does -/
def fr (w : List Nat) : Option Nat := if (decide (1 ≤ w.length) && (decide (w.length ≤ 2) && (w.all dg && (decide (w = [48]) || decide (w.head? ≠ some 48))))) = true then some (dv w) else none
def frD : Option Nat → D
  | none => .non
  | some v => .int v
theorem ixT0 {c : Nat} {r : List Nat} (hl : (c :: r).length ≤ 500) : gIxT (.str (S (c :: r))) (.int 0) = some (.str (S [c])) := by
  have h2 : (S (c :: r)).length ≤ 1000000 := by rw [S_len]; omega
  show (if (S (c :: r)).length ≤ 1000000 then _ else _) = _
  rw [if_pos h2]
  have e : atI (S (c :: r)).cps.toList 0 = some c := atI_at (by omega) rfl
  rw [e]
  rfl
theorem is_figures_core (z y : Str) (n : Nat) (ds bs : List D) (q : Bool) (hl : z.length = n) (hn : n ≤ 500) (hx : z = "" ∨ gIxT (.str z) (.int 0) = some (.str y)) (hs : signsD z = ds)
    (hc : lcGo [1] (gSet 1) tYesF ce__law_is_figures_1 ds [] [some (.d (.str z)), none] = .ok bs [some (.d (.str z)), none]) (ha : fAll (.lst bs) = some (.d (.bl q))) :
    F__law_is_figures [.d (.str z)] = .ret (.d (.bl (decide (z ≠ "") && (!(decide (1 < n) && decide (y = "0")) && q)))) [none] := by
  have l1 : z.length ≤ 1000000 := by omega
  have l2 : n ≤ 1000000 := by omega
  rw [F__law_is_figures, runD_1, fb__law_is_figures]
  by_cases h0 : z = ""
  · simp [h0]
  · have hx : gIxT (.str z) (.int 0) = some (.str y) := hx.resolve_left h0
    by_cases k1 : 1 < n
    · have k1' : (1 : Int) < n := by omega
      by_cases k2 : y = "0"
      · simp [h0, l1, l2, hl, k1, k1', hx, k2]
      · simp [h0, l1, l2, hl, k1, k1', hx, k2, lcF_ev, hs, hc, ha]
    · have k1' : ¬ (1 : Int) < n := by omega
      simp [h0, l1, l2, hl, k1, k1', lcF_ev, hs, hc, ha]
theorem is_figures_ok (w : List Nat) (hl : w.length ≤ 500) : F__law_is_figures [.d (.str (S w))] = .ret (.d (.bl (fg w))) [none] := by
  have hc : lcGo [1] (gSet 1) tYesF ce__law_is_figures_1 (w.map fun c => D.str (S [c])) [] [some (.d (.str (S w))), none] = .ok (w.map fun c => D.bl (dg c)) [some (.d (.str (S w))), none] :=
    lcGo_map (fun c => D.bl (dg c)) (h := fun c => D.str (S [c])) (by show _ ≤ 1000000; omega) fun c _ => ⟨_, _, _, by simp; rfl, by simp; rfl, by simp [ce__law_is_figures_1]; rfl, by simp⟩
  have ha := fAll_fun (fun c => dg c) w
  have hz : (S w = "") ↔ w = [] := by rw [st_e]; exact S_eq
  cases w with
  | nil => rw [is_figures_core (S []) "" 0 _ _ _ rfl (by omega) (.inl (hz.mpr rfl)) (signs_S _) hc ha]; simp [hz, fg]
  | cons c r =>
    have hx := ixT0 (c := c) (r := r) hl
    have hz2 : (S [c] = "0") ↔ c = 48 := by rw [st_0, S_eq]; simp
    rw [is_figures_core (S (c :: r)) _ _ _ _ _ (S_len _) hl (.inr hx) (signs_S _) hc ha]
    simp [hz, hz2, fg]
theorem figures_read_core (z y : Str) (n : Nat) (ds bs : List D) (q : Bool) (v : Int) (hl : z.length = n) (hn : n ≤ 500) (hx : n = 0 ∨ gIxT (.str z) (.int 0) = some (.str y)) (hs : signsD z = ds)
    (hc : lcGo [1] (gSet 1) tYesF ce_figures_read_1 ds [] [some (.d (.str z)), none] = .ok bs [some (.d (.str z)), none]) (ha : fAll (.lst bs) = some (.d (.bl q))) (hi : n ≠ 0 → q = true → fIntT (.str z) = some (.d (.int v))) :
    F_figures_read [.d (.str z)] = .ret (.d (if (decide (1 ≤ n) && (decide (n ≤ 2) && (q && (decide (z = "0") || decide (y ≠ "0"))))) = true then .int v else .non)) [none] := by
  have l1 : z.length ≤ 1000000 := by omega
  have l2 : n ≤ 1000000 := by omega
  rw [F_figures_read, runD_1, fb_figures_read]
  by_cases k1 : 1 ≤ n
  · have k1' : (1 : Int) ≤ n := by omega
    have hx : gIxT (.str z) (.int 0) = some (.str y) := hx.resolve_left (by omega)
    by_cases k2 : n ≤ 2
    · have k2' : (n : Int) ≤ 2 := by omega
      cases q with
      | false => simp [l1, l2, hl, k1, k1', k2, k2', lcF_ev, hs, hc, ha]
      | true =>
        have hi := hi (by omega) rfl
        by_cases k3 : z = "0"
        · rw [k3] at hl hx hs hc hi
          simp [k3, l2, hl, k1, k1', k2, k2', lcF_ev, hs, hc, ha, hx, hi]
        · by_cases k4 : y = "0"
          · simp [l1, l2, hl, k1, k1', k2, k2', lcF_ev, hs, hc, ha, hx, hi, k3, k4]
          · simp [l1, l2, hl, k1, k1', k2, k2', lcF_ev, hs, hc, ha, hx, hi, k3, k4]
    · have k2' : ¬ (n : Int) ≤ 2 := by omega
      simp [l1, l2, hl, k1, k1', k2, k2']
  · have k1' : ¬ (1 : Int) ≤ n := by omega
    simp [l1, l2, hl, k1, k1']
theorem figures_read_ok (w : List Nat) (hl : w.length ≤ 500) : F_figures_read [.d (.str (S w))] = .ret (.d (frD (fr w))) [none] := by
  have hc : lcGo [1] (gSet 1) tYesF ce_figures_read_1 (w.map fun c => D.str (S [c])) [] [some (.d (.str (S w))), none] = .ok (w.map fun c => D.bl (dg c)) [some (.d (.str (S w))), none] :=
    lcGo_map (fun c => D.bl (dg c)) (h := fun c => D.str (S [c])) (by show _ ≤ 1000000; omega) fun c _ => ⟨_, _, _, by simp; rfl, by simp; rfl, by simp [ce_figures_read_1]; rfl, by simp⟩
  have ha := fAll_fun (fun c => dg c) w
  have hf : frD (fr w) = if (decide (1 ≤ w.length) && (decide (w.length ≤ 2) && (w.all dg && (decide (w = [48]) || decide (w.head? ≠ some 48))))) = true then .int (dv w) else .non := by
    unfold fr
    split <;> rfl
  rw [hf]
  cases w with
  | nil => rw [figures_read_core (S []) "" 0 _ _ _ 0 rfl (by omega) (.inl rfl) (signs_S _) hc ha (fun h => absurd rfl h)]; simp
  | cons c r =>
    have hx := ixT0 (c := c) (r := r) hl
    have hz2 : (S [c] = "0") ↔ c = 48 := by rw [st_0, S_eq]; simp
    have hz : (S (c :: r) = "0") ↔ c :: r = [48] := by rw [st_0, S_eq]
    rw [figures_read_core (S (c :: r)) _ _ _ _ _ (dv (c :: r)) (S_len _) hl (.inr hx) (signs_S _) hc ha (fun _ h => int_fig h (by simp) hl)]
    simp [hz, hz2]
theorem dv_ge : ∀ (l : List Nat) (a : Nat), a ≤ l.foldl (fun acc c => acc * 10 + (c - 48)) a
  | [], a => Nat.le_refl _
  | c :: l, a => Nat.le_trans (by omega) (dv_ge l (a * 10 + (c - 48)))
/-- figures below a small number are read alike -/
theorem fig_iff {w : List Nat} {k : Nat} (hk : k ≤ 10) : (fg w = true ∧ dv w < k) ↔ ∃ v, fr w = some v ∧ v < k := by
  constructor
  · rintro ⟨h, hv⟩
    unfold fg at h
    simp only [Bool.and_eq_true, decide_eq_true_eq, Bool.not_eq_true', Bool.and_eq_false_iff, decide_eq_false_iff_not] at h
    obtain ⟨h1, h2, h3⟩ := h
    refine ⟨dv w, if_pos ?_, hv⟩
    obtain ⟨c, r, rfl⟩ : ∃ c r, w = c :: r := by cases w with
      | nil => exact absurd rfl h1
      | cons c r => exact ⟨c, r, rfl⟩
    have hd : ∀ x ∈ c :: r, 48 ≤ x ∧ x ≤ 57 := fun x hx => by
      have := List.all_eq_true.mp h3 x hx
      simpa [dg] using this
    have hlen : (c :: r).length ≤ 2 := by
      refine Classical.byContradiction fun hc => ?_
      obtain ⟨d, e, s, rfl⟩ : ∃ d e s, r = d :: e :: s := by
        match r, hc with
        | [], h => simp at h
        | [_], h => simp at h
        | d :: e :: s, _ => exact ⟨d, e, s, rfl⟩
      have hc48 : c ≠ 48 := by
        rcases h2 with h2 | h2
        · simp at h2
        · simpa using h2
      have h4 := (hd c (by simp)).1
      have := dv_ge (e :: s) ((0 * 10 + (c - 48)) * 10 + (d - 48))
      have e2 : dv (c :: d :: e :: s) = (e :: s).foldl (fun acc c => acc * 10 + (c - 48)) ((0 * 10 + (c - 48)) * 10 + (d - 48)) := rfl
      omega
    rw [h3, decide_eq_true hlen, decide_eq_true (show 1 ≤ (c :: r).length by simp)]
    simp only [Bool.true_and, Bool.or_eq_true, decide_eq_true_eq]
    by_cases z : r = []
    · subst z
      by_cases hc : c = 48
      · exact .inl (by rw [hc])
      · exact .inr (by simpa using hc)
    · rcases h2 with h2 | h2
      · exact absurd (List.length_pos_iff.mpr z) (by simp at h2; simp [h2])
      · exact .inr h2
  · rintro ⟨v, h, hv⟩
    unfold fr at h
    split at h
    · rename_i hc
      cases h
      simp only [Bool.and_eq_true, decide_eq_true_eq, Bool.or_eq_true] at hc
      obtain ⟨h1, h2, h3, h4⟩ := hc
      refine ⟨?_, hv⟩
      unfold fg
      simp only [Bool.and_eq_true, decide_eq_true_eq, Bool.not_eq_true', Bool.and_eq_false_iff, decide_eq_false_iff_not]
      refine ⟨fun z => by rw [z] at h1; simp at h1, ?_, h3⟩
      rcases h4 with rfl | h4
      · exact .inl (by simp)
      · exact .inr h4
    · cases h
theorem fr_val {w : List Nat} {v : Nat} (h : fr w = some v) : v = dv w := by
  unfold fr at h
  split at h
  · cases h; rfl
  · cases h

end K17
end
section
set_option Elab.async false
set_option linter.all false
set_option autoImplicit false
set_option maxRecDepth 100000
set_option maxHeartbeats 4000000
namespace K17
open PySem PySem.Spec L2 MM
@[simp] theorem noT_exc {x : Exn} {ps : List (Option MV)} : (Out.exc x ps).noT = .exc x ps := rfl
/-! ### both readings -/
abbrev tD (l : List (List Nat)) : List D := l.map fun w => D.str (S w)
theorem splitD_nl (l : List Nat) : (Txt.split (S l) "\n").map D.str = tD (sp 10 l) := by rw [split_nl, List.map_map]; rfl
theorem splitD_sp (l : List Nat) : (Txt.split (S l) " ").map D.str = tD (sp 32 l) := by rw [split_sp, List.map_map]; rfl
theorem cut1 (x : D) (xs : List D) : cutD (x :: xs) (some 1) none = xs := by
  have := cut_drop (xs := x :: xs) (v := 1) (by omega) (by simp; omega)
  rw [this]
  rfl
theorem n_nl : (("\n" : Str).length == 0) = false := by decide +kernel
theorem n_sp : ((" " : Str).length == 0) = false := by decide +kernel
theorem n_nl' : ¬ ("\n" : Str).length = 0 := by decide +kernel
theorem n_sp' : ¬ (" " : Str).length = 0 := by decide +kernel
abbrev lrE (R LS WS : List D) (z p q : Str) (o4 o5 : Option EV) : MM.Env := [some (.d (.lst R)), some (.d (.str z)), some (.m (.lst (.str p :: LS))), some (.m (.lst (.str q :: WS))), o4, o5]
section
variable {R LS WS bs : List D} {z p q : Str} (hz : z.length ≤ 999998) (hp : p.length ≤ 999998) (hL : (Txt.split z "\n").map D.str = .str p :: LS) (hW : (Txt.split p " ").map D.str = .str q :: WS)
include hz hp hL hW
theorem law_read_bad (h : LS.length = 0 ∨ q ≠ "next" ∨ WS.length ≠ R.length) : F__law_read [.d (.lst R), .d (.str z)] = .ret (.d (.int 0)) [none, none] := by
  rw [F__law_read, runD_2, fb__law_read]
  have a0 : atI (D.str p :: LS) 0 = some (.str p) := atI_at (by omega) rfl
  have b0 : atI (D.str q :: WS) 0 = some (.str q) := atI_at (by omega) rfl
  by_cases h1 : LS.length = 0
  · have h1' : LS = [] := List.length_eq_zero_iff.mp h1
    subst h1'
    simp [n_nl, n_nl', n_sp, n_sp', hz, hp, hL, hW, a0, b0]
  · have k1 : ¬ (LS.length : Int) + 1 = 1 := by omega
    have k1' : ¬ LS = [] := fun e => h1 (by rw [e]; rfl)
    by_cases h2 : q = "next"
    · have h3 : ¬ WS.length = R.length := by
        rcases h with h | h | h
        · exact absurd h h1
        · exact absurd h2 h
        · exact h
      have k3 : ¬ (WS.length : Int) = R.length := by omega
      subst h2
      simp [n_nl, n_nl', n_sp, n_sp', hz, hp, hL, hW, a0, b0, k1, k1', k3, h3]
    · simp [n_nl, n_nl', n_sp, n_sp', hz, hp, hL, hW, a0, b0, k1, k1', h2]
theorem law_read_odd {o4 o5 : Option EV} (h1 : LS.length ≠ 0) (h2 : q = "next") (h3 : WS.length = R.length) (hf : forGo (gUnp [4, 5]) lb__law_read_1 (zip2D WS R) (lrE R LS WS z p q none none) = .rt (.d (.int 0)) (lrE R LS WS z p q o4 o5)) : F__law_read [.d (.lst R), .d (.str z)] = .ret (.d (.int 0)) [none, none] := by
  rw [F__law_read, runD_2, fb__law_read]
  have a0 : atI (D.str p :: LS) 0 = some (.str p) := atI_at (by omega) rfl
  have b0 : atI (D.str q :: WS) 0 = some (.str q) := atI_at (by omega) rfl
  have k1 : ¬ (LS.length : Int) + 1 = 1 := by omega
  have k1' : ¬ LS = [] := fun e => h1 (by rw [e]; rfl)
  subst h2
  simp only [lrE] at hf
  simp [n_nl, n_nl', n_sp, n_sp', hz, hp, hL, hW, a0, b0, k1, k1', h3, cut1, hf]
theorem law_read_fine {o4 o5 : Option EV} {b : Bool} (h1 : LS.length ≠ 0) (h2 : q = "next") (h3 : WS.length = R.length) (hf : forGo (gUnp [4, 5]) lb__law_read_1 (zip2D WS R) (lrE R LS WS z p q none none) = .nx (lrE R LS WS z p q o4 o5)) (hq : isP o4 = false)
    (hn : gEq (.lst LS) (.lst [.str ""]) = some b) (hc : lcGo [4] (gSet 4) tYesF ce__law_read_1 WS [] (lrE R LS WS z p q none o5) = .ok bs (lrE R LS WS z p q none o5)) : F__law_read [.d (.lst R), .d (.str z)] = .ret (.d (if b = true then .lst bs else .int 1)) [none, none] := by
  rw [F__law_read, runD_2, fb__law_read]
  have a0 : atI (D.str p :: LS) 0 = some (.str p) := atI_at (by omega) rfl
  have b0 : atI (D.str q :: WS) 0 = some (.str q) := atI_at (by omega) rfl
  have k1 : ¬ (LS.length : Int) + 1 = 1 := by omega
  have k1' : ¬ LS = [] := fun e => h1 (by rw [e]; rfl)
  subst h2
  simp only [lrE] at hf hc
  cases b with
  | false => simp [n_nl, n_nl', n_sp, n_sp', hz, hp, hL, hW, a0, b0, k1, k1', h3, cut1, hf, hn]
  | true => simp [n_nl, n_nl', n_sp, n_sp', hz, hp, hL, hW, a0, b0, k1, k1', h3, cut1, hf, hn, lcF_ev, hq, hc]
end

end K17
end
section
set_option Elab.async false
set_option linter.all false
set_option autoImplicit false
set_option maxRecDepth 100000
set_option maxHeartbeats 4000000
namespace K17
open PySem PySem.Spec L2 MM

def nextL : List Nat := [110, 101, 120, 116]
def okf (q : List Nat × List Int) : Bool := fg q.1 && decide (dv q.1 < q.2.length)
/-- the first line tells a setting -/
def goodW (es : List (List Int)) (q : List Nat) (ws : List (List Nat)) : Bool := decide (q = nextL) && (decide (ws.length = es.length) && (ws.zip es).all okf)
def numsD (ws : List (List Nat)) : List D := ws.map fun w => D.int (dv w)
/-- what is told of a text: line 0, line 1, or the setting -/
def toldD (es : List (List Int)) (ls : List (List Nat)) (q : List Nat) (ws : List (List Nat)) : D := if ls.length = 0 ∨ goodW es q ws = false then .int 0 else if ls = [[]] then .lst (numsD ws) else .int 1
theorem next_S : ∀ q : List Nat, (S q = "next") ↔ q = nextL := fun q => by rw [st_next, show (S [110, 101, 120, 116]) = S nextL from rfl, S_eq]
theorem zip2_ws : ∀ (ws : List (List Nat)) (es : List (List Int)), zip2D (tD ws) (rowsD es) = (ws.zip es).map fun q => D.tup [.str (S q.1), .lst (q.2.map D.int)]
  | [], _ => by simp [zip2D]
  | x :: xs, [] => by simp [zip2D, rowsD]
  | x :: xs, r :: es => by
    rw [rowsD_cons]
    show zip2D (D.str (S x) :: tD xs) (.lst (r.map D.int) :: rowsD es) = _
    rw [zip2D, zip2_ws xs es]
    rfl
theorem read_step (R LS WS : List D) (z p q : Str) (w : List Nat) (r : List Int) (hw : w.length ≤ 500) : lb__law_read_1 (lrE R LS WS z p q (some (.d (.str (S w)))) (some (.d (.lst (r.map D.int))))) =
    if okf (w, r) = true then .nx (lrE R LS WS z p q (some (.d (.str (S w)))) (some (.d (.lst (r.map D.int))))) else .rt (.d (.int 0)) (lrE R LS WS z p q (some (.d (.str (S w)))) (some (.d (.lst (r.map D.int))))) := by
  have hf := is_figures_ok w hw
  by_cases h : fg w = true
  · have hne : w ≠ [] := fun e => by rw [e] at h; cases h
    have hd : w.all dg = true := by
      unfold fg at h
      simp only [Bool.and_eq_true] at h
      exact h.2.2
    have hi := int_fig hd hne hw
    generalize S w = s at *
    by_cases k : dv w < r.length
    · have k2 : (dv w : Int) < r.length := by omega
      have k3 : ¬ (r.length : Int) ≤ dv w := by omega
      have : okf (w, r) = true := by simp [okf, h, k]
      rw [if_pos this]
      simp [lb__law_read_1, hf, h, hi, k3]
    · have k3 : (r.length : Int) ≤ dv w := by omega
      have : ¬ okf (w, r) = true := by simp [okf, k]
      rw [if_neg this]
      simp [lb__law_read_1, hf, h, hi, k3]
  · have h' : fg w = false := Bool.eq_false_iff.mpr h
    have : ¬ okf (w, r) = true := by simp [okf, h']
    rw [if_neg this]
    generalize S w = s at *
    simp [lb__law_read_1, hf, h']
theorem read_loop (R LS WS : List D) (z p q : Str) (qs : List (List Nat × List Int)) (hw : ∀ x ∈ qs, x.1.length ≤ 500) :
    (qs.all okf = true ∧ ∃ o4 o5, isP o4 = false ∧ forGo (gUnp [4, 5]) lb__law_read_1 (qs.map fun q => D.tup [.str (S q.1), .lst (q.2.map D.int)]) (lrE R LS WS z p q none none) = .nx (lrE R LS WS z p q o4 o5)) ∨
    (qs.all okf = false ∧ ∃ o4 o5, forGo (gUnp [4, 5]) lb__law_read_1 (qs.map fun q => D.tup [.str (S q.1), .lst (q.2.map D.int)]) (lrE R LS WS z p q none none) = .rt (.d (.int 0)) (lrE R LS WS z p q o4 o5)) := by
  rcases forGo_rt (body := lb__law_read_1) (ft := gUnp [4, 5]) (ds := qs.map fun q => D.tup [.str (S q.1), .lst (q.2.map D.int)]) (fun i e => (∃ o4 o5, e = lrE R LS WS z p q o4 o5 ∧ isP o4 = false ∧ isP o5 = false) ∧ ∀ x ∈ qs.take i, okf x = true)
    (fun x e => x = .d (.int 0) ∧ (∃ o4 o5, e = lrE R LS WS z p q o4 o5) ∧ ∃ y ∈ qs, okf y = false) (e := lrE R LS WS z p q none none) ⟨⟨none, none, rfl, rfl, rfl⟩, fun x hx => by simp at hx⟩ fun i d e hd => by
      rintro ⟨⟨o4, o5, rfl, h4, h5⟩, ha⟩
      rw [List.getElem?_map] at hd
      obtain ⟨⟨w, r⟩, hr, rfl⟩ := Option.map_eq_some_iff.mp hd
      refine ⟨lrE R LS WS z p q (some (.d (.str (S w)))) (some (.d (.lst (r.map D.int)))), by simp [lrE, h4, h5], ?_⟩
      rw [read_step R LS WS z p q w r (hw _ (List.mem_of_getElem? hr))]
      by_cases h : okf (w, r) = true
      · rw [if_pos h]
        refine .inl ⟨_, rfl, ⟨_, _, rfl, rfl, rfl⟩, fun x hx => ?_⟩
        rw [List.take_succ, hr] at hx
        rcases List.mem_append.mp hx with hx | hx
        · exact ha x hx
        · have : x = (w, r) := by simpa using hx
          rw [this]; exact h
      · rw [if_neg h]
        exact .inr ⟨_, _, rfl, rfl, ⟨_, _, rfl⟩, _, List.mem_of_getElem? hr, Bool.eq_false_iff.mpr h⟩
  with ⟨e', h1, ⟨o4, o5, rfl, h4, h5⟩, ha⟩ | ⟨x, e', h1, rfl, ⟨o4, o5, rfl⟩, y, hy, hb⟩
  · refine .inl ⟨?_, o4, o5, h4, h1⟩
    rw [List.length_map, List.take_length] at ha
    exact List.all_eq_true.mpr ha
  · refine .inr ⟨?_, o4, o5, h1⟩
    rw [Bool.eq_false_iff]
    intro h
    have := List.all_eq_true.mp h y hy
    rw [hb] at this
    cases this
theorem okf_fig {w : List Nat} {r : List Int} (h : okf (w, r) = true) : w.all dg = true ∧ w ≠ [] := by
  unfold okf fg at h
  simp only [Bool.and_eq_true, decide_eq_true_eq] at h
  exact ⟨h.1.2.2, h.1.1⟩
theorem zip_ex : ∀ {ws : List (List Nat)} {es : List (List Int)} {w : List Nat}, ws.length = es.length → w ∈ ws → ∃ r, (w, r) ∈ ws.zip es
  | x :: xs, r :: es, w, h, hw => by
    rcases List.mem_cons.mp hw with rfl | hw
    · exact ⟨r, List.mem_cons_self ..⟩
    · obtain ⟨r', h'⟩ := zip_ex (es := es) (by simpa using h) hw
      exact ⟨r', List.mem_cons_of_mem _ h'⟩
  | x :: xs, [], w, h, hw => by simp at h
  | [], _, w, h, hw => by cases hw
theorem len256 {l : List Nat} (h : ∀ c ∈ l, c < 256) : PyData.strOk (S l) = true := by
  unfold PyData.strOk
  rw [← Array.all_toList, List.all_eq_true]
  intro c hc
  have := h c hc
  exact decide_eq_true (by omega)
theorem gEq_tD {as bs : List (List Nat)} (ha : ∀ w ∈ as, ∀ c ∈ w, c < 256) (hb : ∀ w ∈ bs, ∀ c ∈ w, c < 256) : gEq (.lst (tD as)) (.lst (tD bs)) = some (decide (as = bs)) := by
  have e : ∀ l : List (List Nat), tD l = (l.map S).map D.str := fun l => by rw [List.map_map]; rfl
  have inj : ∀ {a b : List (List Nat)}, a.map S = b.map S ↔ a = b := fun {a b} => ⟨fun h => by
    have := congrArg (fun l => l.map TL.tl) h
    have k : ∀ l : List (List Nat), (l.map S).map TL.tl = l := SX.map_S_tl
    simpa only [k] using this, fun h => by rw [h]⟩
  rw [e, e, gEq_strs (fun y hy => ?_) (fun y hy => ?_)]
  · congr 1
    rw [Bool.eq_iff_iff, decide_eq_true_eq, decide_eq_true_eq]
    exact inj
  · obtain ⟨w, hw, rfl⟩ := List.mem_map.mp hy
    exact len256 (ha w hw)
  · obtain ⟨w, hw, rfl⟩ := List.mem_map.mp hy
    exact len256 (hb w hw)
theorem law_read_ok (es : List (List Int)) (l p q : List Nat) (ls ws : List (List Nat)) (hl : l.length ≤ 400) (hc : ∀ c ∈ l, c < 256) (hL : sp 10 l = p :: ls) (hW : sp 32 p = q :: ws) :
    F__law_read [.d (.lst (rowsD es)), .d (.str (S l))] = .ret (.d (toldD es ls q ws)) [none, none] := by
  have pl : p.length ≤ l.length := sp_part (c := 10) (by rw [hL]; exact List.mem_cons_self ..)
  have pm : ∀ w ∈ q :: ws, w.length ≤ 500 := fun w hw => by have := sp_part (c := 32) (l := p) (p := w) (by rw [hW]; exact hw); omega
  have lm : ∀ w ∈ ls, ∀ c ∈ w, c < 256 := fun w hw c hcw => hc c (sp_sub (c := 10) (p := w) (by rw [hL]; exact List.mem_cons_of_mem _ hw) c hcw)
  have wl : ws.length ≤ 1000 := by have := sp_len 32 p; rw [hW, List.length_cons] at this; omega
  have z1 : (S l).length ≤ 999998 := by rw [S_len]; omega
  have z2 : (S p).length ≤ 999998 := by rw [S_len]; omega
  have hL2 : (Txt.split (S l) "\n").map D.str = .str (S p) :: tD ls := by rw [splitD_nl, hL]; rfl
  have hW2 : (Txt.split (S p) " ").map D.str = .str (S q) :: tD ws := by rw [splitD_sp, hW]; rfl
  have tl : ∀ x : List (List Nat), (tD x).length = x.length := fun x => List.length_map ..
  have rl : (rowsD es).length = es.length := rowsD_len
  by_cases h1 : ls.length = 0 ∨ q ≠ nextL ∨ ws.length ≠ es.length
  · rw [law_read_bad (R := rowsD es) z1 z2 hL2 hW2 (by
      rcases h1 with h | h | h
      · exact .inl (by rw [tl]; exact h)
      · exact .inr (.inl fun e => h ((next_S q).mp e))
      · exact .inr (.inr (by rw [tl, rl]; exact h)))]
    have : toldD es ls q ws = .int 0 := if_pos (by
      rcases h1 with h | h | h
      · exact .inl h
      · exact .inr (by simp [goodW, h])
      · exact .inr (by simp [goodW, h]))
    rw [this]
  · have a1 : ls.length ≠ 0 := fun e => h1 (.inl e)
    have a2 : q = nextL := Classical.byContradiction fun e => h1 (.inr (.inl e))
    have a3 : ws.length = es.length := Classical.byContradiction fun e => h1 (.inr (.inr e))
    have zw := zip2_ws ws es
    rcases read_loop (rowsD es) (tD ls) (tD ws) (S l) (S p) (S q) (ws.zip es) (fun x hx => pm x.1 (List.mem_cons_of_mem _ (List.of_mem_zip hx).1)) with ⟨h, o4, o5, h4, hf⟩ | ⟨h, o4, o5, hf⟩
    · rw [← zw] at hf
      have hce : lcGo [4] (gSet 4) tYesF ce__law_read_1 (tD ws) [] (lrE (rowsD es) (tD ls) (tD ws) (S l) (S p) (S q) none o5) = .ok (numsD ws) (lrE (rowsD es) (tD ls) (tD ws) (S l) (S p) (S q) none o5) :=
        lcGo_map (fun w => D.int (dv w)) (h := fun w => D.str (S w)) (by show _ ≤ 1000000; omega) fun w hw => by
          obtain ⟨r, hr⟩ := zip_ex a3 hw
          obtain ⟨k1, k2⟩ := okf_fig (List.all_eq_true.mp h _ hr)
          have hi := int_fig k1 k2 (pm w (List.mem_cons_of_mem _ hw))
          exact ⟨_, _, _, by simp [lrE]; rfl, by simp; rfl, by simp [ce__law_read_1, hi]; rfl, by simp⟩
      have hg : gEq (.lst (tD ls)) (.lst [.str ""]) = some (decide (ls = [[]])) := by
        have e0 : (D.lst [.str ""]) = .lst (tD [[]]) := by rw [st_e]; rfl
        rw [e0]
        exact gEq_tD lm (fun w hw c hcw => by
          have : w = [] := by simpa using hw
          rw [this] at hcw; cases hcw)
      rw [law_read_fine (R := rowsD es) z1 z2 hL2 hW2 (by rw [tl]; exact a1) ((next_S q).mpr a2) (by rw [tl, rl]; exact a3) hf h4 hg hce]
      have hgood : ¬ (ls.length = 0 ∨ goodW es q ws = false) := by
        rintro (e | e)
        · exact a1 e
        · simp [goodW, a2, a3, h] at e
      unfold toldD
      rw [if_neg hgood]
      by_cases k : ls = [[]] <;> simp [k]
    · rw [← zw] at hf
      rw [law_read_odd (R := rowsD es) z1 z2 hL2 hW2 (by rw [tl]; exact a1) ((next_S q).mpr a2) (by rw [tl, rl]; exact a3) hf]
      have : toldD es ls q ws = .int 0 := if_pos (.inr (by simp [goodW, h]))
      rw [this]

end K17
end
section
set_option Elab.async false
set_option linter.all false
set_option autoImplicit false
set_option maxRecDepth 100000
set_option maxHeartbeats 4000000
namespace K17
open PySem PySem.Spec L2 MM

/-! ### as the program reads -/
theorem zip2_rs (f : List Nat → D) : ∀ (ws : List (List Nat)) (es : List (List Int)), zip2D (ws.map f) (trowsD es) = (ws.zip es).map fun q => D.tup [f q.1, .tup (q.2.map D.int)]
  | [], _ => by simp [zip2D]
  | x :: xs, [] => by simp [zip2D, trowsD]
  | x :: xs, r :: es => by
    rw [trowsD_cons]
    show zip2D (f x :: xs.map f) (.tup (r.map D.int) :: trowsD es) = _
    rw [zip2D, zip2_rs f xs es]
    rfl
/-- the setting of the first line, as the program tells it -/
def lineD (es : List (List Int)) (q : List Nat) (ws : List (List Nat)) : D := if goodW es q ws = true then .lst (numsD ws) else .non
abbrev srE (e : Int) (es : List (List Int)) (p q : Str) (WS : List D) (o3 : Option EV) : MM.Env := [some (.d (netD e es)), some (.d (.str p)), some (.m (.lst (.str q :: WS))), o3, none, none, none]
section
variable {WS NS bs ds : List D} {p q : Str} {e : Int} {es : List (List Int)} (hp : p.length ≤ 999998) (hW : (Txt.split p " ").map D.str = .str q :: WS)
include hp hW
theorem setting_read_bad (h : q ≠ "next" ∨ WS.length ≠ es.length) : F_setting_read [.d (netD e es), .d (.str p)] = .ret (.d .non) [none, none] := by
  rw [F_setting_read, runD_2, fb_setting_read]
  have b0 : atI (D.str q :: WS) 0 = some (.str q) := atI_at (by omega) rfl
  by_cases h2 : q = "next"
  · have h3 : ¬ WS.length = es.length := h.resolve_left (fun e => e h2)
    have k3 : ¬ (WS.length : Int) + 1 = 1 + es.length := by omega
    subst h2
    simp [n_sp, n_sp', hp, hW, b0, k3]
  · simp [n_sp, n_sp', hp, hW, b0, h2]
theorem setting_read_none (h2 : q = "next") (h3 : WS.length = es.length) (hc : lcGo [4] (gSet 4) tYesF ce_setting_read_1 WS [] (srE e es p q WS none) = .ok NS (srE e es p q WS none))
    (hc2 : lcGo [5] (gSet 5) tYesF ce_setting_read_2 NS [] (srE e es p q WS (some (.d (.lst NS)))) = .ok bs (srE e es p q WS (some (.d (.lst NS))))) (ha : fAny (.lst bs) = some (.d (.bl true))) : F_setting_read [.d (netD e es), .d (.str p)] = .ret (.d .non) [none, none] := by
  rw [F_setting_read, runD_2, fb_setting_read]
  have b0 : atI (D.str q :: WS) 0 = some (.str q) := atI_at (by omega) rfl
  have k3 : (es.length : Int) + 1 = 1 + es.length := by omega
  subst h2
  simp only [srE, netD] at hc hc2 ⊢
  generalize hNF : netF e es = NF at *
  have hf1 : NF[1]? = some (.tup (trowsD es)) := by rw [← hNF]; rfl
  simp [n_sp, n_sp', hp, hW, b0, h3, k3, lcF_ev, cut1, hc, hc2, ha, hf1]
theorem setting_read_some {b : Bool} (h2 : q = "next") (h3 : WS.length = es.length) (hc : lcGo [4] (gSet 4) tYesF ce_setting_read_1 WS [] (srE e es p q WS none) = .ok NS (srE e es p q WS none))
    (hc2 : lcGo [5] (gSet 5) tYesF ce_setting_read_2 NS [] (srE e es p q WS (some (.d (.lst NS)))) = .ok bs (srE e es p q WS (some (.d (.lst NS))))) (ha : fAny (.lst bs) = some (.d (.bl false)))
    (hc3 : lcGo [5, 6] (gUnp [5, 6]) tYesF ce_setting_read_3 (zip2D NS (trowsD es)) [] (srE e es p q WS (some (.d (.lst NS)))) = .ok ds (srE e es p q WS (some (.d (.lst NS))))) (hb : fAll (.lst ds) = some (.d (.bl b))) : F_setting_read [.d (netD e es), .d (.str p)] = .ret (.d (if b = true then .lst NS else .non)) [none, none] := by
  rw [F_setting_read, runD_2, fb_setting_read]
  have b0 : atI (D.str q :: WS) 0 = some (.str q) := atI_at (by omega) rfl
  have k3 : (es.length : Int) + 1 = 1 + es.length := by omega
  subst h2
  simp only [srE, netD] at hc hc2 hc3 ⊢
  generalize hNF : netF e es = NF at *
  have hf1 : NF[1]? = some (.tup (trowsD es)) := by rw [← hNF]; rfl
  cases b <;> simp [n_sp, n_sp', hp, hW, b0, h3, k3, lcF_ev, cut1, hc, hc2, hc3, ha, hb, hf1]
end
theorem frD_some {o : Option Nat} {v : Nat} (h : o = some v) : frD o = .int v := by rw [h]; rfl
theorem setting_read_ok (e : Int) (es : List (List Int)) (p q : List Nat) (ws : List (List Nat)) (hl : p.length ≤ 400) (hr : ∀ r ∈ es, r.length ≤ 10) (hW : sp 32 p = q :: ws) :
    F_setting_read [.d (netD e es), .d (.str (S p))] = .ret (.d (lineD es q ws)) [none, none] := by
  have pm : ∀ w ∈ q :: ws, w.length ≤ 500 := fun w hw => by have := sp_part (c := 32) (l := p) (p := w) (by rw [hW]; exact hw); omega
  have wl : ws.length ≤ 1000 := by have := sp_len 32 p; rw [hW, List.length_cons] at this; omega
  have z2 : (S p).length ≤ 999998 := by rw [S_len]; omega
  have hW2 : (Txt.split (S p) " ").map D.str = .str (S q) :: tD ws := by rw [splitD_sp, hW]; rfl
  have tl : (tD ws).length = ws.length := List.length_map ..
  by_cases h1 : q ≠ nextL ∨ ws.length ≠ es.length
  · rw [setting_read_bad z2 hW2 (by
      rcases h1 with h | h
      · exact .inl fun e => h ((next_S q).mp e)
      · exact .inr (by rw [tl]; exact h))]
    have : lineD es q ws = .non := if_neg (by
      rcases h1 with h | h
      · simp [goodW, h]
      · simp [goodW, h])
    rw [this]
  · have a2 : q = nextL := Classical.byContradiction fun e => h1 (.inl e)
    have a3 : ws.length = es.length := Classical.byContradiction fun e => h1 (.inr e)
    have hc : lcGo [4] (gSet 4) tYesF ce_setting_read_1 (tD ws) [] (srE e es (S p) (S q) (tD ws) none) = .ok (ws.map fun w => frD (fr w)) (srE e es (S p) (S q) (tD ws) none) :=
      lcGo_map (fun w => frD (fr w)) (h := fun w => D.str (S w)) (by show _ ≤ 1000000; omega) fun w hw => by
        have hi := figures_read_ok w (pm w (List.mem_cons_of_mem _ hw))
        exact ⟨_, _, _, by simp [srE]; rfl, by simp; rfl, by simp [ce_setting_read_1, hi]; rfl, by simp⟩
    have hc2 : lcGo [5] (gSet 5) tYesF ce_setting_read_2 (ws.map fun w => frD (fr w)) [] (srE e es (S p) (S q) (tD ws) (some (.d (.lst (ws.map fun w => frD (fr w)))))) = .ok (ws.map fun w => D.bl (decide (fr w = none))) (srE e es (S p) (S q) (tD ws) (some (.d (.lst (ws.map fun w => frD (fr w)))))) :=
      lcGo_map (fun w => D.bl (decide (fr w = none))) (h := fun w => frD (fr w)) (by show _ ≤ 1000000; omega) fun w hw => by
        have hn : gIsN (frD (fr w)) .non = some (decide (fr w = none)) := by
          cases fr w <;> rfl
        generalize ws.map (fun w => frD (fr w)) = NS at *
        generalize frD (fr w) = N at *
        exact ⟨_, _, _, by simp [srE]; rfl, by simp; rfl, by simp [ce_setting_read_2, hn]; rfl, by simp⟩
    have ha := fAny_fun (fun w => decide (fr w = none)) ws
    by_cases k : ws.any (fun w => decide (fr w = none)) = true
    · rw [k] at ha
      rw [setting_read_none z2 hW2 ((next_S q).mpr a2) (by rw [tl]; exact a3) hc hc2 ha]
      obtain ⟨w, hw, hn⟩ := List.any_eq_true.mp k
      obtain ⟨r, hzr⟩ := zip_ex a3 hw
      have : lineD es q ws = .non := if_neg fun hg => by
        have hg2 : (ws.zip es).all okf = true := by
          unfold goodW at hg
          simp only [Bool.and_eq_true] at hg
          exact hg.2.2
        have h0 := List.all_eq_true.mp hg2 _ hzr
        unfold okf at h0
        rw [Bool.and_eq_true, decide_eq_true_eq] at h0
        obtain ⟨v, hv, _⟩ := (fig_iff (hr r (List.of_mem_zip hzr).2)).mp h0
        rw [of_decide_eq_true hn] at hv
        cases hv
      rw [this]
    · have k' : ws.any (fun w => decide (fr w = none)) = false := Bool.eq_false_iff.mpr k
      rw [k'] at ha
      have hsome : ∀ w ∈ ws, fr w = some (dv w) := fun w hw => by
        cases hf : fr w with
        | none => exact absurd (List.any_eq_true.mpr ⟨w, hw, decide_eq_true hf⟩) k
        | some v => rw [fr_val hf]
      have hN : (ws.map fun w => frD (fr w)) = numsD ws := List.map_congr_left fun w hw => by rw [hsome w hw]; rfl
      rw [hN] at hc hc2
      have hc3 : lcGo [5, 6] (gUnp [5, 6]) tYesF ce_setting_read_3 (zip2D (numsD ws) (trowsD es)) [] (srE e es (S p) (S q) (tD ws) (some (.d (.lst (numsD ws))))) = .ok ((ws.zip es).map fun x => D.bl (decide (dv x.1 < x.2.length))) (srE e es (S p) (S q) (tD ws) (some (.d (.lst (numsD ws))))) := by
        unfold numsD
        rw [zip2_rs]
        exact lcGo_map (fun x : List Nat × List Int => D.bl (decide (dv x.1 < x.2.length))) (fun q => D.tup [.int (dv q.1), .tup (q.2.map D.int)]) (by rw [List.length_zip]; show min _ _ ≤ 1000000; omega) fun x hx => ⟨_, _, _, by simp [srE]; rfl, by simp; rfl, by simp [ce_setting_read_3]; rfl, by simp⟩
      have hb := fAll_fun (fun x : List Nat × List Int => decide (dv x.1 < x.2.length)) (ws.zip es)
      rw [setting_read_some z2 hW2 ((next_S q).mpr a2) (by rw [tl]; exact a3) hc hc2 ha hc3 hb]
      have : goodW es q ws = (ws.zip es).all fun x => decide (dv x.1 < x.2.length) := by
        unfold goodW
        rw [decide_eq_true a2, decide_eq_true a3, Bool.true_and, Bool.true_and, Bool.eq_iff_iff, List.all_eq_true, List.all_eq_true]
        refine ⟨fun H x hx => ?_, fun H x hx => ?_⟩
        · have := H x hx
          unfold okf at this
          rw [Bool.and_eq_true] at this
          exact this.2
        · obtain ⟨w, r⟩ := x
          have h2 : dv w < r.length := of_decide_eq_true (H _ hx)
          obtain ⟨h3, h4⟩ := (fig_iff (hr r (List.of_mem_zip hx).2)).mpr ⟨dv w, hsome w (List.of_mem_zip hx).1, h2⟩
          unfold okf
          rw [Bool.and_eq_true]
          exact ⟨h3, decide_eq_true h4⟩
      unfold lineD
      rw [this]

end K17
end
section
set_option Elab.async false
set_option linter.all false
set_option autoImplicit false
set_option maxRecDepth 100000
set_option maxHeartbeats 4000000
namespace K17
open PySem PySem.Spec L2 MM

/-! ### what is told of a text -/
@[simp] theorem outOf_exc {m : Nat} {x : Exn} {e : MM.Env} : outOf m (.exc x e) = .exc x ((e.take m).map pinOf) := rfl
section
variable {LS : List D} {z p : Str} {N y : D} (hz : z.length ≤ 999998) (hL : (Txt.split z "\n").map D.str = .str p :: LS) (hr : F_setting_read [.d N, .d (.str p)] = .ret (.d y) [none, none])
include hz hL hr
theorem in_zero {b : Bool} (hy : gIsN y .non = some b) (h : b = true ∨ LS.length = 0) : F_setting_in [.d N, .d (.str z)] = .exc ⟨220, [.int 0]⟩ [none, none] := by
  rw [F_setting_in, runD_2, fb_setting_in]
  have a0 : atI (D.str p :: LS) 0 = some (.str p) := atI_at (by omega) rfl
  cases b with
  | true => simp [n_nl, n_nl', hz, hL, a0, hr, hy]
  | false =>
    have h2 : LS = [] := List.length_eq_zero_iff.mp (h.resolve_left (by simp))
    subst h2
    simp [n_nl, n_nl', hz, hL, a0, hr, hy]
theorem in_more {b : Bool} (h : LS.length ≠ 0) (hy : gIsN y .non = some false) (hg : gEq (.lst (.str p :: LS)) (.lst [.str p, .str ""]) = some b) : F_setting_in [.d N, .d (.str z)] = if b = true then .ret (.d y) [none, none] else .exc ⟨220, [.int 1]⟩ [none, none] := by
  rw [F_setting_in, runD_2, fb_setting_in]
  have a0 : atI (D.str p :: LS) 0 = some (.str p) := atI_at (by omega) rfl
  have k1 : ¬ (LS.length : Int) + 1 = 1 := by omega
  have k1' : ¬ LS = [] := fun e => h (by rw [e]; rfl)
  cases b <;> simp [n_nl, n_nl', hz, hL, a0, hr, hy, k1, k1', hg]
end
@[simp] theorem want_string_str (z : Str) : F_want_string [.d (.str z)] = .ret (.d (.str z)) [none] := by
  rw [F_want_string, runD_1, fb_want_string]
  simp [isB, tyS]
theorem of_exc {e : Int} {es : List (List Int)} {z : Str} {x : Exn} (h : F_setting_in [.d (netD e es), .d (.str z)] = .exc x [none, none]) : F_setting_of [.d (netD e es), .d (.str z)] = .exc x [none, none] := by
  rw [F_setting_of, runD_2, fb_setting_of]
  simp only [netD] at h ⊢
  generalize netF e es = NF at *
  simp [h]
theorem of_ret {e : Int} {es : List (List Int)} {z : Str} {y : D} (h : F_setting_in [.d (netD e es), .d (.str z)] = .ret (.d y) [none, none]) : F_setting_of [.d (netD e es), .d (.str z)] = .ret (.d y) [none, none] := by
  rw [F_setting_of, runD_2, fb_setting_of]
  simp only [netD] at h ⊢
  generalize netF e es = NF at *
  simp [h]
theorem told_exc {N : D} {z : Str} {k : Int} (h : F_setting_of [.d N, .d (.str z)] = .exc ⟨220, [.int k]⟩ [none, none]) : F__law_told [.d N, .d (.str z)] = .ret (.d (.int k)) [none, none] := by
  rw [F__law_told, runD_2, fb__law_told]
  simp [h]
  rfl
theorem told_ret {N : D} {z : Str} {y : D} (h : F_setting_of [.d N, .d (.str z)] = .ret (.d y) [none, none]) : F__law_told [.d N, .d (.str z)] = .ret (.d y) [none, none] := by
  rw [F__law_told, runD_2, fb__law_told]
  simp [h]
theorem setting_in_ok (e : Int) (es : List (List Int)) (l p q : List Nat) (ls ws : List (List Nat)) (hl : l.length ≤ 400) (hc : ∀ c ∈ l, c < 256) (hr : ∀ r ∈ es, r.length ≤ 10) (hL : sp 10 l = p :: ls) (hW : sp 32 p = q :: ws) :
    (∃ k : Int, toldD es ls q ws = .int k ∧ F_setting_in [.d (netD e es), .d (.str (S l))] = .exc ⟨220, [.int k]⟩ [none, none]) ∨ F_setting_in [.d (netD e es), .d (.str (S l))] = .ret (.d (toldD es ls q ws)) [none, none] := by
  have pl : p.length ≤ l.length := sp_part (c := 10) (by rw [hL]; exact List.mem_cons_self ..)
  have lm : ∀ w ∈ p :: ls, ∀ c ∈ w, c < 256 := fun w hw c hcw => hc c (sp_sub (c := 10) (p := w) (by rw [hL]; exact hw) c hcw)
  have z1 : (S l).length ≤ 999998 := by rw [S_len]; omega
  have hL2 : (Txt.split (S l) "\n").map D.str = .str (S p) :: tD ls := by rw [splitD_nl, hL]; rfl
  have tl : (tD ls).length = ls.length := List.length_map ..
  have hs := setting_read_ok e es p q ws (by omega) hr hW
  by_cases h0 : ls.length = 0 ∨ goodW es q ws = false
  · refine .inl ⟨0, if_pos h0, ?_⟩
    refine in_zero z1 hL2 hs (b := !goodW es q ws) ?_ ?_
    · unfold lineD
      cases goodW es q ws <;> rfl
    · rcases h0 with h | h
      · exact .inr (by rw [tl]; exact h)
      · exact .inl (by rw [h]; rfl)
  · have a1 : ls.length ≠ 0 := fun e => h0 (.inl e)
    have a2 : goodW es q ws = true := by
      cases h : goodW es q ws with
      | true => rfl
      | false => exact absurd (.inr h) h0
    have hlD : lineD es q ws = .lst (numsD ws) := if_pos a2
    rw [hlD] at hs
    have hg : gEq (.lst (.str (S p) :: tD ls)) (.lst [.str (S p), .str ""]) = some (decide (ls = [[]])) := by
      have e1 : (D.lst [.str (S p), .str ""]) = .lst (tD [p, []]) := by rw [st_e]; rfl
      have e2 : (D.lst (.str (S p) :: tD ls)) = .lst (tD (p :: ls)) := rfl
      rw [e1, e2, gEq_tD lm (fun w hw c hcw => by
        rcases List.mem_cons.mp hw with rfl | hw
        · exact lm w (List.mem_cons_self ..) c hcw
        · have : w = [] := by simpa using hw
          rw [this] at hcw; cases hcw)]
      simp
    have := in_more z1 hL2 hs (by rw [tl]; exact a1) rfl hg
    unfold toldD
    rw [if_neg h0]
    by_cases k : ls = [[]]
    · rw [if_pos k]
      rw [if_pos (decide_eq_true k)] at this
      exact .inr this
    · rw [if_neg k]
      rw [if_neg (by simpa using k)] at this
      exact .inl ⟨1, rfl, this⟩
/-- both readings of any text -/
theorem both_told (e : Int) (es : List (List Int)) (z : Str) (hz : TOk 400 z) (hr : ∀ r ∈ es, r.length ≤ 10) : ∃ (ls : List (List Nat)) (q : List Nat) (ws : List (List Nat)), F__law_told [.d (netD e es), .d (.str z)] = .ret (.d (toldD es ls q ws)) [none, none] ∧ F__law_read [.d (.lst (rowsD es)), .d (.str z)] = .ret (.d (toldD es ls q ws)) [none, none] := by
  obtain ⟨p, ls, hL⟩ := List.exists_cons_of_ne_nil (sp_ne 10 (TL.tl z))
  obtain ⟨q, ws, hW⟩ := List.exists_cons_of_ne_nil (sp_ne 32 p)
  have hl : (TL.tl z).length ≤ 400 := by have := hz.1; rw [TL.len_tl] at this; exact this
  refine ⟨ls, q, ws, ?_, ?_⟩
  · rw [← S_tl z]
    rcases setting_in_ok e es (TL.tl z) p q ls ws hl hz.2 hr hL hW with ⟨k, h1, h2⟩ | h
    · rw [h1]; exact told_exc (of_exc h2)
    · exact told_ret (of_ret h)
  · rw [← S_tl z]
    exact law_read_ok es (TL.tl z) p q ls ws hl hz.2 hL hW

end K17
end
section
set_option Elab.async false
set_option linter.all false
set_option autoImplicit false
set_option maxRecDepth 100000
set_option maxHeartbeats 4000000
namespace K17
open PySem PySem.Spec L2 MM

/-! ### the text of a setting -/
def figL (x : Int) : List Nat := [48 + x.toNat]
def lineL (xs : List Int) : List Nat := TL.joinL [32] (nextL :: xs.map figL)
def txtL (xs : List Int) : List Nat := lineL xs ++ [10]
def Small (xs : List Int) : Prop := ∀ x ∈ xs, 0 ≤ x ∧ x < 10
theorem num_fig {x : Int} (h : 0 ≤ x ∧ x < 10) : Str.ofString (toString x) = S (figL x) := by
  have e : x = ((x.toNat : Nat) : Int) := by omega
  refine Eq.trans ?_ (congrArg S (show TL.numL x.toNat = figL x from TL.numL_lt (by omega)))
  conv => lhs; rw [e]
  exact SX.num_S x.toNat
theorem log_small {x : Int} (h : 0 ≤ x ∧ x < 10) : x.natAbs.log2 < 1920 := log_ok (by omega)
theorem str_fig {x : Int} (h : 0 ≤ x ∧ x < 10) : fStrI (.int x) = some (.d (.str (S (figL x)))) := by
  rw [← num_fig h]
  exact if_pos (log_small h)
theorem nice_int {i : Int} (h : -(10 ^ 40) < i ∧ i < 10 ^ 40) : (D.int i).nice = true := by rw [D.nice]; exact decide_eq_true (log_ok h)
theorem repr_fig {x : Int} (h : 0 ≤ x ∧ x < 10) : fReprD (.int x) = some (.d (.str (S (figL x)))) := by
  rw [← num_fig h]
  have h1 : okR (.int x) = true := Good.okR (n := 40) (nice_int (by omega)) (by simp [D.nod]) (by omega)
  rw [fReprD_ok h1 (by simp)]
  simp only [D.py, PyData.shown]
def wordsT (xs : List Int) : List Str := "next" :: xs.map fun x => S (figL x)
theorem wordsT_D (xs : List Int) : (wordsT xs).map D.str = .str "next" :: xs.map fun x => D.str (S (figL x)) := by
  unfold wordsT
  rw [List.map_cons, List.map_map]
  rfl
theorem strs_words (xs : List Int) : strs? (.str "next" :: xs.map fun x => D.str (S (figL x))) = some (wordsT xs) := by rw [← wordsT_D, strs?_map]
theorem join_words (xs : List Int) : Txt.join " " (wordsT xs) = S (lineL xs) := by
  have e : wordsT xs = (nextL :: xs.map figL).map S := by
    unfold wordsT
    rw [List.map_cons, List.map_map, st_next]
    rfl
  rw [e, st_sp]
  exact SX.join_S [32] _
theorem app_nl (l : List Nat) : S l ++ ("\n" : Str) = S (l ++ [10]) := by rw [st_nl]; exact SX.S_cat l [10]
theorem sum_ones : ∀ xs : List Int, ((xs.map fun x => S (figL x)).map (·.length)).sum = xs.length
  | [] => rfl
  | x :: xs => by
    have := sum_ones xs
    rw [List.map_cons, List.map_cons, List.sum_cons, this, S_len, List.length_cons]
    show 1 + _ = _
    omega
theorem words_fit {xs : List Int} (h : xs.length ≤ 1000) : ((wordsT xs).map (·.length)).sum + (wordsT xs).length * (" " : Str).length ≤ 16777216 := by
  unfold wordsT
  have e1 : ("next" : Str).length = 4 := by decide +kernel
  have e2 : (" " : Str).length = 1 := by decide +kernel
  rw [List.map_cons, List.sum_cons, sum_ones, e1, e2, List.length_cons, List.length_map]
  omega
theorem join_small : ∀ (ps : List (List Nat)) (p : List Nat), (∀ w ∈ ps, w.length = 1) → (TL.joinL [32] (p :: ps)).length = p.length + 2 * ps.length
  | [], p, _ => by show p.length = _; simp
  | w :: ps, p, h => by
    have := join_small ps w fun v hv => h v (List.mem_cons_of_mem _ hv)
    have hw := h w (List.mem_cons_self ..)
    show (p ++ ([32] ++ TL.joinL [32] (w :: ps))).length = _
    simp only [List.length_append, this, List.length_cons, List.length_nil]
    omega
theorem join_mem : ∀ (ps : List (List Nat)) (p : List Nat) (c : Nat), c ∈ TL.joinL [32] (p :: ps) → c = 32 ∨ ∃ w ∈ p :: ps, c ∈ w
  | [], p, c, h => .inr ⟨p, List.mem_cons_self .., h⟩
  | w :: ps, p, c, h => by
    have h : c ∈ p ++ ([32] ++ TL.joinL [32] (w :: ps)) := h
    rcases List.mem_append.mp h with h | h
    · exact .inr ⟨p, List.mem_cons_self .., h⟩
    · rcases List.mem_append.mp h with h | h
      · exact .inl (List.mem_singleton.mp h)
      · rcases join_mem ps w c h with h | ⟨v, hv, hc⟩
        · exact .inl h
        · exact .inr ⟨v, List.mem_cons_of_mem _ hv, hc⟩
theorem line_signs {xs : List Int} (h : Small xs) {c : Nat} (hc : c ∈ lineL xs) : c = 32 ∨ c ∈ nextL ∨ (48 ≤ c ∧ c ≤ 57) := by
  rcases join_mem _ _ _ hc with h1 | ⟨w, hw, hcw⟩
  · exact .inl h1
  · rcases List.mem_cons.mp hw with rfl | hw
    · exact .inr (.inl hcw)
    · obtain ⟨x, hx, rfl⟩ := List.mem_map.mp hw
      have := h x hx
      have e : c = 48 + x.toNat := List.mem_singleton.mp hcw
      exact .inr (.inr (by omega))
theorem next_signs {c : Nat} (h : c ∈ nextL) : 101 ≤ c ∧ c ≤ 120 := by
  unfold nextL at h
  simp only [List.mem_cons, List.not_mem_nil, or_false] at h
  omega
theorem txt_ok {xs : List Int} (h : Small xs) (hl : xs.length ≤ 4) : (txtL xs).length ≤ 13 ∧ ∀ c ∈ txtL xs, c < 256 := by
  constructor
  · unfold txtL lineL
    rw [List.length_append, join_small _ _ (fun w hw => by obtain ⟨x, _, rfl⟩ := List.mem_map.mp hw; rfl), List.length_map]
    show 4 + _ + 1 ≤ 13
    omega
  · intro c hc
    rcases List.mem_append.mp hc with hc | hc
    · rcases line_signs h hc with e | e | e
      · omega
      · have := next_signs e; omega
      · omega
    · have := List.mem_singleton.mp hc; omega
theorem txt_lines {xs : List Int} (h : Small xs) : sp 10 (txtL xs) = lineL xs :: [[]] := by
  have hn : 10 ∉ lineL xs := fun hc => by
    rcases line_signs h hc with e | e | e
    · omega
    · have := next_signs e; omega
    · omega
  have := TL.spl_part1 (s := 10) (S := []) (p := lineL xs) (rest := []) (acc := []) hn
  rw [TL.spl_nil] at this
  exact this
theorem line_words {xs : List Int} (h : Small xs) : sp 32 (lineL xs) = nextL :: xs.map figL := by
  refine SX.spl_join (c := 32) (sep := []) (by simp) fun w hw hc => ?_
  rcases List.mem_cons.mp hw with rfl | hw
  · have := next_signs hc; omega
  · obtain ⟨x, hx, rfl⟩ := List.mem_map.mp hw
    have e : 32 = 48 + x.toNat := List.mem_singleton.mp hc
    omega
theorem dv_fig {x : Int} (h : 0 ≤ x) : (dv (figL x) : Int) = x := by
  show (((0 * 10 + (48 + x.toNat - 48) : Nat)) : Int) = x
  omega
theorem fg_fig {x : Int} (h : 0 ≤ x ∧ x < 10) : fg (figL x) = true := by
  have h1 : 48 + x.toNat ≤ 57 := by omega
  simp [fg, figL, dg, h1]
theorem nums_fig {xs : List Int} (h : Small xs) : numsD (xs.map figL) = xs.map D.int := by
  unfold numsD
  rw [List.map_map]
  exact List.map_congr_left fun x hx => by show D.int (dv (figL x)) = _; rw [dv_fig (h x hx).1]
theorem SetOk.small {es : List (List Int)} {xs : List Int} (h : SetOk es xs) (hr : ∀ r ∈ es, r.length ≤ 10) : Small xs := fun x hx => by
  obtain ⟨i, hi⟩ := List.getElem?_of_mem hx
  have hil : i < xs.length := (List.getElem?_eq_some_iff.mp hi).1
  have hie : i < es.length := by rw [← h.1]; exact hil
  obtain ⟨r, hr1⟩ : ∃ r, es[i]? = some r := ⟨es[i], List.getElem?_eq_getElem hie⟩
  have := h.2 i x r hi hr1
  have := hr r (List.mem_of_getElem? hr1)
  omega
theorem told_own {es : List (List Int)} {xs : List Int} (h : SetOk es xs) (hr : ∀ r ∈ es, r.length ≤ 10) : toldD es [[]] nextL (xs.map figL) = .lst (xs.map D.int) := by
  have hs := h.small hr
  have hg : goodW es nextL (xs.map figL) = true := by
    unfold goodW
    rw [decide_eq_true rfl, Bool.true_and, List.length_map, decide_eq_true h.1, Bool.true_and, List.all_eq_true]
    intro q hq
    rw [List.zip_map_left] at hq
    obtain ⟨⟨x, r⟩, hx, rfl⟩ := List.mem_map.mp hq
    have h1 : 0 ≤ x ∧ x < r.length := h.zip _ hx
    have h2 := hs x (List.of_mem_zip hx).1
    have h3 := dv_fig h1.1
    show (fg (figL x) && decide (dv (figL x) < r.length)) = true
    rw [fg_fig h2, Bool.true_and, decide_eq_true_eq]
    have h4 : x < (r.length : Int) := h1.2
    show dv (figL x) < r.length
    omega
  unfold toldD
  rw [if_neg (by simp [hg]), if_pos rfl, nums_fig hs]
/-- what the text of the own setting is read as -/
theorem own_read (e : Int) {es : List (List Int)} {xs : List Int} (h : SetOk es xs) (hr : ∀ r ∈ es, r.length ≤ 10) (hl : es.length ≤ 4) : F_setting_of [.d (netD e es), .d (.str (S (txtL xs)))] = .ret (.d (.lst (xs.map D.int))) [none, none] := by
  have hs := h.small hr
  obtain ⟨k1, k2⟩ := txt_ok hs (by rw [h.1]; exact hl)
  have := setting_in_ok e es (txtL xs) (lineL xs) nextL [[]] (xs.map figL) (by omega) k2 hr (txt_lines hs) (line_words hs)
  rw [told_own h hr] at this
  rcases this with ⟨k, h1, _⟩ | h1
  · cases h1
  · exact of_ret h1
theorem setting_text_core {N X : D} {xs : List Int} (hN : F_want_net [.d N] = .ret (.d N) [none]) (h : F_want_setting [.d N, .d X] = .ret (.m (.lst (xs.map D.int))) [none, none]) (hs : Small xs) (hl : xs.length ≤ 4) : F_setting_text [.d N, .d X] = .ret (.d (.str (S (txtL xs)))) [none, none] := by
  have hc : lcGo [3] (gSet 3) tYesF ce_setting_text_1 (xs.map D.int) [] [some (.d N), some (.d X), some (.d (.lst (xs.map D.int))), none] = .ok (xs.map fun x => D.str (S (figL x))) [some (.d N), some (.d X), some (.d (.lst (xs.map D.int))), none] :=
    lcGo_map (fun x => D.str (S (figL x))) (h := D.int) (by show _ ≤ 1000000; omega) fun x hx => by
      have hf := str_fig (hs x hx)
      exact ⟨_, _, _, by simp; rfl, by simp; rfl, by simp [ce_setting_text_1, hf]; rfl, by simp⟩
  have hj := strs_words xs
  have hw := words_fit (xs := xs) (by omega)
  have hjw := join_words xs
  have ha := app_nl (lineL xs)
  have hll : (lineL xs).length + 1 ≤ 1000000 := by
    have := (txt_ok hs hl).1
    unfold txtL at this
    rw [List.length_append, List.length_singleton] at this
    omega
  have hnl : ("\n" : Str).length = 1 := by decide +kernel
  have hsl : (S (lineL xs)).length + ("\n" : Str).length ≤ 1000000 := by rw [hnl, S_len]; exact hll
  have hx1 : 1 + xs.length ≤ 1000000 := by omega
  have hso : strsOf (.lst (.str "next" :: xs.map fun x => D.str (S (figL x)))) = some (wordsT xs) := hj
  rw [F_setting_text, runD_2, fb_setting_text]
  generalize hfl : (xs.map fun x => D.str (S (figL x))) = FL at *
  have hfl2 : FL.length = xs.length := by rw [← hfl, List.length_map]
  generalize xs.map D.int = XD at *
  generalize wordsT xs = WT at *
  generalize S (lineL xs) = LN at *
  unfold txtL
  rw [← ha]
  simp [hN, h, lcF_ev, hc, hfl2, hx1, hso, hw, hjw, hsl]

end K17
end
section
set_option Elab.async false
set_option linter.all false
set_option autoImplicit false
set_option maxRecDepth 100000
set_option maxHeartbeats 4000000
namespace K17
open PySem PySem.Spec L2 MM
noncomputable def q0 : SM := (sAsgT (cF (vCall F__law_net (aCons (kN 0) aNil))) (gTupF 2 (gCon (gSet 5) (gCon (gSet 6) gNone))))
noncomputable def q1 : SM := (sPar2 7 8 (vMake 0 F_Net___init__ (aCons (kE (cN 5)) (aCons (kE (cN 6)) aNil))) (vLst aNil))
noncomputable def q2 : SM := (sFor (iSeq (cN 6)) (gSet 1) lb__law_right_1)
noncomputable def q3 : SM := (sSet 2 (vBin gAdd (kE (cJoin (kE (cC (.str " "))) (kE (cF (vBin gAdd (kE (cF (vLst (aCons (kE (cC (.str "next"))) aNil)))) (kE (cF (lcF [10] (iSeq (cN 8)) (gSet 10) tYesF ce__law_right_1)))))))) (kE (cC (.str "\n")))))
noncomputable def q4 : SM := (sIf (tOrF (tCmpF gNeT (kE (cF (vCall F_setting_text (aCons (kE (cN 7)) (aCons (kE (cN 8)) aNil))))) (kN 2)) (tCmpF gNeT (kE (cF (vCallK 0 2 [1, 0] F_setting_text aNil (aCons (kE (cF (vCallB (gF1 fTuple) (aCons (kN 8) aNil)))) (aCons (kE (cN 7)) aNil))))) (kN 2))) (sRet (vD (cC (.bl false)))) sNext)
noncomputable def q5 : SM := (sIf (tCmpF gNe (kE (cF (vCallK 0 2 [1, 0] F_setting_of aNil (aCons (kE (cN 2)) (aCons (kE (cN 7)) aNil))))) (kN 8)) (sRet (vD (cC (.bl false)))) sNext)
noncomputable def q6 : SM := (sSet 3 (vLst (aCons (kE (cC (.str ""))) (aCons (kE (cC (.str "\n"))) (aCons (kE (cC (.str "next"))) (aCons (kE (cC (.str "next\n"))) (aCons (kE (cC (.str "next 0\n"))) (aCons (kE (cC (.str "next 0 0\n"))) (aCons (kE (cF (vSlT (kN 2) oNone (oSome (kE (cUn gNeg (kE (cC (.int 1))))))))) (aCons (kE (cF (vBin gMulS (kN 2) (kE (cC (.int 2)))))) aNil))))))))))
noncomputable def q7 : SM := (sFor (iRng1 (aCons (kE (cC (.int 8))) aNil)) (gSet 4) lb__law_right_2)
noncomputable def q8 : SM := (sRet (vCallB (gF1 fAll) (aCons (kE (cF (lcF [9] (iSeq (cN 3)) (gSet 9) tYesF ce__law_right_2))) aNil)))
theorem q_eq : fb__law_right = sSeq q0 (sSeq q1 (sSeq q2 (sSeq q3 (sSeq q4 (sSeq q5 (sSeq q6 (sSeq q7 q8))))))) := rfl

abbrev tE (a b : Int) (o1 o2 o3 o4 o5 o6 o7 o8 : Option EV) : MM.Env := [some (.p (pot a b)), o1, o2, o3, o4, o5, o6, o7, o8, none, none]
structure Rows (e : Int) (es : List (List Int)) : Prop where
  e0 : 0 ≤ e
  e3 : e ≤ 3
  p1 : 1 ≤ es.length
  p4 : es.length ≤ 4
  row : ∀ r ∈ es, 1 ≤ r.length ∧ r.length ≤ 4 ∧ ∀ t ∈ r, Tgt e es.length t
theorem s0 (a b : Int) (hb : PotOk b) : ∃ (e : Int) (es : List (List Int)) (a' b' : Int), q0 (tE a b none none none none none none none none) = .nx (tE a' b' none none none none (some (.d (.int e))) (some (.d (.lst (rowsD es)))) none none) ∧ PotOk b' ∧ Rows e es := by
  obtain ⟨e, es, a', b', h1, hb', e0, e1, p1, p2, hr⟩ := net_ok a b hb
  refine ⟨e, es, a', b', ?_, hb', e0, e1, p1, p2, hr⟩
  simp [q0, tE, h1]
theorem sum_rows {es : List (List Int)} (hr : ∀ r ∈ es, r.length ≤ 4) : (es.map fun r => (r.length : Int)).sum ≤ 4 * (es.length : Int) := by
  induction es with
  | nil => simp
  | cons r es ih =>
    have h1 := hr r (List.mem_cons_self ..)
    have h2 := ih fun r' h' => hr r' (List.mem_cons_of_mem _ h')
    rw [List.map_cons, List.sum_cons, List.length_cons]
    omega
theorem rows_net {e : Int} {es : List (List Int)} (h : Rows e es) : NetOk e es := by
  have h1 := sum_rows fun r hr => (h.row r hr).2.1
  have h2 := h.p4
  have h3 := h.e3
  exact ⟨h.e0, by omega, h.p1, by omega, fun r hr => ⟨(h.row r hr).1, by have := (h.row r hr).2.1; omega, (h.row r hr).2.2⟩, by omega⟩
theorem s1 (a b : Int) {e : Int} {es : List (List Int)} (hR : Rows e es) : q1 (tE a b none none none none (some (.d (.int e))) (some (.d (.lst (rowsD es)))) none none) = .nx (tE a b none none none none (some (.d (.int e))) (some (.d (.lst (rowsD es)))) (some (.m (.obj 0 (clsNames 0) (netF e es)))) (some (.m (.lst [])))) := by
  have hi := init_lst e es (rows_net hR)
  have hcl := cl0
  simp only [tE] at *
  generalize rowsD es = RR at *
  generalize hNF : netF e es = NF at *
  have hl : NF.length = 4 := by rw [← hNF]; rfl
  simp [q1, hi, hcl, hl]
theorem s2 (a b : Int) (hb : PotOk b) {e : Int} {es : List (List Int)} (hR : Rows e es) (o5 o7 : Option EV) : ∃ (xs : List Int) (a' b' : Int) (o1 : Option EV), q2 (tE a b none none none none o5 (some (.d (.lst (rowsD es)))) o7 (some (.m (.lst [])))) =
    .nx (tE a' b' o1 none none none o5 (some (.d (.lst (rowsD es)))) o7 (some (.m (.lst (xs.map D.int))))) ∧ PotOk b' ∧ SetOk es xs ∧ isP o1 = false := by
  obtain ⟨e', g1, xs, a', b', o1, rfl, h1, hb', hl, hx⟩ := forGo_inv (body := lb__law_right_1) (ft := gSet 1) (ds := rowsD es) (fun i e => ∃ (xs : List Int) (a b : Int) (o1 : Option EV), e = tE a b o1 none none none o5 (some (.d (.lst (rowsD es)))) o7 (some (.m (.lst (xs.map D.int)))) ∧ isP o1 = false ∧ PotOk b ∧ xs.length = i ∧ ∀ (j : Nat) (x : Int) (r : List Int), xs[j]? = some x → es[j]? = some r → 0 ≤ x ∧ x < r.length)
    (e := tE a b none none none none o5 (some (.d (.lst (rowsD es)))) o7 (some (.m (.lst [])))) ⟨[], a, b, none, rfl, rfl, hb, rfl, fun j x r h => by simp at h⟩ fun i d e hd => by
    rintro ⟨xs, a, b, o1, rfl, h1, hb, hl, hx⟩
    unfold rowsD at hd
    rw [List.getElem?_map] at hd
    obtain ⟨r, hr1, rfl⟩ := Option.map_eq_some_iff.mp hd
    have hrl := hR.row r (List.mem_of_getElem? hr1)
    have hi : i < es.length := (List.getElem?_eq_some_iff.mp hr1).1
    have hp4 := hR.p4
    obtain ⟨v, a1, b1, hdr, hb1, hv0, hv1⟩ := draw a b (r.length : Int) hb (by omega) (by omega)
    refine ⟨tE a b (some (.d (.lst (r.map D.int)))) none none none o5 (some (.d (.lst (rowsD es)))) o7 (some (.m (.lst (xs.map D.int)))), tE a1 b1 (some (.d (.lst (r.map D.int)))) none none none o5 (some (.d (.lst (rowsD es)))) o7 (some (.m (.lst ((xs ++ [v]).map D.int)))), by simp [tE, h1], ?_, xs ++ [v], a1, b1, _, rfl, rfl, hb1, by simp [hl], fun j x q hj hq => ?_⟩
    · have hlen : xs.length < 1000000 := by omega
      simp only [tE]
      generalize rowsD es = RR
      simp [lb__law_right_1, hdr, hlen]
    · by_cases hji : j < xs.length
      · rw [List.getElem?_append_left hji] at hj
        exact hx j x q hj hq
      · have hj2 : j = xs.length := by
          have := (List.getElem?_eq_some_iff.mp hj).1
          simp at this
          omega
        subst hj2
        rw [List.getElem?_append_right (Nat.le_refl _)] at hj
        simp at hj
        subst hj
        rw [hl] at hq
        rw [hr1] at hq
        cases hq
        exact ⟨hv0, hv1⟩
  rw [rowsD_len] at hl
  refine ⟨xs, a', b', o1, ?_, hb', ⟨hl, hx⟩, h1⟩
  simp only [tE] at g1 ⊢
  generalize rowsD es = RR at *
  simp [q2, g1]
theorem s3 (a b : Int) {xs : List Int} (hs : Small xs) (hl : xs.length ≤ 4) (o1 o5 o6 o7 : Option EV) : q3 (tE a b o1 none none none o5 o6 o7 (some (.m (.lst (xs.map D.int))))) = .nx (tE a b o1 (some (.d (.str (S (txtL xs))))) none none o5 o6 o7 (some (.d (.lst (xs.map D.int))))) := by
  have hc : lcGo [10] (gSet 10) tYesF ce__law_right_1 (xs.map D.int) [] (tE a b o1 none none none o5 o6 o7 (some (.d (.lst (xs.map D.int))))) = .ok (xs.map fun x => D.str (S (figL x))) (tE a b o1 none none none o5 o6 o7 (some (.d (.lst (xs.map D.int))))) :=
    lcGo_map (fun x => D.str (S (figL x))) (h := D.int) (by show _ ≤ 1000000; omega) fun x hx => by
      have hf := repr_fig (hs x hx)
      exact ⟨_, _, _, by simp [tE]; rfl, by simp; rfl, by simp [ce__law_right_1, hf]; rfl, by simp⟩
  have hj := strs_words xs
  have hw := words_fit (xs := xs) (by omega)
  have hjw := join_words xs
  have ha := app_nl (lineL xs)
  have hll : (lineL xs).length + 1 ≤ 1000000 := by
    have := (txt_ok hs hl).1
    unfold txtL at this
    rw [List.length_append, List.length_singleton] at this
    omega
  have hnl : ("\n" : Str).length = 1 := by decide +kernel
  have hsl : (S (lineL xs)).length + ("\n" : Str).length ≤ 1000000 := by rw [hnl, S_len]; exact hll
  have hx1 : 1 + xs.length ≤ 1000000 := by omega
  have hso : strsOf (.lst (.str "next" :: xs.map fun x => D.str (S (figL x)))) = some (wordsT xs) := hj
  simp only [tE] at hc ⊢
  generalize hfl : (xs.map fun x => D.str (S (figL x))) = FL at *
  have hfl2 : FL.length = xs.length := by rw [← hfl, List.length_map]
  generalize xs.map D.int = XD at *
  generalize wordsT xs = WT at *
  generalize S (lineL xs) = LN at *
  unfold txtL
  rw [← ha]
  simp [q3, lcF_ev, hc, hfl2, hx1, hso, hw, hjw, hsl]
@[simp] theorem pm10 (x y : Tk) : permL [1, 0] [x, y] = [y, x] := rfl
theorem s4 (a b : Int) {e : Int} {es : List (List Int)} {xs : List Int} (hR : Rows e es) (hx : SetOk es xs) (o1 o5 o6 : Option EV) : q4 (tE a b o1 (some (.d (.str (S (txtL xs))))) none none o5 o6 (some (.m (.obj 0 (clsNames 0) (netF e es)))) (some (.d (.lst (xs.map D.int))))) =
    .nx (tE a b o1 (some (.d (.str (S (txtL xs))))) none none o5 o6 (some (.d (netD e es))) (some (.d (.lst (xs.map D.int))))) := by
  have h4 := hR.p4
  have hs := hx.small fun r hr => by have := (hR.row r hr).2.1; omega
  have hl : xs.length ≤ 4 := by rw [hx.1]; exact h4
  have h1 := setting_text_core (want_net_obj (netF e es)) (want_setting_ok e es xs hx (by omega)) hs hl
  have h2 := setting_text_core (want_net_obj (netF e es)) (want_setting_tup e es xs hx (by omega)) hs hl
  simp only [tE, netD] at *
  generalize netF e es = NF at *
  simp [q4, h1, h2]
theorem s5 (a b : Int) {e : Int} {es : List (List Int)} {xs : List Int} (hR : Rows e es) (hx : SetOk es xs) (o1 o5 o6 : Option EV) : q5 (tE a b o1 (some (.d (.str (S (txtL xs))))) none none o5 o6 (some (.d (netD e es))) (some (.d (.lst (xs.map D.int))))) =
    .nx (tE a b o1 (some (.d (.str (S (txtL xs))))) none none o5 o6 (some (.d (netD e es))) (some (.d (.lst (xs.map D.int))))) := by
  have h1 := own_read e hx (fun r hr => by have := (hR.row r hr).2.1; omega) hR.p4
  simp only [tE, netD] at *
  generalize netF e es = NF at *
  simp [q5, h1]
def T8 (t : Str) : List Str := ["", "\n", "next", "next\n", "next 0\n", "next 0 0\n", cutS t none (some (-1)), Txt.mul t 2]
theorem T8_ok {t : Str} (h : TOk 13 t) : ∀ y ∈ T8 t, TOk 60 y := by
  intro y hy
  simp only [T8, List.mem_cons, List.not_mem_nil, or_false] at hy
  rcases hy with rfl | rfl | rfl | rfl | rfl | rfl | rfl | rfl
  · exact ⟨by decide +kernel, by decide +kernel⟩
  · exact ⟨by decide +kernel, by decide +kernel⟩
  · exact ⟨by decide +kernel, by decide +kernel⟩
  · exact ⟨by decide +kernel, by decide +kernel⟩
  · exact ⟨by decide +kernel, by decide +kernel⟩
  · exact ⟨by decide +kernel, by decide +kernel⟩
  · exact (h.cut _ _).mono (by omega)
  · exact h.twice.mono (by omega)
theorem s6 (a b : Int) {t : Str} (ht : TOk 13 t) (o1 o5 o6 o7 o8 : Option EV) : q6 (tE a b o1 (some (.d (.str t))) none none o5 o6 o7 o8) = .nx (tE a b o1 (some (.d (.str t))) (some (.m (.lst ((T8 t).map D.str)))) none o5 o6 o7 o8) := by
  have h1 : t.length ≤ 1000000 := by have := ht.1; omega
  have h2 : t.length ≤ 10000 := by have := ht.1; omega
  simp [q6, tE, h1, h2, T8]
theorem s7 (a b : Int) (hb : PotOk b) {t : Str} (ht : TOk 13 t) {ys : List Str} (hy : ys.length ≤ 100) (hk : ∀ y ∈ ys, TOk 60 y) (o1 o5 o6 o7 o8 : Option EV) : ∃ (zs : List Str) (a' b' : Int) (o4 : Option EV), q7 (tE a b o1 (some (.d (.str t))) (some (.m (.lst (ys.map D.str)))) none o5 o6 o7 o8) =
    .nx (tE a' b' o1 (some (.d (.str t))) (some (.m (.lst (zs.map D.str)))) o4 o5 o6 o7 o8) ∧ (∀ y ∈ zs, TOk 60 y) ∧ zs.length ≤ 200 := by
  obtain ⟨x', g1, zs, a', b', o4, rfl, hb', hl, hv, h4⟩ := forGo_inv (body := lb__law_right_2) (ft := gSet 4) (ds := rangeD 0 8) (fun i x => ∃ (zs : List Str) (a b : Int) (o4 : Option EV), x = tE a b o1 (some (.d (.str t))) (some (.m (.lst (zs.map D.str)))) o4 o5 o6 o7 o8 ∧ PotOk b ∧ zs.length = ys.length + i ∧ (∀ y ∈ zs, TOk 60 y) ∧ isP o4 = false)
    (e := tE a b o1 (some (.d (.str t))) (some (.m (.lst (ys.map D.str)))) none o5 o6 o7 o8) ⟨ys, a, b, none, rfl, hb, rfl, hk, rfl⟩ fun i d x hd => by
    rintro ⟨zs, a, b, o4, rfl, hb, hl, hv, h4⟩
    obtain ⟨rfl, hi⟩ := range_at hd
    obtain ⟨y, a1, b1, hdr, hb1, hy⟩ := bent_ok a b 13 t hb ht (by omega)
    refine ⟨tE a b o1 (some (.d (.str t))) (some (.m (.lst (zs.map D.str)))) (some (.d (.int i))) o5 o6 o7 o8, tE a1 b1 o1 (some (.d (.str t))) (some (.m (.lst ((zs ++ [y]).map D.str)))) (some (.d (.int i))) o5 o6 o7 o8, by simp [tE, h4], ?_, zs ++ [y], a1, b1, _, rfl, hb1, by simp [hl]; omega, fun w hw => ?_, rfl⟩
    · have hlen : zs.length < 1000000 := by omega
      simp [tE, lb__law_right_2, hdr, hlen]
    · rcases List.mem_append.mp hw with h | h
      · exact hv w h
      · have : w = y := by simpa using h
        subst this
        exact hy.mono (by omega)
  have hl8 : (rangeD 0 8).length = 8 := range_len
  rw [hl8] at hl
  have hrg := rng_ok (n := 8) (by omega) (by omega)
  refine ⟨zs, a', b', o4, ?_, hv, by omega⟩
  simp only [tE] at g1 ⊢
  simp [q7, hrg, g1]
theorem toldD_good {es : List (List Int)} {ls : List (List Nat)} {q : List Nat} {ws : List (List Nat)} (h4 : es.length ≤ 4) (hr : ∀ r ∈ es, r.length ≤ 10) : Good 40 (toldD es ls q ws) := by
  unfold toldD
  split
  · exact .inr ⟨nice_int (by omega), by simp [D.nod]⟩
  · rename_i h
    split
    · have hg : goodW es q ws = true := by
        cases hg : goodW es q ws with
        | true => rfl
        | false => exact absurd (.inr hg) h
      unfold goodW at hg
      simp only [Bool.and_eq_true, decide_eq_true_eq] at hg
      obtain ⟨_, g2, g3⟩ := hg
      have e : numsD ws = (ws.map fun w => (dv w : Int)).map D.int := by unfold numsD; rw [List.map_map]; rfl
      have hsh : Shown (ws.map fun w => (dv w : Int)) := fun i hi => by
        obtain ⟨w, hw, rfl⟩ := List.mem_map.mp hi
        obtain ⟨r, hz⟩ := zip_ex g2 hw
        have h1 := List.all_eq_true.mp g3 _ hz
        have h2 := hr r (List.of_mem_zip hz).2
        unfold okf at h1
        rw [Bool.and_eq_true, decide_eq_true_eq] at h1
        have h3 : dv w < r.length := h1.2
        exact log_ok (by omega)
      rw [e]
      refine .inr ⟨by rw [D.nice]; exact nices_ints hsh, ?_⟩
      rw [D.nod, nods_ints, List.length_map]
      omega
    · exact .inr ⟨nice_int (by omega), by simp [D.nod]⟩
theorem s8 (a b : Int) {e : Int} {es : List (List Int)} (hR : Rows e es) {ys : List Str} (hy : ys.length ≤ 200) (hk : ∀ y ∈ ys, TOk 60 y) (o1 o2 o4 o5 o8 : Option EV) : ∃ e', q8 (tE a b o1 o2 (some (.m (.lst (ys.map D.str)))) o4 o5 (some (.d (.lst (rowsD es)))) (some (.d (netD e es))) o8) = .rt (.d (.bl true)) e' := by
  have hc : lcGo [9] (gSet 9) tYesF ce__law_right_2 (ys.map D.str) [] (tE a b o1 o2 (some (.d (.lst (ys.map D.str)))) o4 o5 (some (.d (.lst (rowsD es)))) (some (.d (netD e es))) o8) = .ok (ys.map fun _ => D.bl true) (tE a b o1 o2 (some (.d (.lst (ys.map D.str)))) o4 o5 (some (.d (.lst (rowsD es)))) (some (.d (netD e es))) o8) :=
    lcGo_map (fun _ => D.bl true) (h := D.str) (by show _ ≤ 1000000; omega) fun y hy => by
      have hr10 : ∀ r ∈ es, r.length ≤ 10 := fun r hr => by have := (hR.row r hr).2.1; omega
      obtain ⟨ls, q, ws, h1, h2⟩ := both_told e es y ((hk y hy).mono (by omega)) hr10
      obtain ⟨T, hT⟩ := (toldD_good (ls := ls) (q := q) (ws := ws) hR.p4 hr10).repr (by omega)
      simp only [tE, netD] at *
      generalize netF e es = NF at *
      generalize rowsD es = RR at *
      generalize toldD es ls q ws = TD at *
      generalize ys.map D.str = YD at *
      exact ⟨_, _, _, by simp; rfl, by simp; rfl, by simp [ce__law_right_2, h1, h2, hT]; rfl, by simp⟩
  have ha := fAll_fun (fun _ : Str => true) ys
  have hat : (ys.all fun _ => true) = true := by rw [List.all_eq_true]; intros; rfl
  rw [hat] at ha
  simp only [tE, netD] at hc ⊢
  generalize netF e es = NF at *
  generalize rowsD es = RR at *
  generalize ys.map D.str = YD at *
  generalize (ys.map fun _ => D.bl true) = BB at *
  exact ⟨_, by simp [q8, lcF_ev, hc, ha]; rfl⟩
theorem right_ok (a b : Int) (hb : PotOk b) : ∃ ps, F__law_right [.p (pot a b)] = .ret (.d (.bl true)) ps := by
  obtain ⟨e, es, a1, b1, h0, hb1, hR⟩ := s0 a b hb
  have h1 := s1 a1 b1 hR
  obtain ⟨xs, a2, b2, o1, h2, hb2, hx, _⟩ := s2 a1 b1 hb1 hR (some (.d (.int e))) (some (.m (.obj 0 (clsNames 0) (netF e es))))
  have h4 := hR.p4
  have hs := hx.small fun r hr => by have := (hR.row r hr).2.1; omega
  have hl : xs.length ≤ 4 := by rw [hx.1]; exact h4
  have ht : TOk 13 (S (txtL xs)) := by
    obtain ⟨k1, k2⟩ := txt_ok hs hl
    exact ⟨by rw [S_len]; exact k1, k2⟩
  have h3 := s3 a2 b2 hs hl o1 (some (.d (.int e))) (some (.d (.lst (rowsD es)))) (some (.m (.obj 0 (clsNames 0) (netF e es))))
  have h5 := s4 a2 b2 hR hx o1 (some (.d (.int e))) (some (.d (.lst (rowsD es))))
  have h6 := s5 a2 b2 hR hx o1 (some (.d (.int e))) (some (.d (.lst (rowsD es))))
  have h7 := s6 a2 b2 ht o1 (some (.d (.int e))) (some (.d (.lst (rowsD es)))) (some (.d (netD e es))) (some (.d (.lst (xs.map D.int))))
  obtain ⟨zs, a3, b3, o4, h8, hz, hzl⟩ := s7 a2 b2 hb2 ht (ys := T8 (S (txtL xs))) (by simp [T8]) (T8_ok ht) o1 (some (.d (.int e))) (some (.d (.lst (rowsD es)))) (some (.d (netD e es))) (some (.d (.lst (xs.map D.int))))
  obtain ⟨e', h9⟩ := s8 a3 b3 hR hzl hz o1 (some (.d (.str (S (txtL xs))))) o4 (some (.d (.int e))) (some (.d (.lst (xs.map D.int))))
  have hrun : fb__law_right (tE a b none none none none none none none none) = .rt (.d (.bl true)) e' := by
    rw [q_eq, sSeq_ev, h0, sbind_nx, sSeq_ev, h1, sbind_nx, sSeq_ev, h2, sbind_nx, sSeq_ev, h3, sbind_nx, sSeq_ev, h5, sbind_nx, sSeq_ev, h6, sbind_nx, sSeq_ev, h7, sbind_nx, sSeq_ev, h8, sbind_nx, h9]
  rw [F__law_right, runD_1]
  show ∃ ps, outOf 1 (fb__law_right (tE a b none none none none none none none none)) = _
  rw [hrun]
  exact ⟨_, rfl⟩
theorem law {A B : Prop} (ns : List Int) (_ : A) (_ : B) : ∃ ps, F_law [.d (.scr ns)] = .ret (.d (.bl true)) ps := by
  obtain ⟨a, b, h1, hb⟩ := pot_ok ns
  obtain ⟨ps, h2⟩ := right_ok a b hb
  rw [F_law, runD_1, fb_law]
  simp only [pot] at *
  exact ⟨_, by simp [h1, h2]; rfl⟩

end K17
end
section
set_option Elab.async false
set_option linter.all false
set_option maxRecDepth 100000
set_option maxHeartbeats 0
open PySem PySem.W PySem.Calls PyProof.Rows
theorem K17.holds (law : ∀ ns : List Int, ns.length ≤ 63 → (∀ i ∈ ns, Builtin.Int.intBits i ≤ 1048576) → ∃ ps, K17.F_law [.d (.scr ns)] = .ret (.d (.bl true)) ps) : PySem.Challenge.rw_flippedpoints_k17_whole_any_text_as_a_se.Holds := by
  w_on; o_law
  refine HandSHeadRun.head_any (r := OpenLaw.row PySem.Challenge.rw_flippedpoints_k17_whole_any_text_as_a_se) (q := view (OpenLaw.row PySem.Challenge.rw_flippedpoints_k17_whole_any_text_as_a_se).prog [47]) (H := K17.hk) (ob := K17.ob) (M := 8000) (loose := K17.loose) (d := HandSHeadRun.topDef (OpenLaw.row PySem.Challenge.rw_flippedpoints_k17_whole_any_text_as_a_se).prog 47) (kwd := []) K17.ob_eq
    (by kernel_rfl) (fun s => by kernel_rfl) K17.run (by kernel_rfl) (by kernel_rfl) (by kernel_rfl) (by rfl) (by first | assumption | decide +kernel) (by decide +kernel) ⟨rfl, rfl, rfl, rfl, rfl, by decide +kernel⟩ ?hw ?hc
  case hw => w_witness2
  case hc =>
    refine MM.walkMG (l := PySem.Challenge.rw_flippedpoints_k17_whole_any_text_as_a_se) (n := 63) (k := 8) (x := "_law_script") (F := K17.F_law) rfl (by decide) (by kernel_rfl) ⟨rfl, by decide, by decide⟩ ?F law
    intro w mg fa h Y G hmg0
    obtain ⟨K, KX, c⟩ := Y
    have hmg : mg ("law" : PySem.Str) = some (.ref fa) := by
      have e : (HandSHeadRun.topDef (OpenLaw.row PySem.Challenge.rw_flippedpoints_k17_whole_any_text_as_a_se).prog 47).name = ("law" : PySem.Str) := by kernel_rfl
      rw [← e]
      exact hmg0
    have Z : K17.Wd K mg := ⟨⟨h, KX, G⟩, c⟩
    have e := hmg.symm.trans Z.glo_law
    cases e
    obtain ⟨fd, D⟩ := Z.c.d.def_ 29
    have b := L2.FunD.bindsA (ps := ["_law_script"]) D fun _ _ _ _ _ _ us hl => match us, hl with | [_], _ => rfl
    exact ⟨K, K17.ctK K, fd, KX, fun s v => b s [v] rfl, fun base _ _ => K17.ok_law Z D⟩
end
theorem PySem.Challenge.cw_flippedpoints_k17_whole_any_text_as_a_se_holds : PySem.Challenge.rw_flippedpoints_k17_whole_any_text_as_a_se.Holds := by
  exact K17.holds fun ns h1 h2 => K17.law ns h1 h2
