import PyProof.Rows.All
import Wide.All
import OpenK.AllK
import Wide.FinOn
import HandS.ForMost
import HandS.ForExc
import HandS.Deep
import HandS.Lambda
import HandS.TupAny
import HandS.SortInts
import HandS.Wide
import HandS.Walk
import HandS.Zip
import HandS.Conv
import KE.GoesEnum
import KE.GoesMore
import HandS.Style
import HandS.WordsExc
import HandS.Defaults
import HandS.Property
import HandS.MakeKw
import HandS.IsInst
import HandS.WordsDict
import HandS.Dict
import HandS.OwnEq
import HandS.ExcOwn
import PyProof.InstNe
import HandS.SetFor
import KE.KStateDown
import HandS.Head0
import HandS.Head1
import HandS.Head2
import HandS.HeadEnd
import HandS.HeadHook1
import HandS.HeadHook2
import HandS.EndBits
import HandS.ExcInit
import HandS.ExcField
import HandS.ExcIs
import HandS.RaiseMore
import HandS.TupMul
import PyProof.ReprRoads
import PyProof.ReprReads
import HandS.FStrTup
import PyProof.ReprLen
import PyProof.CallFns
import HandS.More
import HandS.Remove
import KE.SortData
import HandS.Small
import HandS.Sort
import HandS.Exc
import PyProof.SetRoads
import HandS.Codes
import HandS.NestedK
import HandS.HeadHook4
import HandS.EndTab
import HandS.TryMany
import KE.KExcIs
import PyProof.Rows.ReprOcc
import KE.KExcInit
import PyProof.ExcBaseAll.ArithmeticError
import PyProof.CallStr
import HandS.Gcd
import HandS.Head3
import PySem.Challenge.RW_flippedpoints_k40_cuts_refused
set_option Elab.async false
section
set_option Elab.async false
set_option linter.all false
set_option autoImplicit false
set_option maxRecDepth 100000
set_option maxHeartbeats 4000000
/-! # Mir: a layer over HandS: deep data, environments, combinators -/
namespace MM
open PySem PySem.Spec L2

/-! ### deep data -/
inductive D where
  | non | bl (b : Bool) | int (i : Int) | str (x : Str)
  | lst (xs : List D) | tup (xs : List D) | obj (c : Nat) (xs : List D) | dic (ks : List Key) (xs : List D) | scr (ns : List Int) | rng (lo hi : Int) | thk (j : Nat) | lam (j : Nat)
/-- the attributes of the package's classes, in the order in which they are first stored -/
def clsNames : Nat → List Str
  | 0 => ["own_ends", "own_exits", "own_targets", "own_firsts"]
  | 1 => ["own_net", "own_setting", "own_starts", "own_lot", "own_sequence", "own_guesses"]
  | 2 => ["own_net", "own_setting", "own_entrances"]
  | 3 => ["own_points", "own_lines", "own_later", "own_papers"]
  | n => if 100 ≤ n ∧ n < 200 then ["value"] else if 200 ≤ n ∧ n < 220 then ["position"] else if n = 220 then ["line"] else if n = 230 then ["label"] else if n = 240 then ["name"] else if n = 250 then ["point"] else if n = 260 then ["limit", "what"] else []
/-- the written part, the addresses of the classes -/
structure LamC where
  params : Arguments
  body : Expr
  scope : Scope
/-- the classes' addresses; the makers' tables; the frame's lambdas; the thunks -/
structure Ct where
  f : Nat → Addr
  T : List (Addr × Str)
  L : Nat → LamC
  nl : Nat
  cl : List (Str × Addr)
  q : Str
  t : Nat → Addr
  g : Nat → Hp
  n : Nat
def Ct.wth (c : Ct) (t : Nat → Addr) (g : Nat → Hp) (n : Nat) : Ct := ⟨c.f, c.T, c.L, c.nl, c.cl, c.q, t, g, n⟩
def Ct.frm (c : Ct) (L : Nat → LamC) (nl : Nat) (cl : List (Str × Addr)) (q : Str) : Ct := ⟨c.f, c.T, L, nl, cl, q, c.t, c.g, c.n⟩
def LamO (f : Addr) (q : Str) (params : Arguments) (body : Expr) (scope : Scope) (cl : List (Str × Addr)) (c' : Addr) : HO :=
  .ext fun h => ∃ pm ctv, h.get? f = some (PySem.W.kla_obj "<lambda>" q params body scope cl pm c' ctv)
instance : CoeFun Ct (fun _ => Nat → Addr) := ⟨Ct.f⟩
structure Kc where
  K : PySem.W.Frag
  ct : Ct

mutual
inductive Rp (k : Kc) (G : Hp) : V → D → Prop
  | non : Rp k G .non .non
  | bl (b : Bool) : Rp k G (.bl b) (.bl b)
  | int (i : Int) : Rp k G (.int i) (.int i)
  | str (x : Str) : Rp k G (.str x) (.str x)
  | lst {a : Addr} {vs : List V} {ds : List D} : G a = some (.lst vs) → Rps k G vs ds → Rp k G (.ref a) (.lst ds)
  | scr {a : Addr} {ns : List Int} : SqL k.K G a (ns.map V.int) → Rp k G (.ref a) (.scr ns)
  | rng {a : Addr} {lo hi : Int} : G a = some (.rng lo hi) → Rp k G (.ref a) (.rng lo hi)
  | thk {j : Nat} : j < k.ct.n ∧ Same (k.ct.g j) G → Rp k G (.ref (k.ct.t j)) (.thk j)
  | lam {j : Nat} {f d : Addr} : j < k.ct.nl ∧ G f = some (LamO f k.ct.q (k.ct.L j).params (k.ct.L j).body (k.ct.L j).scope (cloFrom k.ct.cl (k.ct.L j).scope.names []) d) ∧ G d = some (LamX.CodeO d k.ct.q) → Rp k G (.ref f) (.lam j)
  | tup {a : Addr} {vs : List V} {ds : List D} : SqT k.K G a vs → Rps k G vs ds → Rp k G (.ref a) (.tup ds)
  | obj {a dx : Addr} {c : Nat} {fs : List (Str × V)} {ds : List D} : G a = some (.ins (k.ct c) dx fs) → fs.map (·.1) = clsNames c → Rps k G (fs.map (·.2)) ds → Rp k G (.ref a) (.obj c ds)
  | dic {a : Addr} {kvs : List (Key × V)} {ks : List Key} {ds : List D} : G a = some (.dK kvs) → kvs.map (·.1) = ks → Rps k G (kvs.map (·.2)) ds → Rp k G (.ref a) (.dic ks ds)
inductive Rps (k : Kc) (G : Hp) : List V → List D → Prop
  | nil : Rps k G [] []
  | cons {v : V} {vs : List V} {d : D} {ds : List D} : Rp k G v d → Rps k G vs ds → Rps k G (v :: vs) (d :: ds)
end

theorem seqT {K : PySem.W.Frag} {H H' : Hp} {a : Addr} {xs : List V} (e : Same H H') (h : SqT K H a xs) : SqT K H' a xs := by
  rcases h with (h | ⟨o, h⟩) | h
  · exact .inl (.inl (e _ _ h))
  · exact .inl (.inr ⟨o, e _ _ h⟩)
  · exact .inr h

mutual
theorem Rp.mono {k : Kc} {G G' : Hp} (s : Same G G') : ∀ {v : V} {d : D}, Rp k G v d → Rp k G' v d
  | _, _, .non => .non
  | _, _, .bl b => .bl b
  | _, _, .int i => .int i
  | _, _, .str x => .str x
  | _, _, .lst h r => .lst (s _ _ h) (Rps.mono s r)
  | _, _, .scr h => .scr (s.seq h)
  | _, _, .rng h => .rng (s _ _ h)
  | _, _, .thk h => .thk ⟨h.1, h.2.trans s⟩
  | _, _, .lam h => .lam ⟨h.1, s _ _ h.2.1, s _ _ h.2.2⟩
  | _, _, .tup h r => .tup (seqT s h) (Rps.mono s r)
  | _, _, .obj h n r => .obj (s _ _ h) n (Rps.mono s r)
  | _, _, .dic h n r => .dic (s _ _ h) n (Rps.mono s r)
theorem Rps.mono {k : Kc} {G G' : Hp} (s : Same G G') : ∀ {vs : List V} {ds : List D}, Rps k G vs ds → Rps k G' vs ds
  | _, _, .nil => .nil
  | _, _, .cons a b => .cons (Rp.mono s a) (Rps.mono s b)
end
section
variable {k : Kc} {G : Hp}
theorem Rps.len : ∀ {vs : List V} {ds : List D}, Rps k G vs ds → vs.length = ds.length
  | _, _, .nil => rfl
  | _, _, .cons _ b => by rw [List.length_cons, List.length_cons, Rps.len b]
theorem Rps.app : ∀ {vs us : List V} {ds es : List D}, Rps k G vs ds → Rps k G us es → Rps k G (vs ++ us) (ds ++ es)
  | _, _, _, _, .nil, h => h
  | _, _, _, _, .cons a b, h => .cons a (Rps.app b h)
theorem Rps.get : ∀ {vs : List V} {ds : List D} {i : Nat} {d : D}, Rps k G vs ds → ds[i]? = some d → ∃ v, vs[i]? = some v ∧ Rp k G v d
  | _, _, _, _, .nil, h => by simp at h
  | _, _, 0, _, .cons a _, h => ⟨_, rfl, by simp at h; subst h; exact a⟩
  | _, _, i + 1, _, .cons _ b, h => by
    obtain ⟨v, h1, h2⟩ := Rps.get b (i := i) (by simpa using h)
    exact ⟨v, by simpa using h1, h2⟩
theorem Rps.getV : ∀ {vs : List V} {ds : List D} {i : Nat} {v : V}, Rps k G vs ds → vs[i]? = some v → ∃ d, ds[i]? = some d ∧ Rp k G v d
  | _, _, _, _, .nil, h => by simp at h
  | _, _, 0, _, .cons a _, h => ⟨_, rfl, by simp at h; subst h; exact a⟩
  | _, _, i + 1, _, .cons _ b, h => by
    obtain ⟨v, h1, h2⟩ := Rps.getV b (i := i) (by simpa using h)
    exact ⟨v, by simpa using h1, h2⟩
theorem Rps.take : ∀ {vs : List V} {ds : List D} (n : Nat), Rps k G vs ds → Rps k G (vs.take n) (ds.take n)
  | _, _, 0, _ => .nil
  | _, _, _ + 1, .nil => .nil
  | _, _, n + 1, .cons a b => .cons a (Rps.take n b)
theorem Rps.drop : ∀ {vs : List V} {ds : List D} (n : Nat), Rps k G vs ds → Rps k G (vs.drop n) (ds.drop n)
  | _, _, 0, h => h
  | _, _, _ + 1, .nil => .nil
  | _, _, n + 1, .cons _ b => Rps.drop n b
theorem Rps.set : ∀ {vs : List V} {ds : List D} {v : V} {d : D} (n : Nat), Rps k G vs ds → Rp k G v d → Rps k G (vs.set n v) (ds.set n d)
  | _, _, _, _, _, .nil, _ => .nil
  | _, _, _, _, 0, .cons _ b, h => .cons h b
  | _, _, _, _, n + 1, .cons a b, h => .cons a (Rps.set n b h)
theorem Rps.erase : ∀ {vs : List V} {ds : List D} (n : Nat), Rps k G vs ds → Rps k G (vs.eraseIdx n) (ds.eraseIdx n)
  | _, _, _, .nil => .nil
  | _, _, 0, .cons _ b => b
  | _, _, n + 1, .cons a b => .cons a (Rps.erase n b)
theorem Rps.rep {vs : List V} {ds : List D} (h : Rps k G vs ds) : ∀ n : Nat, Rps k G (List.replicate n vs).flatten (List.replicate n ds).flatten
  | 0 => .nil
  | n + 1 => by
    rw [List.replicate_succ, List.replicate_succ, List.flatten_cons, List.flatten_cons]
    exact h.app (Rps.rep h n)
theorem Rps.dropLast {vs : List V} {ds : List D} (h : Rps k G vs ds) : Rps k G vs.dropLast ds.dropLast := by
  rw [List.dropLast_eq_take, List.dropLast_eq_take, h.len]
  exact h.take _
theorem Rps.reverse : ∀ {vs : List V} {ds : List D}, Rps k G vs ds → Rps k G vs.reverse ds.reverse
  | _, _, .nil => .nil
  | _, _, .cons a b => by
    rw [List.reverse_cons, List.reverse_cons]
    exact (Rps.reverse b).app (.cons a .nil)
theorem Rps.ints : ∀ {vs : List V} {ns : List Int}, Rps k G vs (ns.map D.int) → vs = ns.map V.int
  | [], [], _ => rfl
  | _, [], h => by cases h; rfl
  | _, n :: ns, h => by
    cases h with
    | cons a b => cases a; rw [Rps.ints b]; rfl
theorem Rps.bls : ∀ {vs : List V} {ns : List Bool}, Rps k G vs (ns.map D.bl) → vs = ns.map V.bl
  | [], [], _ => rfl
  | _, [], h => by cases h; rfl
  | _, n :: ns, h => by
    cases h with
    | cons a b => cases a; rw [Rps.bls b]; rfl
end

/-! ### environments -/
/-- a list, a dict, an object that a local name owns -/
inductive MV where
  | lst (ds : List D) | dic (ks : List Key) (ds : List D) | obj (c : Nat) (ns : List Str) (ds : List D)
def MV.frz : MV → Option D
  | .lst ds => some (.lst ds)
  | .dic ks ds => some (.dic ks ds)
  | .obj c ns ds => if ns = clsNames c then some (.obj c ds) else none
/-- what a slot holds: data for ever; an own thing; a thing of the caller's that may be changed (p: pinned to its slot); t, never in a slot: a pair of data and an own thing that is handed out -/
inductive EV where
  | d (x : D) | m (x : MV) | p (x : MV) | t (x : D) (y : MV)
def EV.own : EV → Bool
  | .d _ => false
  | .t _ _ => false
  | _ => true
def EV.rd : EV → Option D
  | .d x => some x
  | .m x => x.frz
  | .p x => x.frz
  | .t _ _ => none
abbrev Env := List (Option EV)
structure Exn where
  cls : Nat
  fs : List D
inductive Res (α : Type) where
  | ok (a : α) (e : Env) | exc (x : Exn) (e : Env) | stuck
def Res.bind {α β : Type} : Res α → (α → Env → Res β) → Res β
  | .ok a e, f => f a e
  | .exc x e, _ => .exc x e
  | .stuck, _ => .stuck
abbrev EM (α : Type) := Env → Res α

/-- what stands at a mutable thing's address -/
def MRep (k : Kc) (G : Hp) (o : HO) : MV → Prop
  | .lst ds => ∃ vs, o = .lst vs ∧ Rps k G vs ds
  | .dic ks ds => ∃ kvs, o = .dK kvs ∧ kvs.map (·.1) = ks ∧ Rps k G (kvs.map (·.2)) ds
  | .obj c ns ds => ∃ dx fs, o = .ins (k.ct c) dx fs ∧ fs.map (·.1) = ns ∧ Rps k G (fs.map (·.2)) ds
theorem MRep.mono {k : Kc} {G G' : Hp} (s : Same G G') {o : HO} {x : MV} (h : MRep k G o x) : MRep k G' o x := by
  cases x with
  | lst ds => obtain ⟨vs, e, r⟩ := h; exact ⟨vs, e, r.mono s⟩
  | dic ks ds => obtain ⟨vs, e, n, r⟩ := h; exact ⟨vs, e, n, r.mono s⟩
  | obj c ns ds => obtain ⟨dx, fs, e, n, r⟩ := h; exact ⟨dx, fs, e, n, r.mono s⟩
/-- the frame's surroundings: what the caller tracks and may not be changed; the data at the entry; the pinned slots -/
structure Fr where
  O : Hp
  G0 : Hp
  P : Nat → Option Addr
def MAt (k : Kc) (c : Fr) (G H : Hp) (a : Addr) (x : MV) : Prop := G a = none ∧ c.O a = none ∧ ∃ o, H a = some o ∧ MRep k G o x
/-- a table, or a thing told by its one object -/
def IsTb (o : HO) : Prop := (∃ ps, o = .tbl ps) ∨ ∃ φ, o = .ext φ
theorem IsTb.lst {vs : List V} : ¬ IsTb (.lst vs) := fun h => by rcases h with ⟨_, h⟩ | ⟨_, h⟩ <;> cases h
theorem MRep.noTb {k : Kc} {G : Hp} {o : HO} {x : MV} (h : MRep k G o x) : ¬ IsTb o := fun q => by
  cases x with
  | lst ds => obtain ⟨vs, e, r⟩ := h; subst e; rcases q with ⟨_, q⟩ | ⟨_, q⟩ <;> cases q
  | dic ks ds => obtain ⟨vs, e, n, r⟩ := h; subst e; rcases q with ⟨_, q⟩ | ⟨_, q⟩ <;> cases q
  | obj c ns ds => obtain ⟨dx, fs, e, n, r⟩ := h; subst e; rcases q with ⟨_, q⟩ | ⟨_, q⟩ <;> cases q
/-- the makers' tables: known, nobody's -/
def Tbs (T : List (Addr × Str)) (O G H : Hp) : Prop := ∀ p ∈ T, LamX.TabS H p.1 p.2 ∧ O p.1 = none ∧ G p.1 = none
theorem tabS_keep {H H' : Hp} {P : Addr} {q : Str} (t : LamX.TabS H P q) (e : ∀ b o, H b = some o → IsTb o → H' b = some o) : LamX.TabS H' P q := by
  obtain ⟨ps, h1, h2, h3⟩ := t
  refine ⟨ps, e _ _ h1 (.inl ⟨_, rfl⟩), h2, fun pos cv hc => ?_⟩
  obtain ⟨c, e1, e2⟩ := h3 pos cv hc
  exact ⟨c, e1, e _ _ e2 (.inr ⟨_, rfl⟩)⟩
/-- no table -/
def NoT (o : HO) : Prop := ∀ ps, o ≠ .tbl ps
theorem NoT.of {o : HO} (h : ¬ IsTb o) : NoT o := fun ps e => h (.inl ⟨ps, e⟩)
theorem NoT.lst {vs : List V} : NoT (.lst vs) := fun _ h => by cases h
theorem NoT.ext {φ : Heap → Prop} : NoT (.ext φ) := fun _ h => by cases h
theorem MRep.noT {k : Kc} {G : Hp} {o : HO} {x : MV} (h : MRep k G o x) : NoT o := .of h.noTb
theorem Tbs.keepT {T : List (Addr × Str)} {O O' G G' H H' : Hp} (t : Tbs T O G H) (e : ∀ b o, H b = some o → IsTb o → H' b = some o) (e2 : ∀ b ps, H b = some (.tbl ps) → (O b = none → O' b = none) ∧ (G b = none → G' b = none)) : Tbs T O' G' H' := fun p hp => by
  obtain ⟨h1, h2, h3⟩ := t p hp
  refine ⟨tabS_keep h1 e, ?_⟩
  obtain ⟨ps, q, _⟩ := h1
  have := e2 _ _ q
  exact ⟨this.1 h2, this.2 h3⟩
theorem Tbs.keep {T : List (Addr × Str)} {O O' G G' H H' : Hp} (t : Tbs T O G H) (e : ∀ b o, H b = some o → IsTb o → H' b = some o ∧ (O b = none → O' b = none) ∧ (G b = none → G' b = none)) : Tbs T O' G' H' :=
  t.keepT (fun b o q z => (e b o q z).1) fun b ps q => (e b _ q (.inl ⟨_, rfl⟩)).2
theorem Tbs.upds {T : List (Addr × Str)} {O G G' H : Hp} {a : Addr} {o : HO} (t : Tbs T O G H) (hH : H a = none) (hG : ∀ b, b ≠ a → G b = none → G' b = none) : Tbs T O G' (upd H a o) := t.keep fun b u q _ => by
  have n := ne_of_none q hH
  exact ⟨by rw [upd_ne n]; exact q, id, hG b n⟩
theorem Tbs.wr {T : List (Addr × Str)} {O G H : Hp} {a : Addr} {o u : HO} (t : Tbs T O G H) (hH : H a = some u) (hn : ¬ IsTb u) : Tbs T O G (upd H a o) := t.keep fun b w q z => by
  have n : b ≠ a := fun y => by subst y; rw [hH] at q; cases q; exact hn z
  exact ⟨by rw [upd_ne n]; exact q, id, id⟩
def EVRep (k : Kc) (c : Fr) (G H : Hp) (v : V) : EV → Prop
  | .d d => Rp k G v d
  | .m x => ∃ a, v = .ref a ∧ MAt k c G H a x
  | .p x => ∃ a, v = .ref a ∧ MAt k c G H a x
  | .t _ _ => False
structure RepS (k : Kc) (c : Fr) (G : Hp) (σ : St) (H : Hp) (e : Env) : Prop where
  g0 : Same c.G0 G
  gh : Same G H
  oh : Same c.O H
  fr : ∀ a, G a ≠ none → c.O a ≠ none → c.G0 a ≠ none ∨ ∃ φ, G a = some (.ext φ)
  tb : Tbs k.ct.T c.O G H
  len : e.length = σ.length
  slot : ∀ (i : Nat) (x : EV), e[i]? = some (some x) → ∃ v, σ[i]? = some (some v) ∧ EVRep k c G H v x
  dis : ∀ (i j : Nat) (a : Addr) (x y : EV), e[i]? = some (some x) → e[j]? = some (some y) → x.own = true → y.own = true → σ[i]? = some (some (.ref a)) → σ[j]? = some (some (.ref a)) → i = j
  pin : ∀ (i : Nat) (a : Addr), c.P i = some a → ∃ x, e[i]? = some (some (.p x)) ∧ σ[i]? = some (some (.ref a))

section
variable {k : Kc} {c : Fr} {G G' H H' : Hp} {σ : St} {e : Env} {p a : Addr} {o : HO}
theorem same_upd (h : H p = none) : Same H (upd H p o) := fun b u q => by rw [upd_ne (ne_of_none q h)]; exact q
theorem same_upd2 (s : Same G H) (h : H p = none) : Same (upd G p o) (upd H p o) := fun b u q => by
  by_cases hb : b = p
  · subst hb; rw [upd_same] at q ⊢; exact q
  · rw [upd_ne hb] at q ⊢; exact s _ _ q
/-- own things stay where frozen data and foreign cells are laid -/
theorem MAt.keep {x : MV} (h : MAt k c G H a x) (s : Same G G') (hg : G' a = none) (hh : H' a = H a) : MAt k c G' H' a x := by
  obtain ⟨h1, h2, o, h3, h4⟩ := h
  exact ⟨hg, h2, o, by rw [hh]; exact h3, h4.mono s⟩
/-- data laid at a new place -/
theorem RepS.lay (r : RepS k c G σ H e) (h : H p = none) : RepS k c (upd G p o) σ (upd H p o) e := by
  have gp : G p = none := r.gh.free h
  have op : c.O p = none := r.oh.free h
  refine ⟨fun b u q => ?_, same_upd2 r.gh h, fun b u q => ?_, fun b g1 g2 => ?_, r.tb.upds h (fun b n q => by rw [upd_ne n]; exact q), r.len, fun i x hx => ?_, r.dis, r.pin⟩
  · have := r.g0 b u q
    rw [upd_ne (ne_of_none this gp)]; exact this
  · have := r.oh b u q
    rw [upd_ne (ne_of_none this h)]; exact this
  · by_cases hb : b = p
    · subst hb; exact absurd op g2
    · rw [upd_ne hb] at g1 ⊢; exact r.fr b g1 g2
  · obtain ⟨v, h1, h2⟩ := r.slot i x hx
    refine ⟨v, h1, ?_⟩
    have own : ∀ {x : MV}, (∃ a, v = .ref a ∧ MAt k c G H a x) → ∃ a, v = .ref a ∧ MAt k c (upd G p o) (upd H p o) a x := fun {x} ⟨a, e1, m⟩ => by
      have na : a ≠ p := by
        obtain ⟨_, _, o', q, _⟩ := m
        exact ne_of_none q h
      exact ⟨a, e1, m.keep (same_upd gp) (by rw [upd_ne na]; exact m.1) (upd_ne na)⟩
    cases x with
    | d d => exact Rp.mono (same_upd gp) h2
    | m x => exact own h2
    | p x => exact own h2
    | t _ _ => first | exact h2.elim | exact trivial | cases hw | exact hv.elim | exact h.elim | exact hx.elim | exact hu.elim | cases hy | cases h' | cases hd' | cases h2 | cases h1 | cases hd | cases h3 | cases h4
/-- a thing laid at a new place, not (yet) data -/
theorem RepS.layM (r : RepS k c G σ H e) (h : H p = none) : RepS k c G σ (upd H p o) e := by
  refine ⟨r.g0, fun b u q => ?_, fun b u q => ?_, r.fr, r.tb.upds h (fun b _ q => q), r.len, fun i x hx => ?_, r.dis, r.pin⟩
  · have := r.gh b u q
    rw [upd_ne (ne_of_none this h)]; exact this
  · have := r.oh b u q
    rw [upd_ne (ne_of_none this h)]; exact this
  · obtain ⟨v, h1, h2⟩ := r.slot i x hx
    refine ⟨v, h1, ?_⟩
    have own : ∀ {x : MV}, (∃ a, v = .ref a ∧ MAt k c G H a x) → ∃ a, v = .ref a ∧ MAt k c G (upd H p o) a x := fun {x} ⟨a, e1, m⟩ => by
      have na : a ≠ p := by
        obtain ⟨_, _, o', q, _⟩ := m
        exact ne_of_none q h
      exact ⟨a, e1, m.keep (Same.refl _) m.1 (upd_ne na)⟩
    cases x with
    | d d => exact h2
    | m x => exact own h2
    | p x => exact own h2
    | t _ _ => first | exact h2.elim | exact trivial | cases hw | exact hv.elim | exact h.elim | exact hx.elim | exact hu.elim | cases hy | cases h' | cases hd' | cases h2 | cases h1 | cases hd | cases h3 | cases h4
/-- an address that no slot owns -/
def Loose (σ : St) (e : Env) (a : Addr) : Prop := ∀ (i : Nat) (x : EV), e[i]? = some (some x) → x.own = true → σ[i]? ≠ some (some (.ref a))
/-- a thing becomes data -/
theorem RepS.freeze (r : RepS k c G σ H e) (hH : H a = some o) (hG : G a = none) (hO : c.O a = none) (hl : Loose σ e a) (hnt : NoT o) : RepS k c (upd G a o) σ H e := by
  refine ⟨fun b u q => ?_, fun b u q => ?_, r.oh, fun b g1 g2 => ?_, r.tb.keepT (fun b u q z => q) (fun b ps q => ⟨id, fun n => by rw [upd_ne (fun y => by subst y; rw [hH] at q; cases q; exact hnt _ rfl)]; exact n⟩), r.len, fun i x hx => ?_, r.dis, r.pin⟩
  · have := r.g0 b u q
    rw [upd_ne (ne_of_none this hG)]; exact this
  · by_cases hb : b = a
    · subst hb; rw [upd_same] at q; rw [hH, ← q]
    · rw [upd_ne hb] at q; exact r.gh _ _ q
  · by_cases hb : b = a
    · subst hb; exact absurd hO g2
    · rw [upd_ne hb] at g1 ⊢; exact r.fr b g1 g2
  · obtain ⟨v, h1, h2⟩ := r.slot i x hx
    refine ⟨v, h1, ?_⟩
    have own : x.own = true → ∀ {y : MV}, (∃ b, v = .ref b ∧ MAt k c G H b y) → ∃ b, v = .ref b ∧ MAt k c (upd G a o) H b y := fun hw {y} ⟨b, e1, m⟩ => by
      have na : b ≠ a := fun z => by
        subst z
        rw [e1] at h1
        exact hl i x hx hw h1
      exact ⟨b, e1, m.keep (same_upd hG) (by rw [upd_ne na]; exact m.1) rfl⟩
    cases x with
    | d d => exact Rp.mono (same_upd hG) h2
    | m x => exact own rfl h2
    | p x => exact own rfl h2
    | t _ _ => first | exact h2.elim | exact trivial | cases hw | exact hv.elim | exact h.elim | exact hx.elim | exact hu.elim | cases hy | cases h' | cases hd' | cases h2 | cases h1 | cases hd | cases h3 | cases h4
theorem set_get {α : Type} {l : List α} {i j : Nat} {x y : α} (h : (l.set i x)[j]? = some y) : (i = j ∧ y = x ∧ i < l.length) ∨ (i ≠ j ∧ l[j]? = some y) := by
  rw [List.getElem?_set] at h
  by_cases hij : i = j
  · rw [if_pos hij] at h
    by_cases hl : i < l.length
    · rw [if_pos (by omega)] at h
      exact .inl ⟨hij, (Option.some.inj h).symm, hl⟩
    · rw [if_neg (by omega)] at h; cases h
  · rw [if_neg hij] at h
    exact .inr ⟨hij, h⟩
/-- what a slot's owner knows of its address -/
theorem RepS.owner (r : RepS k c G σ H e) {i : Nat} {x : EV} (hx : e[i]? = some (some x)) (hw : x.own = true) : ∃ a y, (x = .m y ∨ x = .p y) ∧ σ[i]? = some (some (.ref a)) ∧ MAt k c G H a y := by
  obtain ⟨v, h1, h2⟩ := r.slot i x hx
  cases x with
  | d d => cases hw
  | m y => obtain ⟨a, e1, m⟩ := h2; subst e1; exact ⟨a, y, .inl rfl, h1, m⟩
  | p y => obtain ⟨a, e1, m⟩ := h2; subst e1; exact ⟨a, y, .inr rfl, h1, m⟩
  | t _ _ => first | exact h2.elim | exact trivial | cases hw | exact hv.elim | exact h.elim | exact hx.elim | exact hu.elim | cases hy | cases h' | cases hd' | cases h2 | cases h1 | cases hd | cases h3 | cases h4
/-- an owned thing is changed -/
theorem RepS.write (r : RepS k c G σ H e) {i : Nat} {x x' : EV} {y : MV} (hx : e[i]? = some (some x)) (hw : x.own = true) (ha : σ[i]? = some (some (.ref a))) (hm : MRep k G o y)
    (hx' : (x.own = true ∧ x' = .m y ∧ ∀ z, x ≠ .p z) ∨ (x' = .p y ∧ ∀ z, x ≠ .m z)) : RepS k c G σ (upd H a o) (e.set i (some x')) := by
  obtain ⟨a', y0, hy0, ha', ⟨m1, m2, o0, m3, m4⟩⟩ := r.owner hx hw
  rw [ha] at ha'
  obtain rfl : a = a' := by injection ha' with h; injection h with h; injection h
  have hil : i < e.length := (List.getElem?_eq_some_iff.mp hx).1
  refine ⟨r.g0, fun b u q => ?_, fun b u q => ?_, r.fr, r.tb.wr m3 m4.noTb, by rw [List.length_set]; exact r.len, fun j z hz => ?_, fun j l b z w hz hw' z1 z2 s1 s2 => ?_, fun j b hb => ?_⟩
  · rw [upd_ne (ne_of_none q m1)]; exact r.gh _ _ q
  · rw [upd_ne (ne_of_none q m2)]; exact r.oh _ _ q
  · rcases set_get hz with ⟨rfl, q, _⟩ | ⟨hij, q⟩
    · have q' : z = x' := by injection q
      subst q'
      refine ⟨.ref a, ha, ?_⟩
      rcases hx' with ⟨_, rfl, _⟩ | ⟨rfl, _⟩ <;> exact ⟨a, rfl, m1, m2, o, upd_same, hm⟩
    · obtain ⟨v, h1, h2⟩ := r.slot j z q
      refine ⟨v, h1, ?_⟩
      have own : z.own = true → ∀ {t : MV}, (∃ b, v = .ref b ∧ MAt k c G H b t) → ∃ b, v = .ref b ∧ MAt k c G (upd H a o) b t := fun hzw {t} ⟨b, e1, m⟩ => by
        have na : b ≠ a := fun w => by
          subst w
          rw [e1] at h1
          exact hij (r.dis i j _ x z hx q hw hzw ha h1)
        exact ⟨b, e1, m.keep (Same.refl _) m.1 (upd_ne na)⟩
      cases z with
      | d d => exact h2
      | m x => exact own rfl h2
      | p x => exact own rfl h2
      | t _ _ => first | exact h2.elim | exact trivial | cases hw | exact hv.elim | exact h.elim | exact hx.elim | exact hu.elim | cases hy | cases h' | cases hd' | cases h2 | cases h1 | cases hd | cases h3 | cases h4
  · have back : ∀ {j : Nat} {z : EV}, (e.set i (some x'))[j]? = some (some z) → z.own = true → ∃ z', e[j]? = some (some z') ∧ z'.own = true := fun {j z} hz z1 => by
      rcases set_get hz with ⟨rfl, _, _⟩ | ⟨_, q⟩
      · exact ⟨x, hx, hw⟩
      · exact ⟨z, q, z1⟩
    obtain ⟨z', q1, q2⟩ := back hz z1
    obtain ⟨w', q3, q4⟩ := back hw' z2
    exact r.dis j l b z' w' q1 q3 q2 q4 s1 s2
  · obtain ⟨z, h1, h2⟩ := r.pin j b hb
    by_cases hij : i = j
    · subst hij
      rw [hx] at h1
      have ex : x = .p z := by injection h1 with h; injection h
      rcases hx' with ⟨_, _, h⟩ | ⟨h, _⟩
      · exact absurd ex (h z)
      · refine ⟨y, ?_, h2⟩
        rw [List.getElem?_set_self hil, h]
    · exact ⟨z, by rw [List.getElem?_set_ne hij]; exact h1, h2⟩
/-- a slot gets a new value; nothing is known of it any more: x = none -/
theorem RepS.put (r : RepS k c G σ H e) {i : Nat} {v : V} {x : Option EV} (hp : c.P i = none) (hv : ∀ y, x = some y → EVRep k c G H v y) (hl : ∀ y b, x = some y → y.own = true → v = .ref b → Loose σ (e.set i none) b) :
    RepS k c G (σ.set i (some v)) H (e.set i x) := by
  refine ⟨r.g0, r.gh, r.oh, r.fr, r.tb, by rw [List.length_set, List.length_set]; exact r.len, fun j z hz => ?_, fun j l b z w hz hw z1 z2 s1 s2 => ?_, fun j b hb => ?_⟩
  · rcases set_get hz with ⟨rfl, q, hil⟩ | ⟨hij, q⟩
    · refine ⟨v, by rw [List.getElem?_set_self (by rw [← r.len]; exact hil)], hv z q.symm⟩
    · obtain ⟨u, h1, h2⟩ := r.slot j z q
      exact ⟨u, by rw [List.getElem?_set_ne hij]; exact h1, h2⟩
  · have other : ∀ {j l : Nat} {z w : EV}, i = j → i ≠ l → (e.set i x)[j]? = some (some z) → e[l]? = some (some w) → z.own = true → w.own = true → (σ.set i (some v))[j]? = some (some (.ref b)) → σ[l]? = some (some (.ref b)) → False := fun {j l z w} ej hl' hz hw z1 z2 s1 s2 => by
      subst ej
      rcases set_get hz with ⟨_, q, hil⟩ | ⟨h, _⟩
      · rw [List.getElem?_set_self (by rw [← r.len]; exact hil)] at s1
        have ev : v = .ref b := by injection s1 with h; injection h
        exact hl z b q.symm z1 ev l w (by rw [List.getElem?_set_ne hl']; exact hw) z2 s2
      · exact h rfl
    rcases set_get hz with ⟨rfl, q1, hil⟩ | ⟨hij, q1⟩
    · rcases set_get hw with ⟨rfl, q2, _⟩ | ⟨hil', q2⟩
      · rfl
      · rw [List.getElem?_set_ne hil'] at s2
        exact (other rfl hil' hz q2 z1 z2 s1 s2).elim
    · rw [List.getElem?_set_ne hij] at s1
      rcases set_get hw with ⟨rfl, q2, _⟩ | ⟨hil', q2⟩
      · exact (other rfl hij hw q1 z2 z1 s2 s1).elim
      · rw [List.getElem?_set_ne hil'] at s2
        exact r.dis j l b z w q1 q2 z1 z2 s1 s2
  · obtain ⟨z, h1, h2⟩ := r.pin j b hb
    have hij : i ≠ j := fun q => by subst q; rw [hp] at hb; cases hb
    exact ⟨z, by rw [List.getElem?_set_ne hij]; exact h1, by rw [List.getElem?_set_ne hij]; exact h2⟩
/-- what is known of a slot is changed -/
theorem RepS.alter (r : RepS k c G σ H e) {i : Nat} {x y : EV} (hx : e[i]? = some (some x)) (hp : ∀ z, x ≠ .p z) (hy : y.own = true → x.own = true) (hv : ∀ v, σ[i]? = some (some v) → EVRep k c G H v y) : RepS k c G σ H (e.set i (some y)) := by
  refine ⟨r.g0, r.gh, r.oh, r.fr, r.tb, by rw [List.length_set]; exact r.len, fun j z hz => ?_, fun j l b z w hz hw z1 z2 s1 s2 => ?_, fun j b hb => ?_⟩
  · rcases set_get hz with ⟨rfl, q, hil⟩ | ⟨hij, q⟩
    · obtain ⟨v, h1, _⟩ := r.slot i x hx
      have ez : z = y := by injection q
      subst ez
      exact ⟨v, h1, hv v h1⟩
    · exact r.slot j z q
  · have back : ∀ {j : Nat} {z : EV}, (e.set i (some y))[j]? = some (some z) → z.own = true → ∃ z', e[j]? = some (some z') ∧ z'.own = true := fun {j z} hz z1 => by
      rcases set_get hz with ⟨rfl, q, _⟩ | ⟨_, q⟩
      · have ez : z = y := by injection q
        subst ez
        exact ⟨x, hx, hy z1⟩
      · exact ⟨z, q, z1⟩
    obtain ⟨z', q1, q2⟩ := back hz z1
    obtain ⟨w', q3, q4⟩ := back hw z2
    exact r.dis j l b z' w' q1 q3 q2 q4 s1 s2
  · obtain ⟨z, h1, h2⟩ := r.pin j b hb
    have hij : i ≠ j := fun q => by
      subst q
      rw [hx] at h1
      have ex : x = .p z := by injection h1 with h; injection h
      exact hp z ex
    exact ⟨z, by rw [List.getElem?_set_ne hij]; exact h1, h2⟩
end
section
variable {k : Kc} {c : Fr} {G G' H H' : Hp} {σ : L2.St} {e : Env} {p a : Addr} {o : HO}
/-- what was known of a slot is forgotten -/
theorem RepS.forget (r : RepS k c G σ H e) {i : Nat} (hp : c.P i = none) : RepS k c G σ H (e.set i none) := by
  have old : ∀ {j : Nat} {z : EV}, (e.set i none)[j]? = some (some z) → i ≠ j ∧ e[j]? = some (some z) := fun {j z} hz => by
    rcases set_get hz with ⟨_, q, _⟩ | q
    · cases q
    · exact q
  refine ⟨r.g0, r.gh, r.oh, r.fr, r.tb, by rw [List.length_set]; exact r.len, fun j z hz => r.slot j z (old hz).2, fun j l b z w hz hw z1 z2 s1 s2 => r.dis j l b z w (old hz).2 (old hw).2 z1 z2 s1 s2, fun j b hb => ?_⟩
  obtain ⟨z, h1, h2⟩ := r.pin j b hb
  have hij : i ≠ j := fun q => by subst q; rw [hp] at hb; cases hb
  exact ⟨z, by rw [List.getElem?_set_ne hij]; exact h1, h2⟩
/-- data is known of a slot -/
theorem RepS.learn (r : RepS k c G σ H e) {i : Nat} {v : V} {d : D} (hp : c.P i = none) (hs : σ[i]? = some (some v)) (hd : Rp k G v d) : RepS k c G σ H (e.set i (some (.d d))) := by
  refine ⟨r.g0, r.gh, r.oh, r.fr, r.tb, by rw [List.length_set]; exact r.len, fun j z hz => ?_, fun j l b z w hz hw z1 z2 s1 s2 => ?_, fun j b hb => ?_⟩
  · rcases set_get hz with ⟨rfl, q, _⟩ | ⟨_, q⟩
    · have ez : z = .d d := by injection q
      subst ez
      exact ⟨v, hs, hd⟩
    · exact r.slot j z q
  · have old : ∀ {j : Nat} {z : EV}, (e.set i (some (EV.d d)))[j]? = some (some z) → z.own = true → e[j]? = some (some z) := fun {j z} hz hw => by
      rcases set_get hz with ⟨_, q, _⟩ | ⟨_, q⟩
      · have ez : z = .d d := by injection q
        subst ez
        cases hw
      · exact q
    exact r.dis j l b z w (old hz z1) (old hw z2) z1 z2 s1 s2
  · obtain ⟨z, h1, h2⟩ := r.pin j b hb
    have hij : i ≠ j := fun q => by subst q; rw [hp] at hb; cases hb
    exact ⟨z, by rw [List.getElem?_set_ne hij]; exact h1, h2⟩
theorem RepS.nopin (r : RepS k c G σ H e) {i : Nat} {x : Option EV} (hx : e[i]? = some x) (hp : ∀ z, x ≠ some (.p z)) : c.P i = none := by
  cases q : c.P i with
  | none => rfl
  | some a =>
    obtain ⟨z, h1, _⟩ := r.pin i a q
    rw [hx] at h1
    exact absurd (by injection h1) (hp z)
theorem MRep.rp {x : MV} {d : D} (m : MRep k G o x) (hf : x.frz = some d) (s : Same G G') (ha : G' a = some o) : Rp k G' (.ref a) d := by
  cases x with
  | lst ds =>
    have e1 : D.lst ds = d := Option.some.inj hf
    subst e1
    obtain ⟨vs, rfl, r⟩ := m
    exact .lst ha (r.mono s)
  | dic ks ds =>
    have e1 : D.dic ks ds = d := Option.some.inj hf
    subst e1
    obtain ⟨kvs, rfl, n, r⟩ := m
    exact .dic ha n (r.mono s)
  | obj c' ns ds =>
    have hf : (if ns = clsNames c' then some (D.obj c' ds) else none) = some d := hf
    by_cases hn : ns = clsNames c'
    · rw [if_pos hn] at hf
      have e1 : D.obj c' ds = d := Option.some.inj hf
      subst e1
      obtain ⟨dx, fs, rfl, n, r⟩ := m
      exact .obj ha (n.trans hn) (r.mono s)
    · rw [if_neg hn] at hf; cases hf
/-- a name's own thing becomes data -/
theorem RepS.freezeSlot (r : RepS k c G σ H e) {i : Nat} {x : MV} {d : D} (hx : e[i]? = some (some (.m x))) (hf : x.frz = some d) :
    ∃ G' v, Same G G' ∧ σ[i]? = some (some v) ∧ Rp k G' v d ∧ RepS k c G' σ H (e.set i (some (.d d))) := by
  have hp : c.P i = none := r.nopin hx fun z q => by injection q with q; cases q
  obtain ⟨a, y, hy, ha, m1, m2, o, m3, m4⟩ := r.owner hx rfl
  have ey : y = x := by
    rcases hy with q | q
    · injection q with q; exact q.symm
    · cases q
  subst ey
  have r0 := r.forget hp
  have hl : Loose σ (e.set i none) a := fun j z hz hw q => by
    rcases set_get hz with ⟨_, q2, _⟩ | ⟨hij, q2⟩
    · cases q2
    · exact hij (r.dis i j a _ z hx q2 rfl hw ha q)
  have r1 := r0.freeze m3 m1 m2 hl m4.noT
  have hd : Rp k (upd G a o) (.ref a) d := m4.rp hf (same_upd m1) upd_same
  have r2 := r1.learn hp ha hd
  rw [List.set_set] at r2
  exact ⟨_, _, same_upd m1, ha, hd, r2⟩
/-- a new thing, loose, becomes data -/
theorem RepS.freezeNew (r : RepS k c G σ H e) {x : MV} {d : D} (m : MAt k c G H a x) (hl : Loose σ e a) (hf : x.frz = some d) : ∃ G', Same G G' ∧ Rp k G' (.ref a) d ∧ RepS k c G' σ H e := by
  obtain ⟨m1, m2, o, m3, m4⟩ := m
  exact ⟨_, same_upd m1, m4.rp hf (same_upd m1) upd_same, r.freeze m3 m1 m2 hl m4.noT⟩
/-- a new thing laid: it is loose -/
theorem RepS.loose (r : RepS k c G σ H e) (h : H p = none) : Loose σ e p := fun i x hx hw q => by
  obtain ⟨a, y, _, ha, _, _, o, m3, _⟩ := r.owner hx hw
  rw [q] at ha
  obtain rfl : p = a := by injection ha with z; injection z with z; injection z
  rw [h] at m3; cases m3
theorem RepS.newM (r : RepS k c G σ H e) {x : MV} (h : H p = none) (m : MRep k G o x) : RepS k c G σ (upd H p o) e ∧ MAt k c G (upd H p o) p x ∧ Loose σ e p :=
  ⟨r.layM h, ⟨r.gh.free h, r.oh.free h, o, upd_same, m⟩, r.loose h⟩
end
end MM
end
section
set_option Elab.async false
set_option linter.all false
set_option autoImplicit false
set_option maxRecDepth 100000
set_option maxHeartbeats 4000000
namespace MM
open PySem PySem.Spec L2

/-! ### what is wanted behind an evaluation -/
def RepX (k : Kc) (G H : Hp) (cls : Value) (dc : Option Addr) (x : Exn) : Prop :=
  cls = .ref (k.ct x.cls) ∧ ((x.fs = [] ∧ dc = none) ∨ ∃ d fs, dc = some d ∧ G d = some (.xd fs) ∧ fs.map (·.1) = clsNames x.cls ∧ Rps k G (fs.map (·.2)) x.fs)
def Post {α : Type} (k : Kc) (W : WX) (c : Fr) (G : Hp) (σ : L2.St) (K : Hp → Hp → Env → α → Prop) : Res α → Prop
  | .ok a e => ∀ G' H', Same G G' → RepS k c G' σ H' e → K G' H' e a
  | .exc x e => ∀ G' H' cls dc, Same G G' → RepS k c G' σ H' e → RepX k G' H' cls dc x → W cls dc σ H'
  | .stuck => False
section
variable {α β : Type} {k : Kc} {W : WX} {c : Fr} {G G1 H : Hp} {σ : L2.St} {e : Env} {K K' : Hp → Hp → Env → α → Prop} {L : Hp → Hp → Env → β → Prop}
theorem Post.mono {r : Res α} (h : Post k W c G σ K r) (s : Same G G1) : Post k W c G1 σ K r := by
  cases r with
  | ok a e => exact fun G' H' s' r' => h G' H' (s.trans s') r'
  | exc x e => exact fun G' H' cls dc s' r' => h G' H' cls dc (s.trans s') r'
  | stuck => exact h
theorem Post.imp {r : Res α} (h : Post k W c G σ K r) (hk : ∀ G' H' e a, Same G G' → RepS k c G' σ H' e → K G' H' e a → K' G' H' e a) : Post k W c G σ K' r := by
  cases r with
  | ok a e => exact fun G' H' s' r' => hk _ _ _ _ s' r' (h G' H' s' r')
  | exc x e => exact h
  | stuck => exact h
theorem Post.bind {r : Res α} {f : α → Env → Res β} (h : Post k W c G σ L (r.bind f)) : Post k W c G σ (fun G1 H1 e1 a => Post k W c G1 σ L (f a e1)) r := by
  cases r with
  | ok a e => exact fun G' H' s' r' => Post.mono h s'
  | exc x e => exact h
  | stuck => exact h
/-- the end of an evaluation -/
theorem Post.now {a : α} (h : Post k W c G σ K (.ok a e)) (r : RepS k c G σ H e) : K G H e a := h G H (Same.refl _) r
end

/-! ### tokens: data, or the slot of a name -/
inductive Tk where
  | val (x : D) | slot (i : Nat)
def RpK (k : Kc) (G : Hp) (σ : L2.St) (v : V) : Tk → Prop
  | .val d => Rp k G v d
  | .slot i => σ[i]? = some (some v)
def RpKs (k : Kc) (G : Hp) (σ : L2.St) : List V → List Tk → Prop
  | [], [] => True
  | v :: vs, t :: ts => RpK k G σ v t ∧ RpKs k G σ vs ts
  | _, _ => False
def rdK (e : Env) : Tk → Option D
  | .val d => some d
  | .slot i => match e[i]? with
    | some (some x) => x.rd
    | _ => none
def rdKs (e : Env) : List Tk → Option (List D)
  | [] => some []
  | t :: ts => match rdK e t, rdKs e ts with
    | some d, some ds => some (d :: ds)
    | _, _ => none
/-- v can be read as d now -/
def RB (k : Kc) (G H : Hp) (v : V) (d : D) : Prop := Rp k G v d ∨ ∃ a o x, v = .ref a ∧ H a = some o ∧ MRep k G o x ∧ x.frz = some d
inductive RBs (k : Kc) (G H : Hp) : List V → List D → Prop
  | nil : RBs k G H [] []
  | cons {v : V} {vs : List V} {d : D} {ds : List D} : RB k G H v d → RBs k G H vs ds → RBs k G H (v :: vs) (d :: ds)
/-- the value of an expression that may be a new thing -/
def RpV (k : Kc) (c : Fr) (G : Hp) (σ : L2.St) (H : Hp) (e : Env) (v : V) : EV → Prop
  | .d d => Rp k G v d
  | .m x => ∃ a, v = .ref a ∧ MAt k c G H a x ∧ Loose σ e a
  | .p _ => False
  | .t _ _ => False
section
variable {k : Kc} {c : Fr} {G G' H : Hp} {σ : L2.St} {e : Env} {v : V} {t : Tk} {d : D}
theorem RpK.mono (s : Same G G') (h : RpK k G σ v t) : RpK k G' σ v t := by
  cases t with
  | val d => exact Rp.mono s h
  | slot i => exact h
theorem RpKs.mono (s : Same G G') : ∀ {vs : List V} {ts : List Tk}, RpKs k G σ vs ts → RpKs k G' σ vs ts
  | [], [], _ => trivial
  | _ :: _, _ :: _, h => ⟨h.1.mono s, RpKs.mono s h.2⟩
  | [], _ :: _, h => h
  | _ :: _, [], h => h
theorem RB.of (r : RepS k c G σ H e) (h : RpK k G σ v t) (hd : rdK e t = some d) : RB k G H v d := by
  cases t with
  | val d' =>
    have ed : d' = d := Option.some.inj hd
    subst ed
    exact .inl h
  | slot i =>
    have h' : σ[i]? = some (some v) := h
    have hd' : (match e[i]? with | some (some x) => x.rd | _ => none) = some d := hd
    cases q : e[i]? with
    | none => rw [q] at hd'; cases hd'
    | some o =>
      cases o with
      | none => rw [q] at hd'; cases hd'
      | some x =>
        rw [q] at hd'
        obtain ⟨u, h1, h2⟩ := r.slot i x q
        rw [h'] at h1
        obtain rfl : v = u := by injection h1 with z; injection z
        cases x with
        | d y =>
          have ed : y = d := Option.some.inj hd'
          subst ed
          exact .inl h2
        | m y => obtain ⟨a, e1, _, _, o, h3, h4⟩ := h2; exact .inr ⟨a, o, y, e1, h3, h4, hd'⟩
        | p y => obtain ⟨a, e1, _, _, o, h3, h4⟩ := h2; exact .inr ⟨a, o, y, e1, h3, h4, hd'⟩
        | t _ _ => first | exact h2.elim | exact trivial | cases hw | exact hv.elim | exact h.elim | exact hx.elim | exact hu.elim | cases hy | cases h' | cases hd' | cases h2 | cases h1 | cases hd | cases h3 | cases h4
theorem RBs.of (r : RepS k c G σ H e) : ∀ {vs : List V} {ts : List Tk} {ds : List D}, RpKs k G σ vs ts → rdKs e ts = some ds → RBs k G H vs ds
  | [], [], _, _, hd => by cases hd; exact .nil
  | v :: vs, t :: ts, ds, h, hd => by
    have hd' : (match rdK e t, rdKs e ts with | some d, some ds => some (d :: ds) | _, _ => none) = some ds := hd
    cases q : rdK e t with
    | none => rw [q] at hd'; cases hd'
    | some d =>
      cases q2 : rdKs e ts with
      | none => rw [q, q2] at hd'; cases hd'
      | some es =>
        rw [q, q2] at hd'
        cases hd'
        exact .cons (.of r h.1 q) (RBs.of r h.2 q2)
  | [], _ :: _, _, h, _ => h.elim
  | _ :: _, [], _, h, _ => h.elim
-- reading
theorem RB.int {i : Int} (h : RB k G H v (.int i)) : v = .int i := by
  rcases h with h | ⟨a, o, x, _, _, _, h⟩
  · cases h; rfl
  · cases x <;> simp [MV.frz] at h
theorem RB.bl {i : Bool} (h : RB k G H v (.bl i)) : v = .bl i := by
  rcases h with h | ⟨a, o, x, _, _, _, h⟩
  · cases h; rfl
  · cases x <;> simp [MV.frz] at h
theorem RB.str {i : Str} (h : RB k G H v (.str i)) : v = .str i := by
  rcases h with h | ⟨a, o, x, _, _, _, h⟩
  · cases h; rfl
  · cases x <;> simp [MV.frz] at h
theorem RB.non (h : RB k G H v .non) : v = .non := by
  rcases h with h | ⟨a, o, x, _, _, _, h⟩
  · cases h; rfl
  · cases x <;> simp [MV.frz] at h
theorem RB.lst {ds : List D} (g : Same G H) (h : RB k G H v (.lst ds)) : ∃ a vs, v = .ref a ∧ H a = some (.lst vs) ∧ Rps k G vs ds := by
  rcases h with h | ⟨a, o, x, e1, h1, h2, h⟩
  · cases h with
    | lst h1 h2 => exact ⟨_, _, rfl, g _ _ h1, h2⟩
  · cases x with
    | lst es =>
      simp [MV.frz] at h
      subst h
      obtain ⟨vs, rfl, r⟩ := h2
      exact ⟨a, vs, e1, h1, r⟩
    | dic ks es => simp [MV.frz] at h
    | obj c ns es => simp [MV.frz] at h
theorem RB.tup {ds : List D} (g : Same G H) (h : RB k G H v (.tup ds)) : ∃ a vs, v = .ref a ∧ SqT k.K H a vs ∧ Rps k G vs ds ∧ SqT k.K G a vs := by
  rcases h with h | ⟨a, o, x, e1, h1, h2, h⟩
  · cases h with
    | tup h1 h2 => exact ⟨_, _, rfl, seqT g h1, h2, h1⟩
  · cases x <;> simp [MV.frz] at h
theorem RB.scr {ns : List Int} (g : Same G H) (h : RB k G H v (.scr ns)) : ∃ a, v = .ref a ∧ SqL k.K H a (ns.map V.int) := by
  rcases h with h | ⟨a, o, x, e1, h1, h2, h⟩
  · cases h with
    | scr h1 => exact ⟨_, rfl, g.seq h1⟩
  · cases x <;> simp [MV.frz] at h
theorem RB.dic {ks : List Key} {ds : List D} (g : Same G H) (h : RB k G H v (.dic ks ds)) : ∃ a kvs, v = .ref a ∧ H a = some (.dK kvs) ∧ kvs.map (·.1) = ks ∧ Rps k G (kvs.map (·.2)) ds := by
  rcases h with h | ⟨a, o, x, e1, h1, h2, h⟩
  · cases h with
    | dic h1 h2 h3 => exact ⟨_, _, rfl, g _ _ h1, h2, h3⟩
  · cases x with
    | lst es => simp [MV.frz] at h
    | dic k2 es =>
      simp [MV.frz] at h
      obtain ⟨rfl, rfl⟩ := h
      obtain ⟨kvs, rfl, n, r⟩ := h2
      exact ⟨a, kvs, e1, h1, n, r⟩
    | obj c ns es => simp [MV.frz] at h
theorem RB.obj {c' : Nat} {ds : List D} (g : Same G H) (h : RB k G H v (.obj c' ds)) : ∃ a dx fs, v = .ref a ∧ H a = some (.ins (k.ct c') dx fs) ∧ fs.map (·.1) = clsNames c' ∧ Rps k G (fs.map (·.2)) ds := by
  rcases h with h | ⟨a, o, x, e1, h1, h2, h⟩
  · cases h with
    | obj h1 h2 h3 => exact ⟨_, _, _, rfl, g _ _ h1, h2, h3⟩
  · cases x with
    | lst es => simp [MV.frz] at h
    | dic k2 es => simp [MV.frz] at h
    | obj c2 ns es =>
      by_cases hn : ns = clsNames c2
      · simp [MV.frz, hn] at h
        obtain ⟨rfl, rfl⟩ := h
        obtain ⟨dx, fs, rfl, n, r⟩ := h2
        exact ⟨a, dx, fs, e1, h1, n.trans hn, r⟩
      · simp [MV.frz, hn] at h
end

/-! ### the canonical transformers and the judgements -/
def TE (k : Kc) (W : WX) (f : EM D) : L2.TE := fun σ H Q => ∃ c G e, RepS k c G σ H e ∧ Post k W c G σ (fun G' H' _ d => ∀ v, Rp k G' v d → Q v H') (f e)
def TK (k : Kc) (W : WX) (f : EM Tk) : L2.TE := fun σ H Q => ∃ c G e, RepS k c G σ H e ∧ Post k W c G σ (fun G' H' _ d => ∀ v, RpK k G' σ v d → Q v H') (f e)
def TV (k : Kc) (W : WX) (f : EM EV) : L2.TE := fun σ H Q => ∃ c G e, RepS k c G σ H e ∧ Post k W c G σ (fun G' H' e' x => ∀ v, RpV k c G' σ H' e' v x → Q v H') (f e)
def TT (k : Kc) (W : WX) (f : EM Bool) : L2.TT := fun σ H Q => ∃ c G e, RepS k c G σ H e ∧ Post k W c G σ (fun G' H' _ b => Q b H') (f e)
def TA (k : Kc) (W : WX) (f : EM (List Tk)) : L2.TA := fun σ H Q => ∃ c G e, RepS k c G σ H e ∧ Post k W c G σ (fun G' H' _ ts => ∀ vs, RpKs k G' σ vs ts → Q vs H') (f e)
abbrev SE (X : Cx) (ct : Ct) (W : WX) (e : Expr) (f : EM D) : Prop := PE X e (TE ⟨X.K, ct⟩ W f)
abbrev SK (X : Cx) (ct : Ct) (W : WX) (e : Expr) (f : EM Tk) : Prop := PE X e (TK ⟨X.K, ct⟩ W f)
abbrev SV (X : Cx) (ct : Ct) (W : WX) (e : Expr) (f : EM EV) : Prop := PE X e (TV ⟨X.K, ct⟩ W f)
abbrev ST (X : Cx) (ct : Ct) (W : WX) (e : Expr) (f : EM Bool) : Prop := PT X e (TT ⟨X.K, ct⟩ W f)
abbrev SA (X : Cx) (ct : Ct) (W : WX) (es : List Expr) (f : EM (List Tk)) : Prop := PA X es (TA ⟨X.K, ct⟩ W f)
theorem PEw {X : Cx} {e : Expr} {t t' : L2.TE} (h : PE X e t) (w : ∀ σ H Q, t' σ H Q → t σ H Q) : PE X e t' := ⟨fun pins s σ H Q I q => h.run pins s σ H Q I (w σ H Q q)⟩
theorem PTw {X : Cx} {e : Expr} {t t' : L2.TT} (h : PT X e t) (w : ∀ σ H Q, t' σ H Q → t σ H Q) : PT X e t' := ⟨fun pins s σ H Q I q => h.run pins s σ H Q I (w σ H Q q)⟩
theorem PAw {X : Cx} {e : List Expr} {t t' : L2.TA} (h : PA X e t) (w : ∀ σ H Q, t' σ H Q → t σ H Q) : PA X e t' := ⟨fun pos pins s σ H Q I q => h.run pos pins s σ H Q I (w σ H Q q)⟩
theorem PSw {X : Cx} {e : Stmt} {t t' : L2.TS} (h : PS X e t) (w : ∀ D σ H, t' D σ H → t D σ H) : PS X e t' := ⟨fun pins s σ H D I q => h.run pins s σ H D I (w D σ H q)⟩
theorem PSsw {X : Cx} {e : List Stmt} {t t' : L2.TS} (h : PSs X e t) (w : ∀ D σ H, t' D σ H → t D σ H) : PSs X e t' := ⟨fun pins s σ H D I q => h.run pins s σ H D I (w D σ H q)⟩

/-! ### combinators -/
def cC (d : D) : EM D := fun e => .ok d e
def kN (i : Nat) : EM Tk := fun e => match e[i]? with
  | some (some _) => .ok (.slot i) e
  | _ => .stuck
def kE (f : EM D) : EM Tk := fun e => (f e).bind fun d e1 => .ok (.val d) e1
def vD (f : EM D) : EM EV := fun e => (f e).bind fun d e1 => .ok (.d d) e1
/-- a name whose thing escapes: it becomes data -/
def cN (i : Nat) : EM D := fun e => match e[i]? with
  | some (some (.d x)) => .ok x e
  | some (some (.m x)) => (match x.frz with
    | some d => .ok d (e.set i (some (.d d)))
    | none => .stuck)
  | _ => .stuck
def cF (f : EM EV) : EM D := fun e => (f e).bind fun x e1 => match x.rd with
  | some d => .ok d e1
  | none => .stuck
section
variable {X : Cx} {ct : Ct} {W : WX} {x : Str} {pos : Pos} {i : Nat} {ex : Expr} {fe : EM D} {fv : EM EV}
theorem k_name (h : PE X (.Name x pos) (tVar i)) : SK X ct W (.Name x pos) (kN i) := PEw h fun σ H Q q => by
  obtain ⟨c, G, e, r, p⟩ := q
  unfold kN at p
  split at p
  · rename_i y hy
    obtain ⟨v, hv, _⟩ := r.slot i y hy
    exact ⟨v, hv, p.now r v hv⟩
  · exact p.elim
theorem k_val (h : SE X ct W ex fe) : SK X ct W ex (kE fe) := PEw h fun σ H Q q => by
  obtain ⟨c, G, e, r, p⟩ := q
  refine ⟨c, G, e, r, (Post.bind p).imp fun G' H' e' d s r' h v hv => h.now r' v hv⟩
theorem v_val (h : SE X ct W ex fe) : SV X ct W ex (vD fe) := PEw h fun σ H Q q => by
  obtain ⟨c, G, e, r, p⟩ := q
  refine ⟨c, G, e, r, (Post.bind p).imp fun G' H' e' d s r' h v hv => h.now r' v hv⟩
theorem e_name (h : PE X (.Name x pos) (tVar i)) : SE X ct W (.Name x pos) (cN i) := PEw h fun σ H Q q => by
  obtain ⟨c, G, e, r, p⟩ := q
  unfold cN at p
  split at p
  · rename_i y hy
    obtain ⟨v, hv, hr⟩ := r.slot i _ hy
    exact ⟨v, hv, p.now r v hr⟩
  · rename_i y hy
    split at p
    · rename_i d hd
      obtain ⟨G', v, s, hv, hr, r'⟩ := r.freezeSlot hy hd
      exact ⟨v, hv, p G' H s r' v hr⟩
    · exact p.elim
  · exact p.elim
/-- a new thing becomes data -/
theorem e_frz (h : SV X ct W ex fv) : SE X ct W ex (cF fv) := PEw h fun σ H Q q => by
  obtain ⟨c, G, e, r, p⟩ := q
  refine ⟨c, G, e, r, (Post.bind p).imp fun G' H' e' y s r' h v hv => ?_⟩
  cases y with
  | d d => exact h.now r' v hv
  | m m =>
    obtain ⟨a, e1, hm, hl⟩ := hv
    subst e1
    have h2 : Post _ W c G' σ (fun G' H' _ d => ∀ v, Rp _ G' v d → Q v H') (match m.frz with | some d => .ok d e' | none => .stuck) := h
    cases hf : m.frz with
    | none => rw [hf] at h2; exact h2.elim
    | some d =>
      rw [hf] at h2
      obtain ⟨G2, s2, hr, r2⟩ := r'.freezeNew hm hl hf
      exact h2 G2 H' s2 r2 _ hr
  | p m => exact hv.elim
  | t _ _ => first | exact h2.elim | exact trivial | cases hw | exact hv.elim | exact h.elim | exact hx.elim | exact hu.elim | cases hy | cases h' | cases hd' | cases h2 | cases h1 | cases hd | cases h3 | cases h4
theorem e_const {v : V} {d : D} (h : PE X ex (tC v)) (hd : ∀ G, Rp ⟨X.K, ct⟩ G v d) : SE X ct W ex (cC d) := PEw h fun σ H Q q => by
  obtain ⟨c, G, e, r, p⟩ := q
  exact p.now r v (hd G)
theorem e_int {n : Int} {j : Nat} : SE X ct W (.Constant (.int n) j pos) (cC (.int n)) := e_const pe_int fun _ => .int n
theorem e_bl {b : Bool} {j : Nat} : SE X ct W (.Constant (.bool b) j pos) (cC (.bl b)) := e_const pe_bl fun _ => .bl b
theorem e_non {j : Nat} : SE X ct W (.Constant .none j pos) (cC .non) := e_const pe_non fun _ => .non
theorem e_str {y : Str} {j : Nat} : SE X ct W (.Constant (.str y) j pos) (cC (.str y)) := e_const pe_str fun _ => .str y
/-- a constant int of the module -/
theorem e_gint {n : Int} {t : Tok} (hg : Gl X x) (hm : X.mg x = some (.int n t)) (hd : (x == ("__debug__" : Str)) = false := by decide) : SE X ct W (.Name x pos) (cC (.int n)) := e_const (v := V.int n) (pe_glob hg hm ⟨t, rfl⟩ hd) fun _ => .int n
end

/-! ### two-place operations -/
def resV : Option EV → Env → Res EV
  | some x, e => .ok x e
  | none, _ => .stuck
def resB : Option Bool → Env → Res Bool
  | some x, e => .ok x e
  | none, _ => .stuck
def vBin (g : D → D → Option EV) (fa fb : EM Tk) : EM EV := fun e => (fa e).bind fun t1 e1 => (fb e1).bind fun t2 e2 => match rdK e2 t1, rdK e2 t2 with
  | some a, some b => resV (g a b) e2
  | _, _ => .stuck
def tCmpF (g : D → D → Option Bool) (fa fb : EM Tk) : EM Bool := fun e => (fa e).bind fun t1 e1 => (fb e1).bind fun t2 e2 => match rdK e2 t1, rdK e2 t2 with
  | some a, some b => resB (g a b) e2
  | _, _ => .stuck
def cB (f : EM Bool) : EM D := fun e => (f e).bind fun b e1 => .ok (.bl b) e1
/-- an operation by values gives what g says of data -/
def OpG (k : Kc) (r : R2) (g : D → D → Option EV) : Prop := ∀ (c : Fr) (G H : Hp) (σ : L2.St) (e : Env) (x y : V) (a b : D) (z : EV) (Q : VK), RepS k c G σ H e → RB k G H x a → RB k G H y b → g a b = some z →
  (∀ G' H' v, Same G G' → RepS k c G' σ H' e → RpV k c G' σ H' e v z → Q v H') → r x y H Q
/-- a comparison by values gives what g says of data -/
def OpB (k : Kc) (r : R2) (g : D → D → Option Bool) : Prop := ∀ (G H : Hp) (x y : V) (a b : D) (z : Bool) (Q : VK), Same G H → RB k G H x a → RB k G H y b → g a b = some z → Q (.bl z) H → r x y H Q
section
variable {X : Cx} {ct : Ct} {W : WX} {pos : Pos} {a b : Expr} {fa fb : EM Tk} {r : R2}
theorem two {α : Type} {k : Kc} {W : WX} {K : Hp → Hp → Env → α → Prop} {g : Tk → Tk → Env → Res α} {c : Fr} {G H : Hp} {σ : L2.St} {e : Env} {fa fb : EM Tk} {R : V → V → Hp → Prop} (r : RepS k c G σ H e)
    (p : Post k W c G σ K ((fa e).bind fun t1 e1 => (fb e1).bind fun t2 e2 => g t1 t2 e2))
    (h : ∀ G2 H2 e2 t1 t2 x y, Same G G2 → RepS k c G2 σ H2 e2 → RpK k G2 σ x t1 → RpK k G2 σ y t2 → Post k W c G2 σ K (g t1 t2 e2) → R x y H2) :
    TK k W fa σ H (fun x H1 => TK k W fb σ H1 (fun y H2 => R x y H2)) := by
  refine ⟨c, G, e, r, (Post.bind p).imp fun G1 H1 e1 t1 s1 r1 p1 x hx => ⟨c, G1, e1, r1, (Post.bind p1).imp fun G2 H2 e2 t2 s2 r2 p2 y hy => ?_⟩⟩
  exact h G2 H2 e2 t1 t2 x y (s1.trans s2) r2 (hx.mono s2) hy p2
theorem v_bin {op : Operator} {g : D → D → Option EV} (ho : OpR X (binaryOp op) r) (hg : OpG ⟨X.K, ct⟩ r g) (ha : SK X ct W a fa) (hb : SK X ct W b fb) : SV X ct W (.BinOp a op b pos) (vBin g fa fb) := PEw (pe_op ho ha hb) fun σ H Q q => by
  obtain ⟨c, G, e, re, p⟩ := q
  refine two re p fun G2 H2 e2 t1 t2 x y s r2 hx hy p2 => ?_
  split at p2
  · rename_i d1 d2 h1 h2
    cases hz : g d1 d2 with
    | none => rw [hz] at p2; exact p2.elim
    | some z =>
      rw [hz] at p2
      exact hg c G2 H2 σ e2 x y d1 d2 z Q r2 (.of r2 hx h1) (.of r2 hy h2) hz fun G' H' v s' r' hv => p2 G' H' s' r' v hv
  · exact p2.elim
theorem e_cmp {op : CmpOp} {g : D → D → Option Bool} (ho : OpR X (compareOp op) r) (hg : OpB ⟨X.K, ct⟩ r g) (ha : SK X ct W a fa) (hb : SK X ct W b fb) (hm : behindInMarks op b = false) : SE X ct W (.Compare a [op] [b] pos) (cB (tCmpF g fa fb)) := PEw (pe_cmpR ho ha hb hm) fun σ H Q q => by
  obtain ⟨c, G, e, re, p⟩ := q
  refine two re (R := fun x y H2 => r x y H2 Q) (Post.bind p) fun G2 H2 e2 t1 t2 x y s r2 hx hy p2 => ?_
  split at p2
  · rename_i d1 d2 h1 h2
    cases hz : g d1 d2 with
    | none => rw [hz] at p2; exact p2.elim
    | some z =>
      rw [hz] at p2
      exact hg G2 H2 x y d1 d2 z Q r2.gh (.of r2 hx h1) (.of r2 hy h2) hz ((p2.now r2).now r2 _ (.bl z))
  · exact p2.elim
theorem t_cmp {op : CmpOp} {g : D → D → Option Bool} (ho : OpR X (compareOp op) r) (hg : OpB ⟨X.K, ct⟩ r g) (ha : SK X ct W a fa) (hb : SK X ct W b fb) (hm : behindInMarks op b = false) : ST X ct W (.Compare a [op] [b] pos) (tCmpF g fa fb) := PTw (pt_cmpR ho ha hb hm) fun σ H Q q => by
  obtain ⟨c, G, e, re, p⟩ := q
  refine two re (R := fun x y H2 => r x y H2 (fun v H' => ∃ k, v = .bl k ∧ Q k H')) p fun G2 H2 e2 t1 t2 x y s r2 hx hy p2 => ?_
  split at p2
  · rename_i d1 d2 h1 h2
    cases hz : g d1 d2 with
    | none => rw [hz] at p2; exact p2.elim
    | some z =>
      rw [hz] at p2
      exact hg G2 H2 x y d1 d2 z _ r2.gh (.of r2 hx h1) (.of r2 hy h2) hz ⟨z, rfl, p2.now r2⟩
  · exact p2.elim
end
end MM
end
section
set_option Elab.async false
set_option linter.all false
set_option autoImplicit false
set_option maxRecDepth 100000
set_option maxHeartbeats 4000000
namespace MM
open PySem PySem.Spec L2

abbrev LIM : Nat := 1000000
theorem lim_le {n : Nat} (h : n ≤ LIM) : n ≤ sizeLine := by rw [sizeLine_eq]; exact Nat.le_trans h (by decide)
theorem lim_lt {n : Nat} (h : n ≤ LIM) : n < sizeLine := by rw [sizeLine_eq]; exact Nat.lt_of_le_of_lt h (by decide)

section
variable {k : Kc} {c : Fr} {G H : Hp} {σ : L2.St} {e : Env} {r1 r2 : R2} {Q : VK}
theorem OpG.or {g1 g2 g : D → D → Option EV} (h1 : OpG k r1 g1) (h2 : OpG k r2 g2) (h : ∀ a b z, g a b = some z → g1 a b = some z ∨ g2 a b = some z) : OpG k (fun x y H Q => r1 x y H Q ∨ r2 x y H Q) g := fun c G H σ e x y a b z Q r ra rb hz q => by
  rcases h a b z hz with w | w
  · exact .inl (h1 c G H σ e x y a b z Q r ra rb w q)
  · exact .inr (h2 c G H σ e x y a b z Q r ra rb w q)
theorem OpB.or {g1 g2 g : D → D → Option Bool} (h1 : OpB k r1 g1) (h2 : OpB k r2 g2) (h : ∀ a b z, g a b = some z → g1 a b = some z ∨ g2 a b = some z) : OpB k (fun x y H Q => r1 x y H Q ∨ r2 x y H Q) g := fun G H x y a b z Q r ra rb hz q => by
  rcases h a b z hz with w | w
  · exact .inl (h1 G H x y a b z Q r ra rb w q)
  · exact .inr (h2 G H x y a b z Q r ra rb w q)
/-- a scalar result -/
theorem fin_d {d : D} {v : V} (r : RepS k c G σ H e) (h : Rp k G v d) (q : ∀ G' H' v, Same G G' → RepS k c G' σ H' e → RpV k c G' σ H' e v (.d d) → Q v H') : Q v H := q G H v (Same.refl _) r h
/-- a new tuple -/
theorem fin_tup {ds : List D} {vs : List V} (r : RepS k c G σ H e) (h : Rps k G vs ds) (q : ∀ G' H' v, Same G G' → RepS k c G' σ H' e → RpV k c G' σ H' e v (.d (.tup ds)) → Q v H') : ∀ p, H p = none → Q (.ref p) (upd H p (.tup vs)) := fun p hp => by
  have gp := r.gh.free hp
  exact q _ _ _ (same_upd gp) (r.lay hp) (.tup (SqT.of upd_same) (h.mono (same_upd gp)))
/-- a new list -/
theorem fin_lst {ds : List D} {vs : List V} (r : RepS k c G σ H e) (h : Rps k G vs ds) (q : ∀ G' H' v, Same G G' → RepS k c G' σ H' e → RpV k c G' σ H' e v (.m (.lst ds)) → Q v H') : ∀ p, H p = none → Q (.ref p) (upd H p (.lst vs)) := fun p hp => by
  obtain ⟨r', m, l⟩ := r.newM (x := .lst ds) (o := .lst vs) hp ⟨vs, rfl, h⟩
  exact q _ _ _ (Same.refl _) r' ⟨p, rfl, m, l⟩
end

/-! ### arithmetic -/
def gI (f : Int → Int → Int) : D → D → Option EV
  | .int i, .int j => some (.d (.int (f i j)))
  | _, _ => none
def gIC (C : Int → Int → Prop) [∀ i j, Decidable (C i j)] (f : Int → Int → Int) : D → D → Option EV
  | .int i, .int j => if C i j then some (.d (.int (f i j))) else none
  | _, _ => none
theorem opG_I {k : Kc} {f : Int → Int → Int} : OpG k (rI0 fun i j => .int (f i j)) (gI f) := fun c G H σ e x y a b z Q r ra rb hz q => by
  unfold gI at hz
  split at hz
  · cases hz
    rw [ra.int, rb.int]
    exact ⟨_, _, rfl, rfl, fin_d r (.int _) q⟩
  · cases hz
theorem opG_IC {k : Kc} {C : Int → Int → Prop} [∀ i j, Decidable (C i j)] {f : Int → Int → Int} : OpG k (rI C fun i j => .int (f i j)) (gIC C f) := fun c G H σ e x y a b z Q r ra rb hz q => by
  unfold gIC at hz
  split at hz
  · split at hz
    · rename_i hc
      cases hz
      rw [ra.int, rb.int]
      exact ⟨_, _, rfl, rfl, hc, fin_d r (.int _) q⟩
    · cases hz
  · cases hz
instance : ∀ i j, Decidable (CMulW i j) := fun i j => inferInstanceAs (Decidable (_ < _))
instance : ∀ i j, Decidable (CDivW i j) := fun i j => inferInstanceAs (Decidable (_ ∧ _))
instance : ∀ i j, Decidable (CPow i j) := fun i j => inferInstanceAs (Decidable (_ ∧ _))
instance : ∀ i j, Decidable (CDiv i j) := fun i j => inferInstanceAs (Decidable (_ ∧ _))
def gAdd : D → D → Option EV
  | .int i, .int j => some (.d (.int (i + j)))
  | .str x, .str y => if x.length + y.length ≤ LIM then some (.d (.str (x ++ y))) else none
  | .lst xs, .lst ys => if xs.length + ys.length ≤ LIM then some (.m (.lst (xs ++ ys))) else none
  | .tup xs, .tup ys => if xs.length + ys.length ≤ LIM then some (.d (.tup (xs ++ ys))) else none
  | _, _ => none
def gMul : D → D → Option EV
  | .int i, .int j => if CMulW i j then some (.d (.int (i * j))) else none
  | .lst xs, .int j => if j ≤ 1000000 ∧ -1000000 ≤ j ∧ xs.length * j.toNat ≤ LIM then some (.m (.lst (List.replicate j.toNat xs).flatten)) else none
  | _, _ => none
abbrev gSub : D → D → Option EV := gI fun i j => i - j
abbrev gMod : D → D → Option EV := gIC (fun _ j => 0 < j) fun i j => i % j
abbrev gDiv : D → D → Option EV := gIC CDivW fun i j => i / j
abbrev gPow : D → D → Option EV := gIC CPow fun i j => i ^ j.toNat
section
variable {X : Cx} {ct : Ct} {W : WX} {pos : Pos} {a b : Expr} {fa fb : EM Tk}
theorem opG_add : OpG ⟨X.K, ct⟩ (fun x y H Q => (rI0 fun i j => .int (i + j)) x y H Q ∨ ((∃ i j, x = .str i ∧ y = .str j ∧ i.length + j.length ≤ sizeLine ∧ Q (.str (i ++ j)) H) ∨ (rCat x y H Q ∨ rCatA X.K x y H Q))) gAdd := fun c G H σ e x y a b z Q r ra rb hz q => by
  unfold gAdd at hz
  split at hz
  · cases hz
    rw [ra.int, rb.int]
    exact .inl ⟨_, _, rfl, rfl, fin_d r (.int _) q⟩
  · split at hz
    · rename_i hl
      cases hz
      rw [ra.str, rb.str]
      exact .inr (.inl ⟨_, _, rfl, rfl, lim_le hl, fin_d r (.str _) q⟩)
    · cases hz
  · split at hz
    · rename_i hl
      cases hz
      obtain ⟨p, vs, rfl, h1, r1⟩ := ra.lst r.gh
      obtain ⟨p', vs', rfl, h2, r2⟩ := rb.lst r.gh
      exact .inr (.inr (.inl ⟨_, _, _, _, rfl, rfl, h1, h2, by rw [r1.len, r2.len]; exact lim_le hl, fin_lst r (r1.app r2) q⟩))
    · cases hz
  · split at hz
    · rename_i hl
      cases hz
      obtain ⟨p, vs, rfl, h1, r1, g1⟩ := ra.tup r.gh
      obtain ⟨p', vs', rfl, h2, r2, g2⟩ := rb.tup r.gh
      refine .inr (.inr (.inr ⟨_, _, _, _, rfl, rfl, h1, h2, by rw [r1.len, r2.len]; exact lim_le hl, fun e1 => ?_, fun _ e2 => ?_, fun _ _ => fin_tup r (r1.app r2) q⟩))
      · subst e1
        cases r1
        exact fin_d r (.tup g2 r2) q
      · subst e2
        cases r2
        rw [List.append_nil] at q
        exact fin_d r (.tup g1 r1) q
    · cases hz
  · cases hz
theorem v_add (ha : SK X ct W a fa) (hb : SK X ct W b fb) : SV X ct W (.BinOp a .Add b pos) (vBin gAdd fa fb) := v_bin (op_add.or (op_add_str.or (op_cat.or op_catA))) opG_add ha hb
theorem v_sub (ha : SK X ct W a fa) (hb : SK X ct W b fb) : SV X ct W (.BinOp a .Sub b pos) (vBin gSub fa fb) := v_bin op_sub opG_I ha hb
theorem v_mod (ha : SK X ct W a fa) (hb : SK X ct W b fb) : SV X ct W (.BinOp a .Mod b pos) (vBin gMod fa fb) := v_bin op_mod opG_IC ha hb
theorem v_div (ha : SK X ct W a fa) (hb : SK X ct W b fb) : SV X ct W (.BinOp a .FloorDiv b pos) (vBin gDiv fa fb) := v_bin op_fdivW opG_IC ha hb
theorem v_pow (ha : SK X ct W a fa) (hb : SK X ct W b fb) : SV X ct W (.BinOp a .Pow b pos) (vBin gPow fa fb) := v_bin op_pow opG_IC ha hb
theorem opG_mul : OpG ⟨X.K, ct⟩ (fun x y H Q => (rI CMulW fun i j => .int (i * j)) x y H Q ∨ rRep x y H Q) gMul := fun c G H σ e x y a b z Q r ra rb hz q => by
  unfold gMul at hz
  split at hz
  · split at hz
    · rename_i hl
      cases hz
      rw [ra.int, rb.int]
      exact .inl ⟨_, _, rfl, rfl, hl, fin_d r (.int _) q⟩
    · cases hz
  · split at hz
    · rename_i hl
      cases hz
      obtain ⟨p, vs, rfl, h1, r1⟩ := ra.lst r.gh
      rw [rb.int]
      exact .inr ⟨_, _, _, rfl, rfl, h1, by omega, by omega, by rw [r1.len]; exact lim_le hl.2.2, fin_lst r (r1.rep _) q⟩
    · cases hz
  · cases hz
theorem v_mul (ha : SK X ct W a fa) (hb : SK X ct W b fb) : SV X ct W (.BinOp a .Mult b pos) (vBin gMul fa fb) := v_bin (op_mulW.or op_rep) opG_mul ha hb
end

/-! ### comparisons -/
mutual
/-- data as the library has it (objects and dicts are not compared so) -/
def D.py : D → PyData
  | .non => .none
  | .bl b => .bool b
  | .int i => .int i
  | .str x => .str x
  | .lst xs => .list (D.pys xs)
  | .tup xs => .tuple (D.pys xs)
  | .obj _ _ => .none
  | .dic _ _ => .none
  | .scr _ => .none
  | .rng _ _ => .none
  | .thk _ => .none
  | .lam _ => .none
def D.pys : List D → List PyData
  | [] => []
  | x :: xs => D.py x :: D.pys xs
end
mutual
def D.flat : D → Bool
  | .obj _ _ => false
  | .dic _ _ => false
  | .scr _ => false
  | .rng _ _ => false
  | .thk _ => false
  | .lam _ => false
  | .lst xs => D.flats xs
  | .tup xs => D.flats xs
  | _ => true
def D.flats : List D → Bool
  | [] => true
  | x :: xs => D.flat x && D.flats xs
end
mutual
theorem Rp.dp {k : Kc} {G : Hp} : ∀ {v : V} {d : D}, Rp k G v d → d.flat = true → Dp k.K G v d.py
  | _, _, .non, _ => by rw [D.py]; exact .non
  | _, _, .bl b, _ => by rw [D.py]; exact .bl b
  | _, _, .int i, _ => by rw [D.py]; exact .int i
  | _, _, .str x, _ => by rw [D.py]; exact .str x
  | _, _, .lst h r, f => by
    rw [D.py]
    rw [D.flat] at f
    exact .lst (SqL.of h) (Rps.dp r f)
  | _, _, .tup h r, f => by
    rw [D.py]
    rw [D.flat] at f
    exact .tup h (Rps.dp r f)
  | _, _, .obj _ _ _, f => by rw [D.flat] at f; cases f
  | _, _, .dic _ _ _, f => by rw [D.flat] at f; cases f
  | _, _, .scr _, f => by rw [D.flat] at f; cases f
  | _, _, .rng _, f => by rw [D.flat] at f; cases f
  | _, _, .thk _, f => by rw [D.flat] at f; cases f
  | _, _, .lam _, f => by rw [D.flat] at f; cases f
theorem Rps.dp {k : Kc} {G : Hp} : ∀ {vs : List V} {ds : List D}, Rps k G vs ds → D.flats ds = true → DpAll k.K G vs (D.pys ds)
  | _, _, .nil, _ => by rw [D.pys]; exact .nil
  | _, _, .cons a b, f => by
    rw [D.pys]
    rw [D.flats, Bool.and_eq_true] at f
    exact .cons (Rp.dp a f.1) (Rps.dp b f.2)
end
mutual
theorem dp_mono {K : PySem.W.Frag} {G H : Hp} (s : Same G H) : ∀ {v : V} {d : PyData}, Dp K G v d → Dp K H v d
  | _, _, .non => .non
  | _, _, .bl b => .bl b
  | _, _, .int i => .int i
  | _, _, .str x => .str x
  | _, _, .lst h r => .lst (s.seq h) (dps_mono s r)
  | _, _, .tup h r => .tup (seqT s h) (dps_mono s r)
theorem dps_mono {K : PySem.W.Frag} {G H : Hp} (s : Same G H) : ∀ {v : List V} {d : List PyData}, DpAll K G v d → DpAll K H v d
  | _, _, .nil => .nil
  | _, _, .cons a b => .cons (dp_mono s a) (dps_mono s b)
end
theorem RB.dp {k : Kc} {G H : Hp} {v : V} {d : D} (g : Same G H) (h : RB k G H v d) (f : d.flat = true) : Dp k.K H v d.py := by
  rcases h with h | ⟨a, o, x, rfl, h1, h2, h3⟩
  · exact dp_mono g (h.dp f)
  · cases x with
    | lst es =>
      have e1 : D.lst es = d := Option.some.inj h3
      subst e1
      obtain ⟨vs, rfl, r⟩ := h2
      rw [D.py]
      rw [D.flat] at f
      exact .lst (SqL.of h1) (dps_mono g (r.dp f))
    | dic ks es =>
      have e1 : D.dic ks es = d := Option.some.inj h3
      subst e1
      rw [D.flat] at f; cases f
    | obj c' ns es =>
      have h3 : (if ns = clsNames c' then some (D.obj c' es) else none) = some d := h3
      by_cases hn : ns = clsNames c'
      · rw [if_pos hn] at h3
        have e1 : D.obj c' es = d := Option.some.inj h3
        subst e1
        rw [D.flat] at f; cases f
      · rw [if_neg hn] at h3; cases h3
/-- data that == tells -/
def okD (d : D) : Bool := d.flat && SeqAt.shaped d.py
def gEq (a b : D) : Option Bool := if okD a = true ∧ okD b = true then some (PyData.eqv a.py b.py) else none
def gNe (a b : D) : Option Bool := (gEq a b).map not
def gCmpI (f : Int → Int → Bool) : D → D → Option Bool
  | .int i, .int j => some (f i j)
  | _, _ => none
abbrev gLt := gCmpI fun i j => decide (i < j)
abbrev gLe := gCmpI fun i j => decide (i ≤ j)
abbrev gGt := gCmpI fun i j => decide (j < i)
abbrev gGe := gCmpI fun i j => decide (j ≤ i)
def D.isN : D → Bool
  | .non => true
  | _ => false
def gIsN (a b : D) : Option Bool := match b with
  | .non => some a.isN
  | _ => none
def gNotN (a b : D) : Option Bool := (gIsN a b).map not
/-- scalars -/
def D.sc : D → Bool
  | .non => true
  | .bl _ => true
  | .int _ => true
  | .str _ => true
  | _ => false
def eqS : D → D → Bool
  | .non, .non => true
  | .bl a, .bl b => a == b
  | .bl a, .int b => (if a then 1 else 0) == b
  | .int a, .bl b => a == (if b then 1 else 0)
  | .int a, .int b => a == b
  | .str a, .str b => a == b
  | _, _ => false
def keyD : D → Option Key
  | .int i => some (.inl i)
  | .str x => some (.inr x)
  | _ => none
def gIn (a : D) : D → Option Bool
  | .lst xs => if a.sc = true ∧ xs.all D.sc = true then some (xs.any fun y => eqS y a) else
      if okD a = true ∧ okD (.lst xs) = true then some (xs.any fun y => PyData.eqv y.py a.py) else none
  | .tup xs => if a.sc = true ∧ xs.all D.sc = true then some (xs.any fun y => eqS y a) else none
  | _ => none
def gNotIn (a b : D) : Option Bool := (gIn a b).map not
section
variable {X : Cx} {ct : Ct} {W : WX} {pos : Pos} {a b : Expr} {fa fb : EM Tk}
theorem opB_eq {k : Kc} : OpB k (rEqD k.K) gEq := fun G H x y a b z Q g ra rb hz q => by
  unfold gEq at hz
  split at hz
  · rename_i hc
    have h1 := hc.1
    have h2 := hc.2
    unfold okD at h1 h2
    rw [Bool.and_eq_true] at h1 h2
    cases hz
    exact ⟨_, _, ra.dp g h1.1, rb.dp g h2.1, h1.2, h2.2, q⟩
  · cases hz
theorem opB_ne {k : Kc} : OpB k (rNeD k.K) gNe := fun G H x y a b z Q g ra rb hz q => by
  unfold gNe gEq at hz
  split at hz
  · rename_i hc
    have h1 := hc.1
    have h2 := hc.2
    unfold okD at h1 h2
    rw [Bool.and_eq_true] at h1 h2
    cases hz
    exact ⟨_, _, ra.dp g h1.1, rb.dp g h2.1, h1.2, h2.2, q⟩
  · cases hz
theorem opB_I {k : Kc} {f : Int → Int → Bool} : OpB k (rI0 fun i j => .bl (f i j)) (gCmpI f) := fun G H x y a b z Q g ra rb hz q => by
  unfold gCmpI at hz
  split at hz
  · cases hz
    rw [ra.int, rb.int]
    exact ⟨_, _, rfl, rfl, q⟩
  · cases hz
theorem RB.isN {k : Kc} {G H : Hp} {v : V} {d : D} (h : RB k G H v d) : decide (v = .non) = d.isN := by
  rcases h with h | ⟨a, o, x, rfl, h1, h2, h3⟩
  · cases h <;> simp [D.isN]
  · cases x with
    | lst es => cases h3; simp [D.isN]
    | dic ks es => cases h3; simp [D.isN]
    | obj c' ns es =>
      have h3 : (if ns = clsNames c' then some (D.obj c' es) else none) = some d := h3
      by_cases hn : ns = clsNames c'
      · rw [if_pos hn] at h3; cases h3; simp [D.isN]
      · rw [if_neg hn] at h3; cases h3
theorem opB_isN {k : Kc} : OpB k (fun x y H Q => y = .non ∧ Q (.bl (decide (x = .non))) H) gIsN := fun G H x y a b z Q g ra rb hz q => by
  unfold gIsN at hz
  split at hz
  · cases hz
    exact ⟨rb.non, by rw [ra.isN]; exact q⟩
  · cases hz
theorem opB_notN {k : Kc} : OpB k (fun x y H Q => y = .non ∧ Q (.bl (!decide (x = .non))) H) gNotN := fun G H x y a b z Q g ra rb hz q => by
  unfold gNotN gIsN at hz
  split at hz
  · cases hz
    exact ⟨rb.non, by rw [ra.isN]; exact q⟩
  · cases hz
theorem Rp.sc {k : Kc} {G : Hp} {v : V} {d : D} (h : Rp k G v d) (f : d.sc = true) : flatV v = true := by
  cases h <;> first | rfl | (simp [D.sc] at f)
theorem RB.sc {k : Kc} {G H : Hp} {v : V} {d : D} (h : RB k G H v d) (f : d.sc = true) : Rp k G v d := by
  rcases h with h | ⟨a, o, x, rfl, h1, h2, h3⟩
  · exact h
  · cases x with
    | lst es => cases h3; simp [D.sc] at f
    | dic ks es => cases h3; simp [D.sc] at f
    | obj c' ns es =>
      have h3 : (if ns = clsNames c' then some (D.obj c' es) else none) = some d := h3
      by_cases hn : ns = clsNames c'
      · rw [if_pos hn] at h3; cases h3; simp [D.sc] at f
      · rw [if_neg hn] at h3; cases h3
theorem eqV_sc {k : Kc} {G : Hp} {x y : V} {a b : D} (ha : Rp k G x a) (hb : Rp k G y b) (fa : a.sc = true) (fb : b.sc = true) : eqV x y = eqS a b := by
  cases ha <;> first | (simp [D.sc] at fa; done) | (cases hb <;> first | (simp [D.sc] at fb; done) | rfl)
theorem Rps.scs {k : Kc} {G : Hp} : ∀ {vs : List V} {ds : List D}, Rps k G vs ds → ds.all D.sc = true → vs.all flatV = true
  | _, _, .nil, _ => rfl
  | _, _, .cons a b, f => by
    rw [List.all_cons, Bool.and_eq_true] at f
    rw [List.all_cons, a.sc f.1, Rps.scs b f.2]
    rfl
theorem Rps.anyS {k : Kc} {G : Hp} {x : V} {a : D} (hx : Rp k G x a) (fx : a.sc = true) : ∀ {vs : List V} {ds : List D}, Rps k G vs ds → ds.all D.sc = true → inV x vs = ds.any fun y => eqS y a
  | _, _, .nil, _ => rfl
  | _, _, .cons p q, f => by
    rw [List.all_cons, Bool.and_eq_true] at f
    unfold inV
    rw [List.any_cons, List.any_cons, eqV_sc p hx f.1 fx]
    have := Rps.anyS hx fx q f.2
    unfold inV at this
    rw [this]
theorem pys_any {p : PyData → Bool} : ∀ xs : List D, (D.pys xs).any p = xs.any fun y => p y.py
  | [] => by rw [D.pys]; rfl
  | x :: xs => by rw [D.pys, List.any_cons, List.any_cons, pys_any xs]
theorem opB_in {k : Kc} : OpB k (fun x y H Q => rIn k.K false x y H Q ∨ rInD k.K x y H Q) gIn := fun G H x y a b z Q g ra rb hz q => by
  unfold gIn at hz
  split at hz
  · split at hz
    · rename_i hc
      cases hz
      obtain ⟨p, vs, rfl, h1, r1⟩ := rb.lst g
      have rx := ra.sc hc.1
      refine .inl ⟨_, _, rfl, .inl (SqL.of h1), rx.sc hc.1, r1.scs hc.2, ?_⟩
      rw [if_neg Bool.false_ne_true, r1.anyS rx hc.1 hc.2]
      exact q
    · split at hz
      · rename_i hc
        cases hz
        have h1 := hc.1
        have h2 := hc.2
        unfold okD at h1 h2
        rw [Bool.and_eq_true] at h1 h2
        have d2 := rb.dp g h2.1
        have s2 := h2.2
        rw [D.py] at d2 s2
        refine .inr ⟨_, _, ra.dp g h1.1, d2, h1.2, s2, ?_⟩
        rw [pys_any]
        exact q
      · cases hz
  · split at hz
    · rename_i hc
      cases hz
      obtain ⟨p, vs, rfl, h1, r1, _⟩ := rb.tup g
      have rx := ra.sc hc.1
      refine .inl ⟨_, _, rfl, .inr h1, rx.sc hc.1, r1.scs hc.2, ?_⟩
      rw [if_neg Bool.false_ne_true, r1.anyS rx hc.1 hc.2]
      exact q
    · cases hz
  · cases hz
theorem opB_notIn {k : Kc} : OpB k (fun x y H Q => rIn k.K true x y H Q ∨ rNotInD k.K x y H Q) gNotIn := fun G H x y a b z Q g ra rb hz q => by
  unfold gNotIn gIn at hz
  split at hz
  · split at hz
    · rename_i hc
      cases hz
      obtain ⟨p, vs, rfl, h1, r1⟩ := rb.lst g
      have rx := ra.sc hc.1
      refine .inl ⟨_, _, rfl, .inl (SqL.of h1), rx.sc hc.1, r1.scs hc.2, ?_⟩
      rw [if_pos rfl, r1.anyS rx hc.1 hc.2]
      exact q
    · split at hz
      · rename_i hc
        cases hz
        have h1 := hc.1
        have h2 := hc.2
        unfold okD at h1 h2
        rw [Bool.and_eq_true] at h1 h2
        have d2 := rb.dp g h2.1
        have s2 := h2.2
        rw [D.py] at d2 s2
        refine .inr ⟨_, _, ra.dp g h1.1, d2, h1.2, s2, ?_⟩
        rw [pys_any]
        exact q
      · cases hz
  · split at hz
    · rename_i hc
      cases hz
      obtain ⟨p, vs, rfl, h1, r1, _⟩ := rb.tup g
      have rx := ra.sc hc.1
      refine .inl ⟨_, _, rfl, .inr h1, rx.sc hc.1, r1.scs hc.2, ?_⟩
      rw [if_pos rfl, r1.anyS rx hc.1 hc.2]
      exact q
    · cases hz
  · cases hz
end
/-- a comparison's rule: its operator, what it tells of data -/
structure CmpX (X : Cx) (ct : Ct) (op : CmpOp) (g : D → D → Option Bool) : Prop where
  ex : ∃ r, OpR X (compareOp op) r ∧ OpB ⟨X.K, ct⟩ r g
section
variable {X : Cx} {ct : Ct} {W : WX} {pos : Pos} {a b : Expr} {fa fb : EM Tk} {kk : Nat}
theorem x_eq (hr : Room kk X.A) : CmpX X ct .Eq gEq := ⟨_, op_eqD hr.units, opB_eq (k := ⟨X.K, ct⟩)⟩
theorem x_ne (hr : Room kk X.A) : CmpX X ct .NotEq gNe := ⟨_, op_neD hr.units, opB_ne (k := ⟨X.K, ct⟩)⟩
theorem x_lt : CmpX X ct .Lt gLt := ⟨_, op_lt, opB_I⟩
theorem x_le : CmpX X ct .LtE gLe := ⟨_, op_le, opB_I⟩
theorem x_gt : CmpX X ct .Gt gGt := ⟨_, op_gt, opB_I⟩
theorem x_ge : CmpX X ct .GtE gGe := ⟨_, op_ge, opB_I⟩
theorem x_isN : CmpX X ct .Is gIsN := ⟨_, op_isN, opB_isN⟩
theorem x_notN : CmpX X ct .IsNot gNotN := ⟨_, op_notN, opB_notN⟩
theorem hu65 {A : Around} (hr : Room kk A) : A.units + 65 < cLine := by have := hr.un; omega
theorem x_in (hr : Room kk X.A) : CmpX X ct .In gIn := ⟨_, op_in_seq.or (op_inD (hu65 hr)), opB_in (k := ⟨X.K, ct⟩)⟩
theorem x_notIn (hr : Room kk X.A) : CmpX X ct .NotIn gNotIn := ⟨_, op_notIn_seq.or (op_notInD (hu65 hr)), opB_notIn (k := ⟨X.K, ct⟩)⟩
theorem e_cp {op : CmpOp} {g : D → D → Option Bool} (h : CmpX X ct op g) (ha : SK X ct W a fa) (hb : SK X ct W b fb) (hm : behindInMarks op b = false) : SE X ct W (.Compare a [op] [b] pos) (cB (tCmpF g fa fb)) := by
  obtain ⟨r, h1, h2⟩ := h
  exact e_cmp h1 h2 ha hb hm
theorem t_cp {op : CmpOp} {g : D → D → Option Bool} (h : CmpX X ct op g) (ha : SK X ct W a fa) (hb : SK X ct W b fb) (hm : behindInMarks op b = false) : ST X ct W (.Compare a [op] [b] pos) (tCmpF g fa fb) := by
  obtain ⟨r, h1, h2⟩ := h
  exact t_cmp h1 h2 ha hb hm
end
/-- a op b op c -/
def tChain (g g' : D → D → Option Bool) (fa fb fc : EM Tk) : EM Bool := fun e => (fa e).bind fun t1 e1 => (fb e1).bind fun t2 e2 => match rdK e2 t1, rdK e2 t2 with
  | some a, some b => (resB (g a b) e2).bind fun z e3 => if z = true then (fc e3).bind fun t3 e4 => (match rdK e4 t2, rdK e4 t3 with
      | some b', some c' => resB (g' b' c') e4
      | _, _ => .stuck) else .ok false e3
  | _, _ => .stuck
section
variable {X : Cx} {ct : Ct} {W : WX} {pos : Pos} {a b c : Expr} {fa fb fc : EM Tk} {op op' : CmpOp} {g g' : D → D → Option Bool}
theorem t_chain (h : CmpX X ct op g) (h' : CmpX X ct op' g') (ha : SK X ct W a fa) (hb : SK X ct W b fb) (hc : SK X ct W c fc) (hm : lastMarks [op, op'] [b, c] = false := by with_unfolding_all rfl) : ST X ct W (.Compare a [op, op'] [b, c] pos) (tChain g g' fa fb fc) := by
  obtain ⟨r, h1, h2⟩ := h
  obtain ⟨r', h1', h2'⟩ := h'
  refine PTw (pt_chain h1 h1' ha hb hc hm) fun σ H Q q => ?_
  obtain ⟨cc, G, e, re, p⟩ := q
  refine two re (R := fun x y H2 => r x y H2 fun z H3 => ∃ k, z = .bl k ∧ if k = true then TK ⟨X.K, ct⟩ W fc σ H3 fun w H4 => r' y w H4 (fun v H' => ∃ k, v = .bl k ∧ Q k H') else ∃ k, V.bl false = .bl k ∧ Q k H3) p fun G2 H2 e2 t1 t2 x y s r2 hx hy p2 => ?_
  split at p2
  · rename_i d1 d2 q1 q2
    cases hz : g d1 d2 with
    | none => rw [hz] at p2; exact p2.elim
    | some z =>
      rw [hz] at p2
      refine h2 G2 H2 x y d1 d2 z _ r2.gh (.of r2 hx q1) (.of r2 hy q2) hz ⟨z, rfl, ?_⟩
      have p3 : Post ⟨X.K, ct⟩ W cc G2 σ (fun G' H' x b => Q b H') (if z = true then (fc e2).bind fun t3 e4 => (match rdK e4 t2, rdK e4 t3 with | some b', some c' => resB (g' b' c') e4 | _, _ => .stuck) else .ok false e2) := p2
      cases z with
      | false => exact ⟨false, rfl, p3.now r2⟩
      | true =>
        rw [if_pos rfl] at p3 ⊢
        refine ⟨cc, G2, e2, r2, (Post.bind p3).imp fun G4 H4 e4 t3 s4 r4 p4 w hw => ?_⟩
        split at p4
        · rename_i d3 d4 q3 q4
          cases hz' : g' d3 d4 with
          | none => rw [hz'] at p4; exact p4.elim
          | some z' =>
            rw [hz'] at p4
            exact h2' G4 H4 y w d3 d4 z' _ r4.gh (.of r4 (hy.mono s4) q3) (.of r4 hw q4) hz' ⟨z', rfl, p4.now r4⟩
        · exact p4.elim
  · exact p2.elim
theorem e_chain (h : CmpX X ct op g) (h' : CmpX X ct op' g') (ha : SK X ct W a fa) (hb : SK X ct W b fb) (hc : SK X ct W c fc) (hm : lastMarks [op, op'] [b, c] = false := by with_unfolding_all rfl) : SE X ct W (.Compare a [op, op'] [b, c] pos) (cB (tChain g g' fa fb fc)) := by
  obtain ⟨r, h1, h2⟩ := h
  obtain ⟨r', h1', h2'⟩ := h'
  refine PEw (pe_chain h1 h1' ha hb hc hm) fun σ H Q q => ?_
  obtain ⟨cc, G, e, re, p⟩ := q
  refine two re (R := fun x y H2 => r x y H2 fun z H3 => ∃ k, z = .bl k ∧ if k = true then TK ⟨X.K, ct⟩ W fc σ H3 fun w H4 => r' y w H4 Q else Q (.bl false) H3) (Post.bind p) fun G2 H2 e2 t1 t2 x y s r2 hx hy p2 => ?_
  split at p2
  · rename_i d1 d2 q1 q2
    cases hz : g d1 d2 with
    | none => rw [hz] at p2; exact p2.elim
    | some z =>
      rw [hz] at p2
      refine h2 G2 H2 x y d1 d2 z _ r2.gh (.of r2 hx q1) (.of r2 hy q2) hz ⟨z, rfl, ?_⟩
      have p3 : Post ⟨X.K, ct⟩ W cc G2 σ (fun G1 H1 e1 a => Post ⟨X.K, ct⟩ W cc G1 σ (fun G' H' x d => ∀ v, Rp ⟨X.K, ct⟩ G' v d → Q v H') (Res.ok (D.bl a) e1)) (if z = true then (fc e2).bind fun t3 e4 => (match rdK e4 t2, rdK e4 t3 with | some b', some c' => resB (g' b' c') e4 | _, _ => .stuck) else .ok false e2) := p2
      cases z with
      | false => exact (p3.now r2).now r2 _ (.bl false)
      | true =>
        rw [if_pos rfl] at p3 ⊢
        refine ⟨cc, G2, e2, r2, (Post.bind p3).imp fun G4 H4 e4 t3 s4 r4 p4 w hw => ?_⟩
        split at p4
        · rename_i d3 d4 q3 q4
          cases hz' : g' d3 d4 with
          | none => rw [hz'] at p4; exact p4.elim
          | some z' =>
            rw [hz'] at p4
            exact h2' G4 H4 y w d3 d4 z' _ r4.gh (.of r4 (hy.mono s4) q3) (.of r4 hw q4) hz' ((p4.now r4).now r4 _ (.bl z'))
        · exact p4.elim
  · exact p2.elim
end
end MM
end
section
set_option Elab.async false
set_option linter.all false
set_option autoImplicit false
set_option maxRecDepth 100000
set_option maxHeartbeats 4000000
namespace MM
open PySem PySem.Spec L2

/-! ### tests -/
def D.bool? : D → Option Bool
  | .bl b => some b
  | _ => none
/-- truth -/
def D.tru : D → Option Bool
  | .non => some false
  | .bl b => some b
  | .int i => some (i != 0)
  | .lst xs => some (!xs.isEmpty)
  | .tup xs => some (!xs.isEmpty)
  | .dic ks _ => some (!ks.isEmpty)
  | _ => none
def tVal (f : EM D) : EM Bool := fun e => (f e).bind fun d e1 => resB d.bool? e1
def tTru (f : EM Tk) : EM Bool := fun e => (f e).bind fun t e1 => match rdK e1 t with
  | some d => resB d.tru e1
  | none => .stuck
def tAndF (f g : EM Bool) : EM Bool := fun e => (f e).bind fun b e1 => if b = true then g e1 else .ok false e1
def tOrF (f g : EM Bool) : EM Bool := fun e => (f e).bind fun b e1 => if b = true then .ok true e1 else g e1
def tNotF (f : EM Bool) : EM Bool := fun e => (f e).bind fun b e1 => .ok (!b) e1
def cIf (t : EM Bool) (f g : EM D) : EM D := fun e => (t e).bind fun b e1 => if b = true then f e1 else g e1
def vIf (t : EM Bool) (f g : EM EV) : EM EV := fun e => (t e).bind fun b e1 => if b = true then f e1 else g e1
abbrev SW (X : Cx) (ct : Ct) (W : WX) (e : Expr) (f : EM Bool) : Prop := PW X e (TT ⟨X.K, ct⟩ W f)
theorem PWw {X : Cx} {e : Expr} {t t' : L2.TT} (h : PW X e t) (w : ∀ σ H Q, t' σ H Q → t σ H Q) : PW X e t' := ⟨fun wh pins s σ H Q I q => h.run wh pins s σ H Q I (w σ H Q q)⟩
section
variable {X : Cx} {ct : Ct} {W : WX} {pos : Pos} {a b c : Expr} {rest : List Expr} {f g : EM Bool} {fe ge : EM D} {fk : EM Tk} {fv gv : EM EV}
theorem t_val (h : SE X ct W a fe) (he : ∀ whole, isTrue a X.env whole = (do let v ← whole; standAt a.pos; holding [v] (truthy v)) := by intro _; rfl) : ST X ct W a (tVal fe) := PTw (pt_val h he) fun σ H Q q => by
  obtain ⟨c, G, e, r, p⟩ := q
  refine ⟨c, G, e, r, (Post.bind p).imp fun G' H' e' d s r' h v hv => ?_⟩
  cases d with
  | bl b => cases hv; exact ⟨b, rfl, h.now r'⟩
  | _ => exact h.elim
theorem RB.tru {k : Kc} {G H : Hp} {v : V} {d : D} {z : Bool} (g : Same G H) (h : RB k G H v d) (hz : d.tru = some z) : TruV k.K v H z := by
  cases d with
  | non => cases hz; rw [h.non]; rfl
  | bl b => cases hz; rw [h.bl]; rfl
  | int i => cases hz; rw [h.int]; rfl
  | str x => cases hz
  | lst xs =>
    cases hz
    obtain ⟨p, vs, rfl, h1, r1⟩ := h.lst g
    exact .inl ⟨vs, SqL.of h1, by cases r1 <;> rfl⟩
  | tup xs =>
    cases hz
    obtain ⟨p, vs, rfl, h1, r1, _⟩ := h.tup g
    exact .inr (.inl ⟨vs, h1, by cases r1 <;> rfl⟩)
  | dic ks xs =>
    cases hz
    obtain ⟨p, kvs, rfl, h1, n, _⟩ := h.dic g
    refine .inr (.inr ⟨kvs, h1, ?_⟩)
    subst n
    cases kvs <;> rfl
  | obj c xs => cases hz
  | scr ns => cases hz
  | rng _ _ => cases hz
  | thk _ => cases hz
  | lam _ => cases hz
theorem t_tru (h : SK X ct W a fk) (he : ∀ whole, isTrue a X.env whole = (do let v ← whole; standAt a.pos; holding [v] (truthy v)) := by intro _; rfl) : ST X ct W a (tTru fk) := PTw (pt_truth h he) fun σ H Q q => by
  obtain ⟨c, G, e, r, p⟩ := q
  refine ⟨c, G, e, r, (Post.bind p).imp fun G' H' e' t s r' h v hv => ?_⟩
  have h2 : Post _ W c G' σ (fun G' H' x b => Q b H') (match rdK e' t with | some d => resB d.tru e' | none => .stuck) := h
  split at h2
  · rename_i d hd
    cases hz : d.tru with
    | none => rw [hz] at h2; exact h2.elim
    | some z =>
      rw [hz] at h2
      exact ⟨z, (RB.of r' hv hd).tru r'.gh hz, h2.now r'⟩
  · exact h2.elim
theorem w_and1 (h : ST X ct W a f) : SW X ct W (.BoolOp .And [a] pos) f := pw_and1 h
theorem w_or1 (h : ST X ct W a f) : SW X ct W (.BoolOp .Or [a] pos) f := pw_or1 h
theorem w_and (h : ST X ct W a f) (h2 : SW X ct W (.BoolOp .And (b :: rest) pos) g) : SW X ct W (.BoolOp .And (a :: b :: rest) pos) (tAndF f g) := PWw (pw_and h h2) fun σ H Q q => by
  obtain ⟨c, G, e, r, p⟩ := q
  refine ⟨c, G, e, r, (Post.bind p).imp fun G' H' e' d s r' h => ?_⟩
  cases d with
  | true => exact ⟨c, G', e', r', h⟩
  | false => exact h.now r'
theorem w_or (h : ST X ct W a f) (h2 : SW X ct W (.BoolOp .Or (b :: rest) pos) g) : SW X ct W (.BoolOp .Or (a :: b :: rest) pos) (tOrF f g) := PWw (pw_or h h2) fun σ H Q q => by
  obtain ⟨c, G, e, r, p⟩ := q
  refine ⟨c, G, e, r, (Post.bind p).imp fun G' H' e' d s r' h => ?_⟩
  cases d with
  | true => exact h.now r'
  | false => exact ⟨c, G', e', r', h⟩
theorem t_w (h : SW X ct W a f) : ST X ct W a f := h.pt
theorem t_not (h : ST X ct W a f) : ST X ct W (.UnaryOp .Not a pos) (tNotF f) := PTw (pt_not h) fun σ H Q q => by
  obtain ⟨c, G, e, r, p⟩ := q
  exact ⟨c, G, e, r, (Post.bind p).imp fun G' H' e' d s r' h => h.now r'⟩
-- the same as values, of bools
theorem e_one {op : BoolOp} (h : SE X ct W a fe) : SE X ct W (.BoolOp op [a] pos) fe := pe_one h
theorem e_and (h : SE X ct W a fe) (h2 : SE X ct W (.BoolOp .And (b :: rest) pos) ge) : SE X ct W (.BoolOp .And (a :: b :: rest) pos) (cIf (tVal fe) ge (cC (.bl false))) := PEw (pe_and h h2) fun σ H Q q => by
  obtain ⟨c, G, e, r, p⟩ := q
  refine ⟨c, G, e, r, (Post.bind (Post.bind p)).imp fun G' H' e' d s r' h v hv => ?_⟩
  cases d with
  | bl b =>
    cases hv
    refine ⟨b, rfl, ?_⟩
    have h2 := h.now r'
    cases b with
    | true => exact ⟨c, G', e', r', h2⟩
    | false => exact h2.now r' _ (.bl false)
  | _ => exact h.elim
theorem e_or (h : SE X ct W a fe) (h2 : SE X ct W (.BoolOp .Or (b :: rest) pos) ge) : SE X ct W (.BoolOp .Or (a :: b :: rest) pos) (cIf (tVal fe) (cC (.bl true)) ge) := PEw (pe_or h h2) fun σ H Q q => by
  obtain ⟨c, G, e, r, p⟩ := q
  refine ⟨c, G, e, r, (Post.bind (Post.bind p)).imp fun G' H' e' d s r' h v hv => ?_⟩
  cases d with
  | bl b =>
    cases hv
    refine ⟨b, rfl, ?_⟩
    have h2 := h.now r'
    cases b with
    | false => exact ⟨c, G', e', r', h2⟩
    | true => exact h2.now r' _ (.bl true)
  | _ => exact h.elim
theorem e_not (h : SE X ct W a fe) : SE X ct W (.UnaryOp .Not a pos) (cB (tNotF (tVal fe))) := PEw (pe_not h) fun σ H Q q => by
  obtain ⟨c, G, e, r, p⟩ := q
  refine ⟨c, G, e, r, (Post.bind (Post.bind (Post.bind p))).imp fun G' H' e' d s r' h v hv => ?_⟩
  cases d with
  | bl b =>
    cases hv
    exact ⟨b, rfl, ((h.now r').now r').now r' _ (.bl _)⟩
  | _ => exact h.elim
theorem e_if (h : ST X ct W c f) (ha : SE X ct W a fe) (hb : SE X ct W b ge) : SE X ct W (.IfExp c a b pos) (cIf f fe ge) := PEw (pe_ifExp h ha hb) fun σ H Q q => by
  obtain ⟨c, G, e, r, p⟩ := q
  refine ⟨c, G, e, r, (Post.bind p).imp fun G' H' e' d s r' h => ?_⟩
  cases d with
  | true => exact ⟨c, G', e', r', h⟩
  | false => exact ⟨c, G', e', r', h⟩
theorem v_if (h : ST X ct W c f) (ha : SV X ct W a fv) (hb : SV X ct W b gv) : SV X ct W (.IfExp c a b pos) (vIf f fv gv) := PEw (pe_ifExp h ha hb) fun σ H Q q => by
  obtain ⟨c, G, e, r, p⟩ := q
  refine ⟨c, G, e, r, (Post.bind p).imp fun G' H' e' d s r' h => ?_⟩
  cases d with
  | true => exact ⟨c, G', e', r', h⟩
  | false => exact ⟨c, G', e', r', h⟩
end

/-! ### one-place operations, attributes, places -/
def vUn (g : D → Option EV) (f : EM Tk) : EM EV := fun e => (f e).bind fun t e1 => match rdK e1 t with
  | some d => resV (g d) e1
  | none => .stuck
def cUn (g : D → Option D) (f : EM Tk) : EM D := fun e => (f e).bind fun t e1 => match rdK e1 t with
  | some d => (match g d with
    | some z => .ok z e1
    | none => .stuck)
  | none => .stuck
def gNeg : D → Option D
  | .int i => some (.int (-i))
  | _ => none
def gFld (c i : Nat) : D → Option D
  | .obj c' xs => if c' = c then xs[i]? else none
  | _ => none
/-- an item -/
def gIx : D → D → Option D
  | .lst xs, .int i => atI xs i
  | .tup xs, .int i => atI xs i
  | .scr ns, .int i => (atI ns i).map D.int
  | _, _ => none
def cBin (g : D → D → Option D) (fa fb : EM Tk) : EM D := fun e => (fa e).bind fun t1 e1 => (fb e1).bind fun t2 e2 => match rdK e2 t1, rdK e2 t2 with
  | some a, some b => (match g a b with
    | some z => .ok z e2
    | none => .stuck)
  | _, _ => .stuck
theorem Rps.atI {k : Kc} {G : Hp} {vs : List V} {ds : List D} {i : Int} {d : D} (r : Rps k G vs ds) (h : atI ds i = some d) : ∃ v, L2.atI vs i = some v ∧ Rp k G v d := by
  unfold L2.atI at h ⊢
  rw [r.len]
  cases q : ixN ds.length i with
  | none => rw [q] at h; cases h
  | some j =>
    rw [q] at h
    obtain ⟨v, h1, h2⟩ := r.get h
    exact ⟨v, h1, h2⟩
theorem atI_map {α β : Type} {f : α → β} {xs : List α} {i : Int} : L2.atI (xs.map f) i = (L2.atI xs i).map f := by
  unfold L2.atI
  rw [List.length_map]
  cases ixN xs.length i with
  | none => rfl
  | some j => show (xs.map f)[j]? = _; rw [List.getElem?_map]; rfl
theorem lookup_at {α : Type} {f : Str} : ∀ {fs : List (Str × α)} {i : Nat}, (fs.map (·.1)).findIdx? (· == f) = some i → fs.lookup f = (fs.map (·.2))[i]?
  | [], i, h => by simp at h
  | (g, x) :: r, i, h => by
    rw [List.map_cons, List.findIdx?_cons] at h
    by_cases hg : (g == f) = true
    · have e1 : g = f := by simpa using hg
      subst e1
      simp at h
      subst h
      simp [List.lookup]
    · rw [if_neg hg] at h
      cases q : (r.map (·.1)).findIdx? (· == f) with
      | none => rw [q] at h; cases h
      | some j =>
        rw [q] at h
        have e1 : j + 1 = i := by simpa using h
        subst e1
        have hg' : (f == g) = false := by
          cases z : (f == g) with
          | false => rfl
          | true =>
            have : f = g := by simpa using z
            subst this
            simp at hg
        simp only [List.lookup, hg', List.map_cons, List.getElem?_cons_succ]
        exact lookup_at q
section
variable {X : Cx} {ct : Ct} {W : WX} {pos : Pos} {a b c : Expr} {fa fb : EM Tk} {f : Str}
theorem one_d {k : Kc} {g : D → Option D} {cc : Fr} {G H : Hp} {σ : L2.St} {e : Env} {fa : EM Tk} {Q : VK} {R : V → Hp → Prop} (r : RepS k cc G σ H e)
    (p : Post k W cc G σ (fun G' H' _ d => ∀ v, Rp k G' v d → Q v H') (cUn g fa e))
    (h : ∀ G2 H2 e2 x d z, Same G G2 → RepS k cc G2 σ H2 e2 → RB k G2 H2 x d → g d = some z → (∀ v, Rp k G2 v z → Q v H2) → R x H2) : TK k W fa σ H R := by
  refine ⟨cc, G, e, r, (Post.bind p).imp fun G1 H1 e1 t s1 r1 p1 x hx => ?_⟩
  split at p1
  · rename_i d hd
    split at p1
    · rename_i z hz
      exact h G1 H1 e1 x d z s1 r1 (.of r1 hx hd) hz (p1.now r1)
    · exact p1.elim
  · exact p1.elim
theorem two_d {k : Kc} {g : D → D → Option D} {cc : Fr} {G H : Hp} {σ : L2.St} {e : Env} {fa fb : EM Tk} {Q : VK} {R : V → V → Hp → Prop} (r : RepS k cc G σ H e)
    (p : Post k W cc G σ (fun G' H' _ d => ∀ v, Rp k G' v d → Q v H') (cBin g fa fb e))
    (h : ∀ G2 H2 e2 x y d d' z, Same G G2 → RepS k cc G2 σ H2 e2 → RB k G2 H2 x d → RB k G2 H2 y d' → g d d' = some z → (∀ v, Rp k G2 v z → Q v H2) → R x y H2) : TK k W fa σ H fun x H1 => TK k W fb σ H1 fun y H2 => R x y H2 := by
  refine two r p fun G2 H2 e2 t1 t2 x y s r2 hx hy p2 => ?_
  split at p2
  · rename_i d1 d2 h1 h2
    split at p2
    · rename_i z hz
      exact h G2 H2 e2 x y d1 d2 z s r2 (.of r2 hx h1) (.of r2 hy h2) hz (p2.now r2)
    · exact p2.elim
  · exact p2.elim
theorem e_neg (ha : SK X ct W a fa) : SE X ct W (.UnaryOp .USub a pos) (cUn gNeg fa) := PEw (pe_un un_neg ha) fun σ H Q q => by
  obtain ⟨cc, G, e, r, p⟩ := q
  refine one_d r p fun G2 H2 e2 x d z s r2 hx hz q2 => ?_
  unfold gNeg at hz
  split at hz
  · cases hz
    rw [hx.int]
    exact ⟨_, rfl, q2 _ (.int _)⟩
  · cases hz
/-- the attribute that stands at the i-th place of the class's -/
theorem e_fld (cc i : Nat) (ha : SK X ct W a fa) (hi : (clsNames cc).findIdx? (· == f) = some i) (hc : Cls X.K (ct cc)) (hn : NoAttr X.K (ct cc) f) (hb : attributeBase a f X.env (eval a X.env) = eval a X.env := by rfl) : SE X ct W (.Attribute a f pos) (cUn (gFld cc i) fa) := PEw (pe_fld ha hb) fun σ H Q q => by
  obtain ⟨c0, G, e, r, p⟩ := q
  refine one_d r p fun G2 H2 e2 x d z s r2 hx hz q2 => ?_
  unfold gFld at hz
  split at hz
  · split at hz
    · rename_i he
      subst he
      obtain ⟨p1, dx, fs, rfl, h1, n, r1⟩ := hx.obj r2.gh
      obtain ⟨v, h3, h4⟩ := r1.get hz
      exact ⟨p1, _, dx, fs, v, rfl, h1, hc, hn, (lookup_at (by rw [n]; exact hi)).trans h3, q2 v h4⟩
    · cases hz
  · cases hz
theorem e_ix (ha : SK X ct W a fa) (hb : SK X ct W b fb) (hs : PlainIx b := by exact fun _ _ => rfl) : SE X ct W (.Subscript a b pos) (cBin gIx fa fb) := PEw (pe_ix ix_seq ha hb hs) fun σ H Q q => by
  obtain ⟨c0, G, e, r, p⟩ := q
  refine two_d r p fun G2 H2 e2 x y d d' z s r2 hx hy hz q2 => ?_
  unfold gIx at hz
  split at hz
  · obtain ⟨p1, vs, rfl, h1, r1⟩ := hx.lst r2.gh
    rw [hy.int]
    obtain ⟨v, h3, h4⟩ := r1.atI hz
    exact .inl ⟨_, _, _, v, rfl, rfl, SqL.of h1, h3, q2 v h4⟩
  · obtain ⟨p1, vs, rfl, h1, r1, _⟩ := hx.tup r2.gh
    rw [hy.int]
    obtain ⟨v, h3, h4⟩ := r1.atI hz
    exact .inr (.inl ⟨_, _, _, v, rfl, rfl, h1, h3, q2 v h4⟩)
  · rename_i ns i
    obtain ⟨p1, rfl, h1⟩ := hx.scr r2.gh
    rw [hy.int]
    cases hq : L2.atI ns i with
    | none => rw [hq] at hz; cases hz
    | some n =>
      rw [hq] at hz
      cases hz
      exact .inl ⟨_, _, _, .int n, rfl, rfl, h1, by rw [atI_map, hq]; rfl, q2 _ (.int n)⟩
  · cases hz
end

/-! ### argument lists, displays -/
def aNil : EM (List Tk) := fun e => .ok [] e
def aCons (f : EM Tk) (g : EM (List Tk)) : EM (List Tk) := fun e => (f e).bind fun t e1 => (g e1).bind fun ts e2 => .ok (t :: ts) e2
/-- all of them data -/
def vals : List Tk → Option (List D)
  | [] => some []
  | .val d :: ts => (vals ts).map (d :: ·)
  | .slot _ :: _ => none
def cTup (f : EM (List Tk)) : EM D := fun e => (f e).bind fun ts e1 => match vals ts with
  | some ds => if ds.length ≤ LIM then .ok (.tup ds) e1 else .stuck
  | none => .stuck
def vLst (f : EM (List Tk)) : EM EV := fun e => (f e).bind fun ts e1 => match vals ts with
  | some ds => if ds.length ≤ LIM then .ok (.m (.lst ds)) e1 else .stuck
  | none => .stuck
theorem vals_ok {k : Kc} {G : Hp} {σ : L2.St} : ∀ {ts : List Tk} {ds : List D} {vs : List V}, vals ts = some ds → RpKs k G σ vs ts → Rps k G vs ds
  | [], _, [], h, _ => by cases h; exact .nil
  | .val d :: ts, ds, v :: vs, h, q => by
    have h' : (vals ts).map (d :: ·) = some ds := h
    cases z : vals ts with
    | none => rw [z] at h'; cases h'
    | some es =>
      rw [z] at h'
      cases h'
      exact .cons q.1 (vals_ok z q.2)
  | .slot _ :: _, _, _, h, _ => by cases h
  | [], _, _ :: _, _, q => q.elim
  | .val _ :: _, _, [], _, q => q.elim
section
variable {X : Cx} {ct : Ct} {W : WX} {pos : Pos} {a : Expr} {es : List Expr} {fa : EM Tk} {fs : EM (List Tk)} {n : Nat}
theorem a_nil : SA X ct W [] aNil := PAw pa_nil fun σ H Q q => by
  obtain ⟨c, G, e, r, p⟩ := q
  exact p.now r [] trivial
theorem a_cons (ha : SK X ct W a fa) (hs : SA X ct W es fs) (hst : starEach (a :: es) X.env = (false, eval a X.env) :: starEach es X.env := by rfl) : SA X ct W (a :: es) (aCons fa fs) := PAw (pa_cons ha hs hst) fun σ H Q q => by
  obtain ⟨c, G, e, r, p⟩ := q
  refine ⟨c, G, e, r, (Post.bind p).imp fun G1 H1 e1 t s1 r1 p1 x hx => ⟨c, G1, e1, r1, (Post.bind p1).imp fun G2 H2 e2 ts s2 r2 p2 xs hxs => ?_⟩⟩
  exact p2.now r2 (x :: xs) ⟨hx.mono s2, hxs⟩
theorem e_tup (h : SA X ct W es fs) : SE X ct W (.Tuple es n pos) (cTup fs) := PEw (pe_tup h) fun σ H Q q => by
  obtain ⟨c, G, e, r, p⟩ := q
  refine ⟨c, G, e, r, (Post.bind p).imp fun G1 H1 e1 ts s1 r1 p1 vs hvs => ?_⟩
  split at p1
  · rename_i ds hd
    split at p1
    · rename_i hl
      have rr := vals_ok hd hvs
      refine ⟨by rw [rr.len]; exact lim_le hl, fin_tup r1 rr fun G' H' v s' r' hv => p1 G' H' s' r' v hv⟩
    · exact p1.elim
  · exact p1.elim
theorem v_lst (h : SA X ct W es fs) : SV X ct W (.List es pos) (vLst fs) := PEw (pe_lst h) fun σ H Q q => by
  obtain ⟨c, G, e, r, p⟩ := q
  refine ⟨c, G, e, r, (Post.bind p).imp fun G1 H1 e1 ts s1 r1 p1 vs hvs => ?_⟩
  split at p1
  · rename_i ds hd
    split at p1
    · rename_i hl
      have rr := vals_ok hd hvs
      refine ⟨by rw [rr.len]; exact lim_le hl, fin_lst r1 rr fun G' H' v s' r' hv => p1 G' H' s' r' v hv⟩
    · exact p1.elim
  · exact p1.elim
end

/-! ### slices -/
abbrev EO := EM (Option Int)
def oNone : EO := fun e => .ok none e
def oSome (f : EM Tk) : EO := fun e => (f e).bind fun t e1 => match rdK e1 t with
  | some (.int i) => .ok (some i) e1
  | _ => .stuck
def TO' (k : Kc) (W : WX) (f : EO) : L2.TO := fun σ H Q => ∃ c G e, RepS k c G σ H e ∧ Post k W c G σ (fun G' H' _ o => Q o H') (f e)
abbrev SO (X : Cx) (ct : Ct) (W : WX) (e : Option Expr) (f : EO) : Prop := PO X e (TO' ⟨X.K, ct⟩ W f)
def cutD (xs : List D) (lo hi : Option Int) : List D := (xs.drop (HT.sIx xs.length 0 lo)).take (HT.sIx xs.length xs.length hi - HT.sIx xs.length 0 lo)
def gSl (d : D) (lo hi : Option Int) : Option EV := match d with
  | .lst xs => some (.m (.lst (cutD xs lo hi)))
  | .tup xs => some (.d (.tup (cutD xs lo hi)))
  | _ => none
def vSl (f : EM Tk) (fl fh : EO) : EM EV := fun e => (f e).bind fun t e1 => (fl e1).bind fun lo e2 => (fh e2).bind fun hi e3 => match rdK e3 t with
  | some d => resV (gSl d lo hi) e3
  | none => .stuck
section
variable {X : Cx} {ct : Ct} {W : WX} {pos p2 : Pos} {a : Expr} {fa : EM Tk} {lo hi : Option Expr} {fl fh : EO}
theorem POw {e : Option Expr} {t t' : L2.TO} (h : PO X e t) (w : ∀ σ H Q, t' σ H Q → t σ H Q) : PO X e t' := ⟨fun pins s σ H Q I q => h.run pins s σ H Q I (w σ H Q q)⟩
theorem o_none : SO X ct W none oNone := POw po_none fun σ H Q q => by
  obtain ⟨c, G, e, r, p⟩ := q
  exact p.now r
theorem o_some (h : SK X ct W a fa) : SO X ct W (some a) (oSome fa) := POw (po_some h) fun σ H Q q => by
  obtain ⟨c, G, e, r, p⟩ := q
  refine ⟨c, G, e, r, (Post.bind p).imp fun G1 H1 e1 t s1 r1 p1 x hx => ?_⟩
  split at p1
  · rename_i i hi
    exact ⟨i, (RB.of r1 hx hi).int, p1.now r1⟩
  · exact p1.elim
theorem Rps.cut {k : Kc} {G : Hp} {vs : List V} {ds : List D} (r : Rps k G vs ds) (lo hi : Option Int) : Rps k G (cutV vs lo hi) (cutD ds lo hi) := by
  unfold cutV cutD
  rw [r.len]
  exact (r.drop _).take _
theorem v_slice (ha : SK X ct W a fa) (hl : SO X ct W lo fl) (hh : SO X ct W hi fh) : SV X ct W (.Subscript a (.Slice lo hi none p2) pos) (vSl fa fl fh) := PEw (pe_slice (sl_list.or sl_tupA) ha hl hh) fun σ H Q q => by
  obtain ⟨c, G, e, r, p⟩ := q
  refine ⟨c, G, e, r, (Post.bind p).imp fun G1 H1 e1 t s1 r1 p1 x hx => ⟨c, G1, e1, r1, (Post.bind p1).imp fun G2 H2 e2 l s2 r2 p2 => ⟨c, G2, e2, r2, (Post.bind p2).imp fun G3 H3 e3 h s3 r3 p3 => ?_⟩⟩⟩
  split at p3
  · rename_i d hd
    have hr := RB.of r3 ((hx.mono s2).mono s3) hd
    cases d with
    | lst xs =>
      obtain ⟨p1, vs, rfl, h1, rr⟩ := hr.lst r3.gh
      exact .inl ⟨_, _, rfl, SqL.of h1, fin_lst r3 (rr.cut l h) fun G' H' v s' r' hv => p3 G' H' s' r' v hv⟩
    | tup xs =>
      obtain ⟨p1, vs, rfl, h1, rr, h2⟩ := hr.tup r3.gh
      refine .inr ⟨_, _, rfl, h1, fun hw => ?_, fun _ => fin_tup r3 (rr.cut l h) fun G' H' v s' r' hv => p3 G' H' s' r' v hv⟩
      have e1 : cutD xs l h = xs := by
        unfold cutD
        rw [rr.len] at hw
        rw [hw.1, hw.2, List.drop_zero, Nat.sub_zero, List.take_length]
      refine p3 G3 H3 (Same.refl _) r3 _ ?_
      show Rp _ _ _ (.tup (cutD xs l h))
      rw [e1]
      exact .tup h2 rr
    | _ => exact p3.elim
  · exact p3.elim
end

/-! ### calls of what is built in -/
def vCallB (g : List D → Option EV) (f : EM (List Tk)) : EM EV := fun e => (f e).bind fun ts e1 => match rdKs e1 ts with
  | some ds => resV (g ds) e1
  | none => .stuck
/-- a built-in's call gives what g says of data -/
def CallG (k : Kc) (r : List V → Hp → VK → Prop) (g : List D → Option EV) : Prop := ∀ (c : Fr) (G H : Hp) (σ : L2.St) (e : Env) (xs : List V) (ds : List D) (z : EV) (Q : VK), RepS k c G σ H e → RBs k G H xs ds → g ds = some z →
  (∀ G' H' v, Same G G' → RepS k c G' σ H' e → RpV k c G' σ H' e v z → Q v H') → r xs H Q
section
variable {X : Cx} {ct : Ct} {W : WX} {pos p : Pos} {a : Expr} {es : List Expr} {fa : EM Tk} {fs : EM (List Tk)} {x : Str} {id T : String} {r : List V → Hp → VK → Prop} {g : List D → Option EV}
theorem callG_ok {Q : VK} (hg : CallG ⟨X.K, ct⟩ r g) (σ : L2.St) (H : Hp) (q : TV ⟨X.K, ct⟩ W (vCallB g fs) σ H Q) : tCB r (TA ⟨X.K, ct⟩ W fs) σ H Q := by
  obtain ⟨c, G, e, re, p⟩ := q
  refine ⟨c, G, e, re, (Post.bind p).imp fun G1 H1 e1 ts s1 r1 p1 vs hvs => ?_⟩
  split at p1
  · rename_i ds hd
    cases hz : g ds with
    | none => rw [hz] at p1; exact p1.elim
    | some z =>
      rw [hz] at p1
      exact hg c G1 H1 σ e1 vs ds z Q r1 (.of r1 hvs hd) hz fun G' H' v s' r' hv => p1 G' H' s' r' v hv
  · exact p1.elim
theorem v_callB (hc : CallR X (.builtin id) r) (hG : CallG ⟨X.K, ct⟩ r g) (hg : Gl X x) (hm : X.mg x = none) (hv : bootBuiltins x = some (.builtin id)) (ha : SA X ct W (a :: es) fs) (hn : x ≠ "__name__" := by decide) (hdb : (x == ("__debug__" : Str)) = false := by decide)
    (he : starEach (a :: es) X.env = (false, eval a X.env) :: starEach es X.env := by rfl) (hpl : (backTo pos (starEach es X.env)).any (·.1) = false := by rfl) : SV X ct W (.Call (.Name x p) (a :: es) [] pos) (vCallB g fs) :=
  PEw (pe_callB hc hg hm hv ha hn hdb he hpl) fun σ H Q q => callG_ok hG σ H q
theorem v_callTy (hc : CallR X (.type T) r) (hG : CallG ⟨X.K, ct⟩ r g) (hg : Gl X x) (hm : X.mg x = none) (hv : bootBuiltins x = some (.type T)) (ha : SA X ct W (a :: es) fs) (hn : x ≠ "__name__" := by decide) (hdb : (x == ("__debug__" : Str)) = false := by decide)
    (he : starEach (a :: es) X.env = (false, eval a X.env) :: starEach es X.env := by rfl) (hpl : (backTo pos (starEach es X.env)).any (·.1) = false := by rfl) : SV X ct W (.Call (.Name x p) (a :: es) [] pos) (vCallB g fs) :=
  PEw (pe_callTy hc hg hm hv ha hn hdb he hpl) fun σ H Q q => callG_ok hG σ H q
end
end MM
end
section
set_option Elab.async false
set_option linter.all false
set_option autoImplicit false
set_option maxRecDepth 100000
set_option maxHeartbeats 4000000
namespace MM
open PySem PySem.Spec L2

/-! ### iterators of tuples over lists and tuples -/
section
variable {P : Program} {w : World} {K : PySem.W.Frag} {elts : List Expr} {kk : Nat} {tpos : Pos}
/-- a walk of tuples, at each state, makes a Turn -/
theorem turn_walksT {own : List Addr} {z : Addr} {J : It} {tn : Nat → Heap → Prop} (mem : z ∈ own) (obj : ∀ i h, tn i h → ∀ b ∈ own, ∃ o, h.get? b = some o ∧ ∀ v, o.data ≠ .cell v)
    (keep : ∀ i h h', tn i h → (∀ b ∈ own, ∀ o, h.get? b = some o → h'.get? b = some o) → tn i h')
    (self : ∀ (A : Around) (i : Nat) (s : Shared) (Q : Value → Shared → Prop) (E : Value → Shared → Prop), tn i s.heap → Q (.ref z) s → wpAny (model P w) A (pyIter (.ref z)) Q E s)
    (walk : ∀ (X : Cx), X.prog = P → X.w = w → X.K = K → X.A.handled = none → ∀ (pins : List (Addr × Obj)) (s : Shared) (σ : L2.St) (H : Hp) (i : Nat), Inv X pins σ H s → tn i s.heap → (J.go i H ∨ J.stop i H) →
      ∃ (fpw wr : List Addr) (m : Nat) (Pt : Nat → Array Value → Prop) (St : Nat → Heap → Prop) (Mid : Nat → Addr → Heap → Prop), WalksT P w X.A z fpw wr m Pt St Mid ∧ (∀ b ∈ wr, b ∈ own) ∧ St i s.heap ∧
        (J.go i H → i < m ∧ ∀ vals, Pt i vals → ∃ xs : List V, Vals xs vals.toList ∧ xs.length ≤ sizeLine ∧ ∀ T, H T = none → J.yld i H (.ref T) (upd H T (.tup xs))) ∧ (J.stop i H → m = i) ∧ (∀ h', St (i + 1) h' → tn (i + 1) h')) :
    Turn P w K (.Tuple elts kk tpos) J own z tn where
  mem := mem
  obj := obj
  keep := keep
  item := by
    intro X hP hw hK hc i pins s σ H E I hf st hg
    obtain ⟨fpw, wr, m, Pt, St, Mid, W, sub, hst, go, _, nxt⟩ := walk X hP hw hK (I.ok.hd hc) pins s σ H i I st (.inl hg)
    obtain ⟨hi, hv⟩ := go hg
    refine W.item i s _ _ hi hst fun T vals h' tk hp hT hTup hm hk => ⟨_, rfl, W.go elts kk tpos i T _ _ _ hm fun h'' st'' hk2 => ?_⟩
    obtain ⟨xs, rv, hz, yl⟩ := hv vals hp
    have hn : H T = none := I.hok.fresh hT
    have hTup2 : h''.IsTuple T vals := hTup.at fun o e => hk2 T o (W.apart _ _ _ hm) e
    have kk' : ∀ b o, b ∉ own → s.heap.get? b = some o → h''.get? b = some o := fun b o hb e => hk2 b o (fun q => hb (sub b q)) (hk b o (fun q => hb (sub b q)) e)
    have I1 : Inv X pins σ (upd H T (.tup xs)) { s with heap := h'', toks := tk } := I.turnedNew (t' := tk) (ch := own) kk' hf hT ⟨hz, vals.toList, rv, by rw [Array.toArray_toList]; exact hTup2⟩
    refine ⟨.ref T, _, I1, rfl, yl T hn, nxt _ st'', fun b hb => ?_⟩
    obtain ⟨o, e, _⟩ := obj i s.heap st b hb
    rw [upd_ne (Nat.ne_of_lt (Nat.lt_of_lt_of_le (Heap.lt_size e) hT))]
    exact (hf b hb).1
  done := by
    intro X hP hw hK hc i pins s σ H E I hf st hg
    obtain ⟨fpw, wr, m, Pt, St, Mid, W, sub, hst, _, stop, _⟩ := walk X hP hw hK (I.ok.hd hc) pins s σ H i I st (.inr hg)
    have em := stop hg
    subst em
    exact W.done s _ _ hst fun h' tk hk => ⟨rfl, I.turnedL (t' := tk) (ch := own) (fun b o hb e => hk b o (fun q => hb (sub b q)) e) hf⟩
  self := self
end
/-- a list or a tuple -/
inductive SrcK where
  | l | t
def SrcK.ob (a : Addr) : SrcK → Obj
  | .l => { cls := .type "list_iterator", data := .fields #[.ref a, .int 0 0] }
  | .t => { cls := .type "tuple_iterator", data := .fields #[.ref a, .int 0 0] }
def SrcK.it (h : Heap) (it a : Addr) (i : Nat) : SrcK → Prop
  | .l => h.IsListIter it a i
  | .t => h.IsTupleIter it a i
def SrcK.at_ (h : Heap) (a : Addr) (its : Array Value) : SrcK → Prop
  | .l => h.IsList a its
  | .t => h.IsTuple a its
def SrcK.sq (K : PySem.W.Frag) (H : Hp) (a : Addr) (xs : List V) : SrcK → Prop
  | .l => SqL K H a xs
  | .t => SqT K H a xs
section
variable {P : Program} {w : World} {A : Around} {kd : SrcK} {it a : Addr} {its : Array Value} {i : Nat} {h h' : Heap} {X : Cx} {pins : List (Addr × Obj)} {σ : L2.St} {H H' : Hp} {s : Shared} {xs : List V}
theorem SrcK.draws (hh : A.handled = none) (hne : a ≠ it) : Draws P w A it [it, a] its.size (fun i v => its[i]? = some v) (fun i h => kd.it h it a i ∧ kd.at_ h a its) := by
  cases kd with
  | l => exact Draws.list hh it a hne its
  | t => exact Draws.tuple hh it a hne its
theorem SrcK.begins : Begins (.ref a) (kd.ob a) fun h => kd.at_ h a its := by
  cases kd with
  | l => exact begins_list a its
  | t => exact begins_tuple a its
theorem SrcK.read (I : Inv X pins σ H s) (q : kd.sq X.K H a xs) : ∃ us : List Value, Vals xs us ∧ kd.at_ s.heap a us.toArray ∧ xs.length ≤ sizeLine := by
  cases kd with
  | l => obtain ⟨us, r, p, z⟩ := I.list q; exact ⟨us, r, p.isList, z⟩
  | t => obtain ⟨us, r, p, z⟩ := I.tuple q; exact ⟨us, r, p, z⟩
theorem SrcK.lt (q : kd.at_ h a its) : a < h.objs.size := by
  cases kd with
  | l => obtain ⟨o, n, e, _⟩ : ∃ (o : Obj) (n : Unit), h.get? a = some o ∧ True := (let ⟨o, z⟩ := q; ⟨o, (), by first | exact z.1 | exact z.2.1, trivial⟩); exact Heap.lt_size e
  | t => obtain ⟨o, e, _⟩ := q; exact Heap.lt_size e
theorem SrcK.obj (q : kd.it h it a i) : ∃ o, h.get? it = some o ∧ ∀ v, o.data ≠ .cell v := by
  cases kd with
  | l => obtain ⟨o, e, c, d⟩ := q; exact ⟨o, e, fun v z => by rw [d] at z; cases z⟩
  | t => obtain ⟨o, e, c, d⟩ := q; exact ⟨o, e, fun v z => by rw [d] at z; cases z⟩
theorem SrcK.stay (q : kd.it h it a i) (k : ∀ o, h.get? it = some o → h'.get? it = some o) : kd.it h' it a i := by
  cases kd with
  | l => exact Heap.IsListIter.at q k
  | t => exact Heap.IsTupleIter.at q k
theorem SrcK.first (e : h.get? it = some (kd.ob a)) : kd.it h it a 0 := by
  cases kd with
  | l => exact ⟨_, e, rfl, rfl⟩
  | t => exact ⟨_, e, rfl, rfl⟩
theorem SrcK.mono {K : PySem.W.Frag} (q : kd.sq K H a xs) (e : Same H H') : kd.sq K H' a xs := by
  cases kd with
  | l => exact e.seq q
  | t => exact seqT e q
end
/-- zip(xs, ys): while G stands -/
def Jz2 (G : Hp) (xs ys : List V) : It :=
  ⟨fun i H => Same G H ∧ i < min xs.length ys.length, fun i H v H' => ∃ T x y, v = .ref T ∧ H T = none ∧ H' = upd H T (.tup [x, y]) ∧ xs[i]? = some x ∧ ys[i]? = some y, fun i H => Same G H ∧ i = min xs.length ys.length⟩
def Jz3 (G : Hp) (xs ys zs : List V) : It :=
  ⟨fun i H => Same G H ∧ i < min (min xs.length ys.length) zs.length, fun i H v H' => ∃ T x y z, v = .ref T ∧ H T = none ∧ H' = upd H T (.tup [x, y, z]) ∧ xs[i]? = some x ∧ ys[i]? = some y ∧ zs[i]? = some z, fun i H => Same G H ∧ i = min (min xs.length ys.length) zs.length⟩
def Jen (G : Hp) (xs : List V) : It :=
  ⟨fun i H => Same G H ∧ i < xs.length, fun i H v H' => ∃ T y, v = .ref T ∧ H T = none ∧ H' = upd H T (.tup [.int (i : Int), y]) ∧ xs[i]? = some y, fun i H => Same G H ∧ i = xs.length⟩
theorem size2 : (2 : Nat) ≤ sizeLine := by rw [sizeLine_eq]; decide
theorem size3 : (3 : Nat) ≤ sizeLine := by rw [sizeLine_eq]; decide
section
variable {P : Program} {w : World} {K : PySem.W.Frag} {elts : List Expr} {kk : Nat} {tpos : Pos} {k1 k2 k3 : SrcK} {a b c z TI TO i1 i2 i3 e : Addr} {G : Hp} {xs ys zs : List V}
theorem turn_z2 (S : ZipSep2 z TI TO i1 i2 [i1, a] [i2, b]) (n1 : a ≠ i1) (n2 : b ≠ i2) (q1 : k1.sq K G a xs) (q2 : k2.sq K G b ys) :
    Turn P w K (.Tuple elts kk tpos) (Jz2 G xs ys) [z, TI, TO, i1, i2] z (fun i h => IsZip h z TI TO .none ∧ IsTupOf2 h TI (.ref i1) (.ref i2) ∧ (∃ x y, IsTupOf2 h TO x y) ∧ k1.it h i1 a i ∧ k2.it h i2 b i) := by
  refine turn_walksT (by simp) (fun i h st b hb => ?_) (fun i h h' st k => ?_) (fun A i s Q E st hq => wpAny_pyIter_zip st.1 hq) (fun X hP hw hK hh pins s σ H i I st hg => ?_)
  · obtain ⟨hz, hTI, ⟨x, y, hTO⟩, h1, h2⟩ := st
    have e' : b = z ∨ b = TI ∨ b = TO ∨ b = i1 ∨ b = i2 := by simpa using hb
    rcases e' with q | q | q | q | q
    · rw [q]; exact ⟨_, hz, fun v q => nomatch q⟩
    · rw [q]; exact ⟨_, hTI, fun v q => nomatch q⟩
    · rw [q]; exact ⟨_, hTO, fun v q => nomatch q⟩
    · rw [q]; exact SrcK.obj h1
    · rw [q]; exact SrcK.obj h2
  · obtain ⟨hz, hTI, ⟨x, y, hTO⟩, h1, h2⟩ := st
    exact ⟨k z (by simp) _ hz, k TI (by simp) _ hTI, ⟨x, y, k TO (by simp) _ hTO⟩, SrcK.stay h1 fun o q => k i1 (by simp) o q, SrcK.stay h2 fun o q => k i2 (by simp) o q⟩
  · subst hP hw hK
    have sG : Same G H := by rcases hg with q | q <;> exact q.1
    obtain ⟨us1, r1, p1, z1⟩ := SrcK.read I (SrcK.mono q1 sG)
    obtain ⟨us2, r2, p2, z2⟩ := SrcK.read I (SrcK.mono q2 sG)
    obtain ⟨hz, hTI, hTO, h1, h2⟩ := st
    have l1 := r1.length
    have l2 := r2.length
    refine ⟨_, _, _, _, _, _, WalksT.zipD2 S (SrcK.draws (kd := k1) (its := us1.toArray) (by exact hh) n1) (SrcK.draws (kd := k2) (its := us2.toArray) (by exact hh) n2), fun b hb => ?_, ⟨hz, hTI, hTO, ⟨h1, p1⟩, ⟨h2, p2⟩⟩, fun q => ⟨?_, fun vals hp => ?_⟩, fun q => ?_, fun h' st => ?_⟩
    · have e' : b = z ∨ b = TO ∨ b = i1 ∨ b = i2 := by simpa using hb
      rcases e' with q | q | q | q <;> simp [q]
    · have : i < min xs.length ys.length := q.2
      simp only [List.size_toArray]
      omega
    · obtain ⟨v1, v2, g1, g2, ev⟩ := hp
      have lt1 : i < xs.length := by have : i < min xs.length ys.length := q.2; omega
      have lt2 : i < ys.length := by have : i < min xs.length ys.length := q.2; omega
      obtain ⟨u1, e1, rv1⟩ := r1.get (List.getElem?_eq_getElem lt1)
      obtain ⟨u2, e2, rv2⟩ := r2.get (List.getElem?_eq_getElem lt2)
      have g1' : us1[i]? = some v1 := by simpa using g1
      have g2' : us2[i]? = some v2 := by simpa using g2
      rw [e1] at g1'
      rw [e2] at g2'
      cases g1'
      cases g2'
      subst ev
      exact ⟨[xs[i], ys[i]], .cons rv1 (.cons rv2 .nil), size2, fun T hT => ⟨T, _, _, rfl, hT, rfl, List.getElem?_eq_getElem lt1, List.getElem?_eq_getElem lt2⟩⟩
    · have : i = min xs.length ys.length := q.2
      simp only [List.size_toArray]
      omega
    · exact ⟨st.1, st.2.1, st.2.2.1, st.2.2.2.1.1, st.2.2.2.2.1⟩
theorem turn_z3 (S : ZipSep3 z TI TO i1 i2 i3 [i1, a] [i2, b] [i3, c]) (n1 : a ≠ i1) (n2 : b ≠ i2) (n3 : c ≠ i3) (q1 : k1.sq K G a xs) (q2 : k2.sq K G b ys) (q3 : k3.sq K G c zs) :
    Turn P w K (.Tuple elts kk tpos) (Jz3 G xs ys zs) [z, TI, TO, i1, i2, i3] z (fun i h => IsZip h z TI TO .none ∧ IsTupOf3 h TI (.ref i1) (.ref i2) (.ref i3) ∧ (∃ x y u, IsTupOf3 h TO x y u) ∧ k1.it h i1 a i ∧ k2.it h i2 b i ∧ k3.it h i3 c i) := by
  refine turn_walksT (by simp) (fun i h st b hb => ?_) (fun i h h' st k => ?_) (fun A i s Q E st hq => wpAny_pyIter_zip st.1 hq) (fun X hP hw hK hh pins s σ H i I st hg => ?_)
  · obtain ⟨hz, hTI, ⟨x, y, u, hTO⟩, h1, h2, h3⟩ := st
    have e' : b = z ∨ b = TI ∨ b = TO ∨ b = i1 ∨ b = i2 ∨ b = i3 := by simpa using hb
    rcases e' with q | q | q | q | q | q
    · rw [q]; exact ⟨_, hz, fun v q => nomatch q⟩
    · rw [q]; exact ⟨_, hTI, fun v q => nomatch q⟩
    · rw [q]; exact ⟨_, hTO, fun v q => nomatch q⟩
    · rw [q]; exact SrcK.obj h1
    · rw [q]; exact SrcK.obj h2
    · rw [q]; exact SrcK.obj h3
  · obtain ⟨hz, hTI, ⟨x, y, u, hTO⟩, h1, h2, h3⟩ := st
    exact ⟨k z (by simp) _ hz, k TI (by simp) _ hTI, ⟨x, y, u, k TO (by simp) _ hTO⟩, SrcK.stay h1 fun o q => k i1 (by simp) o q, SrcK.stay h2 fun o q => k i2 (by simp) o q, SrcK.stay h3 fun o q => k i3 (by simp) o q⟩
  · subst hP hw hK
    have sG : Same G H := by rcases hg with q | q <;> exact q.1
    obtain ⟨us1, r1, p1, z1⟩ := SrcK.read I (SrcK.mono q1 sG)
    obtain ⟨us2, r2, p2, z2⟩ := SrcK.read I (SrcK.mono q2 sG)
    obtain ⟨us3, r3, p3, z3⟩ := SrcK.read I (SrcK.mono q3 sG)
    obtain ⟨hz, hTI, hTO, h1, h2, h3⟩ := st
    have l1 := r1.length
    have l2 := r2.length
    have l3 := r3.length
    refine ⟨_, _, _, _, _, _, WalksT.zipD3 S (SrcK.draws (kd := k1) (its := us1.toArray) (by exact hh) n1) (SrcK.draws (kd := k2) (its := us2.toArray) (by exact hh) n2) (SrcK.draws (kd := k3) (its := us3.toArray) (by exact hh) n3), fun b hb => ?_, ⟨hz, hTI, hTO, ⟨h1, p1⟩, ⟨h2, p2⟩, ⟨h3, p3⟩⟩, fun q => ⟨?_, fun vals hp => ?_⟩, fun q => ?_, fun h' st => ?_⟩
    · have e' : b = z ∨ b = TO ∨ b = i1 ∨ b = i2 ∨ b = i3 := by simpa using hb
      rcases e' with q | q | q | q | q <;> simp [q]
    · have : i < min (min xs.length ys.length) zs.length := q.2
      simp only [List.size_toArray]
      omega
    · obtain ⟨v1, v2, v3, g1, g2, g3, ev⟩ := hp
      have lt1 : i < xs.length := by have : i < min (min xs.length ys.length) zs.length := q.2; omega
      have lt2 : i < ys.length := by have : i < min (min xs.length ys.length) zs.length := q.2; omega
      have lt3 : i < zs.length := by have : i < min (min xs.length ys.length) zs.length := q.2; omega
      obtain ⟨u1, e1, rv1⟩ := r1.get (List.getElem?_eq_getElem lt1)
      obtain ⟨u2, e2, rv2⟩ := r2.get (List.getElem?_eq_getElem lt2)
      obtain ⟨u3, e3, rv3⟩ := r3.get (List.getElem?_eq_getElem lt3)
      have g1' : us1[i]? = some v1 := by simpa using g1
      have g2' : us2[i]? = some v2 := by simpa using g2
      have g3' : us3[i]? = some v3 := by simpa using g3
      rw [e1] at g1'
      rw [e2] at g2'
      rw [e3] at g3'
      cases g1'
      cases g2'
      cases g3'
      subst ev
      exact ⟨[xs[i], ys[i], zs[i]], .cons rv1 (.cons rv2 (.cons rv3 .nil)), size3, fun T hT => ⟨T, _, _, _, rfl, hT, rfl, List.getElem?_eq_getElem lt1, List.getElem?_eq_getElem lt2, List.getElem?_eq_getElem lt3⟩⟩
    · have : i = min (min xs.length ys.length) zs.length := q.2
      simp only [List.size_toArray]
      omega
    · exact ⟨st.1, st.2.1, st.2.2.1, st.2.2.2.1.1, st.2.2.2.2.1.1, st.2.2.2.2.2.1⟩
end
end MM
end
section
set_option Elab.async false
set_option linter.all false
set_option autoImplicit false
set_option maxRecDepth 100000
set_option maxHeartbeats 4000000
namespace MM
open PySem PySem.Spec L2

/-! ### what is walked -/
def YRep (k : Kc) (G : Hp) (ds : List D) (i : Nat) (H : Hp) (x : V) (H' : Hp) : Prop :=
  ∃ d, ds[i]? = some d ∧ ((H' = H ∧ Rp k G x d) ∨ ∃ T vs es, x = .ref T ∧ H T = none ∧ H' = upd H T (.tup vs) ∧ Rps k G vs es ∧ d = .tup es)
structure ItOk (k : Kc) (G : Hp) (J : It) (ds : List D) : Prop where
  goes : ∀ i H, i < ds.length → Same G H → J.go i H
  stops : ∀ H, Same G H → J.stop ds.length H
  ylds : ∀ i H x H', i < ds.length → Same G H → J.yld i H x H' → YRep k G ds i H x H'
def TIx (k : Kc) (W : WX) (f : EM (List D)) : L2.TI := fun σ H R => ∃ c G e, RepS k c G σ H e ∧ Post k W c G σ (fun G' H' _ ds => ∀ J, ItOk k G' J ds → R J H') (f e)
abbrev SI (X : Cx) (ct : Ct) (W : WX) (tg it : Expr) (f : EM (List D)) : Prop := PI X tg it (TIx ⟨X.K, ct⟩ W f)
theorem PIw {X : Cx} {tg e : Expr} {t t' : L2.TI} (h : PI X tg e t) (w : ∀ σ H Q, t' σ H Q → t σ H Q) : PI X tg e t' := ⟨fun pins s σ H Q I q => h.run pins s σ H Q I (w σ H Q q)⟩
theorem PIor {X : Cx} {tg e : Expr} {t t' : L2.TI} (h : PI X tg e t) (h' : PI X tg e t') : PI X tg e (fun σ H R => t σ H R ∨ t' σ H R) := ⟨fun pins s σ H Q I q => q.elim (h.run pins s σ H Q I) (h'.run pins s σ H Q I)⟩
/-- a list's, a tuple's items -/
def D.items : D → Option (List D)
  | .lst xs => some xs
  | .tup xs => some xs
  | .scr ns => some (ns.map D.int)
  | _ => none
def iSeq (f : EM D) : EM (List D) := fun e => (f e).bind fun d e1 => match d.items with
  | some xs => .ok xs e1
  | none => .stuck
theorem itOk_list {k : Kc} {G : Hp} {a : Addr} {vs : List V} {ds : List D} (h : SqL k.K G a vs) (r : Rps k G vs ds) : ItOk k G (Itl k.K a) ds := by
  have w := walk_list (K := k.K) (a := a) (xs := vs)
  have l := r.len
  refine ⟨fun i H hi s => w.goes i H (by omega) (s.seq h), fun H s => by rw [← l]; exact w.stops H (s.seq h), fun i H x H' hi s y => ?_⟩
  obtain ⟨e1, e2⟩ := w.yields i H x H' (by omega) (s.seq h) y
  obtain ⟨d, h1, h2⟩ := r.getV e2
  exact ⟨d, h1, .inl ⟨e1, h2⟩⟩
theorem itOk_tup {k : Kc} {G : Hp} {a : Addr} {vs : List V} {ds : List D} (h : SqT k.K G a vs) (r : Rps k G vs ds) : ItOk k G (Itt k.K a) ds := by
  have w := walk_tup (K := k.K) (a := a) (xs := vs)
  have l := r.len
  refine ⟨fun i H hi s => w.goes i H (by omega) (seqT s h), fun H s => by rw [← l]; exact w.stops H (seqT s h), fun i H x H' hi s y => ?_⟩
  obtain ⟨e1, e2⟩ := w.yields i H x H' (by omega) (seqT s h) y
  obtain ⟨d, h1, h2⟩ := r.getV e2
  exact ⟨d, h1, .inl ⟨e1, h2⟩⟩
theorem rps_ints {k : Kc} {G : Hp} : ∀ ns : List Int, Rps k G (ns.map V.int) (ns.map D.int)
  | [] => .nil
  | n :: ns => .cons (.int n) (rps_ints ns)
/-- lo, lo + 1, .. -/
def rangeD (lo : Int) (n : Nat) : List D := (List.range n).map fun (i : Nat) => D.int (lo + (i : Int))
def downD (lo : Int) (n : Nat) : List D := (List.range n).map fun (i : Nat) => D.int (lo + (i : Int) * (-1))
def rngOk (i : Int) : Bool := decide (i.natAbs < 4611686018427387904)
def iRng1 (f : EM (List Tk)) : EM (List D) := fun e => (f e).bind fun ts e1 => match rdKs e1 ts with
  | some [.int j] => if rngOk j = true then .ok (rangeD 0 j.toNat) e1 else .stuck
  | _ => .stuck
def iRng2 (f : EM (List Tk)) : EM (List D) := fun e => (f e).bind fun ts e1 => match rdKs e1 ts with
  | some [.int i, .int j] => if rngOk i = true ∧ rngOk j = true then .ok (rangeD i (j - i).toNat) e1 else .stuck
  | _ => .stuck
/-- range(i, j, -1) -/
def iRng3 (f : EM (List Tk)) : EM (List D) := fun e => (f e).bind fun ts e1 => match rdKs e1 ts with
  | some [.int i, .int j, .int c] => if rngOk i = true ∧ rngOk j = true ∧ c = -1 then .ok (downD i (i - j).toNat) e1 else .stuck
  | _ => .stuck
theorem rngOk_iff {i : Int} (h : rngOk i = true) : -(2 ^ 62) ≤ i ∧ i < 2 ^ 62 := by
  have h := of_decide_eq_true h
  constructor <;> omega
theorem itOk_range {k : Kc} {G : Hp} {lo : Int} {n : Nat} : ItOk k G (Itr lo n) (rangeD lo n) := by
  have l : (rangeD lo n).length = n := by unfold rangeD; rw [List.length_map, List.length_range]
  refine ⟨fun i H hi s => by rw [l] at hi; exact hi, fun H s => by rw [l]; exact Nat.le_refl _, fun i H x H' hi s y => ?_⟩
  rw [l] at hi
  refine ⟨.int (lo + i), ?_, .inl ⟨y.1, ?_⟩⟩
  · unfold rangeD
    rw [List.getElem?_map, List.getElem?_range hi]
    rfl
  · rw [y.2]
    exact .int _
theorem itOk_down {k : Kc} {G : Hp} {lo : Int} {n : Nat} : ItOk k G (Itc lo (-1) n) (downD lo n) := by
  have l : (downD lo n).length = n := by unfold downD; rw [List.length_map, List.length_range]
  refine ⟨fun i H hi s => by rw [l] at hi; exact hi, fun H s => by rw [l]; exact Nat.le_refl _, fun i H x H' hi s y => ?_⟩
  rw [l] at hi
  refine ⟨.int (lo + (i : Int) * (-1)), ?_, .inl ⟨y.1, ?_⟩⟩
  · unfold downD
    rw [List.getElem?_map, List.getElem?_range hi]
    rfl
  · rw [y.2]
    exact .int _
theorem RBs.one {k : Kc} {G H : Hp} {vs : List V} {d : D} (h : RBs k G H vs [d]) : ∃ v, vs = [v] ∧ RB k G H v d := by
  cases h with
  | cons a b => cases b; exact ⟨_, rfl, a⟩
theorem RBs.two {k : Kc} {G H : Hp} {vs : List V} {d d' : D} (h : RBs k G H vs [d, d']) : ∃ v v', vs = [v, v'] ∧ RB k G H v d ∧ RB k G H v' d' := by
  cases h with
  | cons a b => obtain ⟨v, rfl, h⟩ := b.one; exact ⟨_, _, rfl, a, h⟩
theorem RBs.three {k : Kc} {G H : Hp} {vs : List V} {d d' d'' : D} (h : RBs k G H vs [d, d', d'']) : ∃ v v' v'', vs = [v, v', v''] ∧ RB k G H v d ∧ RB k G H v' d' ∧ RB k G H v'' d'' := by
  cases h with
  | cons a b => obtain ⟨v, v', rfl, h, h'⟩ := b.two; exact ⟨_, _, _, rfl, a, h, h'⟩
section
variable {X : Cx} {ct : Ct} {W : WX} {pos p tpos : Pos} {a b c tg : Expr} {fe : EM D} {fs : EM (List Tk)} {elts : List Expr} {kk : Nat}
theorem i_seq (h : SE X ct W a fe) : SI X ct W tg a (iSeq fe) := PIw (PIor (pi_list h) (pi_tup h)) fun σ H R q => by
  obtain ⟨c, G, e, r, p⟩ := q
  have p' := Post.bind p
  unfold iSeq at p
  cases q : fe e with
  | ok d e1 =>
    rw [q] at p'
    cases hd : d.items with
    | none =>
      have p2 : Post ⟨X.K, ct⟩ W c G σ (fun G' H' x ds => ∀ J, ItOk ⟨X.K, ct⟩ G' J ds → R J H') (match d.items with | some xs => .ok xs e1 | none => .stuck) := by rw [q] at p; exact p
      rw [hd] at p2
      exact p2.elim
    | some xs =>
      have go : ∀ (G' H' : Hp), Same G G' → RepS ⟨X.K, ct⟩ c G' σ H' e1 → ∀ J, ItOk ⟨X.K, ct⟩ G' J xs → R J H' := fun G' H' s r' => by
        have z := p' G' H' s r'
        have z2 : Post ⟨X.K, ct⟩ W c G' σ (fun G' H' x ds => ∀ J, ItOk ⟨X.K, ct⟩ G' J ds → R J H') (match d.items with | some xs => .ok xs e1 | none => .stuck) := z
        rw [hd] at z2
        exact z2.now r'
      have left : (∀ G v, Rp ⟨X.K, ct⟩ G v d → ∃ a vs, v = .ref a ∧ SqL X.K G a vs ∧ Rps ⟨X.K, ct⟩ G vs xs) → iList X.K (TE ⟨X.K, ct⟩ W fe) σ H R := fun hl => by
        refine ⟨c, G, e, r, ?_⟩
        rw [q]
        intro G' H' s r' v hv
        obtain ⟨a, vs, e2, h1, h2⟩ := hl G' v hv
        exact ⟨a, e2, ⟨vs, r'.gh.seq h1⟩, go G' H' s r' _ (itOk_list h1 h2)⟩
      cases d with
      | lst ys =>
        cases hd
        refine .inl (left fun G v hv => ?_)
        cases hv with
        | lst h1 h2 => exact ⟨_, _, rfl, SqL.of h1, h2⟩
      | scr ns =>
        cases hd
        refine .inl (left fun G v hv => ?_)
        cases hv with
        | scr h1 => exact ⟨_, _, rfl, h1, rps_ints ns⟩
      | tup ys =>
        cases hd
        refine .inr ⟨c, G, e, r, ?_⟩
        rw [q]
        intro G' H' s r' v hv
        cases hv with
        | tup h1 h2 => exact ⟨_, rfl, ⟨_, seqT r'.gh h1⟩, go G' H' s r' _ (itOk_tup h1 h2)⟩
      | _ => cases hd
  | exc x e1 =>
    refine .inl ⟨c, G, e, r, ?_⟩
    rw [q] at p ⊢
    exact p
  | stuck =>
    rw [q] at p
    exact p.elim
theorem i_range1 (hg : Gl X "range") (hm : X.mg "range" = none) (ha : SA X ct W [a] fs) (hs : starEach [a] X.env = [(false, eval a X.env)] := by rfl) : SI X ct W tg (.Call (.Name "range" p) [a] [] pos) (iRng1 fs) := PIw (pi_range1 hg hm ha hs) fun σ H R q => by
  obtain ⟨c, G, e, r, p⟩ := q
  refine ⟨c, G, e, r, (Post.bind p).imp fun G1 H1 e1 ts s1 r1 p1 vs hvs => ?_⟩
  split at p1
  · rename_i j hd
    split at p1
    · rename_i hj
      obtain ⟨v, rfl, hv⟩ := (RBs.of r1 hvs hd).one
      obtain ⟨b1, b2⟩ := rngOk_iff hj
      exact ⟨j, by rw [hv.int], b1, b2, p1.now r1 _ itOk_range⟩
    · exact p1.elim
  · exact p1.elim
theorem i_range2 (hg : Gl X "range") (hm : X.mg "range" = none) (ha : SA X ct W [a, b] fs) (hs : starEach [a, b] X.env = [(false, eval a X.env), (false, eval b X.env)] := by rfl) (hs2 : starEach [b] X.env = [(false, eval b X.env)] := by rfl) : SI X ct W tg (.Call (.Name "range" p) [a, b] [] pos) (iRng2 fs) := PIw (pi_range2 hg hm ha hs hs2) fun σ H R q => by
  obtain ⟨c, G, e, r, p⟩ := q
  refine ⟨c, G, e, r, (Post.bind p).imp fun G1 H1 e1 ts s1 r1 p1 vs hvs => ?_⟩
  split at p1
  · rename_i i j hd
    split at p1
    · rename_i hj
      obtain ⟨v, v', rfl, hv, hv'⟩ := (RBs.of r1 hvs hd).two
      obtain ⟨b1, b2⟩ := rngOk_iff hj.1
      obtain ⟨b3, b4⟩ := rngOk_iff hj.2
      exact ⟨i, j, by rw [hv.int, hv'.int], ⟨b1, b2, b3, b4⟩, p1.now r1 _ itOk_range⟩
    · exact p1.elim
  · exact p1.elim
theorem i_range3 (hp : PI X tg (.Call (.Name "range" p) [a, b, c] [] pos) (L2.iRng3 (TA ⟨X.K, ct⟩ W fs))) : SI X ct W tg (.Call (.Name "range" p) [a, b, c] [] pos) (iRng3 fs) := PIw hp fun σ H R q => by
  obtain ⟨c, G, e, r, p⟩ := q
  refine ⟨c, G, e, r, (Post.bind p).imp fun G1 H1 e1 ts s1 r1 p1 vs hvs => ?_⟩
  split at p1
  · rename_i i j cc hd
    split at p1
    · rename_i hj
      obtain ⟨v, v', v'', rfl, hv, hv', hv''⟩ := (RBs.of r1 hvs hd).three
      obtain ⟨b1, b2⟩ := rngOk_iff hj.1
      obtain ⟨b3, b4⟩ := rngOk_iff hj.2.1
      have ec := hj.2.2
      subst ec
      exact ⟨i, j, -1, _, by rw [hv.int, hv'.int, hv''.int], RgC.neg b1 b2 b3 b4, p1.now r1 _ itOk_down⟩
    · exact p1.elim
  · exact p1.elim
end

/-! ### zip, enumerate -/
/-- a list or tuple of data, to be walked -/
theorem D.src {k : Kc} {G : Hp} {v : V} {d : D} {xs : List D} (h : Rp k G v d) (hd : d.items = some xs) : ∃ a kd vs, v = .ref a ∧ SrcK.sq k.K G a vs kd ∧ Rps k G vs xs := by
  cases h with
  | lst h1 h2 => cases hd; exact ⟨_, .l, _, rfl, SqL.of h1, h2⟩
  | tup h1 h2 => cases hd; exact ⟨_, .t, _, rfl, h1, h2⟩
  | scr h1 => cases hd; exact ⟨_, .l, _, rfl, h1, rps_ints _⟩
  | _ => cases hd
def zip2D : List D → List D → List D
  | x :: xs, y :: ys => .tup [x, y] :: zip2D xs ys
  | _, _ => []
def zip3D : List D → List D → List D → List D
  | x :: xs, y :: ys, z :: zs => .tup [x, y, z] :: zip3D xs ys zs
  | _, _, _ => []
def enumD (i : Nat) : List D → List D
  | [] => []
  | x :: xs => .tup [.int (i : Int), x] :: enumD (i + 1) xs
theorem zip2D_len : ∀ xs ys : List D, (zip2D xs ys).length = min xs.length ys.length
  | [], _ => by unfold zip2D; simp
  | _ :: _, [] => by unfold zip2D; simp
  | x :: xs, y :: ys => by
    unfold zip2D
    rw [List.length_cons, zip2D_len xs ys, List.length_cons, List.length_cons]
    omega
theorem zip3D_len : ∀ xs ys zs : List D, (zip3D xs ys zs).length = min (min xs.length ys.length) zs.length
  | [], _, _ => by unfold zip3D; simp
  | _ :: _, [], _ => by unfold zip3D; simp
  | _ :: _, _ :: _, [] => by unfold zip3D; simp
  | x :: xs, y :: ys, z :: zs => by
    unfold zip3D
    rw [List.length_cons, zip3D_len xs ys zs, List.length_cons, List.length_cons, List.length_cons]
    omega
theorem enumD_len : ∀ (xs : List D) (i : Nat), (enumD i xs).length = xs.length
  | [], _ => rfl
  | x :: xs, i => by unfold enumD; rw [List.length_cons, enumD_len xs (i + 1), List.length_cons]
theorem zip2D_get : ∀ {xs ys : List D} {i : Nat} {x y : D}, xs[i]? = some x → ys[i]? = some y → (zip2D xs ys)[i]? = some (.tup [x, y])
  | [], _, _, _, _, h, _ => by simp at h
  | _ :: _, [], _, _, _, _, h => by simp at h
  | x :: xs, y :: ys, 0, a, b, h1, h2 => by
    simp at h1 h2; subst h1; subst h2; rfl
  | x :: xs, y :: ys, i + 1, a, b, h1, h2 => by
    unfold zip2D
    rw [List.getElem?_cons_succ]
    exact zip2D_get (by simpa using h1) (by simpa using h2)
theorem zip3D_get : ∀ {xs ys zs : List D} {i : Nat} {x y z : D}, xs[i]? = some x → ys[i]? = some y → zs[i]? = some z → (zip3D xs ys zs)[i]? = some (.tup [x, y, z])
  | [], _, _, _, _, _, _, h, _, _ => by simp at h
  | _ :: _, [], _, _, _, _, _, _, h, _ => by simp at h
  | _ :: _, _ :: _, [], _, _, _, _, _, _, h => by simp at h
  | x :: xs, y :: ys, z :: zs, 0, a, b, c, h1, h2, h3 => by
    simp at h1 h2 h3; subst h1; subst h2; subst h3; rfl
  | x :: xs, y :: ys, z :: zs, i + 1, a, b, c, h1, h2, h3 => by
    unfold zip3D
    rw [List.getElem?_cons_succ]
    exact zip3D_get (by simpa using h1) (by simpa using h2) (by simpa using h3)
theorem enumD_get : ∀ {xs : List D} {j i : Nat} {x : D}, xs[i]? = some x → (enumD j xs)[i]? = some (.tup [.int ((j + i : Nat) : Int), x])
  | [], _, _, _, h => by simp at h
  | x :: xs, j, 0, a, h => by simp at h; subst h; rfl
  | x :: xs, j, i + 1, a, h => by
    unfold enumD
    rw [List.getElem?_cons_succ, enumD_get (j := j + 1) (by simpa using h)]
    have : j + 1 + i = j + (i + 1) := by omega
    rw [this]
theorem itOk_z2 {k : Kc} {G : Hp} {vs us : List V} {xs ys : List D} (r1 : Rps k G vs xs) (r2 : Rps k G us ys) : ItOk k G (Jz2 G vs us) (zip2D xs ys) := by
  have l1 := r1.len
  have l2 := r2.len
  have l := zip2D_len xs ys
  refine ⟨fun i H hi s => ⟨s, by omega⟩, fun H s => ⟨s, by omega⟩, fun i H x H' hi s y => ?_⟩
  obtain ⟨T, a, b, e1, hT, eH, g1, g2⟩ := y
  obtain ⟨d1, h1, q1⟩ := r1.getV g1
  obtain ⟨d2, h2, q2⟩ := r2.getV g2
  exact ⟨_, zip2D_get h1 h2, .inr ⟨T, _, _, e1, hT, eH, .cons q1 (.cons q2 .nil), rfl⟩⟩
theorem itOk_z3 {k : Kc} {G : Hp} {vs us ws : List V} {xs ys zs : List D} (r1 : Rps k G vs xs) (r2 : Rps k G us ys) (r3 : Rps k G ws zs) : ItOk k G (Jz3 G vs us ws) (zip3D xs ys zs) := by
  have l1 := r1.len
  have l2 := r2.len
  have l3 := r3.len
  have l := zip3D_len xs ys zs
  refine ⟨fun i H hi s => ⟨s, by omega⟩, fun H s => ⟨s, by omega⟩, fun i H x H' hi s y => ?_⟩
  obtain ⟨T, a, b, c, e1, hT, eH, g1, g2, g3⟩ := y
  obtain ⟨d1, h1, q1⟩ := r1.getV g1
  obtain ⟨d2, h2, q2⟩ := r2.getV g2
  obtain ⟨d3, h3, q3⟩ := r3.getV g3
  exact ⟨_, zip3D_get h1 h2 h3, .inr ⟨T, _, _, e1, hT, eH, .cons q1 (.cons q2 (.cons q3 .nil)), rfl⟩⟩
def iZip2 (f : EM (List Tk)) : EM (List D) := fun e => (f e).bind fun ts e1 => match vals ts with
  | some [a, b] => (match a.items, b.items with
    | some xs, some ys => .ok (zip2D xs ys) e1
    | _, _ => .stuck)
  | _ => .stuck
def iZip3 (f : EM (List Tk)) : EM (List D) := fun e => (f e).bind fun ts e1 => match vals ts with
  | some [a, b, c] => (match a.items, b.items, c.items with
    | some xs, some ys, some zs => .ok (zip3D xs ys zs) e1
    | _, _, _ => .stuck)
  | _ => .stuck
def iEnum (f : EM (List Tk)) : EM (List D) := fun e => (f e).bind fun ts e1 => match vals ts with
  | some [a] => (match a.items with
    | some xs => .ok (enumD 0 xs) e1
    | _ => .stuck)
  | _ => .stuck
theorem Rps.one {k : Kc} {G : Hp} {vs : List V} {d : D} (h : Rps k G vs [d]) : ∃ v, vs = [v] ∧ Rp k G v d := by
  cases h with
  | cons a b => cases b; exact ⟨_, rfl, a⟩
theorem Rps.two {k : Kc} {G : Hp} {vs : List V} {d d' : D} (h : Rps k G vs [d, d']) : ∃ v v', vs = [v, v'] ∧ Rp k G v d ∧ Rp k G v' d' := by
  cases h with
  | cons a b => obtain ⟨v, rfl, h⟩ := b.one; exact ⟨_, _, rfl, a, h⟩
theorem Rps.three {k : Kc} {G : Hp} {vs : List V} {d d' d'' : D} (h : Rps k G vs [d, d', d'']) : ∃ v v' v'', vs = [v, v', v''] ∧ Rp k G v d ∧ Rp k G v' d' ∧ Rp k G v'' d'' := by
  cases h with
  | cons a b => obtain ⟨v, v', rfl, h, h'⟩ := b.two; exact ⟨_, _, _, rfl, a, h, h'⟩
section
variable {X : Cx} {ct : Ct} {W : WX} {pos p tpos : Pos} {a b c : Expr} {fs : EM (List Tk)} {elts : List Expr} {kk : Nat} {ta : L2.TA}
theorem pi_zz2 (hg : Gl X "zip") (hm : X.mg "zip" = none) (ha : PA X [a, b] ta)
    (hs : starEach [a, b] X.env = (false, eval a X.env) :: starEach [b] X.env := by rfl) (hpl : (backTo pos (starEach [b] X.env)).any (·.1) = false := by rfl) :
    PI X (.Tuple elts kk tpos) (.Call (.Name "zip" p) [a, b] [] pos) (fun σ H R => ta σ H fun vs H1 => ∃ (G : Hp) (a b : Addr) (k1 k2 : SrcK) (xs ys : List V), vs = [.ref a, .ref b] ∧ Same G H1 ∧ k1.sq X.K G a xs ∧ k2.sq X.K G b ys ∧ R (Jz2 G xs ys) H1) := by
  refine ⟨fun pins s σ H R I h => ?_⟩
  refine PyProof.Rows.Call_ (ld_blt I hg hm PyProof.Rows.boot_zip (PyProof.Rows.callWith_type1 (thn (ha.run pos pins s σ H _ I h) fun us s1 ⟨vs, H1, I1, r1, q1⟩ => ?_) hs hpl))
  obtain ⟨G, a, b, k1, k2, xs, ys, rfl, sG, s1', s2', q⟩ := q1
  obtain ⟨u1, u2, rfl, ru1, ru2⟩ := vals2 r1
  cases ru1
  cases ru2
  obtain ⟨us1, rv1, p1, _⟩ := SrcK.read I1 (SrcK.mono s1' sG)
  obtain ⟨us2, rv2, p2, _⟩ := SrcK.read I1 (SrcK.mono s2' sG)
  refine zip_begins2 (SrcK.begins (kd := k1) (its := us1.toArray)) (SrcK.begins (kd := k2) (its := us2.toArray)) p1 p2 fun h' hz hTI hTO h1 h2 hsz hk => wpAny_pyIter_zip hz ?_
  have I2 : Inv X pins σ H1 { s1 with heap := h' } := I1.kept (t' := s1.toks) hk
  have l1 := SrcK.lt p1
  have l2 := SrcK.lt p2
  have ne1 : a ≠ s1.heap.objs.size := Nat.ne_of_lt l1
  have ne2 : b ≠ s1.heap.objs.size + 1 := Nat.ne_of_lt (Nat.lt_succ_of_lt l2)
  refine ⟨s1.heap.objs.size + 4, [s1.heap.objs.size + 4, s1.heap.objs.size + 2, s1.heap.objs.size + 3, s1.heap.objs.size, s1.heap.objs.size + 1], _, _, H1, rfl, I2,
    turn_z2 (zip_sep2 (fp1 := [a]) (fp2 := [b]) (fun c hc => by simp at hc; subst hc; exact l1) (fun c hc => by simp at hc; subst hc; exact l2)) ne1 ne2 s1' s2', ⟨hz, hTI, ⟨_, _, hTO⟩, SrcK.first h1, SrcK.first h2⟩, fun c hcm => ?_, q⟩
  have e' : c = s1.heap.objs.size + 4 ∨ c = s1.heap.objs.size + 2 ∨ c = s1.heap.objs.size + 3 ∨ c = s1.heap.objs.size ∨ c = s1.heap.objs.size + 1 := by simpa using hcm
  have hle : s1.heap.objs.size ≤ c := by
    rcases e' with z | z | z | z | z
    · rw [z]; exact Nat.le_add_right _ _
    · rw [z]; exact Nat.le_add_right _ _
    · rw [z]; exact Nat.le_add_right _ _
    · rw [z]; exact Nat.le_refl _
    · rw [z]; exact Nat.le_add_right _ _
  exact I1.fpOk hle (I1.hok.fresh hle)
theorem i_zip2 (hg : Gl X "zip") (hm : X.mg "zip" = none) (ha : SA X ct W [a, b] fs)
    (hs : starEach [a, b] X.env = (false, eval a X.env) :: starEach [b] X.env := by rfl) (hpl : (backTo pos (starEach [b] X.env)).any (·.1) = false := by rfl) : SI X ct W (.Tuple elts kk tpos) (.Call (.Name "zip" p) [a, b] [] pos) (iZip2 fs) := PIw (pi_zz2 hg hm ha hs hpl) fun σ H R q => by
  obtain ⟨c, G, e, r, p⟩ := q
  refine ⟨c, G, e, r, (Post.bind p).imp fun G1 H1 e1 ts s1 r1 p1 vs hvs => ?_⟩
  split at p1
  · rename_i d1 d2 hd
    split at p1
    · rename_i xs ys h1 h2
      obtain ⟨v, v', rfl, hv, hv'⟩ := (vals_ok hd hvs).two
      obtain ⟨a1, k1, vs1, rfl, q1, rr1⟩ := D.src hv h1
      obtain ⟨a2, k2, vs2, rfl, q2, rr2⟩ := D.src hv' h2
      exact ⟨G1, a1, a2, k1, k2, vs1, vs2, rfl, r1.gh, q1, q2, p1.now r1 _ (itOk_z2 rr1 rr2)⟩
    · exact p1.elim
  · exact p1.elim
theorem pi_zz3 (hg : Gl X "zip") (hm : X.mg "zip" = none) (ha : PA X [a, b, c] ta)
    (hs : starEach [a, b, c] X.env = (false, eval a X.env) :: starEach [b, c] X.env := by rfl) (hpl : (backTo pos (starEach [b, c] X.env)).any (·.1) = false := by rfl) :
    PI X (.Tuple elts kk tpos) (.Call (.Name "zip" p) [a, b, c] [] pos) (fun σ H R => ta σ H fun vs H1 => ∃ (G : Hp) (a b c : Addr) (k1 k2 k3 : SrcK) (xs ys zs : List V), vs = [.ref a, .ref b, .ref c] ∧ Same G H1 ∧ k1.sq X.K G a xs ∧ k2.sq X.K G b ys ∧ k3.sq X.K G c zs ∧ R (Jz3 G xs ys zs) H1) := by
  refine ⟨fun pins s σ H R I h => ?_⟩
  refine PyProof.Rows.Call_ (ld_blt I hg hm PyProof.Rows.boot_zip (PyProof.Rows.callWith_type1 (thn (ha.run pos pins s σ H _ I h) fun us s1 ⟨vs, H1, I1, r1, q1⟩ => ?_) hs hpl))
  obtain ⟨G, a, b, c, k1, k2, k3, xs, ys, zs, rfl, sG, s1', s2', s3', q⟩ := q1
  cases r1 with
  | cons ru1 r1 =>
  obtain ⟨u2, u3, rfl, ru2, ru3⟩ := vals2 r1
  cases ru1
  cases ru2
  cases ru3
  obtain ⟨us1, rv1, p1, _⟩ := SrcK.read I1 (SrcK.mono s1' sG)
  obtain ⟨us2, rv2, p2, _⟩ := SrcK.read I1 (SrcK.mono s2' sG)
  obtain ⟨us3, rv3, p3, _⟩ := SrcK.read I1 (SrcK.mono s3' sG)
  refine zip_begins3 (SrcK.begins (kd := k1) (its := us1.toArray)) (SrcK.begins (kd := k2) (its := us2.toArray)) (SrcK.begins (kd := k3) (its := us3.toArray)) p1 p2 p3 fun h' hz hTI hTO h1 h2 h3 hsz hk => wpAny_pyIter_zip hz ?_
  have I2 : Inv X pins σ H1 { s1 with heap := h' } := I1.kept (t' := s1.toks) hk
  have l1 := SrcK.lt p1
  have l2 := SrcK.lt p2
  have l3 := SrcK.lt p3
  have ne1 : a ≠ s1.heap.objs.size := Nat.ne_of_lt l1
  have ne2 : b ≠ s1.heap.objs.size + 1 := Nat.ne_of_lt (Nat.lt_succ_of_lt l2)
  have ne3 : c ≠ s1.heap.objs.size + 2 := Nat.ne_of_lt (Nat.lt_succ_of_lt (Nat.lt_succ_of_lt l3))
  refine ⟨s1.heap.objs.size + 5, [s1.heap.objs.size + 5, s1.heap.objs.size + 3, s1.heap.objs.size + 4, s1.heap.objs.size, s1.heap.objs.size + 1, s1.heap.objs.size + 2], _, _, H1, rfl, I2,
    turn_z3 (zip_sep3 (fp1 := [a]) (fp2 := [b]) (fp3 := [c]) (fun c hc => by simp at hc; subst hc; exact l1) (fun c hc => by simp at hc; subst hc; exact l2) (fun c hc => by simp at hc; subst hc; exact l3)) ne1 ne2 ne3 s1' s2' s3', ⟨hz, hTI, ⟨_, _, _, hTO⟩, SrcK.first h1, SrcK.first h2, SrcK.first h3⟩, fun c hcm => ?_, q⟩
  have e' : c = s1.heap.objs.size + 5 ∨ c = s1.heap.objs.size + 3 ∨ c = s1.heap.objs.size + 4 ∨ c = s1.heap.objs.size ∨ c = s1.heap.objs.size + 1 ∨ c = s1.heap.objs.size + 2 := by simpa using hcm
  have hle : s1.heap.objs.size ≤ c := by
    rcases e' with z | z | z | z | z | z
    · rw [z]; exact Nat.le_add_right _ _
    · rw [z]; exact Nat.le_add_right _ _
    · rw [z]; exact Nat.le_add_right _ _
    · rw [z]; exact Nat.le_refl _
    · rw [z]; exact Nat.le_add_right _ _
    · rw [z]; exact Nat.le_add_right _ _
  exact I1.fpOk hle (I1.hok.fresh hle)
theorem i_zip3 (hg : Gl X "zip") (hm : X.mg "zip" = none) (ha : SA X ct W [a, b, c] fs)
    (hs : starEach [a, b, c] X.env = (false, eval a X.env) :: starEach [b, c] X.env := by rfl) (hpl : (backTo pos (starEach [b, c] X.env)).any (·.1) = false := by rfl) : SI X ct W (.Tuple elts kk tpos) (.Call (.Name "zip" p) [a, b, c] [] pos) (iZip3 fs) := PIw (pi_zz3 hg hm ha hs hpl) fun σ H R q => by
  obtain ⟨c, G, e, r, p⟩ := q
  refine ⟨c, G, e, r, (Post.bind p).imp fun G1 H1 e1 ts s1 r1 p1 vs hvs => ?_⟩
  split at p1
  · rename_i d1 d2 d3 hd
    split at p1
    · rename_i xs ys zs h1 h2 h3
      obtain ⟨v, v', v'', rfl, hv, hv', hv''⟩ := (vals_ok hd hvs).three
      obtain ⟨a1, k1, vs1, rfl, q1, rr1⟩ := D.src hv h1
      obtain ⟨a2, k2, vs2, rfl, q2, rr2⟩ := D.src hv' h2
      obtain ⟨a3, k3, vs3, rfl, q3, rr3⟩ := D.src hv'' h3
      exact ⟨G1, a1, a2, a3, k1, k2, k3, vs1, vs2, vs3, rfl, r1.gh, q1, q2, q3, p1.now r1 _ (itOk_z3 rr1 rr2 rr3)⟩
    · exact p1.elim
  · exact p1.elim
end
end MM
end
section
set_option Elab.async false
set_option linter.all false
set_option autoImplicit false
set_option maxRecDepth 100000
set_option maxHeartbeats 4000000
namespace MM
open PySem PySem.Spec L2

/-! ### enumerate over a list or a tuple -/
section
open Sem (wp)
open AutoSeq1 (wpAny_loadPart')
set_option maxHeartbeats 4000000 in
theorem meets_enumerate_newB1 {v : Value} {o : Obj} {H : Heap → Prop} (B : Begins v o H) :
    Meets (Builtin.«enumerate.__new__» ⟨[.type "enumerate", v], []⟩) (fun _ R s => H s.heap ∧
      R (.ok (.ret (.ref (s.heap.push o).objs.size))) { s with heap := (s.heap.push o).push { cls := .type "enumerate", data := .fields #[.none, .bool false, .ref s.heap.objs.size, rawInt 0, .none, .none] } }) :=
  .of_wp fun prog w A R s h => by
    obtain ⟨hp, g, d, tk, os⟩ := s; obtain ⟨h1, h⟩ := h
    have hsub := sub_enumerate
    have q1 : ∀ {A' : Around} {E : Value → Shared → Prop} {Q : Value → Shared → Prop}, Q (.ref hp.objs.size) ⟨hp.push o, g, d, tk, os⟩ → wpAny (model prog w) A' (pyIter v) Q E ⟨hp, g, d, tk, os⟩ :=
      fun q => B.iter prog w _ _ ⟨hp, g, d, tk, os⟩ _ h1 q
    wp_walk using q1
    refine wpAny_stack_any fun st => wpAny_pure ?_
    split
    · rename_i c _ _ _ _ _
      cases (c == Value.type "enumerate")
      · wp_walk using q1
        exact ⟨_, rfl, h⟩
      · wp_walk using q1
        exact ⟨_, rfl, h⟩
    · wp_walk using q1
      exact ⟨_, rfl, h⟩
end
section
variable {prog : Program} {w : World} {A : Around} {E : Value → Shared → Prop} {s : Shared}
theorem enum_begins1 {v : Value} {o : Obj} {H : Heap → Prop} {Q : Value → Shared → Prop} (B : Begins v o H) (h1 : H s.heap)
    (h : ∀ h', IsEnum h' (s.heap.objs.size + 1) s.heap.objs.size 0 .none → h'.get? s.heap.objs.size = some o → h'.objs.size = s.heap.objs.size + 2 →
      (∀ b o, s.heap.get? b = some o → h'.get? b = some o) → Q (.ref (s.heap.objs.size + 1)) { s with heap := h' }) :
    wpAny (model prog w) A (call (.type "enumerate") [v]) Q E s := by
  refine callType_new F.called_enumerate (by decide) (F.typeCall_enumerate_1 _) (F.newCall_enumerate_1 _) (fun obj => F.args_object_init_2 obj _) F.entry_enumerate_new
    (meets_enumerate_newB1 B) ⟨h1, ?_⟩
  have hz : (s.heap.push o).objs.size = s.heap.objs.size + 1 := Heap.size_push ..
  show _ ∧ _
  rw [hz]
  have he : IsEnum ((s.heap.push o).push { cls := .type "enumerate", data := .fields #[.none, .bool false, .ref s.heap.objs.size, rawInt 0, .none, .none] }) (s.heap.objs.size + 1) s.heap.objs.size 0 .none := by
    have := Heap.get?_push_size (s.heap.push o) (o := { cls := .type "enumerate", data := .fields #[.none, .bool false, .ref s.heap.objs.size, rawInt 0, .none, .none] }) rfl
    rw [hz] at this; exact this
  refine ⟨⟨_, he, rfl⟩, h _ he (Heap.get?_push_of_some _ (Heap.get?_push_size _ B.free)) (by rw [Heap.size_push, hz]) fun b o x => Heap.get?_push_of_some _ (Heap.get?_push_of_some _ x)⟩
end
section
variable {P : Program} {w : World} {K : PySem.W.Frag} {elts : List Expr} {kk : Nat} {tpos : Pos} {k1 : SrcK} {a it e : Addr} {G : Hp} {xs : List V}
theorem turn_en (n1 : a ≠ it) (n2 : e ≠ it) (n3 : e ≠ a) (q1 : k1.sq K G a xs) :
    Turn P w K (.Tuple elts kk tpos) (Jen G xs) [e, it] e (fun i h => (∃ old, IsEnum h e it (0 + (i : Int)) old) ∧ k1.it h it a i) := by
  refine turn_walksT (by simp) (fun i h st b hb => ?_) (fun i h h' st k => ?_) (fun A i s Q E st hq => ?_) (fun X hP hw hK hh pins s σ H i I st hg => ?_)
  · obtain ⟨⟨old, he⟩, h1⟩ := st
    have e' : b = e ∨ b = it := by simpa using hb
    rcases e' with q | q
    · rw [q]; exact ⟨_, he, fun v q => nomatch q⟩
    · rw [q]; exact SrcK.obj h1
  · obtain ⟨⟨old, he⟩, h1⟩ := st
    exact ⟨⟨old, k e (by simp) _ he⟩, SrcK.stay h1 fun o q => k it (by simp) o q⟩
  · obtain ⟨⟨old, he⟩, h1⟩ := st
    exact wpAny_pyIter_enum he hq
  · subst hP hw hK
    have sG : Same G H := by rcases hg with q | q <;> exact q.1
    obtain ⟨us1, r1, p1, z1⟩ := SrcK.read I (SrcK.mono q1 sG)
    obtain ⟨he, h1⟩ := st
    have l1 := r1.length
    refine ⟨_, _, _, _, _, _, WalksT.enumFrom 0 (SrcK.draws (kd := k1) (its := us1.toArray) (by exact hh) n1) e n2 (by simp; exact ⟨n2, n3⟩) (by simp), fun b hb => hb, ⟨he, ⟨h1, p1⟩⟩, fun q => ⟨?_, fun vals hp => ?_⟩, fun q => ?_, fun h' st => ?_⟩
    · have : i < xs.length := q.2
      simp only [List.size_toArray]
      omega
    · obtain ⟨t, v1, g1, ev⟩ := hp
      have lt1 : i < xs.length := q.2
      obtain ⟨u1, e1, rv1⟩ := r1.get (List.getElem?_eq_getElem lt1)
      have g1' : us1[i]? = some v1 := by simpa using g1
      rw [e1] at g1'
      cases g1'
      subst ev
      rw [Int.zero_add]
      exact ⟨[.int (i : Int), xs[i]], .cons ⟨t, rfl⟩ (.cons rv1 .nil), size2, fun T hT => ⟨T, _, rfl, hT, rfl, List.getElem?_eq_getElem lt1⟩⟩
    · have : i = xs.length := q.2
      simp only [List.size_toArray]
      omega
    · exact ⟨st.1, st.2.1⟩
theorem itOk_en {k : Kc} {G : Hp} {vs : List V} {xs : List D} (r1 : Rps k G vs xs) : ItOk k G (Jen G vs) (enumD 0 xs) := by
  have l1 := r1.len
  have l := enumD_len xs 0
  refine ⟨fun i H hi s => ⟨s, by omega⟩, fun H s => ⟨s, by omega⟩, fun i H x H' hi s y => ?_⟩
  obtain ⟨T, a, e1, hT, eH, g1⟩ := y
  obtain ⟨d1, h1, q1⟩ := r1.getV g1
  have z := enumD_get (j := 0) h1
  rw [Nat.zero_add] at z
  exact ⟨_, z, .inr ⟨T, _, _, e1, hT, eH, .cons (.int _) (.cons q1 .nil), rfl⟩⟩
end
section
variable {X : Cx} {ct : Ct} {W : WX} {pos p tpos : Pos} {a : Expr} {fs : EM (List Tk)} {elts : List Expr} {kk : Nat} {ta : L2.TA}
theorem pi_en (hg : Gl X "enumerate") (hm : X.mg "enumerate" = none) (ha : PA X [a] ta) (hs : starEach [a] X.env = [(false, eval a X.env)] := by rfl) :
    PI X (.Tuple elts kk tpos) (.Call (.Name "enumerate" p) [a] [] pos) (fun σ H R => ta σ H fun vs H1 => ∃ (G : Hp) (a : Addr) (k1 : SrcK) (xs : List V), vs = [.ref a] ∧ Same G H1 ∧ k1.sq X.K G a xs ∧ R (Jen G xs) H1) := by
  refine ⟨fun pins s σ H R I h => ?_⟩
  refine PyProof.Rows.Call_ (ld_blt I hg hm PyProof.Rows.boot_enumerate (PyProof.Rows.callWith_type1 (thn (ha.run pos pins s σ H _ I h) fun us s1 ⟨vs, H1, I1, r1, q1⟩ => ?_) hs rfl))
  obtain ⟨G, a, k1, xs, rfl, sG, s1', q⟩ := q1
  obtain ⟨u1, rfl, ru1⟩ := vals1 r1
  cases ru1
  obtain ⟨us1, rv1, p1, _⟩ := SrcK.read I1 (SrcK.mono s1' sG)
  refine enum_begins1 (SrcK.begins (kd := k1) (its := us1.toArray)) p1 fun h' he h1 hsz hk => wpAny_pyIter_enum he ?_
  have I2 : Inv X pins σ H1 { s1 with heap := h' } := I1.kept (t' := s1.toks) hk
  have l1 := SrcK.lt p1
  refine ⟨s1.heap.objs.size + 1, [s1.heap.objs.size + 1, s1.heap.objs.size], _, _, H1, rfl, I2,
    turn_en (Nat.ne_of_lt l1) (Nat.succ_ne_self _) (Nat.ne_of_gt (Nat.lt_succ_of_lt l1)) s1', ⟨⟨.none, he⟩, SrcK.first h1⟩, fun c hcm => ?_, q⟩
  have e' : c = s1.heap.objs.size + 1 ∨ c = s1.heap.objs.size := by simpa using hcm
  have hle : s1.heap.objs.size ≤ c := by
    rcases e' with z | z
    · rw [z]; exact Nat.le_add_right _ _
    · rw [z]; exact Nat.le_refl _
  exact I1.fpOk hle (I1.hok.fresh hle)
theorem i_enum (hg : Gl X "enumerate") (hm : X.mg "enumerate" = none) (ha : SA X ct W [a] fs) (hs : starEach [a] X.env = [(false, eval a X.env)] := by rfl) : SI X ct W (.Tuple elts kk tpos) (.Call (.Name "enumerate" p) [a] [] pos) (iEnum fs) := PIw (pi_en hg hm ha hs) fun σ H R q => by
  obtain ⟨c, G, e, r, p⟩ := q
  refine ⟨c, G, e, r, (Post.bind p).imp fun G1 H1 e1 ts s1 r1 p1 vs hvs => ?_⟩
  split at p1
  · rename_i d1 hd
    split at p1
    · rename_i xs h1
      obtain ⟨v, rfl, hv⟩ := (vals_ok hd hvs).one
      obtain ⟨a1, k1, vs1, rfl, q1, rr1⟩ := D.src hv h1
      exact ⟨G1, a1, k1, vs1, rfl, r1.gh, q1, p1.now r1 _ (itOk_en rr1)⟩
    · exact p1.elim
  · exact p1.elim
end

/-! ### targets of a walk -/
/-- ts: the slots that it stores to -/
def TGt (k : Kc) (ts : List Nat) (ft : D → Env → Option Env) : L2.TG := fun v σ H Q => ∃ c G e d e', RepS k c G σ H e ∧ Rp k G v d ∧ ft d e = some e' ∧ ∀ σ', RepS k c G σ' H e' → σ'.length = σ.length → (∀ j, j ∉ ts → σ'[j]? = σ[j]?) → Q σ' H
abbrev SG (X : Cx) (ct : Ct) (tg : Expr) (ts : List Nat) (ft : D → Env → Option Env) : Prop := PG X tg (TGt ⟨X.K, ct⟩ ts ft)
theorem PGw {X : Cx} {tg : Expr} {t t' : L2.TG} (h : PG X tg t) (w : ∀ v σ H Q, t' v σ H Q → t v σ H Q) : PG X tg t' := ⟨fun pins s σ H v u Q I r q => h.run pins s σ H v u Q I r (w v σ H Q q)⟩
def gSet (i : Nat) (d : D) (e : Env) : Option Env := match e[i]? with
  | some (some (.p _)) => none
  | some _ => some (e.set i (some (.d d)))
  | none => none
/-- a, b, .. = a tuple -/
def gSets : List Nat → List D → Env → Option Env
  | [], [], e => some e
  | i :: is, d :: ds, e => (gSet i d e).bind (gSets is ds)
  | _, _, _ => none
def gUnp (is : List Nat) (d : D) (e : Env) : Option Env := match d with
  | .tup ds => gSets is ds e
  | _ => none
theorem gSet_ok {k : Kc} {c : Fr} {G H : Hp} {σ : L2.St} {e e' : Env} {i : Nat} {v : V} {d : D} (r : RepS k c G σ H e) (hv : Rp k G v d) (h : gSet i d e = some e') : RepS k c G (σ.set i (some v)) H e' := by
  unfold gSet at h
  split at h
  · cases h
  · rename_i y hn hy
    cases h
    exact r.put (x := some (.d d)) (r.nopin hy fun z q => hn z q) (fun y hy => by cases hy; exact hv) (fun y b hy hw => by cases hy; cases hw)
  · cases h
section
variable {X : Cx} {ct : Ct} {pos : Pos} {x : Str} {i : Nat} {es : List Expr} {n : Nat}
theorem g_name (h : PG X (.Name x pos) (gName i)) : SG X ct (.Name x pos) [i] (gSet i) := PGw h fun v σ H Q q => by
  obtain ⟨c, G, e, d, e', r, hv, hf, q⟩ := q
  exact q _ (gSet_ok r hv hf) (List.length_set ..) fun j hj => by rw [List.getElem?_set_ne (by simpa using fun z => hj (by simp [z]))]
def gCs : List Nat → L2.TGs
  | [] => gNil
  | i :: is => gCons (gName i) (gCs is)
theorem gCs_ok {k : Kc} {c : Fr} {G H : Hp} {Q : L2.St → Hp → Prop} : ∀ {is : List Nat} {ds : List D} {vs : List V} {σ : L2.St} {e e' : Env}, RepS k c G σ H e → Rps k G vs ds → gSets is ds e = some e' →
    (∀ σ', RepS k c G σ' H e' → σ'.length = σ.length → (∀ j, j ∉ is → σ'[j]? = σ[j]?) → Q σ' H) → gCs is vs σ H Q
  | [], [], _, σ, e, e', r, rs, h, q => by
    cases rs
    cases h
    exact ⟨rfl, q σ r rfl fun _ _ => rfl⟩
  | i :: is, d :: ds, _, σ, e, e', r, rs, h, q => by
    cases rs with
    | cons a b =>
      have h' : (gSet i d e).bind (gSets is ds) = some e' := h
      cases h1 : gSet i d e with
      | none => rw [h1] at h'; cases h'
      | some e1 =>
        rw [h1] at h'
        refine ⟨_, _, rfl, gCs_ok (gSet_ok r a h1) b h' fun σ' r' hl hj => q σ' r' (by rw [hl, List.length_set]) fun j hn => ?_⟩
        rw [hj j fun z => hn (List.mem_cons_of_mem _ z), List.getElem?_set_ne fun z => hn (by rw [z]; exact List.mem_cons_self)]
  | [], _ :: _, _, _, _, _, _, _, h, _ => by cases h
  | _ :: _, [], _, _, _, _, _, _, h, _ => by cases h
theorem g_tup {is : List Nat} (hc : X.calm = true) (h : PGs X es (gCs is)) (hn : (assignEach es X.env).length = is.length := by rfl) (hst : (assignEach es X.env).findIdx? (·.1) = none := by rfl) : SG X ct (.Tuple es n pos) is (gUnp is) := PGw (pg_tup hc h hn hst) fun v σ H Q q => by
  obtain ⟨c, G, e, d, e', r, hv, hf, q⟩ := q
  cases d with
  | tup ds =>
    cases hv with
    | tup h1 h2 =>
      refine ⟨_, _, rfl, seqT r.gh h1, ?_, gCs_ok r h2 hf q⟩
      have hl : ∀ {is : List Nat} {ds : List D} {e e' : Env}, gSets is ds e = some e' → ds.length = is.length := by
        intro is
        induction is with
        | nil => intro ds e e' h; cases ds with
          | nil => rfl
          | cons _ _ => cases h
        | cons i is ih => intro ds e e' h; cases ds with
          | nil => cases h
          | cons d ds =>
            have h' : (gSet i d e).bind (gSets is ds) = some e' := h
            cases h1 : gSet i d e with
            | none => rw [h1] at h'; cases h'
            | some e1 => rw [h1] at h'; rw [List.length_cons, List.length_cons, ih h']
      rw [h2.len]
      exact hl hf
  | _ => cases hf
end

/-! ### comprehensions -/
def wipeE : List Nat → Env → Option Env
  | [], e => some e
  | v :: vs, e => match wipeE vs e with
    | some e1 => (match e1[v]? with
      | some (some (.p _)) => none
      | some _ => some (e1.set v none)
      | none => none)
    | none => none
def lcGo (vs : List Nat) (ft : D → Env → Option Env) (ff : EM Bool) (fe : EM D) : List D → List D → Env → Res (List D)
  | [], acc, e => .ok acc e
  | d :: ds, acc, e => match ft d e with
    | none => .stuck
    | some e1 => match ff e1 with
      | .ok true e2 => (match fe e2 with
        | .ok x e3 => if acc.length < LIM then (match wipeE vs e3 with
            | some e4 => lcGo vs ft ff fe ds (acc ++ [x]) e4
            | none => .stuck) else .stuck
        | _ => .stuck)
      | .ok false e2 => (match wipeE vs e2 with
        | some e4 => lcGo vs ft ff fe ds acc e4
        | none => .stuck)
      | _ => .stuck
def lcF (vs : List Nat) (fi : EM (List D)) (ft : D → Env → Option Env) (ff : EM Bool) (fe : EM D) : EM EV := fun e => (fi e).bind fun ds e1 => match wipeE vs e1 with
  | none => .stuck
  | some e2 => (lcGo vs ft ff fe ds [] e2).bind fun acc e3 => .ok (.m (.lst acc)) e3
def tYesF : EM Bool := fun e => .ok true e
section
variable {k : Kc} {c : Fr} {G G' H H' : Hp} {σ : L2.St} {e : Env} {p a : Addr} {o : HO}
/-- a slot is emptied -/
theorem RepS.empty (r : RepS k c G σ H e) {i : Nat} (hp : c.P i = none) (hi : i < e.length) : RepS k c G (σ.set i none) H (e.set i none) := by
  have old : ∀ {j : Nat} {z : EV}, (e.set i none)[j]? = some (some z) → i ≠ j ∧ e[j]? = some (some z) := fun {j z} hz => by
    rcases set_get hz with ⟨_, q, _⟩ | q
    · cases q
    · exact q
  have r1 := r.forget hp
  refine ⟨r.g0, r.gh, r.oh, r.fr, r.tb, by rw [List.length_set, List.length_set]; exact r.len, fun j z hz => ?_, fun j l b z w hz hw z1 z2 s1 s2 => ?_, fun j b hb => ?_⟩
  · obtain ⟨h1, h2⟩ := old hz
    obtain ⟨v, q1, q2⟩ := r.slot j z h2
    exact ⟨v, by rw [List.getElem?_set_ne h1]; exact q1, q2⟩
  · obtain ⟨h1, h2⟩ := old hz
    obtain ⟨h3, h4⟩ := old hw
    rw [List.getElem?_set_ne h1] at s1
    rw [List.getElem?_set_ne h3] at s2
    exact r.dis j l b z w h2 h4 z1 z2 s1 s2
  · obtain ⟨z, h1, h2⟩ := r.pin j b hb
    have hij : i ≠ j := fun q => by subst q; rw [hp] at hb; cases hb
    exact ⟨z, by rw [List.getElem?_set_ne hij]; exact h1, by rw [List.getElem?_set_ne hij]; exact h2⟩
theorem wipeE_ok : ∀ {vs : List Nat} {σ : L2.St} {e e' : Env}, RepS k c G σ H e → wipeE vs e = some e' → RepS k c G (wipe σ vs) H e' ∧ e'.length = e.length ∧ (∀ v ∈ vs, e'[v]? = some none) ∧ ∀ j, j ∉ vs → e'[j]? = e[j]?
  | [], σ, e, e', r, h => by cases h; exact ⟨r, rfl, fun v hv => by simp at hv, fun _ _ => rfl⟩
  | v :: vs, σ, e, e', r, h => by
    unfold wipeE at h
    cases q : wipeE vs e with
    | none => rw [q] at h; cases h
    | some e1 =>
      rw [q] at h
      obtain ⟨r1, l1, n1, o1⟩ := wipeE_ok r q
      have h' : (match e1[v]? with | some (some (.p _)) => none | some _ => some (e1.set v none) | none => none) = some e' := h
      split at h'
      · cases h'
      · rename_i y hn hy
        cases h'
        have hv : v < e1.length := (List.getElem?_eq_some_iff.mp hy).1
        refine ⟨r1.empty (r1.nopin hy fun z w => hn z w) hv, by rw [List.length_set]; exact l1, fun u hu => ?_, fun j hj => ?_⟩
        · by_cases huv : v = u
          · subst huv; rw [List.getElem?_set_self hv]
          · rw [List.getElem?_set_ne huv]
            rcases List.mem_cons.mp hu with z | z
            · exact absurd z.symm huv
            · exact n1 u z
        · rw [List.getElem?_set_ne fun z => hj (by rw [z]; exact List.mem_cons_self)]
          exact o1 j fun z => hj (List.mem_cons_of_mem _ z)
      · cases h'
/-- the emptied slots' values may be what they like -/
theorem RepS.unwipe {vs : List Nat} {σ' : L2.St} (r : RepS k c G σ' H e) (hl : σ.length = σ'.length) (h : ∀ j, j ∉ vs → σ[j]? = σ'[j]?) (hn : ∀ v ∈ vs, e[v]? = some none) : RepS k c G σ H e := by
  have out : ∀ {j : Nat} {x : EV}, e[j]? = some (some x) → j ∉ vs := fun {j x} hx hj => by
    rw [hn j hj] at hx; cases hx
  refine ⟨r.g0, r.gh, r.oh, r.fr, r.tb, by rw [r.len, hl], fun j z hz => ?_, fun j l b z w hz hw z1 z2 s1 s2 => ?_, fun j b hb => ?_⟩
  · obtain ⟨v, q1, q2⟩ := r.slot j z hz
    exact ⟨v, by rw [h j (out hz)]; exact q1, q2⟩
  · rw [h j (out hz)] at s1
    rw [h l (out hw)] at s2
    exact r.dis j l b z w hz hw z1 z2 s1 s2
  · obtain ⟨z, h1, h2⟩ := r.pin j b hb
    exact ⟨z, h1, by rw [h j (out h1)]; exact h2⟩
theorem wipe_out' {σ : L2.St} {j : Nat} : ∀ {vs : List Nat}, j ∉ vs → (wipe σ vs)[j]? = σ[j]?
  | [], _ => rfl
  | v :: vs, h => by
    unfold wipe
    rw [List.getElem?_set_ne fun z => h (by rw [z]; exact List.mem_cons_self)]
    exact wipe_out' fun z => h (List.mem_cons_of_mem _ z)
theorem wipe_in {σ : L2.St} {j : Nat} : ∀ {vs : List Nat}, j ∈ vs → j < σ.length → (wipe σ vs)[j]? = some none
  | v :: vs, h, hl => by
    unfold wipe
    by_cases hv : v = j
    · subst hv; rw [List.getElem?_set_self (by rw [wipe_length]; exact hl)]
    · rw [List.getElem?_set_ne hv]
      rcases List.mem_cons.mp h with z | z
      · exact absurd z.symm hv
      · exact wipe_in z hl
theorem wipe_same {σ σ' : L2.St} {vs : List Nat} (hl : σ'.length = σ.length) (h : ∀ j, j ∉ vs → σ'[j]? = σ[j]?) : wipe σ' vs = wipe σ vs := by
  apply List.ext_getElem?
  intro j
  by_cases hj : j ∈ vs
  · by_cases hlt : j < σ.length
    · rw [wipe_in hj (by omega), wipe_in hj hlt]
    · rw [List.getElem?_eq_none (by rw [wipe_length]; omega), List.getElem?_eq_none (by rw [wipe_length]; omega)]
  · rw [wipe_out' hj, wipe_out' hj, h j hj]
theorem wipe_wipe {σ : L2.St} {vs : List Nat} : wipe (wipe σ vs) vs = wipe σ vs := wipe_same (wipe_length σ vs) fun j hj => wipe_out' hj
/-- a thing that is nobody's is guarded -/
def Fr.guard (c : Fr) (a : Addr) (o : HO) : Fr := { c with O := upd c.O a o }
theorem RepS.guard (r : RepS k c G σ H e) (hH : H a = some o) (hG : G a = none) (hl : Loose σ e a) (hnt : NoT o) : RepS k (c.guard a o) G σ H e := by
  refine ⟨r.g0, r.gh, fun b u q => ?_, fun b g1 g2 => ?_, r.tb.keepT (fun b u q z => q) (fun b ps q => ⟨fun n => (show (upd c.O a o) b = none by rw [upd_ne (fun y => by subst y; rw [hH] at q; cases q; exact hnt _ rfl)]; exact n), id⟩), r.len, fun i x hx => ?_, r.dis, r.pin⟩
  · by_cases hb : b = a
    · subst hb
      have q' : (upd c.O b o) b = some u := q
      rw [upd_same] at q'
      rw [hH, ← q']
    · have q' : (upd c.O a o) b = some u := q
      rw [upd_ne hb] at q'
      exact r.oh b u q'
  · by_cases hb : b = a
    · subst hb; exact absurd hG g1
    · have g2' : (upd c.O a o) b ≠ none := g2
      rw [upd_ne hb] at g2'
      exact r.fr b g1 g2'
  · obtain ⟨v, h1, h2⟩ := r.slot i x hx
    refine ⟨v, h1, ?_⟩
    have own : x.own = true → ∀ {y : MV}, (∃ b, v = .ref b ∧ MAt k c G H b y) → ∃ b, v = .ref b ∧ MAt k (c.guard a o) G H b y := fun hw {y} ⟨b, e1, m1, m2, m3⟩ => by
      have na : b ≠ a := fun z => by
        subst z
        rw [e1] at h1
        exact hl i x hx hw h1
      exact ⟨b, e1, m1, by show (upd c.O a o) b = none; rw [upd_ne na]; exact m2, m3⟩
    cases x with
    | d d => exact h2
    | m x => exact own rfl h2
    | p x => exact own rfl h2
    | t _ _ => first | exact h2.elim | exact trivial | cases hw | exact hv.elim | exact h.elim | exact hx.elim | exact hu.elim | cases hy | cases h' | cases hd' | cases h2 | cases h1 | cases hd | cases h3 | cases h4
/-- .. and is free again: it stands as it was, nobody's -/
theorem RepS.unguard (r : RepS k (c.guard a o) G σ H e) (hO : c.O a = none) (h0 : c.G0 a = none) (hne : ∀ φ, o ≠ .ext φ) : RepS k c G σ H e ∧ H a = some o ∧ G a = none ∧ Loose σ e a := by
  have hH : H a = some o := r.oh a o upd_same
  have hG : G a = none := by
    cases q : G a with
    | none => rfl
    | some u =>
      rcases r.fr a (by rw [q]; simp) (by show (upd c.O a o) a ≠ none; rw [upd_same]; simp) with z | ⟨φ, z⟩
      · exact absurd h0 z
      · have y := r.gh _ _ z
        rw [hH] at y
        exact absurd (Option.some.inj y) (hne φ)
  have nb : ∀ {b : Addr}, (c.guard a o).O b = none → b ≠ a ∧ c.O b = none := fun {b} h => by
    have h' : (upd c.O a o) b = none := h
    by_cases hb : b = a
    · subst hb; rw [upd_same] at h'; cases h'
    · rw [upd_ne hb] at h'; exact ⟨hb, h'⟩
  refine ⟨⟨r.g0, r.gh, fun b u q => ?_, fun b g1 g2 => ?_, r.tb.keep (fun b u q z => ⟨q, fun n => (nb n).2, id⟩), r.len, fun i x hx => ?_, r.dis, r.pin⟩, hH, hG, fun i x hx hw q => ?_⟩
  · have hb : b ≠ a := fun z => by subst z; rw [hO] at q; cases q
    exact r.oh b u (by show (upd c.O a o) b = some u; rw [upd_ne hb]; exact q)
  · have hb : b ≠ a := fun z => by subst z; exact g2 hO
    exact r.fr b g1 (by show (upd c.O a o) b ≠ none; rw [upd_ne hb]; exact g2)
  · obtain ⟨v, h1, h2⟩ := r.slot i x hx
    refine ⟨v, h1, ?_⟩
    have own : ∀ {y : MV}, (∃ b, v = .ref b ∧ MAt k (c.guard a o) G H b y) → ∃ b, v = .ref b ∧ MAt k c G H b y := fun {y} ⟨b, e1, m1, m2, m3⟩ => ⟨b, e1, m1, (nb m2).2, m3⟩
    cases x with
    | d d => exact h2
    | m x => exact own h2
    | p x => exact own h2
    | t _ _ => first | exact h2.elim | exact trivial | cases hw | exact hv.elim | exact h.elim | exact hx.elim | exact hu.elim | cases hy | cases h' | cases hd' | cases h2 | cases h1 | cases hd | cases h3 | cases h4
  · obtain ⟨b, y, _, hb, _, m2, _⟩ := r.owner hx hw
    rw [q] at hb
    obtain rfl : a = b := by injection hb with z; injection z with z; injection z
    exact (nb m2).1 rfl
/-- a thing that is nobody's is changed -/
theorem RepS.other (r : RepS k c G σ H e) (hG : G a = none) (hO : c.O a = none) (hl : Loose σ e a) (hnt : ∀ u, H a = some u → ¬ IsTb u) : RepS k c G σ (upd H a o) e := by
  refine ⟨r.g0, fun b u q => ?_, fun b u q => ?_, r.fr, r.tb.keep (fun b u q z => ⟨by rw [upd_ne (fun y => by subst y; exact hnt u q z)]; exact q, id, id⟩), r.len, fun i x hx => ?_, r.dis, r.pin⟩
  · rw [upd_ne (ne_of_none q hG)]; exact r.gh _ _ q
  · rw [upd_ne (ne_of_none q hO)]; exact r.oh _ _ q
  · obtain ⟨v, h1, h2⟩ := r.slot i x hx
    refine ⟨v, h1, ?_⟩
    have own : x.own = true → ∀ {y : MV}, (∃ b, v = .ref b ∧ MAt k c G H b y) → ∃ b, v = .ref b ∧ MAt k c G (upd H a o) b y := fun hw {y} ⟨b, e1, m⟩ => by
      have na : b ≠ a := fun z => by
        subst z
        rw [e1] at h1
        exact hl i x hx hw h1
      exact ⟨b, e1, m.keep (Same.refl _) m.1 (upd_ne na)⟩
    cases x with
    | d d => exact h2
    | m x => exact own rfl h2
    | p x => exact own rfl h2
    | t _ _ => first | exact h2.elim | exact trivial | cases hw | exact hv.elim | exact h.elim | exact hx.elim | exact hu.elim | cases hy | cases h' | cases hd' | cases h2 | cases h1 | cases hd | cases h3 | cases h4
end
end MM
end
section
set_option Elab.async false
set_option linter.all false
set_option autoImplicit false
set_option maxRecDepth 100000
set_option maxHeartbeats 4000000
namespace MM
open PySem PySem.Spec L2

abbrev W0 : WX := fun _ _ _ _ => False
theorem drop_at {α : Type} : ∀ {l : List α} {i : Nat} {x : α}, l[i]? = some x → l.drop i = x :: l.drop (i + 1)
  | [], _, _, h => by simp at h
  | y :: l, 0, x, h => by simp at h; subst h; rfl
  | y :: l, i + 1, x, h => by
    rw [List.drop_succ_cons, List.drop_succ_cons]
    exact drop_at (by simpa using h)
theorem walk_of {k : Kc} {G : Hp} {J : It} {ds : List D} (h : ItOk k G J ds) : Walk J ds.length (fun H => Same G H) (fun i H x H' => YRep k G ds i H x H') := ⟨h.goes, h.stops, h.ylds⟩
/-- the item of a turn, as data -/
theorem item_ok {k : Kc} {c : Fr} {G G' H H' : Hp} {σ : L2.St} {e : Env} {ds : List D} {i : Nat} {x : V} (r : RepS k c G' σ H e) (s : Same G G') (y : YRep k G ds i H x H') : ∃ G2 d, ds[i]? = some d ∧ Same G' G2 ∧ RepS k c G2 σ H' e ∧ Rp k G2 x d := by
  obtain ⟨d, hd, h | ⟨T, vs, es, rfl, hT, rfl, rs, rfl⟩⟩ := y
  · obtain ⟨rfl, h⟩ := h
    exact ⟨G', d, hd, Same.refl _, r, h.mono s⟩
  · have gT := r.gh.free hT
    exact ⟨_, _, hd, same_upd gT, r.lay hT, .tup (SqT.of upd_same) ((rs.mono s).mono (same_upd gT))⟩
section
variable {X : Cx} {ct : Ct} {W : WX} {elt tg iter : Expr} {ifs : List Expr} {scope : Scope} {own : List (Str × Nat)} {pos : Pos} {fi : EM (List D)} {ft : D → Env → Option Env} {ff : EM Bool} {fe : EM D} {ts : List Nat}
theorem lc_sem {vs : List Nat} (hts : ∀ i ∈ ts, i ∈ vs) (σ : L2.St) (H : Hp) (Q : VK) (q : TV ⟨X.K, ct⟩ W (lcF vs fi ft ff fe) σ H Q) :
    tLc (TIx ⟨X.K, ct⟩ W fi) (TGt ⟨X.K, ct⟩ ts ft) (TT ⟨X.K, ct⟩ W0 ff) (TE ⟨X.K, ct⟩ W0 fe) vs σ H Q := by
  obtain ⟨c, G, e, r, p⟩ := q
  refine ⟨c, G, e, r, (Post.bind p).imp fun G1 H1 e1 ds s1 r1 p1 J hJ D hD => ?_⟩
  cases hw : wipeE vs e1 with
  | none => rw [hw] at p1; exact p1.elim
  | some e2 =>
    rw [hw] at p1
    have p2 : Post ⟨X.K, ct⟩ W c G1 σ (fun G' H' e' x => ∀ v, RpV ⟨X.K, ct⟩ c G' σ H' e' v x → Q v H') ((lcGo vs ft ff fe ds [] e2).bind fun acc e3 => .ok (.m (.lst acc)) e3) := p1
    have hO : c.O D = none := r1.oh.free hD
    have h0 : c.G0 D = none := (r1.g0.trans r1.gh).free hD
    generalize hR : lcGo vs ft ff fe ds [] e2 = R at p2
    have notS : R ≠ .stuck := fun z => by rw [z] at p2; exact p2
    refine lc_it (walk_of hJ) (fun i H => ∃ acc e' G' va, RepS ⟨X.K, ct⟩ (c.guard D (.lst va)) G' (wipe σ vs) H e' ∧ Same G1 G' ∧ Rps ⟨X.K, ct⟩ G' va acc ∧ lcGo vs ft ff fe (ds.drop i) acc e' = R ∧ ∀ v ∈ vs, e'[v]? = some none) ?_ ?_ ?_ ?_
    · obtain ⟨r2, _, n2, _⟩ := wipeE_ok r1 hw
      obtain ⟨r3, _, l3⟩ := r2.newM (x := .lst []) (o := .lst []) hD ⟨[], rfl, .nil⟩
      exact ⟨[], e2, G1, [], r3.guard upd_same (r2.gh.free hD) l3 NoT.lst, Same.refl _, .nil, hR, n2⟩
    · rintro i H' _ ⟨acc, e', G', va, r', s', _⟩
      exact s'.trans r'.gh
    · rintro i x H' H'' hi ⟨acc, e', G', va, r', s', rs, eq, n'⟩ y
      obtain ⟨G2, d, hd, s2, r2, hx⟩ := item_ok r' s' y
      rw [drop_at hd] at eq
      have eq1 : (match ft d e' with
        | none => (.stuck : Res (List MM.D))
        | some e1 => match ff e1 with
          | .ok true e2 => (match fe e2 with
            | .ok x e3 => if acc.length < LIM then (match wipeE vs e3 with
                | some e4 => lcGo vs ft ff fe (ds.drop (i + 1)) (acc ++ [x]) e4
                | none => .stuck) else .stuck
            | _ => .stuck)
          | .ok false e2 => (match wipeE vs e2 with
            | some e4 => lcGo vs ft ff fe (ds.drop (i + 1)) acc e4
            | none => .stuck)
          | _ => .stuck) = R := eq
      cases h1 : ft d e' with
      | none => rw [h1] at eq1; exact absurd eq1.symm notS
      | some e3 =>
        rw [h1] at eq1
        refine ⟨_, G2, e', d, e3, r2, hx, h1, fun σ' r3 hl hj => ?_⟩
        have hwp : wipe σ' vs = wipe σ vs := by
          rw [wipe_same hl fun j hn => hj j fun z => hn (hts j z), wipe_wipe]
        refine ⟨hwp, _, G2, e3, r3, ?_⟩
        have eq2 : (match ff e3 with
          | .ok true e2 => (match fe e2 with
            | .ok x e3 => if acc.length < LIM then (match wipeE vs e3 with
                | some e4 => lcGo vs ft ff fe (ds.drop (i + 1)) (acc ++ [x]) e4
                | none => .stuck) else .stuck
            | _ => .stuck)
          | .ok false e2 => (match wipeE vs e2 with
            | some e4 => lcGo vs ft ff fe (ds.drop (i + 1)) acc e4
            | none => .stuck)
          | _ => .stuck) = R := eq1
        cases h2 : ff e3 with
        | stuck => rw [h2] at eq2; exact absurd eq2.symm notS
        | exc x e4 => rw [h2] at eq2; exact absurd eq2.symm notS
        | ok b e4 =>
          rw [h2] at eq2
          intro G3 H3 s3 r4
          cases b with
          | false =>
            rw [if_neg Bool.false_ne_true]
            have eq3 : (match wipeE vs e4 with
              | some e4 => lcGo vs ft ff fe (ds.drop (i + 1)) acc e4
              | none => .stuck) = R := eq2
            cases h3 : wipeE vs e4 with
            | none => rw [h3] at eq3; exact absurd eq3.symm notS
            | some e6 =>
              rw [h3] at eq3
              obtain ⟨r6, _, n6, _⟩ := wipeE_ok r4 h3
              rw [hwp] at r6
              exact ⟨acc, e6, G3, va, r6, (s'.trans s2).trans s3, (rs.mono s2).mono s3, eq3, n6⟩
          | true =>
            rw [if_pos rfl]
            refine ⟨_, G3, e4, r4, ?_⟩
            have eq3 : (match fe e4 with
              | .ok x e3 => if acc.length < LIM then (match wipeE vs e3 with
                | some e4 => lcGo vs ft ff fe (ds.drop (i + 1)) (acc ++ [x]) e4
                | none => .stuck) else .stuck
              | _ => .stuck) = R := eq2
            cases h3 : fe e4 with
            | stuck => rw [h3] at eq3; exact absurd eq3.symm notS
            | exc x e5 => rw [h3] at eq3; exact absurd eq3.symm notS
            | ok xd e5 =>
              rw [h3] at eq3
              have eq4 : (if acc.length < LIM then (match wipeE vs e5 with
                | some e4 => lcGo vs ft ff fe (ds.drop (i + 1)) (acc ++ [xd]) e4
                | none => .stuck) else .stuck) = R := eq3
              intro G4 H4 s4 r5 yv hy
              by_cases hlen : acc.length < LIM
              · rw [if_pos hlen] at eq4
                cases h4 : wipeE vs e5 with
                | none => rw [h4] at eq4; exact absurd eq4.symm notS
                | some e6 =>
                  rw [h4] at eq4
                  obtain ⟨r6, _, n6, _⟩ := wipeE_ok r5 h4
                  rw [hwp] at r6
                  obtain ⟨r7, hDD, gD, lD⟩ := r6.unguard hO h0 (fun φ z => by cases z)
                  have sall := (s2.trans s3).trans s4
                  refine ⟨va, hDD, by rw [rs.len]; exact Nat.lt_of_lt_of_le hlen (lim_le (Nat.le_refl _)), acc ++ [xd], e6, G4, va ++ [yv], ?_, s'.trans sall, (rs.mono sall).app (.cons hy .nil), eq4, n6⟩
                  exact (r7.other gD hO lD (fun u q => by rw [hDD] at q; cases q; exact IsTb.lst)).guard upd_same gD lD NoT.lst
              · rw [if_neg hlen] at eq4; exact absurd eq4.symm notS
    · rintro H' ⟨acc, e', G', va, r', s', rs, eq, n'⟩
      rw [List.drop_length] at eq
      have eq1 : R = .ok acc e' := eq.symm
      rw [eq1] at p2
      obtain ⟨r7, hDD, gD, lD⟩ := r'.unguard hO h0 (fun φ z => by cases z)
      have out : ∀ {j : Nat} {x : EV}, e'[j]? = some (some x) → j ∉ vs := fun {j x} hx hj => by rw [n' j hj] at hx; cases hx
      have r8 : RepS ⟨X.K, ct⟩ c G' σ H' e' := r7.unwipe (wipe_length σ vs).symm (fun j hj => (wipe_out' hj).symm) n'
      refine p2 G' H' s' r8 _ ⟨D, rfl, ⟨gD, hO, _, hDD, va, rfl, rs⟩, fun j x hx hw => ?_⟩
      rw [← wipe_out' (σ := σ) (out hx)]
      exact lD j x hx hw
theorem v_lc (hc : X.calm = true) (hN : X.N.Nodup) (hi : SI X ct W tg iter fi) (ok : BlkOk X.N X.env.scope scope own) (hts : ∀ i ∈ ts, i ∈ own.map (·.2))
    (hg : ∀ (s : Shared) (H : Hp) (C : Addr) (cl : List (Str × Addr)) (fp : List Addr), SG (X.blk s H scope (compEnvC scope cl C X.env) fp) ct tg ts ft) (ht : ∀ (s : Shared) (H : Hp) (C : Addr) (cl : List (Str × Addr)) (fp : List Addr), PTs (X.blk s H scope (compEnvC scope cl C X.env) fp) ifs (TT ⟨X.K, ct⟩ W0 ff))
    (he : ∀ (s : Shared) (H : Hp) (C : Addr) (cl : List (Str × Addr)) (fp : List Addr), SE (X.blk s H scope (compEnvC scope cl C X.env) fp) ct W0 elt fe) (hs : ∀ x, foldedSetIterable iter X.env x = pure x := by intro _; rfl) :
    SV X ct W (.ListComp elt [⟨tg, iter, ifs, 0⟩] scope pos) (lcF (own.map (·.2)) fi ft ff fe) := PEw (pe_lc hc hN hi ok hg ht he hs) fun σ H Q q => lc_sem hts σ H Q q
theorem pts_yes : PTs X [] (TT ⟨X.K, ct⟩ W0 tYesF) := ⟨fun pins s σ H Q I h => by
  obtain ⟨c, G, e, r, p⟩ := h
  exact pts_nil.run pins s σ H Q I (p.now r)⟩
end

/-! ### statements -/
inductive SRes where
  | nx (e : Env) | bk (e : Env) | ct (e : Env) | rt (x : EV) (e : Env) | exc (x : Exn) (e : Env) | stuck
abbrev SM := Env → SRes
def SRes.bind (r : SRes) (f : SM) : SRes := match r with
  | .nx e => f e
  | r => r
def Res.sb {α : Type} (r : Res α) (f : α → Env → SRes) : SRes := match r with
  | .ok a e => f a e
  | .exc x e => .exc x e
  | .stuck => .stuck
/-- a returned value -/
def RpR (k : Kc) (c : Fr) (G H : Hp) (v : V) : EV → Prop
  | .d d => Rp k G v d
  | .m x => ∃ a, v = .ref a ∧ MAt k c G H a x ∧ ∀ i b, c.P i = some b → b ≠ a
  | .p _ => False
  | .t d x => ∃ q w a, v = .ref q ∧ SqT k.K H q [w, .ref a] ∧ Rp k G w d ∧ MAt k c G H a x ∧ ∀ i b, c.P i = some b → b ≠ a
def PostS (k : Kc) (W : WX) (c : Fr) (G : Hp) (Dn : Ends) : SRes → Prop
  | .nx e => ∀ G' σ H, Same G G' → RepS k c G' σ H e → Dn.nx σ H
  | .bk e => ∀ G' σ H, Same G G' → RepS k c G' σ H e → Dn.bk σ H
  | .ct e => ∀ G' σ H, Same G G' → RepS k c G' σ H e → Dn.ct σ H
  | .rt x e => ∀ G' σ H v, Same G G' → RepS k c G' σ H e → RpR k c G' H v x → Dn.rt v H
  | .exc x e => ∀ G' σ H cls dc, Same G G' → RepS k c G' σ H e → RepX k G' H cls dc x → W cls dc σ H
  | .stuck => False
def TS (k : Kc) (W : WX) (f : SM) : L2.TS := fun Dn σ H => ∃ c G e, RepS k c G σ H e ∧ PostS k W c G Dn (f e)
abbrev SS (X : Cx) (ct : Ct) (W : WX) (st : Stmt) (f : SM) : Prop := PS X st (TS ⟨X.K, ct⟩ W f)
abbrev SSs (X : Cx) (ct : Ct) (W : WX) (st : List Stmt) (f : SM) : Prop := PSs X st (TS ⟨X.K, ct⟩ W f)
section
variable {α : Type} {k : Kc} {W : WX} {c : Fr} {G G1 H : Hp} {σ : L2.St} {e : Env} {Dn Dn' : Ends}
theorem PostS.mono {r : SRes} (h : PostS k W c G Dn r) (s : Same G G1) : PostS k W c G1 Dn r := by
  cases r with
  | nx e => exact fun G' σ H s' => h G' σ H (s.trans s')
  | bk e => exact fun G' σ H s' => h G' σ H (s.trans s')
  | ct e => exact fun G' σ H s' => h G' σ H (s.trans s')
  | rt x e => exact fun G' σ H v s' => h G' σ H v (s.trans s')
  | exc x e => exact fun G' σ H cls dc s' => h G' σ H cls dc (s.trans s')
  | stuck => exact h
/-- behind an expression -/
theorem PostS.sb {r : Res α} {f : α → Env → SRes} (h : PostS k W c G Dn (r.sb f)) : Post k W c G σ (fun G1 H1 e1 a => PostS k W c G1 Dn (f a e1)) r := by
  cases r with
  | ok a e => exact fun G' H' s' r' => PostS.mono h s'
  | exc x e => exact fun G' H' cls dc s' r' hx => h G' σ H' cls dc s' r' hx
  | stuck => exact h
end
def sNext : SM := fun e => .nx e
def sSeq (f g : SM) : SM := fun e => (f e).bind g
def sIf (t : EM Bool) (f g : SM) : SM := fun e => (t e).sb fun b e1 => if b = true then f e1 else g e1
def sRet (f : EM EV) : SM := fun e => (f e).sb fun x e1 => .rt x e1
def sRetN : SM := fun e => .rt (.d .non) e
/-- return of a name: an own thing is handed out -/
def sRetV (i : Nat) : SM := fun e => match e[i]? with
  | some (some (.d d)) => .rt (.d d) e
  | some (some (.m x)) => .rt (.m x) e
  | _ => .stuck
def putE (i : Nat) (x : EV) (e : Env) : SRes := match e[i]? with
  | some (some (.p _)) => .stuck
  | some _ => .nx (e.set i (some x))
  | none => .stuck
def sSet (i : Nat) (f : EM EV) : SM := fun e => (f e).sb fun x e1 => putE i x e1
def sDrop (f : EM EV) : SM := fun e => (f e).sb fun _ e1 => .nx e1
section
variable {X : Cx} {ct : Ct} {W : WX} {st : Stmt} {rest : List Stmt} {f g : SM} {pos pos' : Pos} {ex : Expr} {fv : EM EV} {t : EM Bool} {i : Nat} {x : Str}
theorem ss_nil : SSs X ct W [] sNext := PSsw pss_nil fun Dn σ H q => by
  obtain ⟨c, G, e, r, p⟩ := q
  exact p G σ H (Same.refl _) r
theorem bind_seq {k : Kc} {W : WX} {f g : SM} {Dn : Ends} {σ : L2.St} {H : Hp} (q : TS k W (sSeq f g) Dn σ H) : TS k W f { Dn with nx := TS k W g Dn } σ H := by
  obtain ⟨c, G, e, r, p⟩ := q
  refine ⟨c, G, e, r, ?_⟩
  have p' : PostS k W c G Dn ((f e).bind g) := p
  cases h : f e with
  | nx e1 => rw [h] at p'; exact fun G' σ' H' s' r' => ⟨c, G', e1, r', PostS.mono p' s'⟩
  | bk e1 => rw [h] at p'; exact p'
  | ct e1 => rw [h] at p'; exact p'
  | rt y e1 => rw [h] at p'; exact p'
  | exc y e1 => rw [h] at p'; exact p'
  | stuck => rw [h] at p'; exact p'
theorem ss_cons (h1 : SS X ct W st f) (h2 : SSs X ct W rest g) : SSs X ct W (st :: rest) (sSeq f g) := PSsw (pss_cons h1 h2) fun Dn σ H q => bind_seq q
theorem ss_one (h1 : SS X ct W st f) : SSs X ct W [st] f := pss_one h1
theorem s_if {c : Expr} {a b : List Stmt} (h : ST X ct W c t) (ha : SSs X ct W a f) (hb : SSs X ct W b g) : SS X ct W (.If c a b pos) (sIf t f g) := PSw (ps_if h ha hb) fun Dn σ H q => by
  obtain ⟨c, G, e, r, p⟩ := q
  refine ⟨c, G, e, r, (PostS.sb p).imp fun G' H' e' b s r' h => ?_⟩
  cases b with
  | true => exact ⟨c, G', e', r', h⟩
  | false => exact ⟨c, G', e', r', h⟩
theorem RpV.ret {k : Kc} {c : Fr} {G H : Hp} {σ : L2.St} {e : Env} {v : V} {x : EV} (r : RepS k c G σ H e) (h : RpV k c G σ H e v x) : RpR k c G H v x := by
  cases x with
  | d d => exact h
  | m y =>
    obtain ⟨a, e1, m, l⟩ := h
    refine ⟨a, e1, m, fun i b hb z => ?_⟩
    subst z
    obtain ⟨w, h1, h2⟩ := r.pin i b hb
    exact l i _ h1 rfl h2
  | p y => exact h
  | t _ _ => first | exact h2.elim | exact trivial | cases hw | exact hv.elim | exact h.elim | exact hx.elim | exact hu.elim | cases hy | cases h' | cases hd' | cases h2 | cases h1 | cases hd | cases h3 | cases h4
theorem s_ret (h : SV X ct W ex fv) : SS X ct W (.Return (some ex) pos) (sRet fv) := PSw (ps_ret h) fun Dn σ H q => by
  obtain ⟨c, G, e, r, p⟩ := q
  exact ⟨c, G, e, r, (PostS.sb p).imp fun G' H' e' x s r' h v hv => h G' σ H' v (Same.refl _) r' (hv.ret r')⟩
theorem s_retN : SS X ct W (.Return none pos) sRetN := PSw ps_retN fun Dn σ H q => by
  obtain ⟨c, G, e, r, p⟩ := q
  exact p G σ H _ (Same.refl _) r .non
theorem s_retV (h : PE X (.Name x pos') (tVar i)) : SS X ct W (.Return (some (.Name x pos')) pos) (sRetV i) := PSw (ps_ret h) fun Dn σ H q => by
  obtain ⟨c, G, e, r, p⟩ := q
  unfold sRetV at p
  split at p
  · rename_i d hd
    obtain ⟨v, h1, h2⟩ := r.slot i _ hd
    exact ⟨v, h1, p G σ H v (Same.refl _) r h2⟩
  · rename_i y hy
    obtain ⟨v, h1, a, e1, m⟩ := r.slot i _ hy
    refine ⟨v, h1, p G σ H v (Same.refl _) r ⟨a, e1, m, fun j b hb z => ?_⟩⟩
    subst z
    obtain ⟨w, h3, h4⟩ := r.pin j b hb
    rw [e1] at h1
    have := r.dis i j b _ _ hy h3 rfl rfl h1 h4
    subst this
    rw [hy] at h3
    cases h3
  · exact p.elim
theorem s_pass : SS X ct W (.Pass pos) sNext := PSw ps_pass fun Dn σ H q => by
  obtain ⟨c, G, e, r, p⟩ := q
  exact p G σ H (Same.refl _) r
theorem s_break : SS X ct W (.Break pos) (fun e => .bk e) := PSw ps_break fun Dn σ H q => by
  obtain ⟨c, G, e, r, p⟩ := q
  exact p G σ H (Same.refl _) r
theorem s_cont : SS X ct W (.Continue pos) (fun e => .ct e) := PSw ps_continue fun Dn σ H q => by
  obtain ⟨c, G, e, r, p⟩ := q
  exact p G σ H (Same.refl _) r
/-- a statement that is never come to -/
theorem s_never : SS X ct W st (fun _ => .stuck) := ⟨fun pins s σ H Dn I q => by
  obtain ⟨c, G, e, r, p⟩ := q
  exact p.elim⟩
theorem putE_ok {k : Kc} {W : WX} {c : Fr} {G H : Hp} {σ : L2.St} {e : Env} {Dn : Ends} {i : Nat} {x : EV} {v : V} (r : RepS k c G σ H e) (hv : RpV k c G σ H e v x) (p : PostS k W c G Dn (putE i x e)) : Dn.nx (σ.set i (some v)) H := by
  unfold putE at p
  split at p
  · exact p.elim
  · rename_i y hn hy
    refine p G _ H (Same.refl _) (r.put (x := some x) (r.nopin hy fun z q => hn z q) (fun y hy => ?_) (fun y b hy hw ev => ?_))
    · cases hy
      cases x with
      | d d => exact hv
      | m z => obtain ⟨a, e1, m, _⟩ := hv; exact ⟨a, e1, m⟩
      | p z => exact hv.elim
      | t _ _ => first | exact h2.elim | exact trivial | cases hw | exact hv.elim | exact h.elim | exact hx.elim | exact hu.elim | cases hy | cases h' | cases hd' | cases h2 | cases h1 | cases hd | cases h3 | cases h4
    · cases hy
      cases x with
      | d d => cases hw
      | m z =>
        obtain ⟨a, e1, _, l⟩ := hv
        rw [ev] at e1
        cases e1
        intro j w hj hjw
        rcases set_get hj with ⟨_, q, _⟩ | ⟨_, q⟩
        · cases q
        · exact l j w q hjw
      | p z => exact hv.elim
      | t _ _ => first | exact h2.elim | exact trivial | cases hw | exact hv.elim | exact h.elim | exact hx.elim | exact hu.elim | cases hy | cases h' | cases hd' | cases h2 | cases h1 | cases hd | cases h3 | cases h4
  · exact p.elim
theorem s_set (hN : X.N.Nodup) (hi : X.N[i]? = some x) (hx : Loc X.env.scope x) (he : SV X ct W ex fv) (hs : swapsWith ex (some (.Name x pos')) pos.line X.env = pure false := by rfl) (hf : X.fn x = true ∨ X.env.scope.names.lookup x = some .local := by first | exact .inl rfl | exact .inr rfl | assumption) :
    SS X ct W (.Assign [.Name x pos'] ex pos) (sSet i fv) := PSw (ps_set hN hi hx he hs hf) fun Dn σ H q => by
  obtain ⟨c, G, e, r, p⟩ := q
  exact ⟨c, G, e, r, (PostS.sb p).imp fun G' H' e' y s r' h v hv => putE_ok r' hv h⟩
theorem s_expr (he : SV X ct W ex fv) (hs : swapsWith ex none pos.line X.env = pure false := by rfl) : SS X ct W (.Expr ex pos) (sDrop fv) := PSw (ps_expr he hs) fun Dn σ H q => by
  obtain ⟨c, G, e, r, p⟩ := q
  exact ⟨c, G, e, r, (PostS.sb p).imp fun G' H' e' y s r' h v hv => h G' σ H' (Same.refl _) r'⟩
end
section
variable {X : Cx} {ct : Ct} {W : WX} {elt tg iter : Expr} {ifs : List Expr} {scope : Scope} {own : List (Str × Nat)} {pos spos py : Pos} {fi : EM (List D)} {ft : D → Env → Option Env} {ff : EM Bool} {fe : EM D} {ts : List Nat} {i : Nat} {y : Str}
theorem s_setLc (hc : X.calm = true) (hN : X.N.Nodup) (hy : X.N[i]? = some y) (hyl : X.env.scope.names.lookup y = some .local)
    (hsw : swapsWith (.ListComp elt [⟨tg, iter, ifs, 0⟩] scope pos) (some (.Name y py)) spos.line X.env = pure true) (hi : SI X ct W tg iter fi) (ok : BlkOk X.N X.env.scope scope own) (hts : ∀ i ∈ ts, i ∈ own.map (·.2))
    (hg : ∀ (s : Shared) (H : Hp) (C : Addr) (cl : List (Str × Addr)) (fp : List Addr), SG (X.blk s H scope (compEnvC scope cl C X.env) fp) ct tg ts ft) (ht : ∀ (s : Shared) (H : Hp) (C : Addr) (cl : List (Str × Addr)) (fp : List Addr), PTs (X.blk s H scope (compEnvC scope cl C X.env) fp) ifs (TT ⟨X.K, ct⟩ W0 ff))
    (he : ∀ (s : Shared) (H : Hp) (C : Addr) (cl : List (Str × Addr)) (fp : List Addr), SE (X.blk s H scope (compEnvC scope cl C X.env) fp) ct W0 elt fe) (hs : ∀ x, foldedSetIterable iter X.env x = pure x := by intro _; rfl) :
    SS X ct W (.Assign [.Name y py] (.ListComp elt [⟨tg, iter, ifs, 0⟩] scope pos) spos) (sSet i (lcF (own.map (·.2)) fi ft ff fe)) := PSw (ps_setLc hc hN hy hyl hsw hi ok hg ht he hs) fun Dn σ H q => by
  obtain ⟨c, G, e, r, p⟩ := q
  refine lc_sem hts σ H _ ⟨c, G, e, r, (PostS.sb p).imp fun G' H' e' y s r' h v hv => putE_ok r' hv h⟩
end
end MM
end
section
set_option Elab.async false
set_option linter.all false
set_option autoImplicit false
set_option maxRecDepth 100000
set_option maxHeartbeats 4000000
namespace PySem.AutoSeq1
open Sem (wp)
theorem list_extend_list_tuple_gen (l : Addr) (items : Array Value) (n : Nat) (b : Addr) (items2 : Array Value) (n2 : Nat) (dct : Option Addr) (sl : Array (Option Value)) (hs0 : ¬(!items.isEmpty && Builtin.List.listTooLong (items.size + items2.size)) = true) (hs1 : items.size ≤ sizeLine) (hs2 : items.size + items2.size ≤ sizeLine + 1) :
    Meets (Builtin.«list.extend» ⟨[.ref l, .ref b], []⟩) (fun _ R s => s.heap.get? l = some { cls := .type "list", dict := none, data := .seq items n, slots := #[] } ∧ s.heap.get? b = some { cls := .type "tuple", dict := dct, data := .seq items2 n2, slots := sl } ∧ R (.ok (.ret Value.none)) { s with heap := s.heap.update l (Obj.mapSeq fun x => x ++ items2), toks := s.toks }) :=
  .of_wp fun prog w A R s h => by
    obtain ⟨hp, g, d, tk, os⟩ := s; obtain ⟨hl, hb, h⟩ := h; have f1 := idx_int; have f2 := sub_tuple_tuple; have f3 := sub_list_list; have f4 := sub_tuple_list; have f5 := sub_list_tuple;
    have hz' : (items ++ items2).size ≤ sizeLine + 1 := by rw [Array.size_append]; exact hs2
    wp_walk using (wpAny_updateSeq hl rfl (hz := hs1) (_hz' := hz')), wpAny_loadPart' hl, wpAny_loadPart' hb; exact ⟨_, rfl, h⟩
end PySem.AutoSeq1
namespace MM
open PySem PySem.Spec L2

/-! ### for, while -/
def forGo (ft : D → Env → Option Env) (body : SM) : List D → SM
  | [], e => .nx e
  | d :: ds, e => match ft d e with
    | none => .stuck
    | some e1 => match body e1 with
      | .nx e2 => forGo ft body ds e2
      | .ct e2 => forGo ft body ds e2
      | .bk e2 => .nx e2
      | r => r
def sFor (fi : EM (List D)) (ft : D → Env → Option Env) (body : SM) : SM := fun e => (fi e).sb fun ds e1 => forGo ft body ds e1
def whileGo (t : EM Bool) (body : SM) : Nat → Env → SRes
  | 0, _ => .stuck
  | n + 1, e => (t e).sb fun b e1 => if b = true then (match body e1 with
      | .nx e2 => whileGo t body n e2
      | .ct e2 => whileGo t body n e2
      | .bk e2 => .nx e2
      | r => r) else .nx e1
open Classical in
noncomputable def sWhile (t : EM Bool) (body : SM) : SM := fun e => if h : ∃ n, whileGo t body n e ≠ .stuck then whileGo t body (Classical.choose h) e else .stuck
theorem whileGo_mono {t : EM Bool} {body : SM} : ∀ {n m : Nat} {e : Env}, n ≤ m → whileGo t body n e ≠ .stuck → whileGo t body m e = whileGo t body n e
  | 0, _, _, _, h => absurd rfl h
  | n + 1, 0, _, hm, _ => by omega
  | n + 1, m + 1, e, hm, h => by
    have h' : (t e).sb (fun b e1 => if b = true then (match body e1 with
      | .nx e2 => whileGo t body n e2
      | .ct e2 => whileGo t body n e2
      | .bk e2 => .nx e2
      | r => r) else .nx e1) ≠ .stuck := h
    show (t e).sb (fun b e1 => if b = true then (match body e1 with
      | .nx e2 => whileGo t body m e2
      | .ct e2 => whileGo t body m e2
      | .bk e2 => .nx e2
      | r => r) else .nx e1) = (t e).sb (fun b e1 => if b = true then (match body e1 with
      | .nx e2 => whileGo t body n e2
      | .ct e2 => whileGo t body n e2
      | .bk e2 => .nx e2
      | r => r) else .nx e1)
    cases q : t e with
    | ok b e1 =>
      rw [q] at h'
      cases b with
      | false => rfl
      | true =>
        have h2 : (match body e1 with
          | .nx e2 => whileGo t body n e2
          | .ct e2 => whileGo t body n e2
          | .bk e2 => .nx e2
          | r => r) ≠ .stuck := h'
        show (match body e1 with
          | .nx e2 => whileGo t body m e2
          | .ct e2 => whileGo t body m e2
          | .bk e2 => .nx e2
          | r => r) = (match body e1 with
          | .nx e2 => whileGo t body n e2
          | .ct e2 => whileGo t body n e2
          | .bk e2 => .nx e2
          | r => r)
        cases q2 : body e1 with
        | nx e2 => rw [q2] at h2; exact whileGo_mono (by omega) h2
        | ct e2 => rw [q2] at h2; exact whileGo_mono (by omega) h2
        | bk e2 => rfl
        | rt x e2 => rfl
        | exc x e2 => rfl
        | stuck => rfl
    | exc x e1 => rfl
    | stuck => rfl
/-- a while, by a run of it -/
theorem sWhile_eq {t : EM Bool} {body : SM} {n : Nat} {e : Env} {r : SRes} (h : whileGo t body n e = r) (hr : r ≠ .stuck) : sWhile t body e = r := by
  have ex : ∃ n, whileGo t body n e ≠ .stuck := ⟨n, by rw [h]; exact hr⟩
  unfold sWhile
  rw [dif_pos ex]
  have hc := Classical.choose_spec ex
  rcases Nat.le_total n (Classical.choose ex) with q | q
  · rw [whileGo_mono q (by rw [h]; exact hr), h]
  · rw [← whileGo_mono q hc, h]
section
variable {X : Cx} {ct : Ct} {W : WX} {tg iter c : Expr} {body : List Stmt} {pos : Pos} {fi : EM (List D)} {ft : D → Env → Option Env} {fb : SM} {t : EM Bool} {ts : List Nat}
theorem s_for (hp : PassesOwn (model X.prog X.w) X.A X.env X.xe) (hc : X.calm = true) (hi : SI X ct W tg iter fi) (hg : SG X ct tg ts ft) (hb : SSs X ct W body fb) (hs : ∀ x, foldedSetIterable iter X.env x = pure x := by intro _; rfl) :
    SS X ct W (.For tg iter body [] pos) (sFor fi ft fb) := PSw (ps_for hp hc hi hg hb hs) fun Dn σ H q => by
  obtain ⟨c, G, e, r, p⟩ := q
  refine ⟨c, G, e, r, (PostS.sb p).imp fun G1 H1 e1 ds s1 r1 p1 J hJ => ?_⟩
  generalize hR : forGo ft fb ds e1 = R at p1
  have notS : R ≠ .stuck := fun z => by rw [z] at p1; exact p1
  refine for_it (walk_of hJ) (fun i σ H => ∃ e' G', RepS ⟨X.K, ct⟩ c G' σ H e' ∧ Same G1 G' ∧ forGo ft fb (ds.drop i) e' = R) ⟨e1, G1, r1, Same.refl _, hR⟩ (fun i σ H _ ⟨e', G', r', s', _⟩ => s'.trans r'.gh) ?_ ?_
  · rintro i x σ' H' H'' hi ⟨e', G', r', s', eq⟩ y
    obtain ⟨G2, d, hd, s2, r2, hx⟩ := item_ok r' s' y
    rw [drop_at hd] at eq
    have eq1 : (match ft d e' with
      | none => .stuck
      | some e1 => match fb e1 with
        | .nx e2 => forGo ft fb (ds.drop (i + 1)) e2
        | .ct e2 => forGo ft fb (ds.drop (i + 1)) e2
        | .bk e2 => .nx e2
        | r => r) = R := eq
    cases h1 : ft d e' with
    | none => rw [h1] at eq1; exact absurd eq1.symm notS
    | some e3 =>
      rw [h1] at eq1
      have eq2 : (match fb e3 with
        | .nx e2 => forGo ft fb (ds.drop (i + 1)) e2
        | .ct e2 => forGo ft fb (ds.drop (i + 1)) e2
        | .bk e2 => .nx e2
        | r => r) = R := eq1
      refine ⟨c, G2, e', d, e3, r2, hx, h1, fun σ3 r3 hl hj => ⟨c, G2, e3, r3, ?_⟩⟩
      have sall := s'.trans s2
      cases h2 : fb e3 with
      | nx e4 => rw [h2] at eq2; exact fun G3 σ4 H4 s3 r4 => ⟨e4, G3, r4, sall.trans s3, eq2⟩
      | ct e4 => rw [h2] at eq2; exact fun G3 σ4 H4 s3 r4 => ⟨e4, G3, r4, sall.trans s3, eq2⟩
      | bk e4 =>
        rw [h2] at eq2
        have e5 : R = .nx e4 := eq2.symm
        rw [e5] at p1
        exact fun G3 σ4 H4 s3 r4 => p1 G3 σ4 H4 (sall.trans s3) r4
      | rt v e4 =>
        rw [h2] at eq2
        have e5 : R = .rt v e4 := eq2.symm
        rw [e5] at p1
        exact fun G3 σ4 H4 u s3 r4 hu => p1 G3 σ4 H4 u (sall.trans s3) r4 hu
      | exc v e4 =>
        rw [h2] at eq2
        have e5 : R = .exc v e4 := eq2.symm
        rw [e5] at p1
        exact fun G3 σ4 H4 cls dc s3 r4 hu => p1 G3 σ4 H4 cls dc (sall.trans s3) r4 hu
      | stuck => rw [h2] at eq2; exact absurd eq2.symm notS
  · rintro σ' H' ⟨e', G', r', s', eq⟩
    rw [List.drop_length] at eq
    have e5 : R = .nx e' := eq.symm
    rw [e5] at p1
    exact p1 G' σ' H' s' r'
theorem s_while (hp : PassesOwn (model X.prog X.w) X.A X.env X.xe) (hc : ST X ct W c t) (hb : SSs X ct W body fb) : SS X ct W (.While c body [] pos) (sWhile t fb) := PSw (ps_while hp hc hb) fun Dn σ H q => by
  obtain ⟨c, G, e, r, p⟩ := q
  unfold sWhile at p
  split at p
  · rename_i hex
    generalize Classical.choose hex = n at p
    generalize hR : whileGo t fb n e = R at p
    have notS : R ≠ .stuck := fun z => by rw [z] at p; exact p
    refine ⟨fun m σ H => ∃ e' G', RepS ⟨X.K, ct⟩ c G' σ H e' ∧ Same G G' ∧ whileGo t fb m e' = R, ⟨n, e, G, r, Same.refl _, hR⟩, ?_⟩
    rintro m σ' H' ⟨e', G', r', s', eq⟩
    cases m with
    | zero => exact absurd eq.symm notS
    | succ m =>
      have eq1 : (t e').sb (fun b e1 => if b = true then (match fb e1 with
        | .nx e2 => whileGo t fb m e2
        | .ct e2 => whileGo t fb m e2
        | .bk e2 => .nx e2
        | r => r) else .nx e1) = R := eq
      refine ⟨c, G', e', r', ?_⟩
      cases q : t e' with
      | stuck => rw [q] at eq1; exact absurd eq1.symm notS
      | exc x e1 =>
        rw [q] at eq1
        have e5 : R = .exc x e1 := eq1.symm
        rw [e5] at p
        exact fun G2 H2 cls dc s2 r2 hx => p G2 σ' H2 cls dc (s'.trans s2) r2 hx
      | ok b e1 =>
        rw [q] at eq1
        intro G2 H2 s2 r2
        cases b with
        | false =>
          have e5 : R = .nx e1 := eq1.symm
          rw [e5] at p
          rw [if_neg Bool.false_ne_true]
          exact p G2 σ' H2 (s'.trans s2) r2
        | true =>
          rw [if_pos rfl]
          refine ⟨fun σ H => ∃ e' G', RepS ⟨X.K, ct⟩ c G' σ H e' ∧ Same G G' ∧ whileGo t fb m e' = R, fun σ H z => ⟨m, Nat.lt_succ_self m, z⟩, c, G2, e1, r2, ?_⟩
          have eq2 : (match fb e1 with
            | .nx e2 => whileGo t fb m e2
            | .ct e2 => whileGo t fb m e2
            | .bk e2 => .nx e2
            | r => r) = R := eq1
          have sall := s'.trans s2
          cases h2 : fb e1 with
          | nx e4 => rw [h2] at eq2; exact fun G3 σ4 H4 s3 r4 => ⟨e4, G3, r4, sall.trans s3, eq2⟩
          | ct e4 => rw [h2] at eq2; exact fun G3 σ4 H4 s3 r4 => ⟨e4, G3, r4, sall.trans s3, eq2⟩
          | bk e4 =>
            rw [h2] at eq2
            have e5 : R = .nx e4 := eq2.symm
            rw [e5] at p
            exact fun G3 σ4 H4 s3 r4 => p G3 σ4 H4 (sall.trans s3) r4
          | rt v e4 =>
            rw [h2] at eq2
            have e5 : R = .rt v e4 := eq2.symm
            rw [e5] at p
            exact fun G3 σ4 H4 u s3 r4 hu => p G3 σ4 H4 u (sall.trans s3) r4 hu
          | exc v e4 =>
            rw [h2] at eq2
            have e5 : R = .exc v e4 := eq2.symm
            rw [e5] at p
            exact fun G3 σ4 H4 cls dc s3 r4 hu => p G3 σ4 H4 cls dc (sall.trans s3) r4 hu
          | stuck => rw [h2] at eq2; exact absurd eq2.symm notS
  · exact p.elim
end

/-! ### own things changed by methods, by stores -/
/-- the thing that the slot holds, to be changed -/
def mutE (e : Env) (i : Nat) : Option MV := match e[i]? with
  | some (some (.m y)) => some y
  | some (some (.p y)) => some y
  | _ => none
def reE (e : Env) (i : Nat) (y : MV) : Env := match e[i]? with
  | some (some (.p _)) => e.set i (some (.p y))
  | _ => e.set i (some (.m y))
theorem mutE_ok {k : Kc} {c : Fr} {G H : Hp} {σ : L2.St} {e : Env} {i : Nat} {y : MV} (r : RepS k c G σ H e) (h : mutE e i = some y) : ∃ a o, σ[i]? = some (some (.ref a)) ∧ H a = some o ∧ MRep k G o y ∧ G a = none ∧
    ∀ o' y', MRep k G o' y' → RepS k c G σ (upd H a o') (reE e i y') := by
  unfold mutE at h
  split at h
  · rename_i z hz
    cases h
    obtain ⟨a, w, hw, ha, m1, m2, o, m3, m4⟩ := r.owner hz rfl
    have ew : w = y := by
      rcases hw with q | q
      · injection q with q; exact q.symm
      · cases q
    subst ew
    refine ⟨a, o, ha, m3, m4, m1, fun o' y' m => ?_⟩
    have e2 : reE e i y' = e.set i (some (.m y')) := by unfold reE; rw [hz]
    rw [e2]
    exact r.write hz rfl ha m (.inl ⟨rfl, rfl, fun _ q => by cases q⟩)
  · rename_i z hz
    cases h
    obtain ⟨a, w, hw, ha, m1, m2, o, m3, m4⟩ := r.owner hz rfl
    have ew : w = y := by
      rcases hw with q | q
      · cases q
      · injection q with q; exact q.symm
    subst ew
    refine ⟨a, o, ha, m3, m4, m1, fun o' y' m => ?_⟩
    have e2 : reE e i y' = e.set i (some (.p y')) := by unfold reE; rw [hz]
    rw [e2]
    exact r.write hz rfl ha m (.inr ⟨rfl, fun _ q => by cases q⟩)
  · cases h
/-- a method by values gives what g says: the thing changed, a scalar or other data out -/
def MutG (k : Kc) (r : V → List V → Hp → VK → Prop) (g : MV → List D → Option (MV × D)) : Prop := ∀ (G H : Hp) (a : Addr) (o : HO) (y y' : MV) (vs : List V) (ds : List D) (z : D) (Q : VK), Same G H → H a = some o → MRep k G o y → Rps k G vs ds → g y ds = some (y', z) →
  (∀ o' v, MRep k G o' y' → Rp k G v z → Q v (upd H a o')) → r (.ref a) vs H Q
def tyM (T : String) : MV → Bool
  | .lst _ => decide (T = "list")
  | .dic _ _ => decide (T = "dict")
  | _ => false
def cMut (T : String) (i : Nat) (g : MV → List D → Option (MV × D)) (f : EM (List Tk)) : EM D := fun e => match mutE e i with
  | some y0 => if tyM T y0 = true then (f e).bind fun ts e1 => (match mutE e1 i, vals ts with
    | some y, some ds => (match g y ds with
      | some (y', z) => .ok z (reE e1 i y')
      | none => .stuck)
    | _, _ => .stuck) else .stuck
  | none => .stuck
def gAppend : MV → List D → Option (MV × D)
  | .lst xs, [d] => if xs.length < LIM then some (.lst (xs ++ [d]), .non) else none
  | _, _ => none
def gExtend : MV → List D → Option (MV × D)
  | .lst xs, [.lst ys] => if xs.length + ys.length ≤ LIM then some (.lst (xs ++ ys), .non) else none
  | .lst xs, [.tup ys] => if xs.length + ys.length ≤ LIM then some (.lst (xs ++ ys), .non) else none
  | _, _ => none
def gPop : MV → List D → Option (MV × D)
  | .lst xs, [] => (xs[xs.length - 1]?).map fun d => (.lst xs.dropLast, d)
  | _, _ => none
def gPopAt : MV → List D → Option (MV × D)
  | .lst xs, [.int i] => if rngOk i = true then (match seqIndex? i xs.length with
    | some j => (xs[j]?).map fun d => (.lst (xs.eraseIdx j), d)
    | none => none) else none
  | _, _ => none
section
variable {X : Cx} {ct : Ct} {W : WX}
def rExtendT (K : PySem.W.Frag) : V → List V → Hp → VK → Prop := fun x vs H Q => ∃ l b xs zs, x = .ref l ∧ vs = [.ref b] ∧ H l = some (.lst xs) ∧ SqT K H b zs ∧ xs.length + zs.length ≤ sizeLine ∧ Q .non (upd H l (.lst (xs ++ zs)))
theorem mt_extendT : MtM X "list.extend" (rExtendT X.K) := by
  intro pins s σ H x vs v us Q I rx rv h
  obtain ⟨l, b, xs, zs, rfl, rfl, hH, hB, hz, q⟩ := h
  cases rx
  obtain ⟨u, rfl, ru⟩ := rv.one
  cases ru
  obtain ⟨z, its, n, r, hl, e⟩ := I.lstM hH
  obtain ⟨its2, r2, ⟨⟨oc, od, odt, osl⟩, ho, hc, n2, hd⟩, z2⟩ := I.tuple hB
  have hl2 := r2.length
  replace hc : oc = .type "tuple" := hc
  replace hd : odt = .seq its2.toArray n2 := hd
  subst hc hd
  have hsz : its.toArray.size + its2.toArray.size ≤ sizeLine := by rw [List.size_toArray, List.size_toArray]; omega
  have hlong : ¬ (!its.toArray.isEmpty && Builtin.List.listTooLong (its.toArray.size + its2.toArray.size)) = true := by
    rw [notLongL hsz, Bool.and_false]
    exact Bool.false_ne_true
  refine call_meets F.slot_list_extend ⟨_, e, rfl⟩ F.entry_list_extend (F.args_list_extend_2 _ _)
    (AutoSeq1.list_extend_list_tuple_gen l its.toArray n b its2.toArray n2 od osl hlong (by rw [List.size_toArray]; omega) (by omega)) ⟨e, ho, ?_⟩
  refine ⟨.non, _, I.lset (its' := its ++ its2) hH e (by simp) (r.append r2) ?_, rfl, q⟩
  rw [List.length_append]
  omega
theorem MtM.or {id : String} {r r' : V → List V → Hp → VK → Prop} (h : MtM X id r) (h' : MtM X id r') : MtM X id (fun x vs H Q => r x vs H Q ∨ r' x vs H Q) := fun pins s σ H x xs v us Q I rx rv q =>
  q.elim (h pins s σ H x xs v us Q I rx rv) (h' pins s σ H x xs v us Q I rx rv)
theorem mutG_append : MutG ⟨X.K, ct⟩ rAppend gAppend := fun G H a o y y' vs ds z Q g hH m rs hg q => by
  unfold gAppend at hg
  split at hg
  · split at hg
    · rename_i hl
      cases hg
      obtain ⟨us, rfl, ru⟩ := m
      obtain ⟨v, rfl, hv⟩ := rs.one
      exact ⟨a, us, v, rfl, rfl, hH, by rw [ru.len]; exact Nat.lt_of_lt_of_le hl (lim_le (Nat.le_refl _)), q _ _ ⟨_, rfl, ru.app (.cons hv .nil)⟩ .non⟩
    · cases hg
  · cases hg
theorem mutG_extend : MutG ⟨X.K, ct⟩ (fun x vs H Q => rExtend x vs H Q ∨ rExtendT X.K x vs H Q) gExtend := fun G H a o y y' vs ds z Q g hH m rs hg q => by
  unfold gExtend at hg
  split at hg
  · split at hg
    · rename_i hl
      cases hg
      obtain ⟨us, rfl, ru⟩ := m
      obtain ⟨v, rfl, hv⟩ := rs.one
      cases hv with
      | lst h1 h2 => exact .inl ⟨a, _, us, _, rfl, rfl, hH, g _ _ h1, by rw [ru.len, h2.len]; exact lim_le hl, q _ _ ⟨_, rfl, ru.app h2⟩ .non⟩
    · cases hg
  · split at hg
    · rename_i hl
      cases hg
      obtain ⟨us, rfl, ru⟩ := m
      obtain ⟨v, rfl, hv⟩ := rs.one
      cases hv with
      | tup h1 h2 => exact .inr ⟨a, _, us, _, rfl, rfl, hH, seqT g h1, by rw [ru.len, h2.len]; exact lim_le hl, q _ _ ⟨_, rfl, ru.app h2⟩ .non⟩
    · cases hg
  · cases hg
theorem mutG_pop : MutG ⟨X.K, ct⟩ rPop gPop := fun G H a o y y' vs ds z Q g hH m rs hg q => by
  unfold gPop at hg
  split at hg
  · rename_i xs
    cases hx : xs[xs.length - 1]? with
    | none => rw [hx] at hg; cases hg
    | some d =>
      rw [hx] at hg
      cases hg
      obtain ⟨us, rfl, ru⟩ := m
      cases rs
      obtain ⟨v, hv, rv⟩ := ru.get hx
      exact ⟨a, us, v, rfl, rfl, hH, by rw [ru.len]; exact hv, q _ _ ⟨_, rfl, ru.dropLast⟩ rv⟩
  · cases hg
theorem mutG_popAt : MutG ⟨X.K, ct⟩ rPopAt gPopAt := fun G H a o y y' vs ds z Q g hH m rs hg q => by
  unfold gPopAt at hg
  split at hg
  · rename_i xs i
    split at hg
    · rename_i hr
      obtain ⟨b1, b2⟩ := rngOk_iff hr
      split at hg
      · rename_i j hj
        cases hx : xs[j]? with
        | none => rw [hx] at hg; cases hg
        | some d =>
          rw [hx] at hg
          cases hg
          obtain ⟨us, rfl, ru⟩ := m
          obtain ⟨w, rfl, hw⟩ := rs.one
          cases hw
          obtain ⟨v, hv, rv⟩ := ru.get hx
          exact ⟨a, us, i, j, v, rfl, rfl, hH, by omega, by omega, by rw [ru.len]; exact hj, hv, q _ _ ⟨_, rfl, ru.erase j⟩ rv⟩
      · cases hg
    · cases hg
  · cases hg
variable {i : Nat} {x name : Str} {p apos cpos : Pos} {a : Expr} {es : List Expr} {fs : EM (List Tk)} {T id : String} {r : V → List V → Hp → VK → Prop} {g : MV → List D → Option (MV × D)}
theorem tyM_ok {k : Kc} {G H : Hp} {a : Addr} {o : HO} {y : MV} (h : tyM T y = true) (hH : H a = some o) (m : MRep k G o y) : tyV k.K T (.ref a) H := by
  cases y with
  | lst ds =>
    obtain ⟨vs, rfl, _⟩ := m
    exact .inl ⟨of_decide_eq_true h, _, SqL.of hH⟩
  | dic ks ds =>
    obtain ⟨kvs, rfl, _⟩ := m
    exact .inr (.inr (.inl ⟨of_decide_eq_true h, .inl ⟨_, hH⟩⟩))
  | obj c ns ds => cases h
theorem e_mut (pa : PlainAttrs T) (slot : Slot T name id) (hty : typeOf (.builtin id) = pure (.type "method_descriptor")) (hm : MtM X id r) (hG : MutG ⟨X.K, ct⟩ r g) (ho : PE X (.Name x p) (tVar i)) (ha : SA X ct W (a :: es) fs)
    (hbase : attributeBase (.Name x p) name X.env (eval (.Name x p) X.env) = eval (.Name x p) X.env := by rfl)
    (hfew : ((backTo cpos (starEach (a :: es) X.env)).all (fun x => !x.1) && (backToKw cpos (keywordEach [] X.env)).all (fun x => x.1.isSome)
      && decide ((a :: es).length + ([] : List Keyword).length + (if ([] : List Keyword).isEmpty then 0 else 1) < 30)) = true := by rfl)
    (hline : (apos.endLine == cpos.line) = true := by rfl) (hs : starEach (a :: es) X.env = (false, eval a X.env) :: starEach es X.env := by rfl) (hplain : (backTo cpos (starEach es X.env)).any (·.1) = false := by rfl) :
    SE X ct W (.Call (.Attribute (.Name x p) name apos) (a :: es) [] cpos) (cMut T i g fs) := PEw (pe_bm pa slot hty hm ho ha hbase hfew hline hs hplain) fun σ H Q q => by
  obtain ⟨c, G, e, re, p⟩ := q
  unfold cMut at p
  cases hy : mutE e i with
  | none => rw [hy] at p; exact p.elim
  | some y0 =>
    rw [hy] at p
    obtain ⟨a0, o0, ha0, hH0, m0, _, _⟩ := mutE_ok re hy
    refine ⟨_, ha0, ?_⟩
    have p' : Post ⟨X.K, ct⟩ W c G σ (fun G' H' x d => ∀ v, Rp ⟨X.K, ct⟩ G' v d → Q v H') (if tyM T y0 = true then (fs e).bind fun ts e1 => (match mutE e1 i, vals ts with
      | some y, some ds => (match g y ds with
        | some (y', z) => .ok z (reE e1 i y')
        | none => .stuck)
      | _, _ => .stuck) else .stuck) := p
    by_cases ht : tyM T y0 = true
    · rw [if_pos ht] at p'
      refine ⟨tyM_ok ht hH0 m0, c, G, e, re, (Post.bind p').imp fun G1 H1 e1 ts s1 r1 p1 vs hvs => ?_⟩
      split at p1
      · rename_i y ds h1 h2
        split at p1
        · rename_i y' z hg
          obtain ⟨a1, o1, ha1, hH1, m1, _, hre⟩ := mutE_ok r1 h1
          rw [ha0] at ha1
          cases ha1
          exact hG G1 H1 a0 o1 y y' vs ds z Q r1.gh hH1 m1 (vals_ok h2 hvs) hg fun o' v m' hv => p1 G1 _ (Same.refl _) (hre o' y' m') v hv
        · exact p1.elim
      · exact p1.elim
    · rw [if_neg ht] at p'; exact p'.elim
theorem e_mut0 (pa : PlainAttrs T) (slot : Slot T name id) (hty : typeOf (.builtin id) = pure (.type "method_descriptor")) (hm : MtM X id r) (hG : MutG ⟨X.K, ct⟩ r g) (ho : PE X (.Name x p) (tVar i))
    (hbase : attributeBase (.Name x p) name X.env (eval (.Name x p) X.env) = eval (.Name x p) X.env := by rfl) (hline : (apos.endLine == cpos.line) = true := by rfl) :
    SE X ct W (.Call (.Attribute (.Name x p) name apos) [] [] cpos) (cMut T i g aNil) := PEw (pe_bm0 pa slot hty hm ho hbase hline) fun σ H Q q => by
  obtain ⟨c, G, e, re, p⟩ := q
  unfold cMut at p
  cases hy : mutE e i with
  | none => rw [hy] at p; exact p.elim
  | some y0 =>
    rw [hy] at p
    obtain ⟨a0, o0, ha0, hH0, m0, _, hre⟩ := mutE_ok re hy
    refine ⟨_, ha0, ?_⟩
    have p' : Post ⟨X.K, ct⟩ W c G σ (fun G' H' x d => ∀ v, Rp ⟨X.K, ct⟩ G' v d → Q v H') (if tyM T y0 = true then (match mutE e i, vals [] with
      | some y, some ds => (match g y ds with
        | some (y', z) => .ok z (reE e i y')
        | none => .stuck)
      | _, _ => .stuck) else .stuck) := p
    by_cases ht : tyM T y0 = true
    · rw [if_pos ht, hy] at p'
      refine ⟨tyM_ok ht hH0 m0, ?_⟩
      have p2 : Post ⟨X.K, ct⟩ W c G σ (fun G' H' x d => ∀ v, Rp ⟨X.K, ct⟩ G' v d → Q v H') (match g y0 [] with
        | some (y', z) => .ok z (reE e i y')
        | none => .stuck) := p'
      split at p2
      · rename_i y' z hg
        exact hG G H a0 o0 y0 y' [] [] z Q re.gh hH0 m0 .nil hg fun o' v m' hv => p2 G _ (Same.refl _) (hre o' y' m') v hv
      · exact p2.elim
    · rw [if_neg ht] at p'; exact p'.elim
end
end MM
end
section
set_option Elab.async false
set_option linter.all false
set_option autoImplicit false
set_option maxRecDepth 100000
set_option maxHeartbeats 4000000
namespace MM
open PySem PySem.Spec L2

/-! ### targets in general: names, places of own lists, several -/
abbrev GT := D → Env → Option Env
def TG2 (k : Kc) (gt : GT) : L2.TG := fun v σ H Q => ∃ c G e d e', RepS k c G σ H e ∧ Rp k G v d ∧ gt d e = some e' ∧ ∀ G' σ' H', Same G G' → RepS k c G' σ' H' e' → Q σ' H'
abbrev SG2 (X : Cx) (ct : Ct) (tg : Expr) (gt : GT) : Prop := PG X tg (TG2 ⟨X.K, ct⟩ gt)
def TG2s (k : Kc) (gt : List D → Env → Option Env) : L2.TGs := fun vs σ H Q => ∃ c G e ds e', RepS k c G σ H e ∧ Rps k G vs ds ∧ gt ds e = some e' ∧ ∀ G' σ' H', Same G G' → RepS k c G' σ' H' e' → Q σ' H'
abbrev SG2s (X : Cx) (ct : Ct) (tgs : List Expr) (gt : List D → Env → Option Env) : Prop := PGs X tgs (TG2s ⟨X.K, ct⟩ gt)
theorem PGsw {X : Cx} {tg : List Expr} {t t' : L2.TGs} (h : PGs X tg t) (w : ∀ v σ H Q, t' v σ H Q → t v σ H Q) : PGs X tg t' := ⟨fun pins s σ H v u Q I r q => h.run pins s σ H v u Q I r (w v σ H Q q)⟩
def gNone : List D → Env → Option Env
  | [], e => some e
  | _, _ => none
def gCon (g : GT) (gs : List D → Env → Option Env) : List D → Env → Option Env
  | d :: ds, e => (g d e).bind (gs ds)
  | [], _ => none
/-- n targets -/
def gTupF (n : Nat) (gs : List D → Env → Option Env) : GT := fun d e => match d with
  | .tup ds => if ds.length = n then gs ds e else none
  | _ => none
/-- x[i] = .. of an own list -/
def gStore (i : Nat) (fi : EM Tk) : GT := fun d e => match mutE e i with
  | none => none
  | some _ => match fi e with
    | .ok t e2 => (match rdK e2 t, mutE e2 i with
      | some (.int j), some (.lst xs) => (match ixN xs.length j with
        | some m => some (reE e2 i (.lst (xs.set m d)))
        | none => none)
      | _, _ => none)
    | _ => none
def sAsgT (f : EM D) (gt : GT) : SM := fun e => (f e).sb fun d e1 => match gt d e1 with
  | some e2 => .nx e2
  | none => .stuck
section
variable {X : Cx} {ct : Ct} {W : WX} {pos tpos p : Pos} {x : Str} {i n : Nat} {tg ex ix : Expr} {tgs : List Expr} {fe : EM D} {fi : EM Tk} {g : GT} {gs : List D → Env → Option Env}
theorem h_name (h : PG X (.Name x pos) (gName i)) : SG2 X ct (.Name x pos) (gSet i) := PGw h fun v σ H Q q => by
  obtain ⟨c, G, e, d, e', r, hv, hf, q⟩ := q
  exact q G _ H (Same.refl _) (gSet_ok r hv hf)
theorem h_store (ho : PE X (.Name x p) (tVar i)) (hi : SK X ct W0 ix fi) (ha : ∀ v, assign (.Subscript (.Name x p) ix tpos) X.env v = (do
      let ov ← holding [v] (eval (.Name x p) X.env)
      let iv ← holding [v, ov] (eval ix X.env)
      standAt tpos
      holding [v, ov, iv] (setItem ov iv v)
      release [v, ov, iv] []) := by intro _; rfl) : SG2 X ct (.Subscript (.Name x p) ix tpos) (gStore i fi) := PGw (pg_sub ho hi set_list ha) fun v σ H Q q => by
  obtain ⟨c, G, e, d, e', r, hv, hf, q⟩ := q
  unfold gStore at hf
  cases h0 : mutE e i with
  | none => rw [h0] at hf; cases hf
  | some y0 =>
    rw [h0] at hf
    obtain ⟨a0, o0, ha0, _⟩ := mutE_ok r h0
    have hf1 : (match fi e with
      | .ok t e2 => (match rdK e2 t, mutE e2 i with
        | some (.int j), some (.lst xs) => (match ixN xs.length j with
          | some m => some (reE e2 i (.lst (xs.set m d)))
          | none => none)
        | _, _ => none)
      | _ => none) = some e' := hf
    refine ⟨_, ha0, c, G, e, r, ?_⟩
    cases h1 : fi e with
    | stuck => rw [h1] at hf1; cases hf1
    | exc y e2 => rw [h1] at hf1; cases hf1
    | ok t e2 =>
      rw [h1] at hf1
      intro G2 H2 s2 r2 iv hiv
      have hf2 : (match rdK e2 t, mutE e2 i with
        | some (.int j), some (.lst xs) => (match ixN xs.length j with
          | some m => some (reE e2 i (.lst (xs.set m d)))
          | none => none)
        | _, _ => none) = some e' := hf1
      split at hf2
      · rename_i j xs hj hm
        split at hf2
        · rename_i m hix
          cases hf2
          obtain ⟨a1, o1, ha1, hH1, ⟨us, rfl, ru⟩, g1, hre⟩ := mutE_ok r2 hm
          rw [ha0] at ha1
          cases ha1
          rw [(RB.of r2 hiv hj).int]
          exact ⟨a0, us, j, m, rfl, rfl, hH1, by rw [ru.len]; exact hix, q G2 σ _ s2 (hre _ _ ⟨_, rfl, ru.set m (hv.mono s2)⟩)⟩
        · cases hf2
      · cases hf2
theorem hs_nil : SG2s X ct [] gNone := PGsw pgs_nil fun vs σ H Q q => by
  obtain ⟨c, G, e, ds, e', r, rs, hf, q⟩ := q
  cases rs with
  | nil => cases hf; exact ⟨rfl, q G σ H (Same.refl _) r⟩
  | cons _ _ => cases hf
theorem hs_cons (h1 : SG2 X ct tg g) (h2 : SG2s X ct tgs gs) (hs : (assignEach (tg :: tgs) X.env).map (·.2) = assign tg X.env :: (assignEach tgs X.env).map (·.2) := by rfl) : SG2s X ct (tg :: tgs) (gCon g gs) := PGsw (pgs_cons h1 h2 hs) fun vs σ H Q q => by
  obtain ⟨c, G, e, ds, e', r, rs, hf, q⟩ := q
  cases rs with
  | nil => cases hf
  | cons a b =>
    rename_i d ds
    have hf' : (g d e).bind (gs ds) = some e' := hf
    cases h3 : g d e with
    | none => rw [h3] at hf'; cases hf'
    | some e1 =>
      rw [h3] at hf'
      exact ⟨_, _, rfl, c, G, e, d, e1, r, a, h3, fun G1 σ1 H1 s1 r1 => ⟨c, G1, e1, ds, e', r1, b.mono s1, hf', fun G2 σ2 H2 s2 r2 => q G2 σ2 H2 (s1.trans s2) r2⟩⟩
theorem h_tup {m : Nat} (hc : X.calm = true) (h : SG2s X ct tgs gs) (hn : (assignEach tgs X.env).length = n := by rfl) (hst : (assignEach tgs X.env).findIdx? (·.1) = none := by rfl) : SG2 X ct (.Tuple tgs m pos) (gTupF n gs) := PGw (pg_tup hc h hn hst) fun v σ H Q q => by
  obtain ⟨c, G, e, d, e', r, hv, hf, q⟩ := q
  cases d with
  | tup ds =>
    cases hv with
    | tup h1 h2 =>
      have hf' : (if ds.length = n then gs ds e else none) = some e' := hf
      by_cases hl : ds.length = n
      · rw [if_pos hl] at hf'
        exact ⟨_, _, rfl, seqT r.gh h1, by rw [h2.len]; exact hl, c, G, e, ds, e', r, h2, hf', q⟩
      · rw [if_neg hl] at hf'; cases hf'
  | _ => cases hf
theorem s_asgT (he : SE X ct W ex fe) (hg : SG2 X ct tg g) (hs : swapsWithSole [tg] ex pos.line X.env = pure false := by rfl) (hw : swappedStores [tg] ex X.env = pure none := by rfl)
    (h1 : (assignEach [tg] X.env).map (·.2) = [assign tg X.env] := by rfl) : SS X ct W (.Assign [tg] ex pos) (sAsgT fe g) := PSw (ps_asg he hg hs hw h1) fun Dn σ H q => by
  obtain ⟨c, G, e, r, p⟩ := q
  refine ⟨c, G, e, r, (PostS.sb p).imp fun G' H' e' d s r' h v hv => ?_⟩
  split at h
  · rename_i e2 h2
    exact ⟨c, G', e', d, e2, r', hv, h2, fun G2 σ2 H2 s2 r2 => h G2 σ2 H2 s2 r2⟩
  · exact h.elim
end

/-! ### a, b = x, y with local names -/
def pput (i : Nat) (x : EV) (e : Env) : Option Env := match e[i]? with
  | some (some (.p _)) => none
  | some _ => some (e.set i (some x))
  | none => none
def sPar2 (i j : Nat) (fa fb : EM EV) : SM := fun e => (fa e).sb fun x e1 => (fb e1).sb fun y e2 => match pput i x e2 with
  | some e3 => (match pput j y e3 with
    | some e4 => .nx e4
    | none => .stuck)
  | none => .stuck
def sPar3 (i j l : Nat) (fa fb fc : EM EV) : SM := fun e => (fa e).sb fun x e1 => (fb e1).sb fun y e2 => (fc e2).sb fun z e3 => match pput i x e3 with
  | some e4 => (match pput j y e4 with
    | some e5 => (match pput l z e5 with
      | some e6 => .nx e6
      | none => .stuck)
    | none => .stuck)
  | none => .stuck
/-- a value held while others are reckoned -/
def HV (k : Kc) (c : Fr) (G H : Hp) (v : V) : EV → Prop
  | .d d => Rp k G v d
  | .m x => ∃ a, v = .ref a ∧ MAt k c G H a x
  | .p _ => False
  | .t _ _ => False
/-- the surroundings with a held thing -/
def hold (c : Fr) (H : Hp) (v : V) (x : EV) : Fr := match x, v with
  | .m _, .ref a => (match H a with
    | some o => c.guard a o
    | none => c)
  | _, _ => c
theorem hold_in {k : Kc} {c : Fr} {G H : Hp} {σ : L2.St} {e : Env} {v : V} {x : EV} (r : RepS k c G σ H e) (h : RpV k c G σ H e v x) : RepS k (hold c H v x) G σ H e := by
  cases x with
  | d d => exact r
  | p y => exact h.elim
  | m y =>
    obtain ⟨a, rfl, ⟨m1, m2, o, m3, m4⟩, l⟩ := h
    have e1 : hold c H (.ref a) (.m y) = c.guard a o := by
      show (match H a with
        | some o => c.guard a o
        | none => c) = _
      rw [m3]
    rw [e1]
    exact r.guard m3 m1 l m4.noT
  | t _ _ => first | exact h2.elim | exact trivial | cases hw | exact hv.elim | exact h.elim | exact hx.elim | exact hu.elim | cases hy | cases h' | cases hd' | cases h2 | cases h1 | cases hd | cases h3 | cases h4
/-- what held is got back -/
theorem hold_out {k : Kc} {c : Fr} {G G1 H H1 : Hp} {σ : L2.St} {e e1 : Env} {v : V} {x : EV} (r : RepS k c G σ H e) (h : RpV k c G σ H e v x) (s : Same G G1) (r1 : RepS k (hold c H v x) G1 σ H1 e1) : RepS k c G1 σ H1 e1 ∧ RpV k c G1 σ H1 e1 v x ∧ ∀ b, (hold c H v x).O b = none → c.O b = none ∧ (x.own = true → v ≠ .ref b) := by
  cases x with
  | d d => exact ⟨r1, Rp.mono s h, fun b hb => ⟨hb, fun z => by cases z⟩⟩
  | p y => exact h.elim
  | m y =>
    obtain ⟨a, rfl, ⟨m1, m2, o, m3, m4⟩, l⟩ := h
    have e1 : hold c H (.ref a) (.m y) = c.guard a o := by
      show (match H a with
        | some o => c.guard a o
        | none => c) = _
      rw [m3]
    rw [e1] at r1 ⊢
    have h0 : c.G0 a = none := by
      cases q : c.G0 a with
      | none => rfl
      | some u => have := r.g0 a u q; rw [m1] at this; cases this
    obtain ⟨r2, hH, hG, hl⟩ := r1.unguard m2 h0 (fun φ z => m4.noTb (.inr ⟨φ, z⟩))
    refine ⟨r2, ⟨a, rfl, ⟨hG, m2, o, hH, m4.mono s⟩, hl⟩, fun b hb => ?_⟩
    have hb' : (upd c.O a o) b = none := hb
    by_cases z : b = a
    · subst z; rw [upd_same] at hb'; cases hb'
    · rw [upd_ne z] at hb'
      exact ⟨hb', fun _ q => z (by injection q with q; exact q.symm)⟩
  | t _ _ => first | exact h2.elim | exact trivial | cases hw | exact hv.elim | exact h.elim | exact hx.elim | exact hu.elim | cases hy | cases h' | cases hd' | cases h2 | cases h1 | cases hd | cases h3 | cases h4
theorem pput_ok {k : Kc} {c : Fr} {G H : Hp} {σ : L2.St} {e e' : Env} {i : Nat} {x : EV} {v : V} (r : RepS k c G σ H e) (hv : RpV k c G σ H e v x) (h : pput i x e = some e') : RepS k c G (σ.set i (some v)) H e' ∧
    ∀ (y : EV) (u : V), RpV k c G σ H e u y → (x.own = true → y.own = true → u ≠ v) → RpV k c G (σ.set i (some v)) H e' u y := by
  unfold pput at h
  split at h
  · cases h
  · rename_i y0 hn hy
    cases h
    refine ⟨r.put (x := some x) (r.nopin hy fun z q => hn z q) (fun y hy => ?_) (fun y b hy hw ev => ?_), fun y u hu hne => ?_⟩
    · cases hy
      cases x with
      | d d => exact hv
      | m z => obtain ⟨a, e1, m, _⟩ := hv; exact ⟨a, e1, m⟩
      | p z => exact hv.elim
      | t _ _ => first | exact h2.elim | exact trivial | cases hw | exact hv.elim | exact h.elim | exact hx.elim | exact hu.elim | cases hy | cases h' | cases hd' | cases h2 | cases h1 | cases hd | cases h3 | cases h4
    · cases hy
      cases x with
      | d d => cases hw
      | m z =>
        obtain ⟨a, e1, _, l⟩ := hv
        rw [ev] at e1
        cases e1
        intro j w hj hjw
        rcases set_get hj with ⟨_, q, _⟩ | ⟨_, q⟩
        · cases q
        · exact l j w q hjw
      | p z => exact hv.elim
      | t _ _ => first | exact h2.elim | exact trivial | cases hw | exact hv.elim | exact h.elim | exact hx.elim | exact hu.elim | cases hy | cases h' | cases hd' | cases h2 | cases h1 | cases hd | cases h3 | cases h4
    · cases y with
      | d d => exact hu
      | p z => exact hu.elim
      | m z =>
        obtain ⟨a, rfl, m, l⟩ := hu
        refine ⟨a, rfl, m, fun j w hj hjw q => ?_⟩
        rcases set_get hj with ⟨rfl, q2, hil⟩ | ⟨hij, q2⟩
        · cases q2
          rw [List.getElem?_set_self (by rw [← r.len]; exact hil)] at q
          have ev : v = .ref a := by injection q with q; injection q
          exact hne hjw rfl ev.symm
        · rw [List.getElem?_set_ne hij] at q
          exact l j w q2 hjw q
      | t _ _ => first | exact h2.elim | exact trivial | cases hw | exact hv.elim | exact h.elim | exact hx.elim | exact hu.elim | cases hy | cases h' | cases hd' | cases h2 | cases h1 | cases hd | cases h3 | cases h4
  · cases h
section
variable {X : Cx} {ct : Ct} {W : WX} {i j l : Nat} {x y z : Str} {a b c : Expr} {fa fb fc : EM EV} {px py pz pt pos : Pos} {kt k2 : Nat} {pt2 : Pos}
theorem hv_ne {k : Kc} {c : Fr} {G H H' : Hp} {σ : L2.St} {e' : Env} {u v : V} {x y : EV} (h' : RpV k (hold c H v x) G σ H' e' u y) (hm : ∀ b, (hold c H v x).O b = none → c.O b = none ∧ (x.own = true → v ≠ .ref b)) : x.own = true → y.own = true → u ≠ v := fun hx hy q => by
  cases y with
  | d d => cases hy
  | p w => cases h'
  | m w =>
    obtain ⟨a, rfl, ⟨_, m2, _⟩, _⟩ := h'
    exact (hm a m2).2 hx q.symm
  | t _ _ => first | exact h2.elim | exact trivial | cases hw | exact hv.elim | exact h.elim | exact hx.elim | exact hu.elim | cases hy | cases h' | cases hd' | cases h2 | cases h1 | cases hd | cases h3 | cases h4
theorem RpV.out {k : Kc} {c : Fr} {G H H' : Hp} {σ : L2.St} {e : Env} {u v : V} {x y : EV} (h' : RpV k (hold c H v x) G σ H' e u y) (hm : ∀ b, (hold c H v x).O b = none → c.O b = none ∧ (x.own = true → v ≠ .ref b)) : RpV k c G σ H' e u y := by
  cases y with
  | d d => exact h'
  | p w => exact h'
  | m w =>
    obtain ⟨a, e1, ⟨m1, m2, m3⟩, l⟩ := h'
    exact ⟨a, e1, ⟨m1, (hm a m2).1, m3⟩, l⟩
  | t _ _ => first | exact h2.elim | exact trivial | cases hw | exact hv.elim | exact h.elim | exact hx.elim | exact hu.elim | cases hy | cases h' | cases hd' | cases h2 | cases h1 | cases hd | cases h3 | cases h4
theorem s_par2 (hc : X.calm = true) (hN : X.N.Nodup) (hi : X.N[i]? = some x) (hj : X.N[j]? = some y) (hij : i ≠ j)
    (hx : X.env.scope.names.lookup x = some .local) (hy : X.env.scope.names.lookup y = some .local) (ha : SV X ct W a fa) (hb : SV X ct W b fb)
    (hw : swappedStores [.Tuple [.Name x px, .Name y py] kt pt] (.Tuple [a, b] k2 pt2) X.env = pure (some [x, y]))
    (hs : swapsWithSole [.Tuple [.Name x px, .Name y py] kt pt] (.Tuple [a, b] k2 pt2) pos.line X.env = pure false := by rfl)
    (h1 : starEach [a, b] X.env = (false, eval a X.env) :: starEach [b] X.env := by rfl) (h2 : starEach [b] X.env = (false, eval b X.env) :: starEach [] X.env := by rfl) :
    SS X ct W (.Assign [.Tuple [.Name x px, .Name y py] kt pt] (.Tuple [a, b] k2 pt2) pos) (sPar2 i j fa fb) := PSw (ps_par hc hN hi hj hij hx hy (pa_cons ha (pa_cons hb pa_nil h2) h1) hw hs) fun Dn σ H q => by
  obtain ⟨c, G, e, r, p⟩ := q
  refine ⟨c, G, e, r, (PostS.sb p).imp fun G1 H1 e1 va s1 r1 p1 v hv => ⟨hold c H1 v va, G1, e1, hold_in r1 hv, ?_⟩⟩
  have p1' : PostS ⟨X.K, ct⟩ W c G1 Dn ((fb e1).sb fun y e2 => match pput i va e2 with
    | some e3 => (match pput j y e3 with
      | some e4 => .nx e4
      | none => .stuck)
    | none => .stuck) := p1
  cases h2 : fb e1 with
  | stuck => rw [h2] at p1'; exact p1'.elim
  | exc xx e2 =>
    rw [h2] at p1'
    intro G2 H2 cls dc s2 r2 hx2
    obtain ⟨r2', _, _⟩ := hold_out r1 hv s2 r2
    exact p1' G2 σ H2 cls dc s2 r2' hx2
  | ok vb e2 =>
    rw [h2] at p1'
    intro G2 H2 s2 r2 u hu
    obtain ⟨r2', hv2, hm⟩ := hold_out r1 hv s2 r2
    have p3 : PostS ⟨X.K, ct⟩ W c G1 Dn (match pput i va e2 with
      | some e3 => (match pput j vb e3 with
        | some e4 => .nx e4
        | none => .stuck)
      | none => .stuck) := p1'
    split at p3
    · rename_i e3 h3
      obtain ⟨r3, k3⟩ := pput_ok r2' hv2 h3
      split at p3
      · rename_i e4 h4
        have hne := hv_ne hu hm
        obtain ⟨r4, _⟩ := pput_ok r3 (k3 vb u (hu.out hm) hne) h4
        exact ⟨v, u, rfl, p3 G2 _ H2 s2 r4⟩
      · exact p3.elim
    · exact p3.elim
end
end MM
end
section
set_option Elab.async false
set_option linter.all false
set_option autoImplicit false
set_option maxRecDepth 100000
set_option maxHeartbeats 4000000
namespace MM
open PySem PySem.Spec L2
open Classical

/-! ### what a def does -/
inductive Out where
  | ret (x : EV) (ps : List (Option MV)) | exc (x : Exn) (ps : List (Option MV)) | stuck
def Out.noT : Out → Out
  | .ret (.t _ _) _ => .stuck
  | o => o
def pinOf : Option EV → Option MV
  | some (.p y) => some y
  | _ => none
def outOf (m : Nat) : SRes → Out
  | .nx e => .ret (.d .non) ((e.take m).map pinOf)
  | .rt x e => .ret x ((e.take m).map pinOf)
  | .exc x e => .exc x ((e.take m).map pinOf)
  | _ => .stuck
/-- n slots, m parameters -/
def runD (n m : Nat) (f : SM) (as : List EV) : Out := if as.length = m then outOf m (f (as.map some ++ List.replicate (n - m) none)) else .stuck
def ARep (k : Kc) (G H : Hp) (v : V) : EV → Prop
  | .d d => Rp k G v d
  | .p x => ∃ a o, v = .ref a ∧ G a = none ∧ H a = some o ∧ MRep k G o x
  | .m _ => False
  | .t _ _ => False
def pinA (vs : List V) (as : List EV) (i : Nat) : Option Addr := match as[i]?, vs[i]? with
  | some (.p _), some (.ref a) => some a
  | _, _ => none
structure Args (k : Kc) (G H : Hp) (vs : List V) (as : List EV) : Prop where
  len : vs.length = as.length
  get : ∀ (i : Nat) (x : EV), as[i]? = some x → ∃ v, vs[i]? = some v ∧ ARep k G H v x
  dis : ∀ (i j : Nat) (a : Addr), pinA vs as i = some a → pinA vs as j = some a → i = j
structure Aft (k : Kc) (vs : List V) (as : List EV) (G H G' H' : Hp) (ps : List (Option MV)) : Prop where
  g : Same G G'
  gh : Same G' H'
  keep : ∀ (a : Addr) (o : HO), H a = some o → (∀ i, pinA vs as i ≠ some a) → a ∉ k.ct.T.map (·.1) → H' a = some o
  tb : ∀ p ∈ k.ct.T, LamX.TabS H' p.1 p.2
  new : ∀ a : Addr, G' a ≠ none → G a = none → H a = none ∨ ∃ φ, G' a = some (.ext φ)
  pins : ∀ (i : Nat) (a : Addr), pinA vs as i = some a → ∃ y o, ps[i]? = some (some y) ∧ H' a = some o ∧ MRep k G' o y
def RRes (k : Kc) (G' H H' : Hp) (v : V) : EV → Prop
  | .d d => Rp k G' v d
  | .m x => ∃ a o, v = .ref a ∧ G' a = none ∧ H a = none ∧ H' a = some o ∧ MRep k G' o x
  | .p _ => False
  | .t d x => ∃ q w a o, v = .ref q ∧ SqT k.K H' q [w, .ref a] ∧ Rp k G' w d ∧ G' a = none ∧ H a = none ∧ H' a = some o ∧ MRep k G' o x
def EndO (k : Kc) (vs : List V) (as : List EV) (G H : Hp) (Q : VK) (E : XK) : Out → Prop
  | .ret x ps => ∀ G' H' v, Aft k vs as G H G' H' ps → RRes k G' H H' v x → Q v H'
  | .exc x ps => ∀ G' H' cls dc, Aft k vs as G H G' H' ps → RepX k G' H' cls dc x → E cls dc H'
  | .stuck => False
/-- a def's promise -/
def spM (k : Kc) (F : List EV → Out) : Sp := fun vs H Q E => ∃ G as, Same G H ∧ (Tbs k.ct.T (fun _ => none) G H ∧ Args k G H vs as) ∧ EndO k vs as G H Q E (F as)
noncomputable def frA (T : List (Addr × Str)) (vs : List V) (as : List EV) (G H : Hp) : Fr := ⟨fun a => if (∃ i, pinA vs as i = some a) ∨ a ∈ T.map (·.1) then none else H a, G, pinA vs as⟩
theorem padGet {α : Type} {l : List α} {q i : Nat} {x : α} (h : (l.map some ++ List.replicate q none)[i]? = some (some x)) : l[i]? = some x := by
  by_cases hi : i < (l.map some).length
  · rw [List.getElem?_append_left hi, List.getElem?_map] at h
    cases e : l[i]? with
    | none => rw [e] at h; cases h
    | some y => rw [e] at h; cases h; rfl
  · rw [List.getElem?_append_right (Nat.le_of_not_lt hi), List.getElem?_replicate] at h
    split at h <;> cases h
theorem padSet {α : Type} {l : List α} {q i : Nat} {x : α} (h : l[i]? = some x) : (l.map some ++ List.replicate q none)[i]? = some (some x) := by
  have hi : i < l.length := (List.getElem?_eq_some_iff.mp h).1
  rw [List.getElem?_append_left (by simpa using hi), List.getElem?_map, h]
  rfl
theorem pinA_ok {vs : List V} {as : List EV} {i : Nat} {a : Addr} (h : pinA vs as i = some a) : (∃ x, as[i]? = some (.p x)) ∧ vs[i]? = some (.ref a) := by
  unfold pinA at h
  split at h
  · cases h; exact ⟨⟨_, by assumption⟩, by assumption⟩
  · cases h
theorem pinA_mk {vs : List V} {as : List EV} {i : Nat} {a : Addr} {x : MV} (h : as[i]? = some (.p x)) (h2 : vs[i]? = some (.ref a)) : pinA vs as i = some a := by
  unfold pinA
  rw [h, h2]
theorem repS_start {k : Kc} {G H : Hp} {vs : List V} {as : List EV} {n : Nat} (s : Same G H) (tb : Tbs k.ct.T (fun _ => none) G H) (r : Args k G H vs as) :
    RepS k (frA k.ct.T vs as G H) G (vs.map some ++ List.replicate n none) H (as.map some ++ List.replicate n none) := by
  have hO : ∀ a, (frA k.ct.T vs as G H).O a = if (∃ i, pinA vs as i = some a) ∨ a ∈ k.ct.T.map (·.1) then none else H a := fun _ => rfl
  have own : ∀ (i : Nat) (x : EV), as[i]? = some x → x.own = true → ∃ y, x = .p y := fun i x hx hw => by
    obtain ⟨v, _, h2⟩ := r.get i x hx
    cases x with
    | d d => cases hw
    | m y => exact h2.elim
    | p y => exact ⟨y, rfl⟩
    | t _ _ => first | exact h2.elim | exact trivial | cases hw | exact hv.elim | exact h.elim | exact hx.elim | exact hu.elim | cases hy | cases h' | cases hd' | cases h2 | cases h1 | cases hd | cases h3 | cases h4
  refine ⟨Same.refl _, s, fun a o h => ?_, fun a h _ => .inl h, fun p hp => ⟨(tb p hp).1, by rw [hO, if_pos (.inr (List.mem_map.mpr ⟨p, hp, rfl⟩))], (tb p hp).2.2⟩, ?_, fun i x hx => ?_, fun i j a x y hx hy wx wy h1 h2 => ?_, fun i a h => ?_⟩
  · rw [hO] at h
    split at h
    · cases h
    · exact h
  · simp [r.len]
  · have hx := padGet hx
    obtain ⟨v, h1, h2⟩ := r.get i x hx
    refine ⟨v, padSet h1, ?_⟩
    cases x with
    | d d => exact h2
    | m y => exact h2.elim
    | p y =>
      obtain ⟨a, o, rfl, h3, h4, h5⟩ := h2
      refine ⟨a, rfl, h3, ?_, o, h4, h5⟩
      rw [hO, if_pos (.inl ⟨i, pinA_mk hx h1⟩)]
    | t _ _ => first | exact h2.elim | exact trivial | cases hw | exact hv.elim | exact h.elim | exact hx.elim | exact hu.elim | cases hy | cases h' | cases hd' | cases h2 | cases h1 | cases hd | cases h3 | cases h4
  · obtain ⟨x', rfl⟩ := own i x (padGet hx) wx
    obtain ⟨y', rfl⟩ := own j y (padGet hy) wy
    exact r.dis i j a (pinA_mk (padGet hx) (padGet h1)) (pinA_mk (padGet hy) (padGet h2))
  · obtain ⟨⟨x, h1⟩, h2⟩ := pinA_ok h
    exact ⟨x, padSet h1, padSet h2⟩
theorem aft_of {k : Kc} {G H G' H' : Hp} {vs : List V} {as : List EV} {σ : L2.St} {e : Env} (hl : Args k G H vs as) (r : RepS k (frA k.ct.T vs as G H) G' σ H' e) : Aft k vs as G H G' H' ((e.take as.length).map pinOf) := by
  have hO : ∀ a, (frA k.ct.T vs as G H).O a = if (∃ i, pinA vs as i = some a) ∨ a ∈ k.ct.T.map (·.1) then none else H a := fun _ => rfl
  have at0 : ∀ i a, pinA vs as i = some a → ∃ x o, e[i]? = some (some (.p x)) ∧ G' a = none ∧ H' a = some o ∧ MRep k G' o x := fun i a h => by
    obtain ⟨x, h1, h2⟩ := r.pin i a h
    obtain ⟨v, h3, b, rfl, g1, _, o, g3, g4⟩ := r.slot i _ h1
    rw [h2] at h3
    cases h3
    exact ⟨x, o, h1, g1, g3, g4⟩
  refine ⟨r.g0, r.gh, fun a o h hn ht => ?_, fun p hp => (r.tb p hp).1, fun a h1 h2 => ?_, fun i a h => ?_⟩
  · refine r.oh a o ?_
    rw [hO, if_neg (fun z => z.elim (fun ⟨i, q⟩ => hn i q) ht)]
    exact h
  · cases q : (frA k.ct.T vs as G H).O a with
    | some o => exact (r.fr a h1 (by rw [q]; exact fun z => by cases z)).elim (fun z => absurd h2 z) .inr
    | none =>
      rw [hO] at q
      split at q
      · rename_i hp
        rcases hp with hp | hp
        · obtain ⟨i, hp⟩ := hp
          obtain ⟨x, o, _, g, _⟩ := at0 i a hp
          exact absurd g h1
        · obtain ⟨p, hq, e⟩ := List.mem_map.mp hp
          exact absurd (e ▸ (r.tb p hq).2.2) h1
      · exact .inl q
  · obtain ⟨x, o, h1, h2, h3, h4⟩ := at0 i a h
    obtain ⟨⟨y, hy⟩, _⟩ := pinA_ok h
    have hi : i < as.length := (List.getElem?_eq_some_iff.mp hy).1
    refine ⟨x, o, ?_, h3, h4⟩
    rw [List.getElem?_map, List.getElem?_take_of_lt hi, h1]
    rfl
/-- THE RULE for a def -/
theorem fn_mir {P : Program} {w : World} {K : PySem.W.Frag} {mg : Str → Option Value} {base : Heap} {ct : Ct} {x qual : Str} {params : Arguments} {body : List Stmt} {scope : Scope} {dvs : List V} {kws : List (Str × V)} {f : Addr} {fd : FuncData} {N ps : List Str} {k n m : Nat} {fb : SM}
    (F : FunD K x qual params body scope dvs kws f fd) (S : FnScope N ps scope) (hm : ps.length = m) (hn : N.length = n)
    (hb : ∀ (cdv : Value) (A : Around) (outer : List PySem.Env) (s : Shared) (H : Hp) (E : XK), Room k (A.deeper (PyProof.Rows.envOfC qual scope s.heap.objs.size f cdv)) → Takes (cxOf (L2.CX P w) P w K mg base N qual scope f cdv A outer s H E) (fun cls d _ H => E cls d H) →
      SSs (cxOf (L2.CX P w) P w K mg base N qual scope f cdv A outer s H E) ct (fun cls d _ H => E cls d H) body fb) :
    FnOk P w K mg base (L2.CX P w) (k + 1) f fd ps (spM ⟨K, ct⟩ (runD n m fb)) := by
  have lenA : ∀ {as : List EV} {vs : List V} {G H : Hp} {Q : VK} {E : XK}, EndO ⟨K, ct⟩ vs as G H Q E (runD n m fb as) → as.length = m := fun {as vs G H Q E} h => by
    by_cases q : as.length = m
    · exact q
    · unfold runD at h
      rw [if_neg q] at h
      exact h.elim
  refine F.ok S (fun vs H Q E q => ?_) fun cdv A outer s H vs Q E hr q => ?_
  · obtain ⟨G, as, _, ⟨_, r⟩, h⟩ := q
    rw [r.len, lenA h, hm]
  · obtain ⟨G, as, sm, ⟨tb, r⟩, h⟩ := q
    have hl := lenA h
    refine ⟨_, hb cdv A outer s H E hr (takes_of rfl rfl rfl rfl), ?_⟩
    have e1 : L2.start N vs = vs.map some ++ List.replicate (n - m) none := by
      unfold L2.start
      rw [hn, r.len, hl]
    rw [e1]
    refine ⟨frA ct.T vs as G H, G, _, repS_start (n := n - m) sm tb r, ?_⟩
    unfold runD at h
    rw [if_pos hl] at h
    cases hfb : fb (as.map some ++ List.replicate (n - m) none) with
    | stuck => rw [hfb] at h; exact h.elim
    | bk e => rw [hfb] at h; exact h.elim
    | ct e => rw [hfb] at h; exact h.elim
    | nx e =>
      rw [hfb] at h
      intro G' σ H' s' r'
      have af := aft_of r r'
      rw [hl] at af
      exact h G' H' .non af .non
    | exc y e =>
      rw [hfb] at h
      intro G' σ H' cls dc s' r' hx
      have af := aft_of r r'
      rw [hl] at af
      exact h G' H' cls dc af hx
    | rt y e =>
      rw [hfb] at h
      intro G' σ H' v s' r' hv
      have af := aft_of r r'
      rw [hl] at af
      refine h G' H' v af ?_
      cases y with
      | d d => exact hv
      | p z => exact hv.elim
      | m z =>
        obtain ⟨a, rfl, ⟨m1, m2, o, m3, m4⟩, hne⟩ := hv
        refine ⟨a, o, rfl, m1, ?_, m3, m4⟩
        have hO : (frA ct.T vs as G H).O a = if (∃ i, pinA vs as i = some a) ∨ a ∈ ct.T.map (·.1) then none else H a := rfl
        rw [m2] at hO
        split at hO
        · rename_i z
          rcases z with ⟨i, q⟩ | z
          · exact absurd rfl (hne i a q)
          · obtain ⟨p, hp, e⟩ := List.mem_map.mp z
            obtain ⟨ps, q, _⟩ := (r'.tb p hp).1
            rw [e, m3] at q
            cases q
            exact absurd (.inl ⟨_, rfl⟩) m4.noTb
        · exact hO.symm
      | t d z =>
        obtain ⟨q, w, a, e1, hs, hw, ⟨m1, m2, o, m3, m4⟩, hne⟩ := hv
        refine ⟨q, w, a, o, e1, hs, hw, m1, ?_, m3, m4⟩
        have hO : (frA ct.T vs as G H).O a = if (∃ i, pinA vs as i = some a) ∨ a ∈ ct.T.map (·.1) then none else H a := rfl
        rw [m2] at hO
        split at hO
        · rename_i z
          rcases z with ⟨i, q⟩ | z
          · exact absurd rfl (hne i a q)
          · obtain ⟨p, hp, e⟩ := List.mem_map.mp z
            obtain ⟨ps, q, _⟩ := (r'.tb p hp).1
            rw [e, m3] at q
            cases q
            exact absurd (.inl ⟨_, rfl⟩) m4.noTb
        · exact hO.symm

/-! ### calls -/
def argT (e : Env) : Tk → Option (EV × Option Nat)
  | .val d => some (.d d, none)
  | .slot i => match e[i]? with
    | some (some (.d d)) => some (.d d, none)
    | some (some (.m x)) => some (.p x, some i)
    | some (some (.p x)) => some (.p x, some i)
    | _ => none
def argE (e : Env) : List Tk → Option (List (EV × Option Nat))
  | [] => some []
  | t :: ts => match argT e t, argE e ts with
    | some a, some as => some (a :: as)
    | _, _ => none
def backE : Env → List (EV × Option Nat) → List (Option MV) → Env
  | e, (_, some i) :: as, some y :: ps => backE (reE e i y) as ps
  | e, _ :: as, _ :: ps => backE e as ps
  | e, _, _ => e
def slotsOf (as : List (EV × Option Nat)) : List Nat := as.filterMap (·.2)
def vCall (F : List EV → Out) (fa : EM (List Tk)) : EM EV := fun e => (fa e).bind fun ts e1 => match argE e1 ts with
  | none => .stuck
  | some as => if (slotsOf as).Nodup then (match (F (as.map (·.1))).noT with
    | .ret x ps => .ok x (backE e1 as ps)
    | .exc x ps => .exc x (backE e1 as ps)
    | .stuck => .stuck) else .stuck

theorem RpKs.at {k : Kc} {G : Hp} {σ : L2.St} : ∀ {vs : List V} {ts : List Tk}, RpKs k G σ vs ts → vs.length = ts.length ∧ ∀ (i : Nat) (t : Tk), ts[i]? = some t → ∃ v, vs[i]? = some v ∧ RpK k G σ v t
  | [], [], _ => ⟨rfl, fun i t h => by simp at h⟩
  | v :: vs, t :: ts, h => by
    obtain ⟨h1, h2⟩ := RpKs.at h.2
    refine ⟨by simp [h1], fun i u hu => ?_⟩
    cases i with
    | zero => simp at hu; subst hu; exact ⟨v, rfl, h.1⟩
    | succ i => simpa using h2 i u (by simpa using hu)
  | [], _ :: _, h => h.elim
  | _ :: _, [], h => h.elim
theorem argE_at {e : Env} : ∀ {ts : List Tk} {as : List (EV × Option Nat)}, argE e ts = some as → as.length = ts.length ∧ ∀ (i : Nat) (p : EV × Option Nat), as[i]? = some p → ∃ t, ts[i]? = some t ∧ argT e t = some p
  | [], as, h => by cases h; exact ⟨rfl, fun i p h => by simp at h⟩
  | t :: ts, as, h => by
    have h' : (match argT e t, argE e ts with
      | some a, some as => some (a :: as)
      | _, _ => none) = some as := h
    cases h1 : argT e t with
    | none => rw [h1] at h'; cases h'
    | some a =>
      cases h2 : argE e ts with
      | none => rw [h1, h2] at h'; cases h'
      | some as' =>
        rw [h1, h2] at h'
        cases h'
        obtain ⟨h3, h4⟩ := argE_at h2
        refine ⟨by simp [h3], fun i p hp => ?_⟩
        cases i with
        | zero => simp at hp; subst hp; exact ⟨t, rfl, h1⟩
        | succ i => simpa using h4 i p (by simpa using hp)
theorem argT_ok {k : Kc} {c : Fr} {G H : Hp} {σ : L2.St} {e : Env} {v : V} {t : Tk} {x : EV} {q : Option Nat} (r : RepS k c G σ H e) (hv : RpK k G σ v t) (h : argT e t = some (x, q)) :
    (q = none ∧ ∃ d, x = .d d ∧ Rp k G v d) ∨ ∃ s y, q = some s ∧ x = .p y ∧ (e[s]? = some (some (.m y)) ∨ e[s]? = some (some (.p y))) ∧ σ[s]? = some (some v) ∧ ∃ a, v = .ref a ∧ MAt k c G H a y := by
  cases t with
  | val d =>
    have h' : some (EV.d d, (none : Option Nat)) = some (x, q) := h
    cases h'
    exact .inl ⟨rfl, d, rfl, hv⟩
  | slot s =>
    have hs : σ[s]? = some (some v) := hv
    have h : (match e[s]? with
      | some (some (.d d)) => some (EV.d d, none)
      | some (some (.m x)) => some (EV.p x, some s)
      | some (some (.p x)) => some (EV.p x, some s)
      | _ => (none : Option (EV × Option Nat))) = some (x, q) := h
    · split at h
      · rename_i d hd
        cases h
        obtain ⟨w, h1, h2⟩ := r.slot s _ hd
        rw [hs] at h1
        cases h1
        exact .inl ⟨rfl, d, rfl, h2⟩
      · rename_i y hd
        cases h
        obtain ⟨w, h1, a, e1, h2⟩ := r.slot s _ hd
        rw [hs] at h1
        cases h1
        exact .inr ⟨s, y, rfl, rfl, .inl hd, hs, a, e1, h2⟩
      · rename_i y hd
        cases h
        obtain ⟨w, h1, a, e1, h2⟩ := r.slot s _ hd
        rw [hs] at h1
        cases h1
        exact .inr ⟨s, y, rfl, rfl, .inr hd, hs, a, e1, h2⟩
      · cases h
def reO : Option (Option EV) → MV → Option (Option EV)
  | some (some (.p _)), y => some (some (.p y))
  | some _, y => some (some (.m y))
  | none, _ => none
theorem reE_get {e : Env} {i j : Nat} {y : MV} : (reE e i y)[j]? = if j = i then reO e[j]? y else e[j]? := by
  unfold reE
  by_cases h : j = i
  · subst h
    rw [if_pos rfl]
    split
    · rename_i w hw
      rw [List.getElem?_set_self (List.getElem?_eq_some_iff.mp hw).1, hw]
      rfl
    · rename_i hn
      cases q : e[j]? with
      | none => rw [List.getElem?_eq_none (by simpa using q)]; rfl
      | some o =>
        rw [List.getElem?_set_self (List.getElem?_eq_some_iff.mp q).1]
        cases o with
        | none => rfl
        | some x =>
          cases x with
          | p z => exact absurd q (hn z)
          | _ => rfl
  · rw [if_neg h]
    split <;> rw [List.getElem?_set_ne (fun z => h z.symm)]
theorem reE_len {e : Env} {i : Nat} {y : MV} : (reE e i y).length = e.length := by
  unfold reE
  split <;> simp
theorem backE_len : ∀ {as : List (EV × Option Nat)} {e : Env} {ps : List (Option MV)}, (backE e as ps).length = e.length
  | [], e, ps => by unfold backE; rfl
  | (x, q) :: as, e, [] => by cases q <;> (unfold backE; rfl)
  | (x, none) :: as, e, p :: ps => by unfold backE; exact backE_len
  | (x, some i) :: as, e, none :: ps => by unfold backE; exact backE_len
  | (x, some i) :: as, e, some y :: ps => by unfold backE; rw [backE_len, reE_len]
theorem backE_out {j : Nat} : ∀ {as : List (EV × Option Nat)} {e : Env} {ps : List (Option MV)}, j ∉ slotsOf as → (backE e as ps)[j]? = e[j]?
  | [], e, ps, _ => by unfold backE; rfl
  | (x, q) :: as, e, [], _ => by cases q <;> (unfold backE; rfl)
  | (x, none) :: as, e, p :: ps, h => by
    unfold backE
    exact backE_out (by simpa [slotsOf] using h)
  | (x, some i) :: as, e, none :: ps, h => by
    unfold backE
    have h' : j ≠ i ∧ j ∉ slotsOf as := by simpa [slotsOf] using h
    exact backE_out h'.2
  | (x, some i) :: as, e, some y :: ps, h => by
    unfold backE
    have h' : j ≠ i ∧ j ∉ slotsOf as := by simpa [slotsOf] using h
    rw [backE_out h'.2, reE_get, if_neg h'.1]
theorem backE_in {j : Nat} {y : MV} : ∀ {as : List (EV × Option Nat)} {e : Env} {ps : List (Option MV)} {i : Nat} {x : EV}, (slotsOf as).Nodup → as[i]? = some (x, some j) → ps[i]? = some (some y) → (backE e as ps)[j]? = reO e[j]? y
  | [], e, ps, i, x, _, h, _ => by simp at h
  | (x, q) :: as, e, [], i, _, _, _, h => by simp at h
  | (x, q) :: as, e, p :: ps, 0, x', nd, h, hp => by
    have h1 : (x, q) = (x', some j) := by simpa using h
    have h2 : p = some y := by simpa using hp
    cases h1
    subst h2
    unfold backE
    have nd' : j ∉ slotsOf as := (List.nodup_cons.mp (show (j :: slotsOf as).Nodup from nd)).1
    rw [backE_out nd', reE_get, if_pos rfl]
  | (x, none) :: as, e, p :: ps, i + 1, x', nd, h, hp => by
    unfold backE
    exact backE_in (i := i) (x := x') (show (slotsOf as).Nodup from nd) (by simpa using h) (by simpa using hp)
  | (x, some s) :: as, e, none :: ps, i + 1, x', nd, h, hp => by
    unfold backE
    exact backE_in (i := i) (x := x') (List.nodup_cons.mp (show (s :: slotsOf as).Nodup from nd)).2 (by simpa using h) (by simpa using hp)
  | (x, some s) :: as, e, some z :: ps, i + 1, x', nd, h, hp => by
    unfold backE
    have nd' := List.nodup_cons.mp (show (s :: slotsOf as).Nodup from nd)
    have h' : as[i]? = some (x', some j) := by simpa using h
    rw [backE_in (i := i) (x := x') nd'.2 h' (by simpa using hp), reE_get, if_neg]
    rintro rfl
    exact nd'.1 (List.mem_filterMap.mpr ⟨_, List.mem_of_getElem? h', rfl⟩)
section
variable {k : Kc} {c : Fr} {G G' H H' : Hp} {σ : L2.St} {e : Env} {vs : List V} {ts : List Tk} {as : List (EV × Option Nat)} {ps : List (Option MV)}
/-- what stands behind the i-th argument -/
theorem arg_at (r : RepS k c G σ H e) (hv : RpKs k G σ vs ts) (hA : argE e ts = some as) {i : Nat} {x : EV} {q : Option Nat} (h : as[i]? = some (x, q)) : ∃ v, vs[i]? = some v ∧
    ((q = none ∧ ∃ d, x = .d d ∧ Rp k G v d) ∨ ∃ s y, q = some s ∧ x = .p y ∧ (e[s]? = some (some (.m y)) ∨ e[s]? = some (some (.p y))) ∧ σ[s]? = some (some v) ∧ ∃ a, v = .ref a ∧ MAt k c G H a y) := by
  obtain ⟨t, h1, h2⟩ := (argE_at hA).2 i _ h
  obtain ⟨v, h3, h4⟩ := (RpKs.at hv).2 i t h1
  exact ⟨v, h3, argT_ok r h4 h2⟩
theorem pin_at (r : RepS k c G σ H e) (hv : RpKs k G σ vs ts) (hA : argE e ts = some as) {i : Nat} {a : Addr} (h : pinA vs (as.map (·.1)) i = some a) : ∃ s y, as[i]? = some (.p y, some s) ∧ (e[s]? = some (some (.m y)) ∨ e[s]? = some (some (.p y))) ∧ σ[s]? = some (some (.ref a)) ∧ MAt k c G H a y := by
  obtain ⟨⟨x, h1⟩, h2⟩ := pinA_ok h
  rw [List.getElem?_map] at h1
  cases q : as[i]? with
  | none => rw [q] at h1; cases h1
  | some p =>
    obtain ⟨x', o⟩ := p
    rw [q] at h1
    have h1 : some x' = some (EV.p x) := h1
    cases h1
    obtain ⟨v, h3, h4⟩ := arg_at r hv hA q
    rw [h2] at h3
    cases h3
    rcases h4 with ⟨_, d, z, _⟩ | ⟨s, y, rfl, z, h5, h6, b, e1, m⟩
    · cases z
    · cases z
      cases e1
      exact ⟨s, x, rfl, h5, h6, m⟩
theorem slot_pin (r : RepS k c G σ H e) (hv : RpKs k G σ vs ts) (hA : argE e ts = some as) {s : Nat} (h : s ∈ slotsOf as) : ∃ i a y, as[i]? = some (.p y, some s) ∧ pinA vs (as.map (·.1)) i = some a ∧ (e[s]? = some (some (.m y)) ∨ e[s]? = some (some (.p y))) ∧ σ[s]? = some (some (.ref a)) := by
  obtain ⟨p, h1, h2⟩ := List.mem_filterMap.mp h
  obtain ⟨x, q⟩ := p
  have h2 : q = some s := h2
  subst h2
  obtain ⟨i, hi⟩ := List.getElem?_of_mem h1
  obtain ⟨v, h3, h4⟩ := arg_at r hv hA hi
  rcases h4 with ⟨z, _⟩ | ⟨s', y, z, rfl, h5, h6, a, rfl, m⟩
  · cases z
  · cases z
    exact ⟨i, a, y, hi, pinA_mk (by rw [List.getElem?_map, hi]; rfl) h3, h5, h6⟩
theorem args_ok (r : RepS k c G σ H e) (hv : RpKs k G σ vs ts) (hA : argE e ts = some as) (nd : (slotsOf as).Nodup) : Args k G H vs (as.map (·.1)) := by
  refine ⟨by rw [(RpKs.at hv).1, List.length_map, (argE_at hA).1], fun i x hx => ?_, fun i j a h1 h2 => ?_⟩
  · rw [List.getElem?_map] at hx
    cases q : as[i]? with
    | none => rw [q] at hx; cases hx
    | some p =>
      obtain ⟨x', o⟩ := p
      rw [q] at hx
      have hx : some x' = some x := hx
      cases hx
      obtain ⟨v, h3, h4⟩ := arg_at r hv hA q
      refine ⟨v, h3, ?_⟩
      rcases h4 with ⟨_, d, rfl, h⟩ | ⟨s, y, _, rfl, _, _, a, rfl, m1, _, o, m3, m4⟩
      · exact h
      · exact ⟨a, o, rfl, m1, m3, m4⟩
  · obtain ⟨s, y, a1, b1, c1, _⟩ := pin_at r hv hA h1
    obtain ⟨t, z, a2, b2, c2, _⟩ := pin_at r hv hA h2
    have own : ∀ {q : Option (Option EV)} {y : MV}, (q = some (some (.m y)) ∨ q = some (some (.p y))) → ∃ x : EV, q = some (some x) ∧ x.own = true := fun {q y} h => by
      rcases h with h | h
      · exact ⟨_, h, rfl⟩
      · exact ⟨_, h, rfl⟩
    obtain ⟨x1, e1, w1⟩ := own b1
    obtain ⟨x2, e2, w2⟩ := own b2
    have st := r.dis s t a x1 x2 e1 e2 w1 w2 c1 c2
    subst st
    clear own b1 b2 e1 e2 c1 c2
    have : ∀ {l : List (EV × Option Nat)} {i j : Nat} {x y : EV}, (slotsOf l).Nodup → l[i]? = some (x, some s) → l[j]? = some (y, some s) → i = j := fun {l} => by
      induction l with
      | nil => intro i j x y _ h; simp at h
      | cons p l ih =>
        intro i j x y nd h1 h2
        obtain ⟨w, q⟩ := p
        have tail : (slotsOf l).Nodup := by
          cases q with
          | none => exact nd
          | some t => exact (List.nodup_cons.mp (show (t :: slotsOf l).Nodup from nd)).2
        have mem : ∀ {n : Nat} {z : EV}, l[n]? = some (z, some s) → s ∈ slotsOf l := fun h => List.mem_filterMap.mpr ⟨_, List.mem_of_getElem? h, rfl⟩
        cases i with
        | zero =>
          have h1 : (w, q) = (x, some s) := by simpa using h1
          cases h1
          cases j with
          | zero => rfl
          | succ j => exact absurd (mem (by simpa using h2)) (List.nodup_cons.mp (show (s :: slotsOf l).Nodup from nd)).1
        | succ i =>
          cases j with
          | zero =>
            have h2 : (w, q) = (y, some s) := by simpa using h2
            cases h2
            exact absurd (mem (by simpa using h1)) (List.nodup_cons.mp (show (s :: slotsOf l).Nodup from nd)).1
          | succ j => exact congrArg Nat.succ (ih (i := i) (j := j) (x := x) (y := y) tail (by simpa using h1) (by simpa using h2))
    exact this nd a1 a2
/-- the caller behind a call -/
theorem RepS.after (r : RepS k c G σ H e) (hv : RpKs k G σ vs ts) (hA : argE e ts = some as) (nd : (slotsOf as).Nodup) (af : Aft k vs (as.map (·.1)) G H G' H' ps) : RepS k c G' σ H' (backE e as ps) := by
  have nott : ∀ {a : Addr}, c.O a ≠ none → a ∉ k.ct.T.map (·.1) := fun {a} h z => by
    obtain ⟨p, hp, e⟩ := List.mem_map.mp z
    subst e
    exact h (r.tb p hp).2.1
  have notm : ∀ {a : Addr} {o : HO} {y : MV}, H a = some o → MRep k G o y → a ∉ k.ct.T.map (·.1) := fun {a o y} h m z => by
    obtain ⟨p, hp, e⟩ := List.mem_map.mp z
    obtain ⟨ps, q, _⟩ := (r.tb p hp).1
    rw [e, h] at q
    cases q
    exact m.noTb (.inl ⟨_, rfl⟩)
  have notpin : ∀ {a : Addr}, c.O a ≠ none → ∀ i, pinA vs (as.map (·.1)) i ≠ some a := fun {a} h i q => by
    obtain ⟨s, y, _, _, _, m⟩ := pin_at r hv hA q
    exact h m.2.1
  -- a slot behind: as it was, or rewritten
  have at1 : ∀ (j : Nat) (x : EV), (backE e as ps)[j]? = some (some x) → (j ∉ slotsOf as ∧ e[j]? = some (some x)) ∨ ∃ i a y y' o, as[i]? = some (.p y, some j) ∧ pinA vs (as.map (·.1)) i = some a ∧ σ[j]? = some (some (.ref a)) ∧ H' a = some o ∧ MRep k G' o y' ∧
      ((e[j]? = some (some (.m y)) ∧ x = .m y') ∨ (e[j]? = some (some (.p y)) ∧ x = .p y')) := fun j x h => by
    by_cases hj : j ∈ slotsOf as
    · obtain ⟨i, a, y, h1, h2, h3, h4⟩ := slot_pin r hv hA hj
      obtain ⟨y', o, h5, h6, h7⟩ := af.pins i a h2
      rw [backE_in nd h1 h5] at h
      refine .inr ⟨i, a, y, y', o, h1, h2, h4, h6, h7, ?_⟩
      rcases h3 with h3 | h3
      · rw [h3] at h; cases h; exact .inl ⟨h3, rfl⟩
      · rw [h3] at h; cases h; exact .inr ⟨h3, rfl⟩
    · rw [backE_out hj] at h
      exact .inl ⟨hj, h⟩
  have ownOf : ∀ (j : Nat) (x : EV), (backE e as ps)[j]? = some (some x) → x.own = true → ∃ y, e[j]? = some (some y) ∧ y.own = true := fun j x h hw => by
    rcases at1 j x h with ⟨_, q⟩ | ⟨i, a, y, y', o, _, _, _, _, _, ⟨q, _⟩ | ⟨q, _⟩⟩
    · exact ⟨x, q, hw⟩
    · exact ⟨_, q, rfl⟩
    · exact ⟨_, q, rfl⟩
  have keep : ∀ (j : Nat) (a : Addr) (x : EV), e[j]? = some (some x) → x.own = true → σ[j]? = some (some (.ref a)) → j ∉ slotsOf as → ∀ i, pinA vs (as.map (·.1)) i ≠ some a := fun j a x h hw hs hj i q => by
    obtain ⟨s, y, h1, h2, h3, _⟩ := pin_at r hv hA q
    have : ∃ z, e[s]? = some (some z) ∧ z.own = true := by
      rcases h2 with h2 | h2
      · exact ⟨_, h2, rfl⟩
      · exact ⟨_, h2, rfl⟩
    obtain ⟨z, h4, h5⟩ := this
    have := r.dis j s a x z h h4 hw h5 hs h3
    subst this
    exact hj (List.mem_filterMap.mpr ⟨_, List.mem_of_getElem? h1, rfl⟩)
  have newN : ∀ {a : Addr}, G a = none → H a ≠ none → (∀ φ, H' a ≠ some (.ext φ)) → G' a = none := fun {a} h1 h2 h3 => by
    cases q : G' a with
    | none => rfl
    | some o =>
      rcases af.new a (by rw [q]; exact fun z => by cases z) h1 with z | ⟨φ, z⟩
      · exact absurd z h2
      · exact absurd (af.gh _ _ z) (h3 φ)
  refine ⟨r.g0.trans af.g, af.gh, fun a o h => af.keep a o (r.oh a o h) (notpin (by rw [h]; exact fun z => by cases z)) (nott (by rw [h]; exact fun z => by cases z)), fun a h1 h2 => ?_, fun p hp => ⟨af.tb p hp, (r.tb p hp).2.1, ?_⟩, by rw [backE_len]; exact r.len, fun j x h => ?_, fun i j a x y h1 h2 w1 w2 s1 s2 => ?_, fun i a h => ?_⟩
  · cases q : G a with
    | some o =>
      rcases r.fr a (by rw [q]; exact fun z => by cases z) h2 with z | ⟨φ, z⟩
      · exact .inl z
      · exact .inr ⟨φ, af.g _ _ z⟩
    | none =>
      rcases af.new a h1 q with this | z
      · cases q2 : c.O a with
        | none => exact absurd q2 h2
        | some o => rw [r.oh a o q2] at this; cases this
      · exact .inr z
  · obtain ⟨⟨ps, q, _⟩, _, q2⟩ := r.tb p hp
    exact newN q2 (by rw [q]; exact fun z => by cases z) (fun φ z => by obtain ⟨ps', q', _⟩ := af.tb p hp; rw [q'] at z; cases z)
  · rcases at1 j x h with ⟨hj, q⟩ | ⟨i, a, y, y', o, h1, h2, h3, h4, h5, q⟩
    · obtain ⟨v, h1, h2⟩ := r.slot j x q
      refine ⟨v, h1, ?_⟩
      have own : x.own = true → ∀ {y : MV}, (∃ a, v = .ref a ∧ MAt k c G H a y) → ∃ a, v = .ref a ∧ MAt k c G' H' a y := fun hw {y} ⟨a, e1, m1, m2, o, m3, m4⟩ => by
        subst e1
        exact ⟨a, rfl, newN m1 (by rw [m3]; exact fun z => by cases z) (fun φ z => by rw [af.keep a o m3 (keep j a x q hw h1 hj) (notm m3 m4)] at z; cases z; exact m4.noTb (.inr ⟨_, rfl⟩)), m2, o, af.keep a o m3 (keep j a x q hw h1 hj) (notm m3 m4), m4.mono af.g⟩
      cases x with
      | d d => exact Rp.mono af.g h2
      | m y => exact own rfl h2
      | p y => exact own rfl h2
      | t _ _ => first | exact h2.elim | exact trivial | cases hw | exact hv.elim | exact h.elim | exact hx.elim | exact hu.elim | cases hy | cases h' | cases hd' | cases h2 | cases h1 | cases hd | cases h3 | cases h4
    · obtain ⟨s, y2, p1, _, p3, m1, m2, o2, m3, _⟩ := pin_at r hv hA h2
      have hm : MAt k c G' H' a y' := ⟨newN m1 (by rw [m3]; exact fun z => by cases z) (fun φ z => by rw [h4] at z; cases z; exact h5.noTb (.inr ⟨_, rfl⟩)), m2, o, h4, h5⟩
      refine ⟨_, h3, ?_⟩
      rcases q with ⟨_, rfl⟩ | ⟨_, rfl⟩
      · exact ⟨a, rfl, hm⟩
      · exact ⟨a, rfl, hm⟩
  · obtain ⟨x', h3, w3⟩ := ownOf i x h1 w1
    obtain ⟨y', h4, w4⟩ := ownOf j y h2 w2
    exact r.dis i j a x' y' h3 h4 w3 w4 s1 s2
  · obtain ⟨x, h1, h2⟩ := r.pin i a h
    by_cases hj : i ∈ slotsOf as
    · obtain ⟨n, b, y, q1, q2, q3, q4⟩ := slot_pin r hv hA hj
      obtain ⟨y', o, q5, _, _⟩ := af.pins n b q2
      refine ⟨y', ?_, h2⟩
      rw [backE_in nd q1 q5, h1]
      rfl
    · exact ⟨x, by rw [backE_out hj]; exact h1, h2⟩
theorem RRes.here (r : RepS k c G σ H e) (r' : RepS k c G' σ H' (backE e as ps)) (hv : RpKs k G σ vs ts) (hA : argE e ts = some as) (nd : (slotsOf as).Nodup) (af : Aft k vs (as.map (·.1)) G H G' H' ps) {v : V} {x : EV} (h : RRes k G' H H' v x) (nt : ∀ d y, x ≠ .t d y) : RpV k c G' σ H' (backE e as ps) v x := by
  cases x with
  | d d => exact h
  | p y => exact h.elim
  | m y =>
    obtain ⟨a, o, rfl, h1, h2, h3, h4⟩ := h
    refine ⟨a, rfl, ⟨h1, ?_, o, h3, h4⟩, fun j x hx hw hs => ?_⟩
    · cases q : c.O a with
      | none => rfl
      | some o => rw [r.oh a o q] at h2; cases h2
    · have : ∃ y, e[j]? = some (some y) ∧ y.own = true := by
        by_cases hj : j ∈ slotsOf as
        · obtain ⟨n, b, y, q1, q2, q3, q4⟩ := slot_pin r hv hA hj
          rcases q3 with q3 | q3
          · exact ⟨_, q3, rfl⟩
          · exact ⟨_, q3, rfl⟩
        · rw [backE_out hj] at hx
          exact ⟨x, hx, hw⟩
      obtain ⟨y, hy, wy⟩ := this
      obtain ⟨b, z, _, h5, _, _, o2, h6, _⟩ := r.owner hy wy
      rw [hs] at h5
      cases h5
      rw [h2] at h6
      cases h6
  | t d y => exact absurd rfl (nt d y)
end

/-- a def that stands in the main module's names -/
structure FnAt (P : Program) (w : World) (K : PySem.W.Frag) (mg : Str → Option Value) (base : Heap) (ct : Ct) (k : Nat) (x : Str) (ps : List Str) (F : List EV → Out) : Prop where
  ex : ∃ f fd, FnOk P w K mg base (L2.CX P w) k f fd ps (spM ⟨K, ct⟩ F) ∧ mg x = some (.ref f) ∧ PySem.W.keepIn K (.ref f) = true ∧ Binds K fd ps []
section
variable {X : Cx} {ct : Ct} {W : WX} {k : Nat} {x : Str} {ps : List Str} {F : List EV → Out} {p pos : Pos} {a : Expr} {es : List Expr} {fa : EM (List Tk)}
theorem post_call {c : Fr} {G H : Hp} {σ : L2.St} {e : Env} {vs : List V} {ts : List Tk} {Q : VK} (r : RepS ⟨X.K, ct⟩ c G σ H e) (hv : RpKs ⟨X.K, ct⟩ G σ vs ts)
    (h : Post ⟨X.K, ct⟩ W c G σ (fun G' H' e' x => ∀ v, RpV ⟨X.K, ct⟩ c G' σ H' e' v x → Q v H') (match argE e ts with
      | none => .stuck
      | some as => if (slotsOf as).Nodup then (match (F (as.map (·.1))).noT with
        | .ret x ps => .ok x (backE e as ps)
        | .exc x ps => .exc x (backE e as ps)
        | .stuck => .stuck) else .stuck)) : spM ⟨X.K, ct⟩ F vs H Q (WE W σ) := by
  cases h1 : argE e ts with
  | none => rw [h1] at h; exact h.elim
  | some as =>
    rw [h1] at h
    have h' : Post ⟨X.K, ct⟩ W c G σ (fun G' H' e' x => ∀ v, RpV ⟨X.K, ct⟩ c G' σ H' e' v x → Q v H') (if (slotsOf as).Nodup then (match (F (as.map (·.1))).noT with
        | .ret x ps => .ok x (backE e as ps)
        | .exc x ps => .exc x (backE e as ps)
        | .stuck => .stuck) else .stuck) := h
    by_cases nd : (slotsOf as).Nodup
    · rw [if_pos nd] at h'
      refine ⟨G, as.map (·.1), r.gh, ⟨fun p hp => ⟨(r.tb p hp).1, rfl, (r.tb p hp).2.2⟩, args_ok r hv h1 nd⟩, ?_⟩
      cases h2 : F (as.map (·.1)) with
      | stuck => rw [h2] at h'; exact h'.elim
      | ret x ps =>
        rw [h2] at h'
        intro G' H' v af hr
        have r' := r.after hv h1 nd af
        cases x with
        | t _ _ => exact h'.elim
        | d x => exact h' G' H' af.g r' v (RRes.here (x := .d x) r r' hv h1 nd af hr (fun _ _ z => by cases z))
        | m x => exact h' G' H' af.g r' v (RRes.here (x := .m x) r r' hv h1 nd af hr (fun _ _ z => by cases z))
        | p x => exact hr.elim
      | exc x ps =>
        rw [h2] at h'
        intro G' H' cls dc af hx
        exact h' G' H' cls dc af.g (r.after hv h1 nd af) hx
    · rw [if_neg nd] at h'; exact h'.elim
theorem v_call (hF : FnAt X.prog X.w X.K X.mg X.base ct k x ps F) (hr : Room k X.A) (hg : Gl X x) (tk : Takes X W) (ha : SA X ct W (a :: es) fa) (hdb : (x == ("__debug__" : Str)) = false := by decide) (he : starEach (a :: es) X.env = (false, eval a X.env) :: starEach es X.env := by rfl)
    (hpl : (backTo pos (starEach es X.env)).any (·.1) = false := by rfl) : SV X ct W (.Call (.Name x p) (a :: es) [] pos) (vCall F fa) := by
  obtain ⟨f, fd, h1, h2, h3, h4⟩ := hF.ex
  refine PEw (pe_callS h1 hr hg h2 h3 h4 (E := WE W) (fun σ => passAt tk σ) ha hdb he hpl) fun σ H Q q => ?_
  obtain ⟨c, G, e, r, p⟩ := q
  refine ⟨c, G, e, r, (Post.bind p).imp fun G1 H1 e1 ts s1 r1 p1 vs hvs => ?_⟩
  exact post_call r1 hvs p1
end
end MM
end
section
set_option Elab.async false
set_option linter.all false
set_option autoImplicit false
set_option maxRecDepth 100000
set_option maxHeartbeats 4000000
namespace MM
open PySem PySem.Spec L2
open Classical

/-- what is raised is let on, and is wished for alike at all slots -/
structure XOk (X : Cx) (W : WX) (E : XK) : Prop where
  ps : Passes (L2.CX X.prog X.w) X E
  im : ∀ cls d σ H, W cls d σ H → E cls d H
theorem xok_def {X : Cx} {E : XK} (tk : Takes X (fun cls d _ H => E cls d H)) : XOk X (fun cls d _ H => E cls d H) E := ⟨passes_call tk (fun _ _ _ _ h => h), fun _ _ _ _ h => h⟩
theorem xok0 {X : Cx} : XOk X W0 E0 := ⟨passL, fun _ _ _ _ h => h.elim⟩
def tailC (F : List EV → Out) (ts : List Tk) : EM EV := fun e1 => match argE e1 ts with
  | none => .stuck
  | some as => if (slotsOf as).Nodup then (match (F (as.map (·.1))).noT with
    | .ret x ps => .ok x (backE e1 as ps)
    | .exc x ps => .exc x (backE e1 as ps)
    | .stuck => .stuck) else .stuck
theorem post_callE {K : PySem.W.Frag} {ct : Ct} {W : WX} {F : List EV → Out} {c : Fr} {G H : Hp} {σ : L2.St} {e : Env} {vs : List V} {ts : List Tk} {Q : VK} {E : XK} (him : ∀ cls d H, W cls d σ H → E cls d H) (r : RepS ⟨K, ct⟩ c G σ H e) (hv : RpKs ⟨K, ct⟩ G σ vs ts)
    (h : Post ⟨K, ct⟩ W c G σ (fun G' H' e' x => ∀ v, RpV ⟨K, ct⟩ c G' σ H' e' v x → Q v H') (tailC F ts e)) : spM ⟨K, ct⟩ F vs H Q E := by
  unfold tailC at h
  cases h1 : argE e ts with
  | none => rw [h1] at h; exact h.elim
  | some as =>
    rw [h1] at h
    have h' : Post ⟨K, ct⟩ W c G σ (fun G' H' e' x => ∀ v, RpV ⟨K, ct⟩ c G' σ H' e' v x → Q v H') (if (slotsOf as).Nodup then (match (F (as.map (·.1))).noT with
        | .ret x ps => .ok x (backE e as ps)
        | .exc x ps => .exc x (backE e as ps)
        | .stuck => .stuck) else .stuck) := h
    by_cases nd : (slotsOf as).Nodup
    · rw [if_pos nd] at h'
      refine ⟨G, as.map (·.1), r.gh, ⟨fun p hp => ⟨(r.tb p hp).1, rfl, (r.tb p hp).2.2⟩, args_ok r hv h1 nd⟩, ?_⟩
      cases h2 : F (as.map (·.1)) with
      | stuck => rw [h2] at h'; exact h'.elim
      | ret x ps =>
        rw [h2] at h'
        intro G' H' v af hr
        have r' := r.after hv h1 nd af
        cases x with
        | t _ _ => exact h'.elim
        | d x => exact h' G' H' af.g r' v (RRes.here (x := .d x) r r' hv h1 nd af hr (fun _ _ z => by cases z))
        | m x => exact h' G' H' af.g r' v (RRes.here (x := .m x) r r' hv h1 nd af hr (fun _ _ z => by cases z))
        | p x => exact hr.elim
      | exc x ps =>
        rw [h2] at h'
        intro G' H' cls dc af hx
        exact him _ _ _ (h' G' H' cls dc af.g (r.after hv h1 nd af) hx)
    · rw [if_neg nd] at h'; exact h'.elim
def noX : Out → Out
  | .exc _ _ => .stuck
  | o => o
theorem sp_noX {k : Kc} {F : List EV → Out} {vs : List V} {H : Hp} {Q : VK} {E E' : XK} (h : spM k (fun as => noX (F as)) vs H Q E) : spM k F vs H Q E' := by
  obtain ⟨G, as, s, r, h⟩ := h
  refine ⟨G, as, s, r, ?_⟩
  have h : EndO k vs as G H Q E (noX (F as)) := h
  cases q : F as with
  | stuck => rw [q] at h; exact h.elim
  | exc x ps => rw [q] at h; exact h.elim
  | ret x ps => rw [q] at h; exact h

/-! ### keywords -/
def permL {α : Type} (pm : List Nat) (l : List α) : List α := pm.filterMap fun i => l[i]?
theorem permL_vals {pm : List Nat} {vs : List V} {us : List Value} (h : Vals vs us) : Vals (permL pm vs) (permL pm us) := by
  unfold permL
  induction pm with
  | nil => exact .nil
  | cons i pm ih =>
    cases q : vs[i]? with
    | none =>
      have : us[i]? = none := by
        rw [List.getElem?_eq_none_iff] at q ⊢
        rw [← h.length]; exact q
      rw [List.filterMap_cons_none q, List.filterMap_cons_none this]
      exact ih
    | some v =>
      obtain ⟨u, hu, r⟩ := h.get q
      rw [List.filterMap_cons_some q, List.filterMap_cons_some hu]
      exact .cons r ih
theorem RpKs.app {k : Kc} {G : Hp} {σ : L2.St} : ∀ {vs ws : List V} {ts us : List Tk}, RpKs k G σ vs ts → RpKs k G σ ws us → RpKs k G σ (vs ++ ws) (ts ++ us)
  | [], _, [], _, _, h => h
  | _ :: _, _, _ :: _, _, h, h2 => ⟨h.1, RpKs.app h.2 h2⟩
  | [], _, _ :: _, _, h, _ => h.elim
  | _ :: _, _, [], _, h, _ => h.elim
theorem RpKs.perm {k : Kc} {G : Hp} {σ : L2.St} {vs : List V} {ts : List Tk} (pm : List Nat) (h : RpKs k G σ vs ts) : RpKs k G σ (permL pm vs) (permL pm ts) := by
  obtain ⟨hl, ha⟩ := RpKs.at h
  unfold permL
  induction pm with
  | nil => trivial
  | cons i pm ih =>
    cases q : ts[i]? with
    | none =>
      have : vs[i]? = none := by
        rw [List.getElem?_eq_none_iff] at q ⊢
        rw [hl]; exact q
      rw [List.filterMap_cons_none q, List.filterMap_cons_none this]
      exact ih
    | some t =>
      obtain ⟨v, hv, r⟩ := ha i t q
      rw [List.filterMap_cons_some q, List.filterMap_cons_some hv]
      exact ⟨r, ih⟩
abbrev SKw (X : Cx) (ct : Ct) (W : WX) (kws : List Keyword) (f : EM (List Tk)) : Prop := PK X kws (TA ⟨X.K, ct⟩ W f)
theorem PKw {X : Cx} {e : List Keyword} {t t' : L2.TA} (h : PK X e t) (w : ∀ σ H Q, t' σ H Q → t σ H Q) : PK X e t' := ⟨fun pos pins s σ H Q I q => h.run pos pins s σ H Q I (w σ H Q q)⟩
section
variable {X : Cx} {ct : Ct} {W : WX} {a : Expr} {kws : List Keyword} {fa : EM Tk} {fs : EM (List Tk)} {nm : Option Str} {kpos : Pos}
theorem kw_nil : SKw X ct W [] aNil := PKw pk_nil fun σ H Q q => by
  obtain ⟨c, G, e, r, p⟩ := q
  exact p.now r [] trivial
theorem kw_cons (ha : SK X ct W a fa) (hs : SKw X ct W kws fs) : SKw X ct W (⟨nm, a, kpos⟩ :: kws) (aCons fa fs) := PKw (pk_cons ha hs) fun σ H Q q => by
  obtain ⟨c, G, e, r, p⟩ := q
  refine ⟨c, G, e, r, (Post.bind p).imp fun G1 H1 e1 t s1 r1 p1 x hx => ⟨c, G1, e1, r1, (Post.bind p1).imp fun G2 H2 e2 ts s2 r2 p2 xs hxs => ?_⟩⟩
  exact p2.now r2 (x :: xs) ⟨hx.mono s2, hxs⟩
end
/-- a def called with keywords: n values by place, the keywords ks, pm[i] is the place of the i-th parameter's value among all of them -/
structure FnKw (P : Program) (w : World) (K : PySem.W.Frag) (mg : Str → Option Value) (base : Heap) (ct : Ct) (k : Nat) (x : Str) (ps : List Str) (n : Nat) (ks : List Str) (pm : List Nat) (F : List EV → Out) : Prop where
  ex : ∃ f fd, FnOk P w K mg base (L2.CX P w) k f fd ps (spM ⟨K, ct⟩ F) ∧ mg x = some (.ref f) ∧ PySem.W.keepIn K (.ref f) = true ∧ KBn K fd ps n ks (fun us ws => permL pm (us ++ ws)) (fun vs zs => permL pm (vs ++ zs))
theorem Vals.app' : ∀ {vs zs : List V} {us ws : List Value}, Vals vs us → Vals zs ws → Vals (vs ++ zs) (us ++ ws) := fun h h' => h.append h'
theorem kbn_of {K : PySem.W.Frag} {x qual : Str} {params : Arguments} {body : List Stmt} {scope : Scope} {kws : List (Str × V)} {f : Addr} {fd : FuncData} {ps ks : List Str} {n : Nat} {pm : List Nat} (F : FunD K x qual params body scope [] kws f fd)
    (h : ∀ (kV doc pm' : Value) (an : Option Addr) (cdv ct : Value) (us ws : List Value), us.length = n → ws.length = ks.length → bindArgs (PySem.W.fnOf x qual params body scope .none kV doc pm' an cdv ct) ⟨us, ks.zip ws⟩ = pure (ps.zip (permL pm (us ++ ws)))) :
    KBn K fd ps n ks (fun us ws => permL pm (us ++ ws)) (fun vs zs => permL pm (vs ++ zs)) := by
  obtain ⟨oc, od, dV, kV, doc, pm', an, cdv, ct, osl, rfl, lk, hcd, hD, hK⟩ := F.ex
  rcases hD with ⟨_, rfl⟩ | ⟨e, _⟩
  · exact ⟨fun s us ws _ l1 l2 => .of_eq (h kV doc pm' an cdv ct us ws l1 l2), fun r1 r2 => permL_vals (r1.append r2)⟩
  · exact absurd rfl e
def vCallK (n m : Nat) (pm : List Nat) (F : List EV → Out) (fa fk : EM (List Tk)) : EM EV := fun e => (fa e).bind fun ts e1 => (fk e1).bind fun us e2 => if ts.length = n ∧ us.length = m then tailC F (permL pm (ts ++ us)) e2 else .stuck
section
variable {X : Cx} {ct : Ct} {W : WX} {k n : Nat} {x : Str} {ps ks : List Str} {pm : List Nat} {F : List EV → Out} {p pos apos : Pos} {a o : Expr} {es : List Expr} {kws : List Keyword} {fa fk : EM (List Tk)} {E : XK}
theorem callK_sem {c : Fr} {G H : Hp} {σ : L2.St} {e : Env} {vs : List V} {ts : List Tk} {Q : VK} {m : Nat} (him : ∀ cls d H, W cls d σ H → E cls d H) (r : RepS ⟨X.K, ct⟩ c G σ H e) (hv : RpKs ⟨X.K, ct⟩ G σ vs ts)
    (h : Post ⟨X.K, ct⟩ W c G σ (fun G' H' e' x => ∀ v, RpV ⟨X.K, ct⟩ c G' σ H' e' v x → Q v H') ((fk e).bind fun us e2 => if ts.length = n ∧ us.length = m then tailC F (permL pm (ts ++ us)) e2 else .stuck)) :
    TA ⟨X.K, ct⟩ W fk σ H fun zs H2 => vs.length = n ∧ zs.length = m ∧ spM ⟨X.K, ct⟩ F (permL pm (vs ++ zs)) H2 Q E := by
  refine ⟨c, G, e, r, (Post.bind h).imp fun G2 H2 e2 us s2 r2 p2 zs hzs => ?_⟩
  have l1 := (RpKs.at hv).1
  have l2 := (RpKs.at hzs).1
  by_cases q : ts.length = n ∧ us.length = m
  · rw [if_pos q] at p2
    exact ⟨l1.trans q.1, l2.trans q.2, post_callE him r2 ((hv.mono s2).app hzs |>.perm pm) p2⟩
  · rw [if_neg q] at p2; exact p2.elim
theorem v_callK (hF : FnKw X.prog X.w X.K X.mg X.base ct k x ps n ks pm F) (hr : Room k X.A) (hg : Gl X x) (hE : XOk X W E) (ha : SA X ct W (a :: es) fa) (hkw : SKw X ct W kws fk) (hall : (backToKw pos (keywordEach kws X.env)).all (·.1.isSome) = true := by rfl) (hks : (backToKw pos (keywordEach kws X.env)).filterMap (·.1) = ks := by rfl)
    (hdb : (x == ("__debug__" : Str)) = false := by decide) (he : starEach (a :: es) X.env = (false, eval a X.env) :: starEach es X.env := by rfl)
    (hpl : ((backTo pos (starEach (a :: es) X.env)).any (·.1) || (backToKw pos (keywordEach kws X.env)).any (·.1.isNone)) = false := by rfl) : SV X ct W (.Call (.Name x p) (a :: es) kws pos) (vCallK n ks.length pm F fa fk) := by
  obtain ⟨f, fd, h1, h2, h3, h4⟩ := hF.ex
  refine PEw (pe_callN h1 hr hg h2 h3 h4 hE.ps ha hkw hall hks hdb he hpl) fun σ H Q q => ?_
  obtain ⟨c, G, e, r, p⟩ := q
  exact ⟨c, G, e, r, (Post.bind p).imp fun G1 H1 e1 ts s1 r1 p1 vs hvs => callK_sem (X := X) (fun cls d H h => hE.im cls d σ H h) r1 hvs p1⟩
theorem pe_callN0 {CX : CXT} {f : Addr} {fd : FuncData} {sp : Sp} {tk : L2.TA} {g : List Value → List Value → List Value} {gV : List V → List V → List V} (F : FnOk X.prog X.w X.K X.mg X.base CX k f fd ps sp) (hr : Room k X.A) (hg : Gl X x) (hm : X.mg x = some (.ref f)) (hk : PySem.W.keepIn X.K (.ref f) = true) (hb : KBn X.K fd ps 0 ks g gV) (hx : Passes CX X E)
    (hkw : PK X kws tk) (hall : (backToKw pos (keywordEach kws X.env)).all (·.1.isSome) = true := by rfl) (hks : (backToKw pos (keywordEach kws X.env)).filterMap (·.1) = ks := by rfl)
    (hdb : (x == ("__debug__" : Str)) = false := by decide) (hpl : ((backTo pos (starEach [] X.env)).any (·.1) || (backToKw pos (keywordEach kws X.env)).any (·.1.isNone)) = false := by rfl) :
    PE X (.Call (.Name x p) [] kws pos) (tCallN 0 ks.length sp gV E tNil tk) := by
  refine ⟨fun pins s σ H Q I h => ?_⟩
  refine wpAny_Call_Name_kw (ld_glob I hg hm ?_ hdb)
  refine PySem.W.callWith_KW0 (h₀ := X.base) I.ok.mod.kin hk hall ?_ hpl
  refine thn (hkw.run pos pins s σ H _ I h) fun ws s2 ⟨zs, H2, I2, rz, l1, l2, q2⟩ => ⟨I2.kIn, ?_⟩
  rw [hks]
  exact run_fnN F hr hb hx I2 .nil rz rfl l2 q2
theorem v_callK0 (hF : FnKw X.prog X.w X.K X.mg X.base ct k x ps 0 ks pm F) (hr : Room k X.A) (hg : Gl X x) (hE : XOk X W E) (hkw : SKw X ct W kws fk) (hall : (backToKw pos (keywordEach kws X.env)).all (·.1.isSome) = true := by rfl) (hks : (backToKw pos (keywordEach kws X.env)).filterMap (·.1) = ks := by rfl)
    (hdb : (x == ("__debug__" : Str)) = false := by decide) (hpl : ((backTo pos (starEach [] X.env)).any (·.1) || (backToKw pos (keywordEach kws X.env)).any (·.1.isNone)) = false := by rfl) : SV X ct W (.Call (.Name x p) [] kws pos) (vCallK 0 ks.length pm F aNil fk) := by
  obtain ⟨f, fd, h1, h2, h3, h4⟩ := hF.ex
  refine PEw (pe_callN0 h1 hr hg h2 h3 h4 hE.ps hkw hall hks hdb hpl) fun σ H Q q => ?_
  obtain ⟨c, G, e, r, p⟩ := q
  exact callK_sem (X := X) (vs := []) (ts := []) (fun cls d H h => hE.im cls d σ H h) r trivial p
end

/-! ### methods, properties -/
def isObj (cc : Nat) (m : Str) (e : Env) (t : Tk) : Bool := match argT e t with
  | some (.d (.obj c _), _) => decide (c = cc ∧ m ∉ clsNames cc)
  | some (.p (.obj c ns _), _) => decide (c = cc ∧ m ∉ ns)
  | _ => false
theorem lookup_out {β : Type} {m : Str} : ∀ {fs : List (Str × β)}, m ∉ fs.map (·.1) → fs.lookup m = none
  | [], _ => rfl
  | (f, x) :: fs, h => by
    have h' : m ≠ f ∧ m ∉ fs.map (·.1) := by simpa using h
    have hb : (m == f) = false := beq_eq_false_iff_ne.mpr h'.1
    simp only [List.lookup, hb]
    exact lookup_out h'.2
theorem isObj_ok {k : Kc} {c : Fr} {G H : Hp} {σ : L2.St} {e : Env} {v : V} {t : Tk} {cc : Nat} {m : Str} (r : RepS k c G σ H e) (hv : RpK k G σ v t) (h : isObj cc m e t = true) : ∃ a dx fs, v = .ref a ∧ H a = some (.ins (k.ct cc) dx fs) ∧ fs.lookup m = none := by
  unfold isObj at h
  cases q : argT e t with
  | none => rw [q] at h; cases h
  | some p =>
    obtain ⟨x, o⟩ := p
    rw [q] at h
    rcases argT_ok r hv q with ⟨rfl, d, rfl, hd⟩ | ⟨s, y, rfl, rfl, h1, h2, a, rfl, m1, m2, o, m3, m4⟩
    · cases d with
      | obj c' ds =>
        have h' : c' = cc ∧ m ∉ clsNames cc := by simpa using h
        obtain ⟨rfl, hm⟩ := h'
        cases hd with
        | obj h1 h2 h3 => exact ⟨_, _, _, rfl, r.gh _ _ h1, lookup_out (by rw [h2]; exact hm)⟩
      | _ => cases h
    · cases y with
      | obj c' ns ds =>
        have h' : c' = cc ∧ m ∉ ns := by simpa using h
        obtain ⟨rfl, hm⟩ := h'
        obtain ⟨dx, fs, rfl, e1, _⟩ := m4
        exact ⟨a, dx, fs, rfl, m3, lookup_out (by rw [e1]; exact hm)⟩
      | _ => cases h
def vMeth (cc : Nat) (m : Str) (F : List EV → Out) (fo : EM Tk) (fa : EM (List Tk)) : EM EV := fun e => (fo e).bind fun t e1 => if isObj cc m e1 t = true then (fa e1).bind fun ts e2 => tailC F (t :: ts) e2 else .stuck
def vProp (cc : Nat) (F : List EV → Out) (fo : EM Tk) : EM EV := fun e => (fo e).bind fun t e1 => if isObj cc Str.empty e1 t = true then tailC (fun as => noX (F as)) [t] e1 else .stuck
/-- a method of the class cc -/
structure MethAt (P : Program) (w : World) (K : PySem.W.Frag) (mg : Str → Option Value) (base : Heap) (ct : Ct) (k : Nat) (cc : Nat) (m : Str) (ps : List Str) (F : List EV → Out) : Prop where
  ex : ∃ f fd, FnOk P w K mg base (L2.CX P w) k f fd ps (spM ⟨K, ct⟩ F) ∧ Cls K (ct cc) ∧ Meth K (ct cc) m f ∧ Binds K fd ps []
structure PropAt (P : Program) (w : World) (K : PySem.W.Frag) (mg : Str → Option Value) (base : Heap) (ct : Ct) (k : Nat) (cc : Nat) (m : Str) (ps : List Str) (F : List EV → Out) : Prop where
  ex : ∃ f fd p, FnOk P w K mg base (L2.CX P w) k f fd ps (spM ⟨K, ct⟩ F) ∧ Cls K (ct cc) ∧ PropOf K (ct cc) m p f ∧ Binds K fd ps []
/-- a class and its __init__ -/
structure MakeAt (P : Program) (w : World) (K : PySem.W.Frag) (mg : Str → Option Value) (base : Heap) (ct : Ct) (k : Nat) (x : Str) (cc : Nat) (ps : List Str) (F : List EV → Out) : Prop where
  ex : ∃ f fd, FnOk P w K mg base (L2.CX P w) k f fd ps (spM ⟨K, ct⟩ F) ∧ Mk K (ct cc) f ∧ mg x = some (.ref (ct cc)) ∧ Binds K fd ps []
section
variable {X : Cx} {ct : Ct} {W : WX} {k : Nat} {x m : Str} {cc : Nat} {ps : List Str} {F : List EV → Out} {p pos apos : Pos} {a o : Expr} {es : List Expr} {fo : EM Tk} {fa : EM (List Tk)} {E : XK}
theorem v_meth {pl : Sem Bool} (hF : MethAt X.prog X.w X.K X.mg X.base ct k cc m ps F) (hr : Room k X.A) (hE : XOk X W E) (ho : SK X ct W o fo) (ha : SA X ct W (a :: es) fa)
    (hst : starEach (a :: es) X.env = (false, eval a X.env) :: starEach es X.env := by rfl) (hpl : (backTo pos (starEach es X.env)).any (·.1) = false := by rfl)
    (ht : eval (.Call (.Attribute o m apos) (a :: es) [] pos) X.env = (do
      let ov ← eval o X.env
      standAt apos.atName
      let (f, first) ← holding [ov] (getMethod ov m pl)
      callWith pos f first (backTo pos (starEach (a :: es) X.env)) (backToKw pos (keywordEach [] X.env))) := by rfl) :
    SV X ct W (.Call (.Attribute o m apos) (a :: es) [] pos) (vMeth cc m F fo fa) := by
  obtain ⟨f, fd, h1, h2, h3, h4⟩ := hF.ex
  refine PEw (pe_meth ho h2 h3 h1 hr h4 .nil hE.ps ha hst hpl ht) fun σ H Q q => ?_
  obtain ⟨c, G, e, r, p⟩ := q
  refine ⟨c, G, e, r, (Post.bind p).imp fun G1 H1 e1 t s1 r1 p1 v hv => ?_⟩
  split at p1
  · rename_i hi
    obtain ⟨b, dx, fs, rfl, e2, e3⟩ := isObj_ok r1 hv hi
    refine ⟨b, dx, fs, rfl, e2, e3, c, G1, e1, r1, (Post.bind p1).imp fun G2 H2 e2 ts s2 r2 p2 vs hvs => ?_⟩
    show spM _ F (.ref b :: (vs ++ [])) H2 Q E
    rw [List.append_nil]
    exact post_callE (fun cls d H h => hE.im cls d σ H h) r2 (show RpKs _ G2 σ (.ref b :: vs) (t :: ts) from ⟨hv.mono s2, hvs⟩) p2
  · exact p1.elim
theorem v_meth0 {pl : Sem Bool} (hF : MethAt X.prog X.w X.K X.mg X.base ct k cc m ps F) (hr : Room k X.A) (hE : XOk X W E) (ho : SK X ct W o fo)
    (ht : eval (.Call (.Attribute o m apos) [] [] pos) X.env = (do
      let ov ← eval o X.env
      standAt apos.atName
      let (f, first) ← holding [ov] (getMethod ov m pl)
      callWith pos f first (backTo pos (starEach [] X.env)) (backToKw pos (keywordEach [] X.env))) := by rfl) :
    SV X ct W (.Call (.Attribute o m apos) [] [] pos) (vMeth cc m F fo aNil) := by
  obtain ⟨f, fd, h1, h2, h3, h4⟩ := hF.ex
  refine PEw (pe_meth0 ho h2 h3 h1 hr h4 .nil hE.ps ht) fun σ H Q q => ?_
  obtain ⟨c, G, e, r, p⟩ := q
  refine ⟨c, G, e, r, (Post.bind p).imp fun G1 H1 e1 t s1 r1 p1 v hv => ?_⟩
  split at p1
  · rename_i hi
    obtain ⟨b, dx, fs, rfl, e2, e3⟩ := isObj_ok r1 hv hi
    exact ⟨b, dx, fs, rfl, e2, e3, post_callE (fun cls d H h => hE.im cls d σ H h) r1 (show RpKs _ G1 σ [.ref b] [t] from ⟨hv, trivial⟩) p1⟩
  · exact p1.elim
theorem v_prop (hF : PropAt X.prog X.w X.K X.mg X.base ct k cc m ps F) (hr : Room (k + 1) X.A) (ho : SK X ct W o fo) (hab : attributeBase o m X.env (eval o X.env) = eval o X.env := by rfl) : SV X ct W (.Attribute o m pos) (vProp cc F fo) := by
  obtain ⟨f, fd, q, h1, h2, h3, h4⟩ := hF.ex
  refine PEw (pe_prop ho h2 h3 h1 hr h4 .nil (passL (X := X.nox)) hab) fun σ H Q q => ?_
  obtain ⟨c, G, e, r, p⟩ := q
  refine ⟨c, G, e, r, (Post.bind p).imp fun G1 H1 e1 t s1 r1 p1 v hv => ?_⟩
  split at p1
  · rename_i hi
    obtain ⟨b, dx, fs, rfl, e2, e3⟩ := isObj_ok r1 hv hi
    exact ⟨b, dx, fs, rfl, e2, sp_noX (E := fun _ _ _ => True) (post_callE (W := W) (fun cls d H h => trivial) r1 (show RpKs _ G1 σ [.ref b] [t] from ⟨hv, trivial⟩) p1)⟩
  · exact p1.elim
end

/-! ### making -/
def tailMk (cc : Nat) (F : List EV → Out) (ts : List Tk) : EM EV := fun e1 => match argE e1 ts with
  | none => .stuck
  | some as => if (slotsOf as).Nodup then (match F (.p (.obj cc [] []) :: as.map (·.1)) with
    | .ret (.d .non) (some y :: ps) => .ok (.m y) (backE e1 as ps)
    | .exc x (_ :: ps) => .exc x (backE e1 as ps)
    | _ => .stuck) else .stuck
def vMake (cc : Nat) (F : List EV → Out) (fa : EM (List Tk)) : EM EV := fun e => (fa e).bind (tailMk cc F)
section
variable {X : Cx} {ct : Ct} {W : WX} {k : Nat} {x m : Str} {cc : Nat} {ps : List Str} {F : List EV → Out} {p pos apos : Pos} {a o : Expr} {es : List Expr} {fo : EM Tk} {fa : EM (List Tk)} {E : XK}
theorem make_sem {c : Fr} {G H : Hp} {σ : L2.St} {e : Env} {vs : List V} {ts : List Tk} {Q : VK} (him : ∀ cls d H, W cls d σ H → E cls d H) (r : RepS ⟨X.K, ct⟩ c G σ H e) (hv : RpKs ⟨X.K, ct⟩ G σ vs ts)
    (h : Post ⟨X.K, ct⟩ W c G σ (fun G' H' e' x => ∀ v, RpV ⟨X.K, ct⟩ c G' σ H' e' v x → Q v H') (tailMk cc F ts e)) (x dx : Addr) (hx : H x = none) (hdx : H dx = none) (hne : dx ≠ x) :
    spM ⟨X.K, ct⟩ F (.ref x :: vs) (upd (upd H dx (.own x)) x (.ins (ct cc) dx [])) (fun v H2 => v = .non ∧ Q (.ref x) H2) E := by
  unfold tailMk at h
  cases h1 : argE e ts with
  | none => rw [h1] at h; exact h.elim
  | some as =>
    rw [h1] at h
    have h' : Post ⟨X.K, ct⟩ W c G σ (fun G' H' e' x => ∀ v, RpV ⟨X.K, ct⟩ c G' σ H' e' v x → Q v H') (if (slotsOf as).Nodup then (match F (.p (.obj cc [] []) :: as.map (·.1)) with
        | .ret (.d .non) (some y :: ps) => .ok (.m y) (backE e as ps)
        | .exc x (_ :: ps) => .exc x (backE e as ps)
        | _ => .stuck) else .stuck) := h
    by_cases nd : (slotsOf as).Nodup
    · rw [if_pos nd] at h'
      have ar := args_ok r hv h1 nd
      have s1 : Same H (upd (upd H dx (.own x)) x (.ins (ct cc) dx [])) := (same_upd hdx).trans (same_upd (by rw [upd_ne (fun z => hne z.symm)]; exact hx))
      have gx : G x = none := by
        cases q : G x with
        | none => rfl
        | some o => rw [r.gh x o q] at hx; cases hx
      have pinS : ∀ i b, pinA (.ref x :: vs) (.p (.obj cc [] []) :: as.map (·.1)) i = some b → (i = 0 ∧ b = x) ∨ ∃ j, i = j + 1 ∧ pinA vs (as.map (·.1)) j = some b := fun i b q => by
        cases i with
        | zero =>
          obtain ⟨_, q2⟩ := pinA_ok q
          simp at q2
          exact .inl ⟨rfl, q2.symm⟩
        | succ j => exact .inr ⟨j, rfl, q⟩
      have hpin : ∀ j b, pinA vs (as.map (·.1)) j = some b → H b ≠ none := fun j b q => by
        obtain ⟨s, y, _, _, _, _, _, o, m3, _⟩ := pin_at r hv h1 q
        rw [m3]; exact fun z => by cases z
      refine ⟨G, .p (.obj cc [] []) :: as.map (·.1), r.gh.trans s1, ⟨fun p hp => ⟨tabS_keep (r.tb p hp).1 (fun b o q _ => s1 b o q), rfl, (r.tb p hp).2.2⟩, by simp [ar.len], fun i y hy => ?_, fun i j b q1 q2 => ?_⟩, ?_⟩
      · cases i with
        | zero =>
          have hy : some (EV.p (.obj cc [] [])) = some y := hy
          cases hy
          exact ⟨.ref x, rfl, x, .ins (ct cc) dx [], rfl, gx, upd_same, dx, [], rfl, rfl, .nil⟩
        | succ i =>
          obtain ⟨v, g1, g2⟩ := ar.get i y hy
          refine ⟨v, g1, ?_⟩
          cases y with
          | d d => exact g2
          | m z => exact g2.elim
          | p z =>
            obtain ⟨b, o, rfl, g3, g4, g5⟩ := g2
            exact ⟨b, o, rfl, g3, s1 b o g4, g5⟩
          | t _ _ => exact g2.elim
      · rcases pinS i b q1 with ⟨rfl, rfl⟩ | ⟨i', rfl, q1'⟩
        · rcases pinS j _ q2 with ⟨rfl, _⟩ | ⟨j', rfl, q2'⟩
          · rfl
          · exact absurd hx (hpin j' _ q2')
        · rcases pinS j b q2 with ⟨rfl, rfl⟩ | ⟨j', rfl, q2'⟩
          · exact absurd hx (hpin i' _ q1')
          · rw [ar.dis i' j' b q1' q2']
      · -- behind it
        have tailA : ∀ {G' H' : Hp} {qs : List (Option MV)} {o : Option MV}, Aft ⟨X.K, ct⟩ (.ref x :: vs) (.p (.obj cc [] []) :: as.map (·.1)) G (upd (upd H dx (.own x)) x (.ins (ct cc) dx [])) G' H' (o :: qs) →
            Aft ⟨X.K, ct⟩ vs (as.map (·.1)) G H G' H' qs := fun {G' H' qs o} af => by
          refine ⟨af.g, af.gh, fun b u hb hn ht => af.keep b u (s1 b u hb) (fun i q => ?_) ht, af.tb, fun b g1 g2 => ?_, fun i b q => ?_⟩
          · rcases pinS i b q with ⟨_, rfl⟩ | ⟨j, _, q'⟩
            · rw [hx] at hb; cases hb
            · exact hn j q'
          · rcases af.new b g1 g2 with this | z
            · refine .inl ?_
              cases q : H b with
              | none => rfl
              | some u => rw [s1 b u q] at this; cases this
            · exact .inr z
          · obtain ⟨y, o', q1, q2, q3⟩ := af.pins (i + 1) b q
            exact ⟨y, o', q1, q2, q3⟩
        cases h2 : F (.p (.obj cc [] []) :: as.map (·.1)) with
        | stuck => rw [h2] at h'; exact h'.elim
        | ret z qs =>
          rw [h2] at h'
          cases z with
          | m z => exact h'.elim
          | p z => exact h'.elim
          | d d =>
            cases d with
            | non =>
              cases qs with
              | nil => exact h'.elim
              | cons o qs =>
                cases o with
                | none => exact h'.elim
                | some y =>
                  intro G' H' v af hr
                  have hr : Rp ⟨X.K, ct⟩ G' v .non := hr
                  cases hr
                  refine ⟨rfl, ?_⟩
                  have af' := tailA af
                  have r' := r.after hv h1 nd af'
                  refine h' G' H' af'.g r' (.ref x) (RRes.here r r' hv h1 nd af' (x := .m y) ?_ (fun _ _ z => by cases z))
                  obtain ⟨y', o', q1, q2, q3⟩ := af.pins 0 x rfl
                  have q1 : some (some y) = some (some y') := q1
                  cases q1
                  refine ⟨x, o', rfl, ?_, hx, q2, q3⟩
                  cases q : G' x with
                  | none => rfl
                  | some u =>
                    rcases af.new x (by rw [q]; exact fun z => by cases z) gx with this | ⟨φ, z⟩
                    · rw [upd_same] at this
                      cases this
                    · have y := af.gh _ _ z
                      rw [q2] at y
                      cases y
                      exact absurd (.inr ⟨_, rfl⟩) q3.noTb
            | _ => exact h'.elim
          | t _ _ => first | exact h2.elim | exact trivial | cases hw | exact hv.elim | exact h.elim | exact hx.elim | exact hu.elim | cases hy | cases h' | cases hd' | cases h2 | cases h1 | cases hd | cases h3 | cases h4
        | exc z qs =>
          rw [h2] at h'
          cases qs with
          | nil => exact h'.elim
          | cons o qs =>
            intro G' H' cls dc af hz
            have af' := tailA af
            exact him _ _ _ (h' G' H' cls dc af'.g (r.after hv h1 nd af') hz)
    · rw [if_neg nd] at h'; exact h'.elim
theorem v_make (hF : MakeAt X.prog X.w X.K X.mg X.base ct k x cc ps F) (hr : Room (k + 1) X.A) (hg : Gl X x) (hE : XOk X W E) (ha : SA X ct W (a :: es) fa) (hdb : (x == ("__debug__" : Str)) = false := by decide)
    (he : starEach (a :: es) X.env = (false, eval a X.env) :: starEach es X.env := by rfl) (hpl : (backTo pos (starEach es X.env)).any (·.1) = false := by rfl) : SV X ct W (.Call (.Name x p) (a :: es) [] pos) (vMake cc F fa) := by
  obtain ⟨f, fd, h1, h2, h3, h4⟩ := hF.ex
  refine PEw (pe_make h2 h1 hr hg h3 h4 .nil hE.ps ha hdb he hpl) fun σ H Q q => ?_
  obtain ⟨c, G, e, r, p⟩ := q
  refine ⟨c, G, e, r, (Post.bind p).imp fun G1 H1 e1 ts s1 r1 p1 vs hvs x dx hx hdx hne => ?_⟩
  rw [List.append_nil]
  exact make_sem (X := X) (fun cls d H h => hE.im cls d σ H h) r1 hvs p1 x dx hx hdx hne
end

/-! ### attributes of an own thing are stored -/
def putNs (f : Str) : List Str → List Str
  | [] => [f]
  | g :: r => if g = f then g :: r else g :: putNs f r
def putDs (f : Str) (d : D) : List Str → List D → List D
  | g :: r, x :: ds => if g = f then d :: ds else x :: putDs f d r ds
  | _, _ => [d]
theorem putF_ok {k : Kc} {G : Hp} {f : Str} {v : V} {d : D} (hv : Rp k G v d) : ∀ {fs : List (Str × V)} {ds : List D}, Rps k G (fs.map (·.2)) ds → (putF f v fs).map (·.1) = putNs f (fs.map (·.1)) ∧ Rps k G ((putF f v fs).map (·.2)) (putDs f d (fs.map (·.1)) ds)
  | [], _, .nil => ⟨rfl, .cons hv .nil⟩
  | (g, x) :: fs, _, .cons a b => by
    obtain ⟨i1, i2⟩ := putF_ok hv b
    by_cases h : g = f
    · rw [show putF f v ((g, x) :: fs) = (g, v) :: fs from if_pos h]
      refine ⟨(if_pos h).symm, ?_⟩
      show Rps k G (v :: fs.map (·.2)) (putDs f d (g :: fs.map (·.1)) (_ :: _))
      unfold putDs
      rw [if_pos h]
      exact .cons hv b
    · rw [show putF f v ((g, x) :: fs) = (g, x) :: putF f v fs from if_neg h]
      refine ⟨?_, ?_⟩
      · show g :: (putF f v fs).map (·.1) = putNs f (g :: fs.map (·.1))
        unfold putNs
        rw [if_neg h, i1]
      · show Rps k G (x :: (putF f v fs).map (·.2)) (putDs f d (g :: fs.map (·.1)) (_ :: _))
        unfold putDs
        rw [if_neg h]
        exact .cons a i2
def sFldO (cc i : Nat) (f : Str) (fe : EM D) : SM := fun e => (fe e).sb fun d e1 => match mutE e1 i with
  | some (.obj c ns ds) => if c = cc ∧ ns.length < 1000 then .nx (reE e1 i (.obj c (putNs f ns) (putDs f d ns ds))) else .stuck
  | _ => .stuck
section
variable {X : Cx} {ct : Ct} {W : WX} {i : Nat} {f : Str} {cc : Nat} {pos pos' : Pos} {o value : Expr} {fe : EM D}
theorem s_fld (ho : PE X o (tVar i)) (hv : SE X ct W value fe) (hc : Cls X.K (ct cc)) (hn : NoAttr X.K (ct cc) f) (hs : swapsWith value (some (.Attribute o f pos')) pos.line X.env = pure false := by rfl) : SS X ct W (.Assign [.Attribute o f pos'] value pos) (sFldO cc i f fe) := PSw (ps_fld ho hv hs) fun Dn σ H q => by
  obtain ⟨c, G, e, r, p⟩ := q
  refine ⟨c, G, e, r, (PostS.sb p).imp fun G1 H1 e1 d s1 r1 p1 v hv => ?_⟩
  cases h : mutE e1 i with
  | none => rw [h] at p1; exact p1.elim
  | some y =>
    rw [h] at p1
    obtain ⟨a, o', h1, h2, h3, h4, h5⟩ := mutE_ok r1 h
    cases y with
    | obj c' ns ds =>
      have p2 : PostS ⟨X.K, ct⟩ W c G1 Dn (if c' = cc ∧ ns.length < 1000 then .nx (reE e1 i (.obj c' (putNs f ns) (putDs f d ns ds))) else .stuck) := p1
      by_cases q : c' = cc ∧ ns.length < 1000
      · rw [if_pos q] at p2
        obtain ⟨rfl, hl⟩ := q
        obtain ⟨dx, fs, rfl, e2, e3⟩ := h3
        obtain ⟨g1, g2⟩ := putF_ok (f := f) hv e3
        refine ⟨_, h1, a, _, dx, fs, rfl, h2, hc, hn, by rw [← e2, List.length_map] at hl; exact hl, ?_⟩
        refine p2 G1 σ _ (Same.refl _) (h5 _ _ ⟨dx, _, rfl, by rw [g1, e2], ?_⟩)
        rw [← e2]
        exact g2
      · rw [if_neg q] at p2; exact p2.elim
    | _ => exact p1.elim
end
end MM
end
section
set_option Elab.async false
set_option linter.all false
set_option autoImplicit false
set_option maxRecDepth 100000
set_option maxHeartbeats 4000000
namespace MM
open PySem PySem.Spec L2

/-! ### built-in functions on data -/
def ints? : List D → Option (List Int)
  | [] => some []
  | .int i :: xs => (ints? xs).map (i :: ·)
  | _ :: _ => none
def bls? : List D → Option (List Bool)
  | [] => some []
  | .bl b :: xs => (bls? xs).map (b :: ·)
  | _ :: _ => none
theorem ints?_eq : ∀ {xs : List D} {ns : List Int}, ints? xs = some ns → xs = ns.map D.int
  | [], ns, h => by cases h; rfl
  | .int i :: xs, ns, h => by
    have h' : (ints? xs).map (i :: ·) = some ns := h
    cases q : ints? xs with
    | none => rw [q] at h'; cases h'
    | some ms => rw [q] at h'; cases h'; rw [ints?_eq q]; rfl
  | .non :: _, _, h => by cases h
  | .bl _ :: _, _, h => by cases h
  | .str _ :: _, _, h => by cases h
  | .lst _ :: _, _, h => by cases h
  | .tup _ :: _, _, h => by cases h
  | .obj _ _ :: _, _, h => by cases h
  | .dic _ _ :: _, _, h => by cases h
  | .scr _ :: _, _, h => by cases h
theorem bls?_eq : ∀ {xs : List D} {ns : List Bool}, bls? xs = some ns → xs = ns.map D.bl
  | [], ns, h => by cases h; rfl
  | .bl i :: xs, ns, h => by
    have h' : (bls? xs).map (i :: ·) = some ns := h
    cases q : bls? xs with
    | none => rw [q] at h'; cases h'
    | some ms => rw [q] at h'; cases h'; rw [bls?_eq q]; rfl
  | .non :: _, _, h => by cases h
  | .int _ :: _, _, h => by cases h
  | .str _ :: _, _, h => by cases h
  | .lst _ :: _, _, h => by cases h
  | .tup _ :: _, _, h => by cases h
  | .obj _ _ :: _, _, h => by cases h
  | .dic _ _ :: _, _, h => by cases h
  | .scr _ :: _, _, h => by cases h
theorem ints?_map (ns : List Int) : ints? (ns.map D.int) = some ns := by
  induction ns with
  | nil => rfl
  | cons n ns ih => show (ints? (ns.map D.int)).map (n :: ·) = _; rw [ih]; rfl
theorem bls?_map (ns : List Bool) : bls? (ns.map D.bl) = some ns := by
  induction ns with
  | nil => rfl
  | cons n ns ih => show (bls? (ns.map D.bl)).map (n :: ·) = _; rw [ih]; rfl
/-- the ints of a list -/
def intsOf : D → Option (List Int)
  | .lst xs => ints? xs
  | .scr ns => some ns
  | _ => none
def blsOf : D → Option (List Bool)
  | .lst xs => bls? xs
  | _ => none
section
variable {k : Kc} {G H : Hp} {v : V} {d : D}
theorem RB.ints (g : Same G H) (h : RB k G H v d) {ns : List Int} (e : intsOf d = some ns) : ∃ a, v = .ref a ∧ SqL k.K H a (ns.map V.int) := by
  cases d with
  | lst xs =>
    have e : ints? xs = some ns := e
    obtain ⟨a, vs, rfl, h1, r⟩ := h.lst g
    rw [ints?_eq e] at r
    rw [← r.ints]
    exact ⟨a, rfl, SqL.of h1⟩
  | scr ms =>
    cases e
    exact h.scr g
  | _ => cases e
theorem RB.bls (g : Same G H) (h : RB k G H v d) {ns : List Bool} (e : blsOf d = some ns) : ∃ a, v = .ref a ∧ SqL k.K H a (ns.map V.bl) := by
  cases d with
  | lst xs =>
    have e : bls? xs = some ns := e
    obtain ⟨a, vs, rfl, h1, r⟩ := h.lst g
    rw [bls?_eq e] at r
    rw [← r.bls]
    exact ⟨a, rfl, SqL.of h1⟩
  | _ => cases e
theorem RBs.one' {vs : List V} {d : D} (h : RBs k G H vs [d]) : ∃ v, vs = [v] ∧ RB k G H v d := by
  cases h with
  | cons a b => cases b; exact ⟨_, rfl, a⟩
theorem RBs.two' {vs : List V} {d d' : D} (h : RBs k G H vs [d, d']) : ∃ v v', vs = [v, v'] ∧ RB k G H v d ∧ RB k G H v' d' := by
  cases h with
  | cons a b => cases b with
    | cons b c => cases c; exact ⟨_, _, rfl, a, b⟩
end
theorem CallR.or {X : Cx} {f : Value} {r1 r2 : List V → Hp → VK → Prop} (h1 : CallR X f r1) (h2 : CallR X f r2) : CallR X f (fun xs H Q => r1 xs H Q ∨ r2 xs H Q) := by
  intro pins s σ H xs us Q I r h
  rcases h with h | h
  · exact h1 pins s σ H xs us Q I r h
  · exact h2 pins s σ H xs us Q I r h
def gF1 (f : D → Option EV) : List D → Option EV
  | [a] => f a
  | _ => none
def gF2 (f : D → D → Option EV) : List D → Option EV
  | [a, b] => f a b
  | _ => none
theorem gF1_ok {f : D → Option EV} {ds : List D} {z : EV} (h : gF1 f ds = some z) : ∃ a, ds = [a] ∧ f a = some z := by
  unfold gF1 at h
  split at h
  · exact ⟨_, rfl, h⟩
  · cases h
theorem gF2_ok {f : D → D → Option EV} {ds : List D} {z : EV} (h : gF2 f ds = some z) : ∃ a b, ds = [a, b] ∧ f a b = some z := by
  unfold gF2 at h
  split at h
  · exact ⟨_, _, rfl, h⟩
  · cases h
/-- one argument -/
theorem callG1 {k : Kc} {r : List V → Hp → VK → Prop} {f : D → Option EV} (h : ∀ (c : Fr) (G H : Hp) (σ : L2.St) (e : Env) (v : V) (d : D) (z : EV) (Q : VK), RepS k c G σ H e → RB k G H v d → f d = some z →
    (∀ G' H' v, Same G G' → RepS k c G' σ H' e → RpV k c G' σ H' e v z → Q v H') → r [v] H Q) : CallG k r (gF1 f) := fun c G H σ e xs ds z Q re rb hz q => by
  obtain ⟨a, rfl, hz⟩ := gF1_ok hz
  obtain ⟨v, rfl, rb1⟩ := RBs.one' rb
  exact h c G H σ e v a z Q re rb1 hz q
theorem callG2 {k : Kc} {r : List V → Hp → VK → Prop} {f : D → D → Option EV} (h : ∀ (c : Fr) (G H : Hp) (σ : L2.St) (e : Env) (v v' : V) (d d' : D) (z : EV) (Q : VK), RepS k c G σ H e → RB k G H v d → RB k G H v' d' → f d d' = some z →
    (∀ G' H' v, Same G G' → RepS k c G' σ H' e → RpV k c G' σ H' e v z → Q v H') → r [v, v'] H Q) : CallG k r (gF2 f) := fun c G H σ e xs ds z Q re rb hz q => by
  obtain ⟨a, b, rfl, hz⟩ := gF2_ok hz
  obtain ⟨v, v', rfl, rb1, rb2⟩ := RBs.two' rb
  exact h c G H σ e v v' a b z Q re rb1 rb2 hz q

def fAbs : D → Option EV
  | .int i => some (.d (.int (if i < 0 then -i else i)))
  | _ => none
def fMax2 : D → D → Option EV
  | .int i, .int j => some (.d (.int (if j > i then j else i)))
  | _, _ => none
def fMin2 : D → D → Option EV
  | .int i, .int j => some (.d (.int (if j < i then j else i)))
  | _, _ => none
def fInt : D → Option EV
  | .int i => some (.d (.int i))
  | .bl b => some (.d (.int (if b then 1 else 0)))
  | _ => none
def fBool : D → Option EV
  | .int i => some (.d (.bl (i != 0)))
  | .bl b => some (.d (.bl b))
  | _ => none
def fLen : D → Option EV
  | .str x => if x.length ≤ LIM then some (.d (.int x.length)) else none
  | .lst xs => some (.d (.int xs.length))
  | .tup xs => some (.d (.int xs.length))
  | .scr xs => some (.d (.int xs.length))
  | .dic ks _ => some (.d (.int ks.length))
  | _ => none
def fSum (d : D) : Option EV := (intsOf d).map fun ns => .d (.int ns.sum)
def fAny (d : D) : Option EV := (blsOf d).map fun bs => .d (.bl (bs.any id))
def fAll (d : D) : Option EV := (blsOf d).map fun bs => .d (.bl (bs.all id))
def maxI : List Int → Int
  | [] => 0
  | n :: ns => ns.foldl max n
def minI : List Int → Int
  | [] => 0
  | n :: ns => ns.foldl min n
def fMax (d : D) : Option EV := match intsOf d with
  | some (n :: ns) => some (.d (.int (maxI (n :: ns))))
  | _ => none
def fMin (d : D) : Option EV := match intsOf d with
  | some (n :: ns) => some (.d (.int (minI (n :: ns))))
  | _ => none
def insI (x : Int) : List Int → List Int
  | [] => [x]
  | y :: ys => if x ≤ y then x :: y :: ys else y :: insI x ys
/-- by insertion: the kernel reckons it -/
def sortI : List Int → List Int
  | [] => []
  | x :: xs => insI x (sortI xs)
def fSorted (d : D) : Option EV := (intsOf d).map fun ns => .m (.lst ((sortI ns).map D.int))
def fList : D → Option EV
  | .lst xs => some (.m (.lst xs))
  | .tup xs => some (.m (.lst xs))
  | .scr ns => some (.m (.lst (ns.map D.int)))
  | _ => none
def fTuple : D → Option EV
  | .lst xs => some (.d (.tup xs))
  | .tup xs => some (.d (.tup xs))
  | .scr ns => some (.d (.tup (ns.map D.int)))
  | _ => none
def fDivmod : D → D → Option EV
  | .int i, .int j => if 0 < j ∧ j < 1073741824 then some (.d (.tup [.int (i / j), .int (i % j)])) else none
  | _, _ => none
theorem foldl_max : ∀ (ns : List Int) (n : Int), (ns.foldl max n ∈ n :: ns) ∧ ∀ y ∈ n :: ns, y ≤ ns.foldl max n
  | [], n => ⟨by simp, by simp⟩
  | m :: ns, n => by
    obtain ⟨h1, h2⟩ := foldl_max ns (max n m)
    rw [List.foldl_cons]
    refine ⟨?_, fun y hy => ?_⟩
    · rcases List.mem_cons.mp h1 with h | h
      · rw [h]
        by_cases q : n ≤ m
        · rw [Int.max_eq_right q]; simp
        · rw [Int.max_eq_left (by omega)]; simp
      · simp [h]
    · have h3 := h2 (max n m) (by simp)
      rcases List.mem_cons.mp hy with rfl | hy
      · exact Int.le_trans (Int.le_max_left _ _) h3
      · rcases List.mem_cons.mp hy with rfl | hy
        · exact Int.le_trans (Int.le_max_right _ _) h3
        · exact h2 y (by simp [hy])
theorem foldl_min : ∀ (ns : List Int) (n : Int), (ns.foldl min n ∈ n :: ns) ∧ ∀ y ∈ n :: ns, ns.foldl min n ≤ y
  | [], n => ⟨by simp, by simp⟩
  | m :: ns, n => by
    obtain ⟨h1, h2⟩ := foldl_min ns (min n m)
    rw [List.foldl_cons]
    refine ⟨?_, fun y hy => ?_⟩
    · rcases List.mem_cons.mp h1 with h | h
      · rw [h]
        by_cases q : n ≤ m
        · rw [Int.min_eq_left q]; simp
        · rw [Int.min_eq_right (by omega)]; simp
      · simp [h]
    · have h3 := h2 (min n m) (by simp)
      rcases List.mem_cons.mp hy with rfl | hy
      · exact Int.le_trans h3 (Int.min_le_left _ _)
      · rcases List.mem_cons.mp hy with rfl | hy
        · exact Int.le_trans h3 (Int.min_le_right _ _)
        · exact h2 y (by simp [hy])
theorem insI_perm (x : Int) : ∀ ys : List Int, (insI x ys).Perm (x :: ys)
  | [] => .refl _
  | y :: ys => by
    rw [insI]
    split
    · exact .refl _
    · exact ((insI_perm x ys).cons y).trans (.swap ..)
theorem sortI_perm : ∀ ns : List Int, (sortI ns).Perm ns
  | [] => .refl _
  | x :: xs => (insI_perm x _).trans ((sortI_perm xs).cons x)
theorem insI_sorted (x : Int) : ∀ ys : List Int, ys.Pairwise (· ≤ ·) → (insI x ys).Pairwise (· ≤ ·)
  | [], _ => by rw [insI]; exact List.pairwise_singleton _ _
  | y :: ys, h => by
    rw [insI]
    have h' := List.pairwise_cons.mp h
    split
    · rename_i hxy
      refine List.pairwise_cons.mpr ⟨fun z hz => ?_, h⟩
      rcases List.mem_cons.mp hz with rfl | hz
      · exact hxy
      · exact Int.le_trans hxy (h'.1 z hz)
    · rename_i hxy
      refine List.pairwise_cons.mpr ⟨fun z hz => ?_, insI_sorted x ys h'.2⟩
      rcases List.mem_cons.mp ((insI_perm x ys).mem_iff.mp hz) with rfl | hz
      · omega
      · exact h'.1 z hz
theorem sortI_sorted : ∀ ns : List Int, (sortI ns).Pairwise (· ≤ ·)
  | [] => .nil
  | x :: xs => insI_sorted x _ (sortI_sorted xs)
theorem sorted_eq : ∀ {as bs : List Int}, as.Perm bs → as.Pairwise (· ≤ ·) → bs.Pairwise (· ≤ ·) → as = bs := fun {as bs} h h1 h2 => h.eq_of_pairwise (fun a b _ _ hab hba => Int.le_antisymm hab hba) h1 h2
section
variable {X : Cx} {ct : Ct}
theorem g_abs : CallG ⟨X.K, ct⟩ (fun xs H Q => ∃ i, xs = [.int i] ∧ Q (.int (if i < 0 then -i else i)) H) (gF1 fAbs) := callG1 fun c G H σ e v d z Q re rb hz q => by
  cases d with
  | int i => cases hz; rw [rb.int]; exact ⟨i, rfl, q G H _ (Same.refl _) re (.int _)⟩
  | _ => cases hz
theorem g_max2 : CallG ⟨X.K, ct⟩ (fun xs H Q => ∃ i j, xs = [.int i, .int j] ∧ Q (.int (if j > i then j else i)) H) (gF2 fMax2) := callG2 fun c G H σ e v v' d d' z Q re rb rb' hz q => by
  cases d with
  | int i => cases d' with
    | int j => cases hz; rw [rb.int, rb'.int]; exact ⟨i, j, rfl, q G H _ (Same.refl _) re (.int _)⟩
    | _ => cases hz
  | _ => cases hz
theorem g_min2 : CallG ⟨X.K, ct⟩ (fun xs H Q => ∃ i j, xs = [.int i, .int j] ∧ Q (.int (if j < i then j else i)) H) (gF2 fMin2) := callG2 fun c G H σ e v v' d d' z Q re rb rb' hz q => by
  cases d with
  | int i => cases d' with
    | int j => cases hz; rw [rb.int, rb'.int]; exact ⟨i, j, rfl, q G H _ (Same.refl _) re (.int _)⟩
    | _ => cases hz
  | _ => cases hz
theorem g_int : CallG ⟨X.K, ct⟩ (fun xs H Q => (∃ i, xs = [.int i] ∧ Q (.int i) H) ∨ ∃ k, xs = [.bl k] ∧ Q (.int (if k then 1 else 0)) H) (gF1 fInt) := callG1 fun c G H σ e v d z Q re rb hz q => by
  cases d with
  | int i => cases hz; rw [rb.int]; exact .inl ⟨i, rfl, q G H _ (Same.refl _) re (.int _)⟩
  | bl i => cases hz; rw [rb.bl]; exact .inr ⟨i, rfl, q G H _ (Same.refl _) re (.int _)⟩
  | _ => cases hz
theorem g_bool : CallG ⟨X.K, ct⟩ (fun xs H Q => (∃ i, xs = [.int i] ∧ Q (.bl (i != 0)) H) ∨ ∃ k, xs = [.bl k] ∧ Q (.bl k) H) (gF1 fBool) := callG1 fun c G H σ e v d z Q re rb hz q => by
  cases d with
  | int i => cases hz; rw [rb.int]; exact .inl ⟨i, rfl, q G H _ (Same.refl _) re (.bl _)⟩
  | bl i => cases hz; rw [rb.bl]; exact .inr ⟨i, rfl, q G H _ (Same.refl _) re (.bl _)⟩
  | _ => cases hz
def rLen (K : PySem.W.Frag) : List V → Hp → VK → Prop := fun xs H Q => (∃ x n, xs = [x] ∧ LenV K x H n ∧ Q (.int n) H) ∨ ∃ a kvs, xs = [V.ref a] ∧ H a = some (.dK kvs) ∧ Q (.int kvs.length) H
theorem cr_len : CallR X (.builtin "len") (rLen X.K) := CallR.or call_len call_lenD
theorem g_len : CallG ⟨X.K, ct⟩ (rLen X.K) (gF1 fLen) := callG1 fun c G H σ e v d z Q re rb hz q => by
  cases d with
  | str x =>
    have hz : (if x.length ≤ LIM then some (EV.d (.int x.length)) else none) = some z := hz
    split at hz
    · rename_i hl
      cases hz
      rw [rb.str]
      exact .inl ⟨_, _, rfl, ⟨lim_le hl, rfl⟩, q G H _ (Same.refl _) re (.int _)⟩
    · cases hz
  | lst xs =>
    cases hz
    obtain ⟨a, vs, rfl, h1, r⟩ := rb.lst re.gh
    refine .inl ⟨_, vs.length, rfl, .inl ⟨vs, SqL.of h1, rfl⟩, q G H _ (Same.refl _) re ?_⟩
    rw [r.len]
    exact .int _
  | tup xs =>
    cases hz
    obtain ⟨a, vs, rfl, h1, r, _⟩ := rb.tup re.gh
    refine .inl ⟨_, vs.length, rfl, .inr ⟨vs, h1, rfl⟩, q G H _ (Same.refl _) re ?_⟩
    rw [r.len]
    exact .int _
  | scr ns =>
    cases hz
    obtain ⟨a, rfl, h1⟩ := rb.scr re.gh
    refine .inl ⟨_, _, rfl, .inl ⟨_, h1, rfl⟩, q G H _ (Same.refl _) re ?_⟩
    rw [List.length_map]
    exact .int _
  | dic ks ds =>
    cases hz
    obtain ⟨a, kvs, rfl, h1, h2, r⟩ := rb.dic re.gh
    refine .inr ⟨a, kvs, rfl, h1, q G H _ (Same.refl _) re ?_⟩
    rw [← h2, List.length_map]
    exact .int _
  | _ => cases hz
theorem g_sum : CallG ⟨X.K, ct⟩ (rSum X.K) (gF1 fSum) := callG1 fun c G H σ e v d z Q re rb hz q => by
  unfold fSum at hz
  cases h : intsOf d with
  | none => rw [h] at hz; cases hz
  | some ns =>
    rw [h] at hz; cases hz
    obtain ⟨a, rfl, h1⟩ := rb.ints re.gh h
    exact ⟨a, ns, rfl, h1, q G H _ (Same.refl _) re (.int _)⟩
theorem g_any : CallG ⟨X.K, ct⟩ (rAny X.K) (gF1 fAny) := callG1 fun c G H σ e v d z Q re rb hz q => by
  unfold fAny at hz
  cases h : blsOf d with
  | none => rw [h] at hz; cases hz
  | some ns =>
    rw [h] at hz; cases hz
    obtain ⟨a, rfl, h1⟩ := rb.bls re.gh h
    exact ⟨a, ns, rfl, h1, q G H _ (Same.refl _) re (.bl _)⟩
theorem g_all : CallG ⟨X.K, ct⟩ (rAll X.K) (gF1 fAll) := callG1 fun c G H σ e v d z Q re rb hz q => by
  unfold fAll at hz
  cases h : blsOf d with
  | none => rw [h] at hz; cases hz
  | some ns =>
    rw [h] at hz; cases hz
    obtain ⟨a, rfl, h1⟩ := rb.bls re.gh h
    exact ⟨a, ns, rfl, h1, q G H _ (Same.refl _) re (.bl _)⟩
theorem g_max : CallG ⟨X.K, ct⟩ (rMax X.K) (gF1 fMax) := callG1 fun c G H σ e v d z Q re rb hz q => by
  unfold fMax at hz
  split at hz
  · rename_i n ns h
    cases hz
    obtain ⟨a, rfl, h1⟩ := rb.ints re.gh h
    obtain ⟨m1, m2⟩ := foldl_max ns n
    refine ⟨a, n :: ns, rfl, h1, by simp, fun m hm hy => ?_⟩
    have : m = maxI (n :: ns) := Int.le_antisymm (m2 m hm) (hy _ m1)
    rw [this]
    exact q G H _ (Same.refl _) re (.int _)
  · cases hz
theorem g_min : CallG ⟨X.K, ct⟩ (rMin X.K) (gF1 fMin) := callG1 fun c G H σ e v d z Q re rb hz q => by
  unfold fMin at hz
  split at hz
  · rename_i n ns h
    cases hz
    obtain ⟨a, rfl, h1⟩ := rb.ints re.gh h
    obtain ⟨m1, m2⟩ := foldl_min ns n
    refine ⟨a, n :: ns, rfl, h1, by simp, fun m hm hy => ?_⟩
    have : m = minI (n :: ns) := Int.le_antisymm (hy _ m1) (m2 m hm)
    rw [this]
    exact q G H _ (Same.refl _) re (.int _)
  · cases hz
theorem Rps.ofInts {k : Kc} {G : Hp} : ∀ ns : List Int, Rps k G (ns.map V.int) (ns.map D.int)
  | [] => .nil
  | n :: ns => .cons (.int n) (Rps.ofInts ns)
theorem g_sorted : CallG ⟨X.K, ct⟩ (rSortedI X.K) (gF1 fSorted) := callG1 fun c G H σ e v d z Q re rb hz q => by
  unfold fSorted at hz
  cases h : intsOf d with
  | none => rw [h] at hz; cases hz
  | some ns =>
    rw [h] at hz; cases hz
    obtain ⟨a, rfl, h1⟩ := rb.ints re.gh h
    refine ⟨a, ns, rfl, h1, fun ns' p hp hs hf => ?_⟩
    have : ns' = sortI ns := sorted_eq (hp.trans (sortI_perm ns).symm) hs (sortI_sorted ns)
    subst this
    obtain ⟨r1, r2, r3⟩ := re.newM (x := .lst ((sortI ns).map D.int)) hf ⟨_, rfl, Rps.ofInts _⟩
    exact q G _ _ (Same.refl _) r1 ⟨p, rfl, r2, r3⟩
theorem g_list : CallG ⟨X.K, ct⟩ (fun xs H Q => ∃ p ys, xs = [.ref p] ∧ (SqL X.K H p ys ∨ SqT X.K H p ys) ∧ ∀ l, H l = none → Q (.ref l) (upd H l (.lst ys))) (gF1 fList) := callG1 fun c G H σ e v d z Q re rb hz q => by
  have fin : ∀ {vs : List V} {ds : List D}, Rps ⟨X.K, ct⟩ G vs ds → z = .m (.lst ds) → ∀ l, H l = none → Q (.ref l) (upd H l (.lst vs)) := fun {vs ds} r ez l hl => by
    subst ez
    obtain ⟨r1, r2, r3⟩ := re.newM (x := .lst ds) hl ⟨_, rfl, r⟩
    exact q G _ _ (Same.refl _) r1 ⟨l, rfl, r2, r3⟩
  cases d with
  | lst xs =>
    cases hz
    obtain ⟨a, vs, rfl, h1, r⟩ := rb.lst re.gh
    exact ⟨a, vs, rfl, .inl (SqL.of h1), fin r rfl⟩
  | tup xs =>
    cases hz
    obtain ⟨a, vs, rfl, h1, r, _⟩ := rb.tup re.gh
    exact ⟨a, vs, rfl, .inr h1, fin r rfl⟩
  | scr ns =>
    cases hz
    obtain ⟨a, rfl, h1⟩ := rb.scr re.gh
    exact ⟨a, _, rfl, .inl h1, fin (Rps.ofInts _) rfl⟩
  | _ => cases hz
theorem g_tuple : CallG ⟨X.K, ct⟩ (fun xs H Q => ∃ p ys, xs = [.ref p] ∧ ((SqL X.K H p ys ∧ ∀ l, H l = none → Q (.ref l) (upd H l (.tup ys))) ∨ (SqT X.K H p ys ∧ Q (.ref p) H))) (gF1 fTuple) := callG1 fun c G H σ e v d z Q re rb hz q => by
  have fin : ∀ {vs : List V} {ds : List D}, Rps ⟨X.K, ct⟩ G vs ds → z = .d (.tup ds) → ∀ l, H l = none → Q (.ref l) (upd H l (.tup vs)) := fun {vs ds} r ez l hl => by
    subst ez
    exact fin_tup re r (fun G' H' v s' r' hv => q G' H' v s' r' hv) l hl
  cases d with
  | lst xs =>
    cases hz
    obtain ⟨a, vs, rfl, h1, r⟩ := rb.lst re.gh
    exact ⟨a, vs, rfl, .inl ⟨SqL.of h1, fin r rfl⟩⟩
  | tup xs =>
    cases hz
    obtain ⟨a, vs, rfl, h1, r, h2⟩ := rb.tup re.gh
    exact ⟨a, vs, rfl, .inr ⟨h1, q G H _ (Same.refl _) re (.tup h2 r)⟩⟩
  | scr ns =>
    cases hz
    obtain ⟨a, rfl, h1⟩ := rb.scr re.gh
    exact ⟨a, _, rfl, .inl ⟨h1, fin (Rps.ofInts _) rfl⟩⟩
  | _ => cases hz
theorem g_divmod : CallG ⟨X.K, ct⟩ (fun xs H Q => ∃ i j, xs = [.int i, .int j] ∧ CDiv i j ∧ ∀ p, H p = none → Q (.ref p) (upd H p (.tup [.int (i / j), .int (i % j)]))) (gF2 fDivmod) := callG2 fun c G H σ e v v' d d' z Q re rb rb' hz q => by
  cases d with
  | int i => cases d' with
    | int j =>
      have hz : (if 0 < j ∧ j < 1073741824 then some (EV.d (.tup [.int (i / j), .int (i % j)])) else none) = some z := hz
      split at hz
      · rename_i hc
        cases hz
        rw [rb.int, rb'.int]
        refine ⟨i, j, rfl, hc, fun p hp => ?_⟩
        exact fin_tup (ds := [.int (i / j), .int (i % j)]) re (.cons (.int _) (.cons (.int _) .nil)) (fun G' H' v s' r' hv => q G' H' v s' r' hv) p hp
      · cases hz
    | _ => cases hz
  | _ => cases hz
end
end MM
end
section
set_option Elab.async false
set_option linter.all false
set_option autoImplicit false
set_option maxRecDepth 100000
set_option maxHeartbeats 4000000
namespace MM
open PySem PySem.Spec L2

/-! ### isinstance -/
/-- kinds of data -/
inductive TyK where
  | non | bl | int | str | lst | tup | dic | obj (c : Nat)
  deriving DecidableEq
def tyD (ncl : Nat) : D → Option MM.TyK
  | .non => some .non
  | .bl _ => some .bl
  | .int _ => some .int
  | .str _ => some .str
  | .lst _ => some .lst
  | .tup _ => some .tup
  | .dic _ _ => some .dic
  | .obj c _ => if c < ncl then some (.obj c) else none
  | .scr _ => none
  | .rng _ _ => none
  | .thk _ => none
  | .lam _ => none
def tyS : MM.TyK → String
  | .non => "NoneType" | .bl => "bool" | .int => "int" | .str => "str" | .lst => "list" | .tup => "tuple" | .dic => "dict" | .obj _ => ""
def tyV' (ct : Ct) : MM.TyK → Value
  | .obj c => .ref (ct c)
  | t => .type (tyS t)
/-- is a thing of this kind an int, a bool .. -/
def isB (T : String) : MM.TyK → Bool
  | .obj _ => false
  | .bl => T == "bool" || T == "int"
  | t => tyS t == T
def isO (c : Nat) : MM.TyK → Bool
  | .obj c' => c' == c
  | _ => false
/-- what the model asks of an own class whose instances are looked at -/
structure ObjC (K : PySem.W.Frag) (C : Addr) : Prop where
  cls : Cls K C
  ha : PySem.W.findIn K (.ref C) "__class__" = some (some (.builtin "object.__class__"))
  hn : PySem.W.specialIn K (.builtin "object.__class__") "__get__" = some (some (.builtin "getset_descriptor.__get__"))
  htk : PySem.W.takesIn K (.builtin "object.__class__") = some true
  hm : PySem.W.mroIn K C (.type "object") = some true
theorem RB.ty {k : Kc} {G H : Hp} {v : V} {d : D} {ncl : Nat} {t : MM.TyK} (hO : ∀ c, c < ncl → ObjC k.K (k.ct c)) (g : Same G H) (h : RB k G H v d) (ht : tyD ncl d = some t) : TyX k.K H v (tyV' k.ct t) := by
  cases d with
  | non => cases ht; rw [h.non]; exact .base .non
  | bl b => cases ht; rw [h.bl]; exact .base (.bl b)
  | int b => cases ht; rw [h.int]; exact .base (.int b)
  | str b => cases ht; rw [h.str]; exact .base (.str b)
  | lst xs => cases ht; obtain ⟨a, vs, rfl, h1, _⟩ := h.lst g; exact .base (.lst h1)
  | tup xs =>
    cases ht
    obtain ⟨a, vs, rfl, h1, _⟩ := h.tup g
    rcases h1 with (h1 | ⟨o, h1⟩) | ⟨o, its, n, h1, h2, _⟩
    · exact .base (.tup h1)
    · exact .fTuple h1
    · exact .kTuple h1 h2
  | dic ks ds => cases ht; obtain ⟨a, kvs, rfl, h1, _⟩ := h.dic g; exact .base (.dK h1)
  | obj c ds =>
    have ht : (if c < ncl then some (MM.TyK.obj c) else none) = some t := ht
    split at ht
    · rename_i hc
      cases ht
      obtain ⟨a, dx, fs, rfl, h1, _⟩ := h.obj g
      have o := hO c hc
      exact .base (.ins h1 o.cls o.ha o.hn o.htk o.hm)
    · cases ht
  | scr ns => cases ht
  | rng _ _ => cases ht
  | thk _ => cases ht
  | lam _ => cases ht
def cIsi (ncl : Nat) (f : MM.TyK → Bool) (fa : EM Tk) : EM D := fun e => (fa e).bind fun t e1 => match (rdK e1 t).bind (tyD ncl) with
  | some ty => .ok (.bl (f ty)) e1
  | none => .stuck
theorem RB.up {k : Kc} {G H H' : Hp} {v : V} {d : D} (h : RB k G H v d) (s : Same H H') : RB k G H' v d := by
  rcases h with h | ⟨a, o, x, e1, h1, h2, h3⟩
  · exact .inl h
  · exact .inr ⟨a, o, x, e1, s a o h1, h2, h3⟩
section
variable {X : Cx} {ct : Ct} {W : WX} {p pos : Pos} {a ce : Expr} {es : List Expr} {fa : EM Tk} {ncl : Nat} {f : MM.TyK → Bool} {cv : V} {cvs : List V} {u : Value} {us : List Value} {n : Nat} {tpos : Pos}
theorem e_isi (hO : ∀ c, c < ncl → ObjC X.K (ct c)) (hg : Gl X "isinstance") (hm : X.mg "isinstance" = none) (hc : PE X ce (tC cv)) (hcv : ClsV cv u) (hK : ∀ d t, tyD ncl d = some t → PySem.W.kitOne X.K (tyV' ct t) u = some (f t)) (ha : SK X ct W a fa)
    (he : starEach [a, ce] X.env = (false, eval a X.env) :: starEach [ce] X.env := by rfl) (he2 : starEach [ce] X.env = (false, eval ce X.env) :: starEach [] X.env := by rfl) (hpl : (backTo pos (starEach [ce] X.env)).any (·.1) = false := by rfl) :
    SE X ct W (.Call (.Name "isinstance" p) [a, ce] [] pos) (cIsi ncl f fa) := by
  refine PEw (pe_callB call_isi hg hm (by decide +kernel) (pa_cons ha (pa_cons hc pa_nil he2) he) (by decide) (by decide) he hpl) fun σ H Q q => ?_
  obtain ⟨c, G, e, r, p⟩ := q
  refine ⟨c, G, e, r, (Post.bind p).imp fun G1 H1 e1 t s1 r1 p1 v hv => ?_⟩
  split at p1
  · rename_i ty hty
    obtain ⟨d, hd, ht⟩ := Option.bind_eq_some_iff.mp hty
    have rb : RB ⟨X.K, ct⟩ G1 H1 v d := .of r1 hv hd
    exact ⟨v, cv, tyV' ct ty, u, f ty, rfl, hcv, rb.ty hO r1.gh ht, hK d ty ht, p1.now r1 _ (.bl _)⟩
  · exact p1.elim
theorem e_isiT (hO : ∀ c, c < ncl → ObjC X.K (ct c)) (hg : Gl X "isinstance") (hm : X.mg "isinstance" = none) (hcs : PA X es (fun _ H Q => Q cvs H)) (hl : cvs.length ≤ 1000) (hcv : Paired ClsV cvs us) (hK : ∀ d t, tyD ncl d = some t → PySem.W.kitAny X.K (tyV' ct t) us = some (f t)) (ha : SK X ct W a fa)
    (he : starEach [a, .Tuple es n tpos] X.env = (false, eval a X.env) :: starEach [.Tuple es n tpos] X.env := by rfl) (he2 : starEach [.Tuple es n tpos] X.env = (false, eval (.Tuple es n tpos) X.env) :: starEach [] X.env := by rfl) (hpl : (backTo pos (starEach [.Tuple es n tpos] X.env)).any (·.1) = false := by rfl) :
    SE X ct W (.Call (.Name "isinstance" p) [a, .Tuple es n tpos] [] pos) (cIsi ncl f fa) := by
  refine PEw (pe_callB call_isiT hg hm (by decide +kernel) (pa_cons ha (pa_cons (pe_tup hcs) pa_nil he2) he) (by decide) (by decide) he hpl) fun σ H Q q => ?_
  obtain ⟨c, G, e, r, p⟩ := q
  refine ⟨c, G, e, r, (Post.bind p).imp fun G1 H1 e1 t s1 r1 p1 v hv => ?_⟩
  split at p1
  · rename_i ty hty
    obtain ⟨d, hd, ht⟩ := Option.bind_eq_some_iff.mp hty
    have rb : RB ⟨X.K, ct⟩ G1 H1 v d := .of r1 hv hd
    refine ⟨by rw [sizeLine_eq]; omega, fun tp htp => ?_⟩
    have r2 := r1.layM (o := .tup cvs) htp
    exact ⟨v, tp, cvs, tyV' ct ty, us, f ty, rfl, upd_same, hcv, (rb.up (same_upd htp)).ty hO r2.gh ht, hK d ty ht, p1.now r2 _ (.bl _)⟩
  · exact p1.elim
end

/-! ### list(range(..)) -/
def lrOk (j : Int) : Bool := rngOk j && decide (j.toNat ≤ 16777216)
def lrOk2 (i j : Int) : Bool := rngOk i && (rngOk j && decide ((j - i).toNat ≤ 16777216))
theorem lrOk_iff {j : Int} (h : lrOk j = true) : -(2 ^ 62) ≤ j ∧ j ≤ 2 ^ 24 := by
  obtain ⟨h1, h2⟩ := Bool.and_eq_true_iff.mp h
  have := rngOk_iff h1
  have := of_decide_eq_true h2
  constructor <;> omega
def vLstR (f : EM (List Tk)) : EM EV := fun e => (f e).bind fun ts e1 => match rdKs e1 ts with
  | some [.int j] => if lrOk j = true then .ok (.m (.lst (rangeD 0 j.toNat))) e1 else .stuck
  | some [.int i, .int j] => if lrOk2 i j = true then .ok (.m (.lst (rangeD i (j - i).toNat))) e1 else .stuck
  | _ => .stuck
theorem rgV_rps {k : Kc} {G : Hp} (i j : Int) : Rps k G (rgV i j) (rangeD i (j - i).toNat) := by
  unfold rgV rangeD
  induction List.range (j - i).toNat with
  | nil => exact .nil
  | cons n ns ih => exact .cons (.int _) ih
section
variable {X : Cx} {ct : Ct} {W : WX} {p p2 pos pos2 : Pos} {a b : Expr} {fa fb : EM Tk}
theorem v_listR1 (hc : X.calm = true) (hg : Gl X "list") (hm : X.mg "list" = none) (hg2 : Gl X "range") (hm2 : X.mg "range" = none) (ha : SK X ct W a fa) (na : starEach [a] X.env = (false, eval a X.env) :: starEach [] X.env := by rfl)
    (na2 : starEach [.Call (.Name "range" p2) [a] [] pos2] X.env = (false, eval (.Call (.Name "range" p2) [a] [] pos2) X.env) :: starEach [] X.env := by rfl) :
    SV X ct W (.Call (.Name "list" p) [.Call (.Name "range" p2) [a] [] pos2] [] pos) (vLstR (aCons fa aNil)) := by
  refine PEw (pe_listRg hc hg hm (prg_1 hg2 hm2 ha na) na2) fun σ H Q q => ?_
  obtain ⟨c, G, e, r, p⟩ := q
  have p : Post ⟨X.K, ct⟩ W c G σ (fun G' H' e' x => ∀ v, RpV ⟨X.K, ct⟩ c G' σ H' e' v x → Q v H') (((fa e).bind fun t e1 => .ok [t] e1).bind fun ts e1 => match rdKs e1 ts with
    | some [.int j] => if lrOk j = true then .ok (.m (.lst (rangeD 0 j.toNat))) e1 else .stuck
    | some [.int i, .int j] => if lrOk2 i j = true then .ok (.m (.lst (rangeD i (j - i).toNat))) e1 else .stuck
    | _ => .stuck) := p
  refine ⟨c, G, e, r, (Post.bind (Post.bind p)).imp fun G1 H1 e1 t s1 r1 p1 v hv => ?_⟩
  have p1 := p1.now r1
  cases hd : rdK e1 t with
  | none =>
    have hz : rdKs e1 [t] = none := by show (match rdK e1 t, rdKs e1 [] with | some d, some ds => some (d :: ds) | _, _ => none) = none; rw [hd]
    rw [hz] at p1; exact p1.elim
  | some d =>
    have hz : rdKs e1 [t] = some [d] := by show (match rdK e1 t, rdKs e1 [] with | some d, some ds => some (d :: ds) | _, _ => none) = some [d]; rw [hd]; rfl
    rw [hz] at p1
    have rb : RB ⟨X.K, ct⟩ G1 H1 v d := .of r1 hv hd
    cases d with
    | int j =>
      have p2 : Post ⟨X.K, ct⟩ W c G1 σ (fun G' H' e' x => ∀ v, RpV ⟨X.K, ct⟩ c G' σ H' e' v x → Q v H') (if lrOk j = true then .ok (.m (.lst (rangeD 0 j.toNat))) e1 else .stuck) := p1
      split at p2
      · rename_i hj
        have hj := lrOk_iff hj
        rw [rb.int]
        refine ⟨j, rfl, ⟨by omega, by omega, by omega, by omega, by omega⟩, fun q hq => ?_⟩
        have hr := rgV_rps (k := ⟨X.K, ct⟩) (G := G1) 0 j
        rw [Int.sub_zero] at hr
        obtain ⟨r2, r3, r4⟩ := r1.newM (x := .lst (rangeD 0 j.toNat)) hq ⟨_, rfl, hr⟩
        exact p2 G1 _ (Same.refl _) r2 _ ⟨q, rfl, r3, r4⟩
      · exact p2.elim
    | _ => exact p1.elim
end

/-! ### dicts -/
def D.key : D → Option Key
  | .int i => some (.inl i)
  | .str x => some (.inr x)
  | _ => none
def valD : List Key → List D → Key → Option D
  | k :: ks, d :: ds, j => if k = j then some d else valD ks ds j
  | _, _, _ => none
def gIxA : D → D → Option D
  | .dic ks ds, y => (D.key y).bind (valD ks ds)
  | x, y => gIx x y
theorem valD_ok {k : Kc} {G : Hp} {j : Key} {d : D} : ∀ {kvs : List (Key × V)} {ds : List D}, Rps k G (kvs.map (·.2)) ds → valD (kvs.map (·.1)) ds j = some d → ∃ v, valV kvs j = some v ∧ Rp k G v d
  | [], _, .nil, h => by cases h
  | (q, w) :: kvs, _, .cons a b, h => by
    rename_i d' ds
    have h' : (if q = j then some d' else valD (kvs.map (·.1)) ds j) = some d := h
    by_cases e : q = j
    · rw [if_pos e] at h'; cases h'
      exact ⟨w, valV_pos e, a⟩
    · rw [if_neg e] at h'
      obtain ⟨v, h1, h2⟩ := valD_ok b h'
      exact ⟨v, by rw [valV_neg e]; exact h1, h2⟩
theorem RB.key {k : Kc} {G H : Hp} {v : V} {d : D} {j : Key} (h : RB k G H v d) (e : d.key = some j) : v = kV j := by
  cases d with
  | int i => cases e; exact h.int
  | str i => cases e; exact h.str
  | _ => cases e
def rIxD : R2 := fun x y H Q => ∃ a v, x = .ref a ∧ DGet H a y (some v) ∧ Q v H
theorem ix_dict {X : Cx} (hu : X.A.units + 1 < cLine) : IxR X rIxD := by
  intro value slice pins s σ H x y v u Q I rx ry h hs
  obtain ⟨a, w, rfl, g, q⟩ := h
  obtain rfl : v = Value.ref a := rx
  have hT := dict_typeIs I g
  unfold PyProof.Rows.subscriptTail
  refine wpAny_bind ?_
  rw [getitemInPython_of_ne hT.not_modules]
  refine wpAny_bind (wpAny_specialOf hT PySem.F.slot_dict_getitem.lookup ?_)
  have fin : wpAny (model X.prog X.w) X.A (subscripted slice false (.ref a) u) (fun r s₃ => wpAny (model X.prog X.w) X.A (letTemporaryGo value (.ref a) r >>= fun _ => pure r) (EP X pins σ Q) X.xe s₃) X.xe s := by
    rw [hs]
    refine wpAny_operating (d_getItem hu I g ry fun w' s3 I3 rw' => wpAny_bind (wpAny_letTemporaryGo (wpAny_pure ⟨w, H, I3, rw', q⟩)))
  first
    | exact wpAny_pure (wpAny_bind fin)
    | exact wpAny_bind (wpAny_pure (wpAny_bind fin))
    | exact wpAny_bind fin
section
variable {X : Cx} {ct : Ct} {W : WX} {pos : Pos} {a b : Expr} {fa fb : EM Tk}
theorem e_ixA (hu : X.A.units + 1 < cLine) (ha : SK X ct W a fa) (hb : SK X ct W b fb) (hs : PlainIx b := by exact fun _ _ => rfl) : SE X ct W (.Subscript a b pos) (cBin gIxA fa fb) := PEw (pe_ix (ix_seq.or (ix_dict hu)) ha hb hs) fun σ H Q q => by
  obtain ⟨c0, G, e, r, p⟩ := q
  refine two_d r p fun G2 H2 e2 x y d d' z s r2 hx hy hz q2 => ?_
  unfold gIxA at hz
  split at hz
  · rename_i ks ds
    obtain ⟨j, hj, hv⟩ := Option.bind_eq_some_iff.mp hz
    obtain ⟨p1, kvs, rfl, h1, h2, r1⟩ := hx.dic r2.gh
    subst h2
    obtain ⟨v, h3, h4⟩ := valD_ok r1 hv
    rw [hy.key hj]
    exact .inr ⟨p1, v, rfl, by rw [← h3]; exact DGet.k h1, q2 v h4⟩
  · refine .inl ?_
    unfold gIx at hz
    split at hz
    · obtain ⟨p1, vs, rfl, h1, r1⟩ := hx.lst r2.gh
      rw [hy.int]
      obtain ⟨v, h3, h4⟩ := r1.atI hz
      exact .inl ⟨_, _, _, v, rfl, rfl, SqL.of h1, h3, q2 v h4⟩
    · obtain ⟨p1, vs, rfl, h1, r1, _⟩ := hx.tup r2.gh
      rw [hy.int]
      obtain ⟨v, h3, h4⟩ := r1.atI hz
      exact .inr (.inl ⟨_, _, _, v, rfl, rfl, h1, h3, q2 v h4⟩)
    · rename_i ns i
      obtain ⟨p1, rfl, h1⟩ := hx.scr r2.gh
      rw [hy.int]
      obtain ⟨n, h3, h4⟩ := Option.map_eq_some_iff.mp hz
      subst h4
      exact .inl ⟨_, _, _, .int n, rfl, rfl, h1, by rw [atI_map, h3]; rfl, q2 _ (.int n)⟩
    · cases hz
end
/-- dict(xs), a list of pairs -/
def putKD (k : Key) (d : D) (l : List (Key × D)) : List (Key × D) :=
  if (l.any fun kv => decide (kv.1 = k)) = true then l.map (fun kv => if kv.1 = k then (kv.1, d) else kv) else l ++ [(k, d)]
def pairsD : List D → Option (List (Key × D))
  | [] => some []
  | .tup [k, v] :: xs => (D.key k).bind fun k => (pairsD xs).map ((k, v) :: ·)
  | _ :: _ => none
def mergeD (acc : List (Key × D)) (l : List (Key × D)) : List (Key × D) := l.foldl (fun acc kv => putKD kv.1 kv.2 acc) acc
def fDict : D → Option EV
  | .lst xs => (pairsD xs).map fun l => .m (.dic ((mergeD [] l).map (·.1)) ((mergeD [] l).map (·.2)))
  | _ => none
def RelKD (k : Kc) (G : Hp) : List (Key × V) → List (Key × D) → Prop
  | [], [] => True
  | (a, v) :: l, (b, d) :: m => a = b ∧ Rp k G v d ∧ RelKD k G l m
  | _, _ => False
section
variable {k : Kc} {G : Hp}
theorem RelKD.fst : ∀ {l : List (Key × V)} {m : List (Key × D)}, RelKD k G l m → l.map (·.1) = m.map (·.1) ∧ Rps k G (l.map (·.2)) (m.map (·.2))
  | [], [], _ => ⟨rfl, .nil⟩
  | (a, v) :: l, (b, d) :: m, ⟨h1, h2, h3⟩ => by
    obtain ⟨i1, i2⟩ := RelKD.fst h3
    exact ⟨by rw [List.map_cons, List.map_cons, i1, h1], .cons h2 i2⟩
  | [], _ :: _, h => h.elim
  | _ :: _, [], h => h.elim
theorem RelKD.any {j : Key} : ∀ {l : List (Key × V)} {m : List (Key × D)}, RelKD k G l m → (l.any fun kv => decide (kv.1 = j)) = (m.any fun kv => decide (kv.1 = j))
  | [], [], _ => rfl
  | (a, v) :: l, (b, d) :: m, ⟨h1, h2, h3⟩ => by rw [List.any_cons, List.any_cons, RelKD.any h3, h1]
  | [], _ :: _, h => h.elim
  | _ :: _, [], h => h.elim
theorem RelKD.map {j : Key} {v : V} {d : D} (hv : Rp k G v d) : ∀ {l : List (Key × V)} {m : List (Key × D)}, RelKD k G l m → RelKD k G (l.map (fun kv => if kv.1 = j then (kv.1, v) else kv)) (m.map (fun kv => if kv.1 = j then (kv.1, d) else kv))
  | [], [], _ => trivial
  | (a, w) :: l, (b, e) :: m, ⟨h1, h2, h3⟩ => by
    have ih := RelKD.map (j := j) hv h3
    subst h1
    by_cases q : a = j
    · rw [List.map_cons, List.map_cons, if_pos (by exact q), if_pos (by exact q)]
      exact ⟨rfl, hv, ih⟩
    · rw [List.map_cons, List.map_cons, if_neg (by exact q), if_neg (by exact q)]
      exact ⟨rfl, h2, ih⟩
  | [], _ :: _, h => h.elim
  | _ :: _, [], h => h.elim
theorem RelKD.app : ∀ {l l' : List (Key × V)} {m m' : List (Key × D)}, RelKD k G l m → RelKD k G l' m' → RelKD k G (l ++ l') (m ++ m')
  | [], _, [], _, _, h => h
  | (a, w) :: l, _, (b, e) :: m, _, ⟨h1, h2, h3⟩, h => ⟨h1, h2, RelKD.app h3 h⟩
  | [], _, _ :: _, _, h, _ => h.elim
  | _ :: _, _, [], _, h, _ => h.elim
theorem RelKD.put {j : Key} {v : V} {d : D} (hv : Rp k G v d) {l : List (Key × V)} {m : List (Key × D)} (h : RelKD k G l m) : RelKD k G (putK l j v) (putKD j d m) := by
  unfold putK putKD
  rw [h.any]
  split
  · exact h.map hv
  · exact h.app ⟨rfl, hv, trivial⟩
theorem RelKD.merge : ∀ {l l' : List (Key × V)} {m m' : List (Key × D)}, RelKD k G l m → RelKD k G l' m' → RelKD k G (mergeK l l') (mergeD m m')
  | _, [], _, [], h, _ => h
  | l, (a, v) :: l', m, (b, d) :: m', h, ⟨h1, h2, h3⟩ => by
    subst h1
    exact RelKD.merge (l := putK l a v) (m := putKD a d m) (RelKD.put h2 h) h3
  | _, [], _, _ :: _, _, h => h.elim
  | _, _ :: _, _, [], _, h => h.elim
theorem pairs_ok {K : PySem.W.Frag} {ct : Ct} {G H : Hp} (g : Same G H) : ∀ {vs : List V} {xs : List D} {l : List (Key × D)}, Rps ⟨K, ct⟩ G vs xs → pairsD xs = some l →
    ∃ (ps : List Addr) (kvs : List (Key × V)), vs = ps.map V.ref ∧ Paired (fun p kv => SqT K H p [kV kv.1, kv.2]) ps kvs ∧ RelKD ⟨K, ct⟩ G kvs l
  | _, [], l, .nil, h => by cases h; exact ⟨[], [], rfl, .nil, trivial⟩
  | _, x :: xs, l, .cons a b, h => by
    unfold pairsD at h
    split at h
    · rename_i heq
      cases heq
    · rename_i kd vd xs' heq
      cases heq
      obtain ⟨j, hj, h2⟩ := Option.bind_eq_some_iff.mp h
      obtain ⟨l', hl', rfl⟩ := Option.map_eq_some_iff.mp h2
      obtain ⟨ps, kvs, rfl, h3, h4⟩ := pairs_ok g b hl'
      cases a with
      | tup h5 h6 =>
        rename_i ad ws
        cases h6 with
        | cons a1 a2 => cases a2 with
          | cons a3 a4 =>
            cases a4
            rename_i w1 w2
            have : w1 = kV j := RB.key (k := ⟨K, ct⟩) (G := G) (H := H) (.inl a1) hj
            subst this
            exact ⟨ad :: ps, (j, w2) :: kvs, rfl, .cons (seqT g h5) h3, rfl, a3, h4⟩
    · cases h
end
theorem g_dict {X : Cx} {ct : Ct} : CallG ⟨X.K, ct⟩ (fun xs H Q => ∃ (a : Addr) (ps : List Addr) (kvs : List (Key × V)), xs = [.ref a] ∧ SqL X.K H a (ps.map V.ref) ∧ Paired (fun p kv => SqT X.K H p [kV kv.1, kv.2]) ps kvs ∧
    ∀ p, H p = none → Q (.ref p) (upd H p (.dK (mergeK [] kvs)))) (gF1 fDict) := callG1 fun c G H σ e v d z Q re rb hz q => by
  cases d with
  | lst xs =>
    obtain ⟨l, hl, rfl⟩ := Option.map_eq_some_iff.mp (show (pairsD xs).map _ = some z from hz)
    obtain ⟨a, vs, rfl, h1, r⟩ := rb.lst re.gh
    obtain ⟨ps, kvs, rfl, h3, h4⟩ := pairs_ok re.gh r hl
    refine ⟨a, ps, kvs, rfl, SqL.of h1, h3, fun p hp => ?_⟩
    obtain ⟨m1, m2⟩ := (RelKD.merge (k := ⟨X.K, ct⟩) (G := G) (l := []) (m := []) trivial h4).fst
    obtain ⟨r1, r2, r3⟩ := re.newM (x := .dic ((mergeD [] l).map (·.1)) ((mergeD [] l).map (·.2))) hp ⟨_, rfl, m1, m2⟩
    exact q G _ _ (Same.refl _) r1 ⟨p, rfl, r2, r3⟩
  | _ => cases hz
end MM
end
section
set_option Elab.async false
set_option linter.all false
set_option autoImplicit false
set_option maxRecDepth 100000
set_option maxHeartbeats 4000000
namespace MM
open PySem PySem.Spec L2

/-! ### == and != of things of an own class with its own __eq__ -/
/-- the class at C has the def at f as its own __eq__, and no __ne__; it stands right below object -/
def eqOwn (K : PySem.W.Frag) (C f : Addr) : Bool := (match K.lookup C with
  | some ⟨.type "type", _, .cls cd, sl⟩ => (match cd.mro, sl.toList with
    | [.ref C', .type "object"], [_, _, _, _, some (.builtin n), _] => C' == C && n == "object.__new__" && !cd.hasDel && PySem.W.nsOkIn K cd.ns && PySem.W.nsIn K cd.ns "__ne__" == some none && PySem.W.nsIn K cd.ns "__eq__" == some (some (.ref f))
    | _, _ => false)
  | _ => false) && (match K.lookup f with
  | some o => o.cls == .type "function"
  | none => false)
theorem ns_some {K : PySem.W.Frag} {h : Heap} {N : Addr} {mg : Str → Option Value} {n : Str} {v : Value} (X : K.In h) (G : h.Ns N mg) (e : PySem.W.nsIn K N n = some (some v)) : mg n = some v := by
  obtain ⟨o, es, ep, ho, hd, _, hf⟩ := G
  unfold PySem.W.nsIn at e
  split at e
  · rename_i c d es' n' sl q
    have := X _ _ q
    rw [ho] at this
    cases this
    cases hd
    split at e
    · rename_i en he
      have he2 : some en.val = some v := Option.some.inj e
      rw [← hf, ← he2]
      unfold nsFind findBy
      rw [← Array.find?_toList, he]
      rfl
    · exact absurd e (by simp)
  · cases e
theorem eqOwn_ok {K : PySem.W.Frag} {h : Heap} {C f x : Addr} {o : Obj} (X : K.In h) (q : eqOwn K C f = true) (hx : h.get? x = some o) (hc : o.cls = .ref C) : h.OwnEqNoNe x C f "object" [.type "object"] := by
  unfold eqOwn at q
  obtain ⟨q1, q2⟩ := Bool.and_eq_true_iff.mp q
  split at q1
  · rename_i dd cd sl ho
    split at q1
    · rename_i C' k0 k1 k2 k3 n k5 hm hs
      simp only [Bool.and_eq_true, beq_iff_eq, Bool.not_eq_true'] at q1
      obtain ⟨⟨⟨⟨⟨rfl, rfl⟩, hdel⟩, hok⟩, hne⟩, heq⟩ := q1
      obtain ⟨nm, bs, mro, ns, qn, hd, sn, sub, ab, col, del⟩ := cd
      dsimp only at hm hdel hok hne heq
      subst hm hdel
      have hsl : sl = #[k0, k1, k2, k3, some (.builtin "object.__new__"), k5] := by
        obtain ⟨l⟩ := sl
        simp only at hs
        rw [hs]
      subst hsl
      split at q2
      · rename_i of hof
        have N : h.Ns ns (h.nsMap ns) := .of_isNs (PySem.W.isNs_of_in X hok)
        exact ⟨o, of, nm, qn, ns, bs, hd, sn, sub, ab, col, dd, k0, k1, k2, k3, k5, "object.__new__", _, _, hx, hc, X _ _ ho, N, ns_some X N heq, X _ _ hof, beq_iff_eq.mp q2, PySem.F.mro_object, PySem.F.cmp_object.eq.lookup, PySem.W.nsMap_none_of_in X hok hne⟩
      · cases q2
    · cases q1
  · cases q1
/-- what a class with its own __eq__ must have -/
structure EqC (K : PySem.W.Frag) (C f : Addr) : Prop where
  own : eqOwn K C f = true
  at_ : PySem.W.findIn K (.ref C) "__eq__" = some (some (.ref f))
  fn : PySem.W.isFn K (.ref f) = true
def rOwn (C : Addr) (sp : Sp) (neg : Bool) : R2 := fun x y H Q => ∃ a b dx dy fs gs, x = .ref a ∧ y = .ref b ∧ H a = some (.ins C dx fs) ∧ H b = some (.ins C dy gs) ∧ sp [.ref a, .ref b] H (fun v H' => ∃ z, v = .bl z ∧ Q (.bl (if neg then !z else z)) H') E0
section
variable {X : Cx} {n : Nat} {C f : Addr} {fd : FuncData} {ps : List Str} {sp : Sp}
theorem own_call (F : FnOk X.prog X.w X.K X.mg X.base (L2.CX X.prog X.w) n f fd ps sp) (hb : Binds X.K fd ps []) {A : Around} (sb : Sub X n A) {pins : List (Addr × Obj)} {s : Shared} {σ : L2.St} {H : Hp} {a b : Addr} {Q : VK} (I : Inv X pins σ H s) (h : sp [.ref a, .ref b] H Q E0) :
    wpAny (model X.prog X.w) A (call (.ref f) [.ref a, .ref b]) (EP X pins σ Q) X.xe s := by
  have e0 : Env0 X.prog X.w X.K X.mg X.base A X.stack s H := by
    have e := I.env0
    exact ⟨by rw [sb.fr]; exact e.frames, e.mod, e.bs, e.bsz, e.funs, e.frf, e.hok, e.bare⟩
  have hl := F.len _ _ _ _ h
  have r2 : Vals [V.ref a, V.ref b] [Value.ref a, Value.ref b] := .cons rfl (.cons rfl .nil)
  refine wpAny_call (codeAny_mono (F.run A X.stack s H ⟨[.ref a, .ref b], []⟩ [.ref a, .ref b] [.ref a, .ref b] _ E0 sb.room e0 (by
    have := hb s [.ref a, .ref b] I.kIn (by simpa using hl)
    simpa using this) r2 h) fun r s' hq => ?_)
  cases r with
  | error e => exact passL pins σ H s e s' I hq
  | ok fl =>
    cases fl with
    | ret w => exact I.after hq
    | next => exact False.elim hq
    | brk => exact False.elim hq
    | cont => exact False.elim hq
theorem op_eqOwn (c : EqC X.K C f) (F : FnOk X.prog X.w X.K X.mg X.base (L2.CX X.prog X.w) n f fd ps sp) (hb : Binds X.K fd ps []) (hr : Room n X.A) : OpR X (compareOp .Eq) (rOwn C sp false) := by
  intro pins s σ H x y v u Q I rx ry hq
  obtain ⟨a, b, dx, dy, fs, gs, rfl, rfl, ha, hb', hs⟩ := hq
  cases rx
  cases ry
  obtain ⟨mA, J, _⟩ := ins_get I.hok ha
  obtain ⟨mB, J', _⟩ := ins_get I.hok hb'
  obtain ⟨od, J, _⟩ := J.look
  obtain ⟨od', J', _⟩ := J'.look
  obtain ⟨m, hF⟩ := I.fr
  show wpAny (model X.prog X.w) X.A (richCompare .Eq (.ref a) (.ref b)) (EP X pins σ Q) X.xe s
  refine PySem.W.cmp_K (op := .Eq) (tb := .ref C) hr.units0 hF I.ok.mod.kin J J'.type (by simp [PySem.W.notFirst]) c.at_ c.fn ?_
  refine wpAny_mono (own_call F hb ⟨hr, rfl⟩ I hs) (fun w s' hw => ?_) fun _ _ x => x
  obtain ⟨z, H', I', rz, t, rfl, q⟩ := hw
  cases rz
  exact ⟨.bl t, H', I', rfl, q⟩
theorem op_neOwn (c : EqC X.K C f) (F : FnOk X.prog X.w X.K X.mg X.base (L2.CX X.prog X.w) n f fd ps sp) (hb : Binds X.K fd ps []) (hr : Room (n + 1) X.A) : OpR X (compareOp .NotEq) (rOwn C sp true) := by
  intro pins s σ H x y v u Q I rx ry hq
  obtain ⟨a, b, dx, dy, fs, gs, rfl, rfl, ha, hb', hs⟩ := hq
  cases rx
  cases ry
  obtain ⟨mA, J, _⟩ := ins_get I.hok ha
  obtain ⟨mB, J', _⟩ := ins_get I.hok hb'
  have hu : X.A.units + 1 < cLine := by have := hr.units; omega
  have main := compareOp_ne_ownEq (prog := X.prog) (w := X.w) (A := X.A) (E := X.xe) (h := s.heap) (g := s.gens) (d := s.drawn) (t := s.toks) (os := s.os) PySem.F.cmp_object (eqOwn_ok I.kIn c.own J.obj rfl) J'.obj rfl hu (Q := EP X pins σ Q)
  refine main (wpAny_mono (own_call F hb ⟨hr.in1, rfl⟩ I hs) (fun w s' hw => ?_) fun _ _ x => x)
  obtain ⟨z, H', I', rz, t, rfl, q⟩ := hw
  cases rz
  exact ⟨t, rfl, .bl (!t), H', I', rfl, q⟩
end
/-- the class cc has its own __eq__ -/
structure EqAt (P : Program) (w : World) (K : PySem.W.Frag) (mg : Str → Option Value) (base : Heap) (ct : Ct) (k : Nat) (cc : Nat) (ps : List Str) (F : List EV → Out) : Prop where
  ex : ∃ f fd, FnOk P w K mg base (L2.CX P w) k f fd ps (spM ⟨K, ct⟩ F) ∧ EqC K (ct cc) f ∧ Binds K fd ps []
def isObj0 (cc : Nat) (e : Env) (t : Tk) : Bool := isObj cc Str.empty e t
/-- a comparison of data, or of two things of the class cc -/
def tCmpO (cc : Nat) (F : List EV → Out) (neg : Bool) (g : D → D → Option Bool) (fa fb : EM Tk) : EM Bool := fun e => (fa e).bind fun t1 e1 => (fb e1).bind fun t2 e2 =>
  if (isObj cc Str.empty e2 t1 && isObj cc Str.empty e2 t2) = true then (tailC (fun as => noX (F as)) [t1, t2] e2).bind fun x e3 => (match x with
    | .d (.bl z) => .ok (if neg then !z else z) e3
    | _ => .stuck) else (match rdK e2 t1, rdK e2 t2 with
  | some a, some b => resB (g a b) e2
  | _, _ => .stuck)
section
variable {X : Cx} {ct : Ct} {W : WX} {pos : Pos} {a b : Expr} {fa fb : EM Tk} {k cc : Nat} {ps : List Str} {F : List EV → Out} {neg : Bool} {op : CmpOp} {g : D → D → Option Bool} {r : R2} {f : Addr} {fd : FuncData}
theorem cmpO_sem {c : Fr} {G H : Hp} {σ : L2.St} {e : Env} {Q : VK} (hg : OpB ⟨X.K, ct⟩ r g) (re : RepS ⟨X.K, ct⟩ c G σ H e)
    (p : Post ⟨X.K, ct⟩ W c G σ (fun G' H' _ z => ∀ v, v = V.bl z → Q v H') (tCmpO cc F neg g fa fb e)) :
    TK ⟨X.K, ct⟩ W fa σ H (fun x H1 => TK ⟨X.K, ct⟩ W fb σ H1 (fun y H2 => r x y H2 Q ∨ rOwn (ct cc) (spM ⟨X.K, ct⟩ F) neg x y H2 Q)) := by
  refine two (R := fun x y H2 => r x y H2 Q ∨ rOwn (ct cc) (spM ⟨X.K, ct⟩ F) neg x y H2 Q) re p fun G2 H2 e2 t1 t2 x y s r2 hx hy p2 => ?_
  split at p2
  · rename_i ho
    obtain ⟨h1, h2⟩ := Bool.and_eq_true_iff.mp ho
    obtain ⟨a1, dx, fs, rfl, e1, _⟩ := isObj_ok r2 hx h1
    obtain ⟨b1, dy, gs, rfl, e3, _⟩ := isObj_ok r2 hy h2
    refine .inr ⟨a1, b1, dx, dy, fs, gs, rfl, rfl, e1, e3, ?_⟩
    refine sp_noX (E := fun _ _ _ => True) (post_callE (W := W) (fun _ _ _ _ => trivial) r2 (show RpKs _ G2 σ [.ref a1, .ref b1] [t1, t2] from ⟨hx, hy, trivial⟩) ?_)
    refine (Post.bind p2).imp fun G3 H3 e4 z s3 r3 p3 v hv => ?_
    split at p3
    · rename_i t
      cases hv
      exact ⟨t, rfl, p3.now r3 _ rfl⟩
    · exact p3.elim
  · split at p2
    · rename_i d1 d2 h1 h2
      cases hz : g d1 d2 with
      | none => rw [hz] at p2; exact p2.elim
      | some z =>
        rw [hz] at p2
        exact .inl (hg G2 H2 x y d1 d2 z Q r2.gh (.of r2 hx h1) (.of r2 hy h2) hz (p2.now r2 _ rfl))
    · exact p2.elim
theorem OpR.or' {f : Value → Value → Sem Value} {r r' : R2} (h : OpR X f r) (h' : OpR X f r') : OpR X f (fun x y H Q => r x y H Q ∨ r' x y H Q) := by
  intro pins s σ H x y v u Q I rx ry q
  rcases q with q | q
  · exact h pins s σ H x y v u Q I rx ry q
  · exact h' pins s σ H x y v u Q I rx ry q
theorem e_cpO (ho : OpR X (compareOp op) (rOwn (ct cc) (spM ⟨X.K, ct⟩ F) neg)) (h : CmpX X ct op g) (ha : SK X ct W a fa) (hb : SK X ct W b fb) (hm : behindInMarks op b = false) : SE X ct W (.Compare a [op] [b] pos) (cB (tCmpO cc F neg g fa fb)) := by
  obtain ⟨r, h1, h2⟩ := h
  refine PEw (pe_cmpR (OpR.or' h1 ho) ha hb hm) fun σ H Q q => ?_
  obtain ⟨c, G, e, re, p⟩ := q
  refine cmpO_sem h2 re ((Post.bind p).imp fun G' H' e' z s' r' h v hv => ?_)
  subst hv
  exact h.now r' _ (.bl z)
theorem t_cpO (ho : OpR X (compareOp op) (rOwn (ct cc) (spM ⟨X.K, ct⟩ F) neg)) (h : CmpX X ct op g) (ha : SK X ct W a fa) (hb : SK X ct W b fb) (hm : behindInMarks op b = false) : ST X ct W (.Compare a [op] [b] pos) (tCmpO cc F neg g fa fb) := by
  obtain ⟨r, h1, h2⟩ := h
  refine PTw (pt_cmpR (OpR.or' h1 ho) ha hb hm) fun σ H Q q => ?_
  obtain ⟨c, G, e, re, p⟩ := q
  refine cmpO_sem h2 re (p.imp fun G' H' e' z s' r' h v hv => ?_)
  subst hv
  exact ⟨z, rfl, h⟩
theorem e_eqO (hE : EqAt X.prog X.w X.K X.mg X.base ct k cc ps F) (hr : Room (k + 1) X.A) (ha : SK X ct W a fa) (hb : SK X ct W b fb) (hm : behindInMarks .Eq b = false) : SE X ct W (.Compare a [.Eq] [b] pos) (cB (tCmpO cc F false gEq fa fb)) := by
  obtain ⟨f, fd, h1, h2, h3⟩ := hE.ex
  exact e_cpO (op_eqOwn h2 h1 h3 (hr.mono (Nat.le_succ _))) (x_eq hr) ha hb hm
theorem t_eqO (hE : EqAt X.prog X.w X.K X.mg X.base ct k cc ps F) (hr : Room (k + 1) X.A) (ha : SK X ct W a fa) (hb : SK X ct W b fb) (hm : behindInMarks .Eq b = false) : ST X ct W (.Compare a [.Eq] [b] pos) (tCmpO cc F false gEq fa fb) := by
  obtain ⟨f, fd, h1, h2, h3⟩ := hE.ex
  exact t_cpO (op_eqOwn h2 h1 h3 (hr.mono (Nat.le_succ _))) (x_eq hr) ha hb hm
theorem e_neO (hE : EqAt X.prog X.w X.K X.mg X.base ct k cc ps F) (hr : Room (k + 1) X.A) (ha : SK X ct W a fa) (hb : SK X ct W b fb) (hm : behindInMarks .NotEq b = false) : SE X ct W (.Compare a [.NotEq] [b] pos) (cB (tCmpO cc F true gNe fa fb)) := by
  obtain ⟨f, fd, h1, h2, h3⟩ := hE.ex
  exact e_cpO (op_neOwn h2 h1 h3 hr) (x_ne hr) ha hb hm
theorem t_neO (hE : EqAt X.prog X.w X.K X.mg X.base ct k cc ps F) (hr : Room (k + 1) X.A) (ha : SK X ct W a fa) (hb : SK X ct W b fb) (hm : behindInMarks .NotEq b = false) : ST X ct W (.Compare a [.NotEq] [b] pos) (tCmpO cc F true gNe fa fb) := by
  obtain ⟨f, fd, h1, h2, h3⟩ := hE.ex
  exact t_cpO (op_neOwn h2 h1 h3 hr) (x_ne hr) ha hb hm
end
end MM
end
section
set_option Elab.async false
set_option linter.all false
set_option autoImplicit false
set_option maxRecDepth 100000
set_option maxHeartbeats 4000000
namespace L2
open PySem PySem.Spec PyProof.Rows
/-! ### set(xs) of a list of ints -/
/-- the new set's object -/
abbrev newSet (w : World) : Obj := { cls := .type "set", dict := none, data := .set #[] 0 (.fresh 0 0 (!w.params.followText "set-order")) }
set_option maxHeartbeats 8000000 in
theorem mir_set_list {P : Program} {w : World} {A : Around} {E : Value → Shared → Prop} {s : Shared} {l : Addr} {items : Array Value} (ns : List Int) {Q : Value → Shared → Prop} (hh : A.handled = none) (hl : s.heap.IsList l items) (hit : IntsAre items.toList ns) (hb : ns.length + 1 < scanBound)
    (h : ∀ (h' : Heap) (tk c : Nat), SetR w h' s.heap.objs.size (fun j => decide (j ∈ ns)) c → c ≤ ns.length → (∀ b o, s.heap.get? b = some o → h'.get? b = some o) → Q (.ref s.heap.objs.size) { s with heap := h', toks := tk }) :
    wpAny (model P w) A (call (.type "set") [.ref l]) Q E s := by
  have hisz : items.size = ns.length := by rw [← IntsAre.length hit, Array.length_toList]
  obtain ⟨c, tl, hmro⟩ := F.called_set.mro
  have hmade := F.called_set.made
  have hsub := F.called_set.sub
  have h1 := F.called_set.notType
  have h2 := F.called_set.canCreate
  have hct := F.typeCall_set_1 (.ref l)
  have hS : (s.heap.push (newSet w)).get? s.heap.objs.size = some (newSet w) := Heap.get?_push_size _ rfl
  have hT : Shared.TypeIs { s with heap := s.heap.push (newSet w) } (.ref s.heap.objs.size) "set" := ⟨_, hS, rfl⟩
  have hli := F.called_set.init.lookup
  have hbi := F.called_set.init.bind (.ref s.heap.objs.size)
  refine wpAny_call (codeAny_of_tree ?_)
  show wpAny _ _ (callAny (.type "set") _) _ _ _
  refine wpAny_pure ⟨Code.quiet_builtin _ (by decide +kernel), codeAny_builtin F.entry_type_call ?_⟩
  rw [Around.under_plain (weight_type_call_type "set" [.ref l] []) rfl]
  repeat (any_goals (first | assumption | wp_step))
  refine codeAny_mono (code_set_led1 (.ref l) (E := E) (Q₁ := fun obj s₁ => obj = .ref s.heap.objs.size ∧ s₁ = { s with heap := s.heap.push (newSet w) }) ⟨rfl, rfl⟩) fun r s₁ hr => ?_
  cases r with
  | error e => exact hr
  | ok fl =>
    cases fl with
    | next => exact hr.elim
    | brk => exact hr.elim
    | cont => exact hr.elim
    | ret obj =>
      obtain ⟨rfl, rfl⟩ := hr
      repeat (any_goals (first | assumption | wp_step))
      refine codeAny_mono (codeAny_call_builtin (R := wants (fun r s₂ => r = .none ∧ ∃ h' tk c, s₂ = { s with heap := h', toks := tk } ∧ SetR w h' s.heap.objs.size (fun j => decide (j ∈ ns)) c ∧ c ≤ ns.length ∧
          (∀ b o, s.heap.get? b = some o → h'.get? b = some o)) E) F.called_set.init.plain F.entry_set_init (check_set_init_1 hT ?_)) fun r₂ s₂ hr₂ => ?_
      · obtain ⟨⟨oc, od, odt, os⟩, hol, hcl, nl, hdl⟩ := hl
        simp only at hcl hdl
        subst hcl; subst hdl
        have hol' : (s.heap.push (newSet w)).get? l = some { cls := .type "list", dict := od, data := .seq items nl, slots := os } := Heap.get?_push_of_some _ hol
        have hsls := PySem.F.sub_list_set
        have hslf := PySem.F.sub_list_frozenset
        have hne : (Value.type "list" == Value.type "dict") = false := by decide
        have hl1 : (s.heap.push (newSet w)).IsList l items := ⟨_, hol', rfl, nl, rfl⟩
        have hlS : l < s.heap.objs.size := Heap.lt_size hol
        have hz1 : (s.heap.push (newSet w)).objs.size = s.heap.objs.size + 1 := Heap.size_push ..
        unfold Builtin.«set.__init__» noKeywords Builtin.Frozenset.updateFrom
        generalize hPI : pyIter = PI
        wp_walk
        subst hPI
        refine wpAny_pyIter_list hl1 ?_
        refine wpAny_bind (wpAny_runValue ?_)
        have hneI : l ≠ (s.heap.push (newSet w)).objs.size := by rw [hz1]; exact Nat.ne_of_lt (Nat.lt_succ_of_lt hlS)
        have hSf : s.heap.objs.size ∉ [(s.heap.push (newSet w)).objs.size, l] := by
          rw [hz1]
          simp only [List.mem_cons, List.not_mem_nil, or_false, not_or]
          exact ⟨Nat.ne_of_lt (Nat.lt_succ_self _), Nat.ne_of_gt hlS⟩
        have hval : ∀ (i : Nat) (v : Value), items[i]? = some v → ∃ k t, ns[i]? = some k ∧ v = .int k t := fun i v hv => by
          have hi : i < ns.length := by rw [← hisz]; exact (Array.getElem?_eq_some_iff.mp hv).1
          obtain ⟨t, e⟩ := PyProof.Rows.IntsAre.int_at hit i v (by rw [Array.getElem?_toList]; exact hv)
          refine ⟨ns[i], t, List.getElem?_eq_getElem hi, ?_⟩
          rw [e, List.getD_eq_getElem?_getD, List.getElem?_eq_getElem hi] <;> rfl
        have hh3 : A.in1.in1.in1.handled = none := by simp [hh]
        refine set_update_ints ((Walks.list hh3 _ l hneI items).toS) s.heap.objs.size hSf ns hisz hb hval (items.size - 0) 0 _ (by omega) (Nat.zero_le _) ⟨⟨_, Heap.get?_push_size _ rfl, rfl, rfl⟩, (hl1.push _)⟩ ⟨0, Nat.le_refl 0, setR_new_at (Heap.get?_push_of_some _ hS)⟩ ?_
        intro s' c' hm hc' hS'
        obtain ⟨h', g2, d', tk', os'⟩ := s'
        obtain rfl : g2 = s.gens := hm.gens
        obtain rfl : d' = s.drawn := hm.drawn
        obtain rfl : os' = s.os := hm.os
        show wpAny _ _ _ _ _ _
        refine wpAny_pure ?_
        show wpAny _ _ (ret Value.none) _ _ _
        refine wpAny_pure ⟨rfl, h', tk', c', rfl, hS', by rw [← hisz]; exact hc', fun b o e => ?_⟩
        have hb0 : b < s.heap.objs.size := Heap.lt_size e
        refine hm.heap b o ?_ (Heap.get?_push_of_some _ (Heap.get?_push_of_some _ e))
        simp only [List.mem_cons, List.not_mem_nil, or_false, not_or]
        exact ⟨Nat.ne_of_lt hb0, by rw [hz1]; exact Nat.ne_of_lt (Nat.lt_succ_of_lt hb0)⟩
      · cases r₂ with
        | error e => exact hr₂
        | ok fl₂ =>
          cases fl₂ with
          | ret r =>
            obtain ⟨rfl, h', tk, c', rfl, hS', hc', hk'⟩ := hr₂
            repeat (any_goals (first | assumption | wp_step))
            exact h _ _ _ hS' hc' hk'
          | next => exact hr₂.elim
          | brk => exact hr₂.elim
          | cont => exact hr₂.elim
end L2
end
section
set_option Elab.async false
set_option linter.all false
set_option autoImplicit false
set_option maxRecDepth 100000
set_option maxHeartbeats 4000000
namespace MM
open PySem PySem.Spec L2
/-! ### sorted(set(xs)) -/
def usortI (ns : List Int) : List Int := (sortI ns).eraseDups
def vSortSet (f : EM (List Tk)) : EM EV := fun e => (f e).bind fun ts e1 => match rdKs e1 ts with
  | some [d] => (match intsOf d with
    | some ns => if ns.length < 4000 ∧ (usortI ns).length < 64 then .ok (.m (.lst ((usortI ns).map D.int))) e1 else .stuck
    | none => .stuck)
  | _ => .stuck
theorem nodup_eraseDups : ∀ (n : Nat) (l : List Int), l.length ≤ n → l.eraseDups.Nodup ∧ (∀ x, x ∈ l.eraseDups ↔ x ∈ l) ∧ l.eraseDups.Sublist l
  | _, [], _ => ⟨by simp, by simp, by simp⟩
  | 0, a :: l, h => by simp at h
  | n + 1, a :: l, h => by
    have hl : (l.filter fun b => !b == a).length ≤ n := by
      have := List.length_filter_le (fun b => !b == a) l
      simp at h
      omega
    obtain ⟨i1, i2, i3⟩ := nodup_eraseDups n _ hl
    rw [List.eraseDups_cons]
    refine ⟨List.nodup_cons.mpr ⟨fun hm => ?_, i1⟩, fun x => ?_, (i3.trans List.filter_sublist).cons₂ a⟩
    · have := (i2 a).mp hm
      simp at this
    · rw [List.mem_cons, List.mem_cons, i2 x, List.mem_filter]
      by_cases e : x = a
      · simp [e]
      · simp [e]
theorem usortI_mem {ns : List Int} {x : Int} : x ∈ usortI ns ↔ x ∈ ns := by
  unfold usortI
  rw [(nodup_eraseDups _ _ (Nat.le_refl _)).2.1 x]
  exact (sortI_perm ns).mem_iff
theorem usortI_lt (ns : List Int) : (usortI ns).Pairwise (· < ·) := by
  obtain ⟨h1, _, h3⟩ := nodup_eraseDups _ (sortI ns) (Nat.le_refl _)
  have h4 := (sortI_sorted ns).sublist h3
  exact (List.Pairwise.and h4 h1).imp fun {a b} h => by
    obtain ⟨p, q⟩ := h
    exact Int.lt_iff_le_and_ne.mpr ⟨p, q⟩
theorem lt_unique {as bs : List Int} (h1 : as.Pairwise (· < ·)) (h2 : bs.Pairwise (· < ·)) (h : ∀ x, x ∈ as ↔ x ∈ bs) : as = bs := by
  have n1 : as.Nodup := h1.imp fun {a b} h => Int.ne_of_lt h
  have n2 : bs.Nodup := h2.imp fun {a b} h => Int.ne_of_lt h
  exact sorted_eq ((List.perm_ext_iff_of_nodup n1 n2).mpr h) (h1.imp fun {a b} h => Int.le_of_lt h) (h2.imp fun {a b} h => Int.le_of_lt h)
theorem nodup_len : ∀ {l1 l2 : List Int}, l1.Nodup → (∀ x ∈ l1, x ∈ l2) → l1.length ≤ l2.length
  | [], _, _, _ => Nat.zero_le _
  | a :: l1, l2, nd, h => by
    have nd' := List.nodup_cons.mp nd
    have ha := h a (by simp)
    have := nodup_len (l1 := l1) (l2 := l2.erase a) nd'.2 fun x hx => (List.mem_erase_of_ne (fun (e : x = a) => nd'.1 (by rw [← e]; exact hx))).mpr (h x (by simp [hx]))
    rw [List.length_erase_of_mem ha] at this
    have := List.length_pos_of_mem ha
    rw [List.length_cons]
    omega
def tSortSet (K : PySem.W.Frag) (ta : L2.TE) : L2.TE := fun σ H Q => ta σ H fun x H1 => ∃ (l : Addr) (ns : List Int), x = V.ref l ∧ SqL K H1 l (ns.map V.int) ∧ ns.length < 4000 ∧ (usortI ns).length < 64 ∧ ∀ p, H1 p = none → Q (.ref p) (upd H1 p (.lst ((usortI ns).map V.int)))
section
variable {X : Cx} {ct : Ct} {W : WX} {a : Expr} {ta : L2.TE} {p p2 q pos : Pos} {fa : EM Tk}
theorem pe_sortSet (hc : X.calm = true) (hg : Gl X "sorted") (hm : X.mg "sorted" = none) (hg2 : Gl X "set") (hm2 : X.mg "set" = none) (ha : PE X a ta)
    (na : starEach [a] X.env = (false, eval a X.env) :: starEach [] X.env := by rfl) : PE X (.Call (.Name "sorted" p) [.Call (.Name "set" p2) [a] [] q] [] pos) (tSortSet X.K ta) := by
  refine ⟨fun pins s σ H Q I h => ?_⟩
  refine PyProof.Rows.Call_ (ld_blt I hg hm (show bootBuiltins "sorted" = some (.builtin "sorted") by decide +kernel) ?_)
  refine PyProof.Rows.callWith_builtin1 (PyProof.Rows.args_cons ?_ rfl) rfl rfl
  refine PyProof.Rows.Call_ (ld_blt I hg2 hm2 PyProof.Rows.boot_set ?_)
  refine PyProof.Rows.callWith_type1 (PyProof.Rows.args_cons (thn (ha.run pins s σ H _ I h) fun v s1 ⟨x, H1, I1, r1, q1⟩ => PyProof.Rows.args_nil ?_) na) na rfl
  obtain ⟨l, ns, rfl, hq, h1, h2, q1⟩ := q1
  cases r1
  obtain ⟨its, r, pl, hz⟩ := I1.list hq
  refine mir_set_list ns (I1.ok.hd hc) pl.isList (by simpa using r.ints) (by unfold scanBound; omega) fun h' tk c hS hcn hk => ?_
  refine PyProof.Rows.args_nil ?_
  have I2 : Inv X pins σ H1 { s1 with heap := h', toks := tk } := I1.kept hk
  have hS0 := hS
  obtain ⟨o, es, ep, t, ho, hex, hd, g, nd, hmm, hb, hf, hn, hr, hl⟩ := hS0
  have hc64 : c < 64 := by
    have hsz : es.size = c := hn
    have hnd : (es.toList.map keyOf).Nodup := nd
    have hsub : ∀ y ∈ es.toList.map keyOf, y ∈ usortI ns := fun y hy => by
      rw [usortI_mem]
      have := (hmm y).mpr hy
      simpa using this
    have hle := nodup_len hnd hsub
    rw [List.length_map, Array.length_toList, hsz] at hle
    omega
  refine sorted_set hS (I2.ok.hd hc) hc64 fun s' p out c2 ns' k g2 o2 hp hg3 hi hs hm3 hl3 => ?_
  have e1 : ns' = usortI ns := lt_unique hs (usortI_lt ns) fun x => by rw [hm3 x, usortI_mem]; simp
  subst e1
  have hnp : H1 p = none := I2.hok.fresh hp
  have hlen : ((usortI ns).map V.int).length ≤ sizeLine := by rw [List.length_map, sizeLine_eq]; omega
  have J : Inv X pins σ (upd H1 p (.lst ((usortI ns).map V.int))) { ({ s1 with heap := h', toks := tk } : Shared) with heap := s'.heap, gens := s'.gens, drawn := s'.drawn, toks := s'.toks } :=
    I2.call (ch := []) (Un.laid k hp hnp) (I2.hok.laid k hp ⟨hlen, out.toList, c2, vals_of_ints hi, hg3⟩) (by rw [g2]; exact I2.bare) (fun _ z => nomatch z)
  have e : s' = { ({ s1 with heap := h', toks := tk } : Shared) with heap := s'.heap, gens := s'.gens, drawn := s'.drawn, toks := s'.toks } := by
    cases s'
    cases s1
    cases o2
    rfl
  rw [e]
  exact ⟨.ref p, _, J, rfl, q1 p hnp⟩
theorem v_sortSet (hc : X.calm = true) (hg : Gl X "sorted") (hm : X.mg "sorted" = none) (hg2 : Gl X "set") (hm2 : X.mg "set" = none) (ha : SK X ct W a fa)
    (na : starEach [a] X.env = (false, eval a X.env) :: starEach [] X.env := by rfl) : SV X ct W (.Call (.Name "sorted" p) [.Call (.Name "set" p2) [a] [] q] [] pos) (vSortSet (aCons fa aNil)) := by
  refine PEw (pe_sortSet hc hg hm hg2 hm2 ha na) fun σ H Q q => ?_
  obtain ⟨c, G, e, r, p⟩ := q
  have p : Post ⟨X.K, ct⟩ W c G σ (fun G' H' e' x => ∀ v, RpV ⟨X.K, ct⟩ c G' σ H' e' v x → Q v H') (((fa e).bind fun t e1 => .ok [t] e1).bind fun ts e1 => match rdKs e1 ts with
    | some [d] => (match intsOf d with
      | some ns => if ns.length < 4000 ∧ (usortI ns).length < 64 then .ok (.m (.lst ((usortI ns).map D.int))) e1 else .stuck
      | none => .stuck)
    | _ => .stuck) := p
  refine ⟨c, G, e, r, (Post.bind (Post.bind p)).imp fun G1 H1 e1 t s1 r1 p1 v hv => ?_⟩
  have p1 := p1.now r1
  cases hd : rdK e1 t with
  | none =>
    have hz : rdKs e1 [t] = none := by show (match rdK e1 t, rdKs e1 [] with | some d, some ds => some (d :: ds) | _, _ => none) = none; rw [hd]
    rw [hz] at p1; exact p1.elim
  | some d =>
    have hz : rdKs e1 [t] = some [d] := by show (match rdK e1 t, rdKs e1 [] with | some d, some ds => some (d :: ds) | _, _ => none) = some [d]; rw [hd]; rfl
    rw [hz] at p1
    have rb : RB ⟨X.K, ct⟩ G1 H1 v d := .of r1 hv hd
    cases hi : intsOf d with
    | none =>
      have p2 : Post ⟨X.K, ct⟩ W c G1 σ (fun G' H' e' x => ∀ v, RpV ⟨X.K, ct⟩ c G' σ H' e' v x → Q v H') (match intsOf d with
        | some ns => if ns.length < 4000 ∧ (usortI ns).length < 64 then .ok (.m (.lst ((usortI ns).map D.int))) e1 else .stuck
        | none => .stuck) := p1
      rw [hi] at p2; exact p2.elim
    | some ns =>
      have p2 : Post ⟨X.K, ct⟩ W c G1 σ (fun G' H' e' x => ∀ v, RpV ⟨X.K, ct⟩ c G' σ H' e' v x → Q v H') (match intsOf d with
        | some ns => if ns.length < 4000 ∧ (usortI ns).length < 64 then .ok (.m (.lst ((usortI ns).map D.int))) e1 else .stuck
        | none => .stuck) := p1
      rw [hi] at p2
      have p3 : Post ⟨X.K, ct⟩ W c G1 σ (fun G' H' e' x => ∀ v, RpV ⟨X.K, ct⟩ c G' σ H' e' v x → Q v H') (if ns.length < 4000 ∧ (usortI ns).length < 64 then .ok (.m (.lst ((usortI ns).map D.int))) e1 else .stuck) := p2
      split at p3
      · rename_i hl
        obtain ⟨ad, rfl, h1⟩ := rb.ints r1.gh hi
        refine ⟨ad, ns, rfl, h1, hl.1, hl.2, fun pp hp => ?_⟩
        obtain ⟨r2, r3, r4⟩ := r1.newM (x := .lst ((usortI ns).map D.int)) hp ⟨_, rfl, Rps.ofInts _⟩
        exact p3 G1 _ (Same.refl _) r2 _ ⟨pp, rfl, r3, r4⟩
      · exact p3.elim
end
end MM
end
section
set_option Elab.async false
set_option linter.all false
set_option autoImplicit false
set_option maxRecDepth 100000
set_option maxHeartbeats 4000000
namespace MM
open PySem PySem.Spec L2

/-! ### the head: own classes, properties -/
/-- a property's getter: the class's name, the property's, the getter's qualified name, text -/
structure PrD where
  cls : Str
  prop : Str
  qual : Str
  params : Arguments
  body : List Stmt
  scope : Scope
def pgA (K : PySem.W.Frag) (d : PrD) : Addr := match PySem.W.recIn K (He.ma K (He.ga K d.cls) d.prop) "property" with
  | some (.ref g :: _) => g
  | _ => 0
def fnWa (K : PySem.W.Frag) (a : Addr) : He.FnW := match K.lookup a with
  | some ⟨_, _, .func fd, _⟩ => some (fd.name, fd.qualname, fd.params, fd.body, fd.scope, fd.globals, fd.closure, fd.builtins)
  | _ => none
def PrD.val (d : PrD) : He.FnW := some (d.prop, d.qual, d.params, .stmts d.body, d.scope, mainGlobals, [], builtinsNs)
def PrD.ok (K : PySem.W.Frag) (d : PrD) : Bool :=
  He.eqO (PySem.W.findIn K (.ref (He.ga K d.cls)) d.prop) (some (some (.ref (He.ma K (He.ga K d.cls) d.prop)))) &&
  (He.eqO (PySem.W.specialIn K (.ref (He.ma K (He.ga K d.cls) d.prop)) "__get__") (some (some (.builtin "property.__get__"))) &&
  (decide (PySem.W.takesIn K (.ref (He.ma K (He.ga K d.cls) d.prop)) = some true) &&
  ((match PySem.W.recIn K (He.ma K (He.ga K d.cls) d.prop) "property" with
    | some (.ref _ :: _) => true
    | _ => false) &&
  (PySem.W.keepIn K (.ref (pgA K d)) && (match K.lookup (pgA K d) with
    | some ⟨_, _, .func fd, _⟩ => PySem.W.codeIn K fd.code d.qual && He.dflB K fd.defaults []
    | _ => false)))))
theorem funD_at {K : PySem.W.Frag} {f : Addr} {name qual : Str} {params : Arguments} {body : List Stmt} {scope : Scope} (e : fnWa K f = some (name, qual, params, .stmts body, scope, mainGlobals, [], builtinsNs)) (kp : PySem.W.keepIn K (.ref f) = true)
    (c2 : (match K.lookup f with
    | some ⟨_, _, .func fd, _⟩ => PySem.W.codeIn K fd.code qual && He.dflB K fd.defaults []
    | _ => false) = true) : ∃ fd, FunD K name qual params body scope [] [] f fd := by
  unfold fnWa at e
  cases q : K.lookup f with
  | none =>
    rw [q] at c2
    cases c2
  | some o =>
    obtain ⟨oc, od, dt, osl⟩ := o
    rw [q] at c2 e
    cases dt with
    | func fd =>
      obtain ⟨n1, n2, n3, n4, n5, n6, n7, n8, n9, n10, n11, n12, n13, n14, n15⟩ := fd
      have e2 : (some (n1, n2, n3, n4, n5, n6, n7, n15) : He.FnW) = some (name, qual, params, .stmts body, scope, mainGlobals, [], builtinsNs) := e
      simp only [Option.some.injEq, Prod.mk.injEq] at e2
      obtain ⟨h1, h2, h3, h4, h5, h6, h7, h8⟩ := e2
      subst h1 h2 h3 h4 h5 h6 h7 h8
      have c3 : (PySem.W.codeIn K n13 n2 && He.dflB K n8 []) = true := c2
      obtain ⟨k1, k2⟩ := He.ba c3
      exact ⟨_, ⟨oc, od, n8, n9, n10, n11, n12, n13, n14, osl, rfl, q, k1, He.dflB_ok k2, .inl rfl⟩, kp⟩
    | _ => cases c2
theorem PrD.get {K : PySem.W.Frag} {d : PrD} (e : fnWa K (pgA K d) = d.val) (c : d.ok K = true) : (∃ fd, FunD K d.prop d.qual d.params d.body d.scope [] [] (pgA K d) fd) ∧ PropOf K (He.ga K d.cls) d.prop (He.ma K (He.ga K d.cls) d.prop) (pgA K d) := by
  obtain ⟨c1, c⟩ := He.ba c
  obtain ⟨c2, c⟩ := He.ba c
  obtain ⟨c3, c⟩ := He.ba c
  obtain ⟨c4, c⟩ := He.ba c
  obtain ⟨c5, c6⟩ := He.ba c
  refine ⟨funD_at e c5 c6, He.eqO_ok c1, He.eqO_ok c2, of_decide_eq_true c3, ?_⟩
  unfold pgA
  revert c4
  cases q : PySem.W.recIn K (He.ma K (He.ga K d.cls) d.prop) "property" with
  | none => intro c4; cases c4
  | some l =>
    intro c4
    cases l with
    | nil => cases c4
    | cons v r =>
      cases v with
      | ref g => exact ⟨r, rfl⟩
      | _ => cases c4
/-- the built-in types that isinstance is asked about, and the kinds of data -/
def tyAsk : List String := ["int", "bool", "str", "list", "tuple", "dict"]
def tyAll : List String := ["NoneType", "bool", "int", "str", "list", "tuple", "dict"]
/-! own exceptions over ValueError with their own __init__ -/
def exClsB (K : PySem.W.Frag) (C : Addr) : Bool := match K.lookup C with
  | some ⟨.type "type", _, .cls cd, sl⟩ => (match cd.mro, sl.toList with
    | .ref C' :: bm, [_, _, _, _, some (.builtin n), _] => C' == C && n == "ValueError.__new__" && !cd.hasDel && cd.hasDict && PySem.HandSPX.refsVE bm
    | _, _ => false)
  | _ => false
theorem exCls_ok {K : PySem.W.Frag} {C : Addr} (q : exClsB K C = true) : ∃ nm q N bs bm sn sub ab col dd k0 k1 k2 k3 k5, K.lookup C = some (excClassObj nm q C N bs bm true sn sub ab col dd k0 k1 k2 k3 k5 "ValueError.__new__") ∧ PySem.HandSPX.refsVE bm = true := by
  unfold exClsB at q
  split at q
  · rename_i dd cd sl ho
    split at q
    · rename_i C' bm k0 k1 k2 k3 n k5 hm hs
      simp only [Bool.and_eq_true, beq_iff_eq, Bool.not_eq_true'] at q
      obtain ⟨⟨⟨⟨rfl, rfl⟩, hdel⟩, hdict⟩, ht⟩ := q
      obtain ⟨nm, bs, mro, ns, qn, hd, sn, sub, ab, col, del⟩ := cd
      dsimp only at hm hdel hdict
      subst hm hdel hdict
      have hsl : sl = #[k0, k1, k2, k3, some (.builtin "ValueError.__new__"), k5] := by
        obtain ⟨l⟩ := sl
        simp only at hs
        rw [hs]
      subst hsl
      exact ⟨nm, qn, ns, bs, bm, sn, sub, ab, col, dd, k0, k1, k2, k3, k5, ho, ht⟩
    · cases q
  · cases q
def exB (K : PySem.W.Frag) (x f : Str) : Bool :=
  exClsB K (He.ga K x) && (He.eqO (PySem.W.findIn K (.ref (He.ga K x)) "__setattr__") (some (some (.builtin "object.__setattr__"))) && (decide (PySem.W.typeIn K (.ref (He.ga K x)) = some (.type "type")) && (PySem.W.keepIn K (.ref (He.ga K x)) && (xfB K (He.ga K x) &&
  (He.eqO (PySem.W.findIn K (.ref (He.ga K x)) "__init__") (some (some (.ref (He.ma K (He.ga K x) "__init__")))) && (decide (PySem.W.typeIn K (.ref (He.ma K (He.ga K x) "__init__")) = some (.type "function")) && (He.eqO (PySem.W.findIn K (.ref (He.ga K x)) f) (some none) &&
  decide (PySem.W.exmOne K (.ref (He.ga K x)) (.ref (He.ga K x)) = some true))))))))
structure ExOk (K : PySem.W.Frag) (x f : Str) : Prop where
  T : OexC K (He.ga K x)
  X : XfC K (He.ga K x)
  init : PySem.W.findIn K (.ref (He.ga K x)) "__init__" = some (some (.ref (He.ma K (He.ga K x) "__init__")))
  tI : PySem.W.typeIn K (.ref (He.ma K (He.ga K x) "__init__")) = some (.type "function")
  no : PySem.W.findIn K (.ref (He.ga K x)) f = some none
  em : PySem.W.exmOne K (.ref (He.ga K x)) (.ref (He.ga K x)) = some true
theorem exB_ok {K : PySem.W.Frag} {x f : Str} (h : exB K x f = true) : ExOk K x f := by
  obtain ⟨h1, h⟩ := He.ba h
  obtain ⟨h2, h⟩ := He.ba h
  obtain ⟨h3, h⟩ := He.ba h
  obtain ⟨h4, h⟩ := He.ba h
  obtain ⟨h5, h⟩ := He.ba h
  obtain ⟨h6, h⟩ := He.ba h
  obtain ⟨h7, h⟩ := He.ba h
  obtain ⟨h8, h9⟩ := He.ba h
  have X := xfB_ok h5
  exact ⟨⟨exCls_ok h1, He.eqO_ok h2, X.exC, of_decide_eq_true h3, h4⟩, X, He.eqO_ok h6, of_decide_eq_true h7, He.eqO_ok h8, of_decide_eq_true h9⟩
/-- the i-th own class, of the name x; its methods; has it an own __eq__; xs: all the classes -/
structure ClD where
  i : Nat
  x : Str
  ms : List Str
  eq : Bool
  others : List Str
  tups : List (Str × List He.Dv)
  exs : List (Str × Str)
def ClD.ok0 (K : PySem.W.Frag) (d : ClD) : Bool :=
  (He.Fa.cls d.x).ok K && ((clsNames d.i).all (fun f => (He.Fa.noat d.x f).ok K) && ((He.Fa.mkr d.x).ok K && (d.ms.all (fun m => (He.Fa.meth d.x m).ok K) &&
  (He.eqO (PySem.W.findIn K (.ref (He.ga K d.x)) "__class__") (some (some (.builtin "object.__class__"))) && (decide (PySem.W.mroIn K (He.ga K d.x) (.type "object") = some true) &&
  (tyAsk.all (fun T => decide (PySem.W.kitOne K (.ref (He.ga K d.x)) (.type T) = some false)) && (tyAll.all (fun T => decide (PySem.W.kitOne K (.type T) (.ref (He.ga K d.x)) = some false)) &&
  ((!d.eq || eqOwn K (He.ga K d.x) (He.ma K (He.ga K d.x) "__eq__")) && d.others.all (fun y => decide (PySem.W.kitOne K (.ref (He.ga K d.x)) (.ref (He.ga K y)) = some false))))))))))
/-- .. and the module's tuples, told with a class -/
def ClD.ok (K : PySem.W.Frag) (d : ClD) : Bool := d.ok0 K && ((d.tups.all fun t => He.tupB K t.1 t.2) && d.exs.all fun t => exB K t.1 t.2)
/-- of every class -/
def clAll (K : PySem.W.Frag) : Bool := He.eqO (PySem.W.specialIn K (.builtin "object.__class__") "__get__") (some (some (.builtin "getset_descriptor.__get__"))) && decide (PySem.W.takesIn K (.builtin "object.__class__") = some true)
abbrev AlM : Type := Bool × He.AlD × List He.FnW
def obsM (fa : List He.Fa) (fn : List He.DefD) (pr : List PrD) (cl : List ClD) (K : PySem.W.Frag) : AlM := (clAll K && (cl.all (fun d => d.ok K) && pr.all (fun d => d.ok K)), He.obsD fa fn K, pr.map fun d => fnWa K (pgA K d))
def valM (fn : List He.DefD) (pr : List PrD) : AlM := (true, He.valD fn, pr.map PrD.val)
def SaysM (fa : List He.Fa) (fn : List He.DefD) (pr : List PrD) (cl : List ClD) (K : PySem.W.Frag) : Prop := obsM fa fn pr cl K = valM fn pr
/-- all that is reached from the module's names: n turns, those met as a bit mask -/
def bmGo (g : Addr → Option Obj) : Nat → Nat → List Addr → List Addr → List Addr
  | 0, _, _, acc => acc
  | n + 1, mask, todo, acc => match todo with
    | [] => acc
    | a :: r => if Nat.land (Nat.shiftRight mask a) 1 = 1 then bmGo g n mask r acc else match g a with
      | none => bmGo g n mask r acc
      | some o => bmGo g n (Nat.lor mask (Nat.shiftLeft 1 a)) (r ++ He.refsD o) (a :: acc)
def obsMG (n : Nat) (fa : List He.Fa) (fn : List He.DefD) (pr : List PrD) (cl : List ClD) (g : Addr → Option Obj) : AlM := obsM fa fn pr cl (He.frG g (bmGo g (n * 20000) 0 [mainGlobals] []).reverse)
def hookM (n : Nat) (fa : List He.Fa) (fn : List He.DefD) (pr : List PrD) (cl : List ClD) : PySem.W.Hook where
  α := AlM
  obs := fun s => obsMG n fa fn pr cl s.heap.get?
  val := fun _ => valM fn pr
  says := fun _ h => ∃ K : PySem.W.Frag, K.In h ∧ SaysM fa fn pr cl K
  of := fun _ _ e => ⟨_, He.frG_in, e⟩
  keeps := fun _ _ _ ⟨K, hK, c⟩ k => ⟨K, PySem.W.Frag.In.keeps hK k, c⟩
theorem obsMG_eq {n : Nat} {fa : List He.Fa} {fn : List He.DefD} {pr : List PrD} {cl : List ClD} {g : Addr → Option Obj} {s : Shared} (h : ∀ a, g a = s.heap.get? a) : obsMG n fa fn pr cl g = (hookM n fa fn pr cl).obs s := by
  have e : g = s.heap.get? := funext h
  rw [e] <;> rfl
/-- what is known of one own class -/
structure ClsOk (K : PySem.W.Frag) (i : Nat) (x : Str) (ms : List Str) (others : List Str) : Prop where
  obj : ObjC K (He.ga K x)
  noat : ∀ f ∈ clsNames i, NoAttr K (He.ga K x) f
  mkr : Mk K (He.ga K x) (He.ma K (He.ga K x) "__init__")
  meth : ∀ m ∈ ms, Meth K (He.ga K x) m (He.ma K (He.ga K x) m)
  ask : ∀ T ∈ tyAsk, PySem.W.kitOne K (.ref (He.ga K x)) (.type T) = some false
  all : ∀ T ∈ tyAll, PySem.W.kitOne K (.type T) (.ref (He.ga K x)) = some false
  oth : ∀ y ∈ others, PySem.W.kitOne K (.ref (He.ga K x)) (.ref (He.ga K y)) = some false
theorem ClD.get {K : PySem.W.Frag} {d : ClD} (h0 : clAll K = true) (c : d.ok K = true) : ClsOk K d.i d.x d.ms d.others ∧ (d.eq = true → eqOwn K (He.ga K d.x) (He.ma K (He.ga K d.x) "__eq__") = true) := by
  obtain ⟨a1, a2⟩ := He.ba h0
  obtain ⟨c, _⟩ := He.ba c
  obtain ⟨c1, c⟩ := He.ba c
  obtain ⟨c2, c⟩ := He.ba c
  obtain ⟨c3, c⟩ := He.ba c
  obtain ⟨c4, c⟩ := He.ba c
  obtain ⟨c5, c⟩ := He.ba c
  obtain ⟨c6, c⟩ := He.ba c
  obtain ⟨c7, c⟩ := He.ba c
  obtain ⟨c8, c⟩ := He.ba c
  obtain ⟨c9, c10⟩ := He.ba c
  obtain ⟨m1, m⟩ := He.ba c3
  obtain ⟨m2, m⟩ := He.ba m
  obtain ⟨m3, m4⟩ := He.ba m
  refine ⟨⟨⟨He.cls_ok c1, He.eqO_ok c5, He.eqO_ok a1, of_decide_eq_true a2, of_decide_eq_true c6⟩, fun f hf => He.noat_ok (List.all_eq_true.mp c2 f hf), ⟨m1, He.eqO_ok m2, m3, m4⟩, fun m hm => He.meth_ok (List.all_eq_true.mp c4 m hm),
    fun T hT => of_decide_eq_true (List.all_eq_true.mp c7 T hT), fun T hT => of_decide_eq_true (List.all_eq_true.mp c8 T hT), fun y hy => of_decide_eq_true (List.all_eq_true.mp c10 y hy)⟩, fun he => ?_⟩
  rw [he] at c9
  exact c9
section
variable {fa : List He.Fa} {fn : List He.DefD} {pr : List PrD} {cl : List ClD} {K : PySem.W.Frag}
theorem SaysM.d (c : SaysM fa fn pr cl K) : He.SaysD fa fn K := congrArg (fun z : AlM => z.2.1) c
theorem SaysM.b (c : SaysM fa fn pr cl K) : (clAll K && (cl.all (fun d => d.ok K) && pr.all (fun d => d.ok K))) = true := congrArg (fun z : AlM => z.1) c
theorem SaysM.cls (c : SaysM fa fn pr cl K) (i : Nat) {d : ClD} (h : cl[i]? = some d := by rfl) : ClsOk K d.i d.x d.ms d.others ∧ (d.eq = true → eqOwn K (He.ga K d.x) (He.ma K (He.ga K d.x) "__eq__") = true) := by
  obtain ⟨c1, c2⟩ := He.ba c.b
  exact ClD.get c1 (List.all_eq_true.mp (He.ba c2).1 d (List.mem_of_getElem? h))
theorem SaysM.tup (c : SaysM fa fn pr cl K) (i : Nat) {d : ClD} {x : Str} {vs : List He.Dv} (hm : (x, vs) ∈ d.tups) (h : cl[i]? = some d := by rfl) (H : Hp) : SqT K H (He.ga K x) (vs.map (He.Dv.v K)) := by
  obtain ⟨b1, b2⟩ := He.ba c.b
  obtain ⟨b3, _⟩ := He.ba b2
  have h1 := List.all_eq_true.mp b3 d (List.mem_of_getElem? h)
  exact He.tupB_ok (List.all_eq_true.mp (He.ba (He.ba h1).2).1 (x, vs) hm) H
theorem SaysM.exc (c : SaysM fa fn pr cl K) (i : Nat) {d : ClD} {x f : Str} (hm : (x, f) ∈ d.exs) (h : cl[i]? = some d := by rfl) : ExOk K x f := by
  obtain ⟨b1, b2⟩ := He.ba c.b
  obtain ⟨b3, _⟩ := He.ba b2
  have h1 := List.all_eq_true.mp b3 d (List.mem_of_getElem? h)
  exact exB_ok (List.all_eq_true.mp (He.ba (He.ba h1).2).2 (x, f) hm)
theorem SaysM.prop (c : SaysM fa fn pr cl K) (i : Nat) {d : PrD} (h : pr[i]? = some d := by rfl) : (∃ fd, FunD K d.prop d.qual d.params d.body d.scope [] [] (pgA K d) fd) ∧ PropOf K (He.ga K d.cls) d.prop (He.ma K (He.ga K d.cls) d.prop) (pgA K d) := by
  obtain ⟨c1, c2⟩ := He.ba c.b
  have e : (pr.map fun d => fnWa K (pgA K d)) = pr.map PrD.val := congrArg (fun z : AlM => z.2.2) c
  have e2 : (pr.map fun d => fnWa K (pgA K d))[i]? = (pr.map PrD.val)[i]? := by rw [e]
  rw [List.getElem?_map, List.getElem?_map, h] at e2
  exact PrD.get (Option.some.inj e2) (List.all_eq_true.mp (He.ba c2).2 d (List.mem_of_getElem? h))
end
/-! ### isinstance's answers -/
theorem kit_b {K : PySem.W.Frag} {ct : Ct} {ncl : Nat} {T : String} (hT : T ∈ tyAsk) (h : ∀ c, c < ncl → PySem.W.kitOne K (.ref (ct c)) (.type T) = some false) : ∀ d t, tyD ncl d = some t → PySem.W.kitOne K (tyV' ct t) (.type T) = some (isB T t) := by
  intro d t ht
  have hT : T = "int" ∨ T = "bool" ∨ T = "str" ∨ T = "list" ∨ T = "tuple" ∨ T = "dict" := by simpa [tyAsk] using hT
  have hobj : ∀ c, t = .obj c → c < ncl := fun c e => by
    cases d with
    | obj c' ds =>
      have ht : (if c' < ncl then some (MM.TyK.obj c') else none) = some t := ht
      split at ht
      · cases ht; cases e; assumption
      · cases ht
    | non => cases ht; cases e
    | bl b => cases ht; cases e
    | int b => cases ht; cases e
    | str b => cases ht; cases e
    | lst b => cases ht; cases e
    | tup b => cases ht; cases e
    | dic b => cases ht; cases e
    | scr b => cases ht
    | rng _ _ => cases ht
    | thk _ => cases ht
    | lam _ => cases ht
  cases t with
  | obj c => exact h c (hobj c rfl)
  | non => rcases hT with rfl | rfl | rfl | rfl | rfl | rfl <;> exact kit_ty (by decide +kernel)
  | bl => rcases hT with rfl | rfl | rfl | rfl | rfl | rfl <;> exact kit_ty (by decide +kernel)
  | int => rcases hT with rfl | rfl | rfl | rfl | rfl | rfl <;> exact kit_ty (by decide +kernel)
  | str => rcases hT with rfl | rfl | rfl | rfl | rfl | rfl <;> exact kit_ty (by decide +kernel)
  | lst => rcases hT with rfl | rfl | rfl | rfl | rfl | rfl <;> exact kit_ty (by decide +kernel)
  | tup => rcases hT with rfl | rfl | rfl | rfl | rfl | rfl <;> exact kit_ty (by decide +kernel)
  | dic => rcases hT with rfl | rfl | rfl | rfl | rfl | rfl <;> exact kit_ty (by decide +kernel)
theorem kit_o {K : PySem.W.Frag} {ct : Ct} {ncl c : Nat} (h : ∀ T ∈ tyAll, PySem.W.kitOne K (.type T) (.ref (ct c)) = some false) (ho : ∀ c', c' < ncl → c' ≠ c → PySem.W.kitOne K (.ref (ct c')) (.ref (ct c)) = some false) :
    ∀ d t, tyD ncl d = some t → PySem.W.kitOne K (tyV' ct t) (.ref (ct c)) = some (isO c t) := by
  intro d t ht
  cases d with
  | obj c' ds =>
    have ht : (if c' < ncl then some (MM.TyK.obj c') else none) = some t := ht
    split at ht
    · rename_i hc
      cases ht
      by_cases e : c' = c
      · subst e
        show PySem.W.kitOne K (.ref (ct c')) (.ref (ct c')) = some (c' == c')
        unfold PySem.W.kitOne
        rw [if_pos (by simp)]
        simp
      · show PySem.W.kitOne K (.ref (ct c')) (.ref (ct c)) = some (c' == c)
        rw [ho c' hc e, beq_eq_false_iff_ne.mpr e]
    · cases ht
  | non => cases ht; exact h _ (by decide)
  | bl b => cases ht; exact h _ (by decide)
  | int b => cases ht; exact h _ (by decide)
  | str b => cases ht; exact h _ (by decide)
  | lst b => cases ht; exact h _ (by decide)
  | tup b => cases ht; exact h _ (by decide)
  | dic b => cases ht; exact h _ (by decide)
  | scr b => cases ht
  | rng _ _ => cases ht
  | thk _ => cases ht
  | lam _ => cases ht
theorem kit_2 {K : PySem.W.Frag} {t c1 c2 : Value} {b1 b2 : Bool} (h1 : PySem.W.kitOne K t c1 = some b1) (h2 : PySem.W.kitOne K t c2 = some b2) : PySem.W.kitAny K t [c1, c2] = some (b1 || b2) := by
  refine kitAny_cons h1 (fun e => ?_) (fun e => by rw [e]; rfl)
  subst e
  refine kitAny_cons h2 (fun e => ?_) (fun e => by rw [e]; rfl)
  subst e
  rfl
/-! ### the law's end -/
theorem cx_none {P : Program} {w : World} {H : Hp} {s : Shared} {e : Value} {s' : Shared} (h : L2.CX P w [] H s (fun _ _ _ => False) e s') : False := by
  obtain ⟨_, _, _, _, _, _, _, _, _, _, _, _, z⟩ := h
  exact z
theorem walkM {l : PySem.W.OpenLaw} {n k : Nat} {q : Program} {loose : List Str} {XP : (Str → Option Value) → Heap → Prop} {YP : World → Heap → Prop} {d : DefRec} {x : Str} {F : List EV → Out}
    (hn : l.most = some n) (hn2 : n ≤ sizeLine) (hdf : d.params.defaults = []) (hr : Room k callerA)
    (hF : ∀ (w : World) (mg : Str → Option Value) (fa : Addr) (h : Heap), YP w h → h.Ns mainGlobals mg → mg d.name = some (.ref fa) →
      ∃ (K : PySem.W.Frag) (ct : Ct) (fd : FuncData), K.In h ∧ ct.T = [] ∧ (∀ (s : Shared) (u : Value), BindsTo s fd ⟨[u], []⟩ [(x, u)]) ∧ ∀ base : Heap, K.In base → base.Ns mainGlobals mg → FnOk l.prog w K mg base (L2.CX l.prog w) k fa fd [x] (spM ⟨K, ct⟩ F))
    (law : ∀ ns : List Int, ns.length ≤ n → (∀ i ∈ ns, Builtin.Int.intBits i ≤ 1048576) → ∃ ps, F [.d (.scr ns)] = .ret (.d (.bl true)) ps) :
    PySem.W.WalkO q loose XP YP l.row.toRowW d [] (fun f vs => PySem.call f vs) := by
  refine Att.attach_callB hn hdf fun w s₀ s₁ mg mb fa o pm cd doc a vs ns G Y ho hd hcd hmg hobj hints hlen hbits hg => ?_
  obtain ⟨K, ct, fd, KX, hT, hb, hF⟩ := hF w mg fa _ Y G.T.g hmg
  refine law_call KX G.T.g G.T.b G.T.builtins G.T.nolimit hg hobj hints (Nat.le_trans hlen hn2) hr hF hb (fun H hO hS => ?_) fun H e s' h => cx_none h
  obtain ⟨ps, hl⟩ := law ns hlen hbits
  refine ⟨H, [.d (.scr ns)], Same.refl _, ⟨fun p hp => (by rw [show (Kc.mk K ct).ct.T = [] from hT] at hp; simp at hp), rfl, fun i y hy => ?_, fun i j b h _ => ?_⟩, ?_⟩
  · cases i with
    | zero => cases hy; exact ⟨.ref a, rfl, .scr hS⟩
    | succ i => simp at hy
  · obtain ⟨⟨y, hy⟩, _⟩ := pinA_ok h
    cases i with
    | zero => simp at hy
    | succ i => simp at hy
  · rw [hl]
    intro G' H' v _ hv
    have hv : Rp ⟨K, ct⟩ G' v (.bl true) := hv
    cases hv
    rfl
end MM
end
section
set_option Elab.async false
set_option linter.all false
set_option autoImplicit false
set_option maxRecDepth 100000
set_option maxHeartbeats 4000000
namespace MM
open PySem PySem.Spec L2
theorem hu1 {k : Nat} {A : Around} (hr : Room k A) : A.units + 1 < cLine := by have := hr.un; omega
theorem pa_cls2 {X : Cx} {a b : Expr} {v1 v2 : V} (h1 : PE X a (tC v1)) (h2 : PE X b (tC v2)) (hs : starEach [a, b] X.env = (false, eval a X.env) :: starEach [b] X.env := by rfl) (hs2 : starEach [b] X.env = (false, eval b X.env) :: starEach [] X.env := by rfl) : PA X [a, b] (fun _ H Q => Q [v1, v2] H) := pa_cons h1 (pa_cons h2 pa_nil hs2) hs
theorem pg_nm {X : Cx} (i : Nat) {x : Str} {pos : Pos} (hN : X.N.Nodup) (hi : X.N[i]? = some x := by rfl) (hx : Loc X.env.scope x := by first | exact Or.inl rfl | exact Or.inr rfl) (hf : X.fn x = true ∨ X.env.scope.names.lookup x = some .local := by first | exact .inl rfl | exact .inr rfl) : PG X (.Name x pos) (gName i) := pg_name hN hi hx hf
section
variable {k : Kc} {W : WX} {c : Fr} {G H : Hp} {σ : L2.St} {e : Env} {Dn : Ends} {i j l : Nat} {fa fb fc : EM EV}
/-- two values are reckoned, then stored -/
theorem par2_core {R : V → V → Hp → Prop} (r : RepS k c G σ H e) (p : PostS k W c G Dn (sPar2 i j fa fb e))
    (hR : ∀ G2 H2 e2 e3 e4 v u va vb, RepS k c G2 σ H2 e2 → RpV k c G2 σ H2 e2 v va → RpV k c G2 σ H2 e2 u vb → (va.own = true → vb.own = true → u ≠ v) → pput i va e2 = some e3 → pput j vb e3 = some e4 → PostS k W c G2 Dn (.nx e4) → R v u H2) :
    TV k W fa σ H fun v H1 => TV k W fb σ H1 fun u H2 => R v u H2 := by
  refine ⟨c, G, e, r, (PostS.sb p).imp fun G1 H1 e1 va s1 r1 p1 v hv => ⟨hold c H1 v va, G1, e1, hold_in r1 hv, ?_⟩⟩
  have p1' : PostS k W c G1 Dn ((fb e1).sb fun y e2 => match pput i va e2 with
    | some e3 => (match pput j y e3 with
      | some e4 => .nx e4
      | none => .stuck)
    | none => .stuck) := p1
  cases h2 : fb e1 with
  | stuck => rw [h2] at p1'; exact p1'.elim
  | exc xx e2 =>
    rw [h2] at p1'
    intro G2 H2 cls dc s2 r2 hx2
    obtain ⟨r2', _, _⟩ := hold_out r1 hv s2 r2
    exact p1' G2 σ H2 cls dc s2 r2' hx2
  | ok vb e2 =>
    rw [h2] at p1'
    intro G2 H2 s2 r2 u hu
    obtain ⟨r2', hv2, hm⟩ := hold_out r1 hv s2 r2
    have p3 : PostS k W c G1 Dn (match pput i va e2 with
      | some e3 => (match pput j vb e3 with
        | some e4 => .nx e4
        | none => .stuck)
      | none => .stuck) := p1'
    split at p3
    · rename_i e3 h3
      split at p3
      · rename_i e4 h4
        exact hR G2 H2 e2 e3 e4 v u va vb r2' hv2 (hu.out hm) (hv_ne hu hm) h3 h4 (PostS.mono p3 s2)
      · exact p3.elim
    · exact p3.elim
/-- three of them -/
theorem par3_core {R : V → V → V → Hp → Prop} (r : RepS k c G σ H e) (p : PostS k W c G Dn (sPar3 i j l fa fb fc e))
    (hR : ∀ G2 H2 e2 e3 e4 e5 v u z va vb vc, RepS k c G2 σ H2 e2 → RpV k c G2 σ H2 e2 v va → RpV k c G2 σ H2 e2 u vb → RpV k c G2 σ H2 e2 z vc → (va.own = true → vb.own = true → u ≠ v) → (va.own = true → vc.own = true → z ≠ v) → (vb.own = true → vc.own = true → z ≠ u) →
      pput i va e2 = some e3 → pput j vb e3 = some e4 → pput l vc e4 = some e5 → PostS k W c G2 Dn (.nx e5) → R v u z H2) :
    TV k W fa σ H fun v H1 => TV k W fb σ H1 fun u H2 => TV k W fc σ H2 fun z H3 => R v u z H3 := by
  refine ⟨c, G, e, r, (PostS.sb p).imp fun G1 H1 e1 va s1 r1 p1 v hv => ⟨hold c H1 v va, G1, e1, hold_in r1 hv, ?_⟩⟩
  have p1' : PostS k W c G1 Dn ((fb e1).sb fun y e2 => (fc e2).sb fun z e3 => match pput i va e3 with
    | some e4 => (match pput j y e4 with
      | some e5 => (match pput l z e5 with
        | some e6 => .nx e6
        | none => .stuck)
      | none => .stuck)
    | none => .stuck) := p1
  cases h2 : fb e1 with
  | stuck => rw [h2] at p1'; exact p1'.elim
  | exc xx e2 =>
    rw [h2] at p1'
    intro G2 H2 cls dc s2 r2 hx2
    obtain ⟨r2', _, _⟩ := hold_out r1 hv s2 r2
    exact p1' G2 σ H2 cls dc s2 r2' hx2
  | ok vb e2 =>
    rw [h2] at p1'
    intro G2 H2 s2 r2 u hu
    refine ⟨hold (hold c H1 v va) H2 u vb, G2, e2, hold_in r2 hu, ?_⟩
    have p2' : PostS k W c G1 Dn ((fc e2).sb fun z e3 => match pput i va e3 with
      | some e4 => (match pput j vb e4 with
        | some e5 => (match pput l z e5 with
          | some e6 => .nx e6
          | none => .stuck)
        | none => .stuck)
      | none => .stuck) := p1'
    cases h3 : fc e2 with
    | stuck => rw [h3] at p2'; exact p2'.elim
    | exc xx e3 =>
      rw [h3] at p2'
      intro G3 H3 cls dc s3 r3 hx3
      obtain ⟨r3', _, _⟩ := hold_out r2 hu s3 r3
      obtain ⟨r3'', _, _⟩ := hold_out r1 hv (s2.trans s3) r3'
      exact p2' G3 σ H3 cls dc (s2.trans s3) r3'' hx3
    | ok vc e3 =>
      rw [h3] at p2'
      intro G3 H3 s3 r3 z hz
      obtain ⟨r3', hu3, hm2⟩ := hold_out r2 hu s3 r3
      obtain ⟨r3'', hv3, hm1⟩ := hold_out r1 hv (s2.trans s3) r3'
      have p3 : PostS k W c G1 Dn (match pput i va e3 with
        | some e4 => (match pput j vb e4 with
          | some e5 => (match pput l vc e5 with
            | some e6 => .nx e6
            | none => .stuck)
          | none => .stuck)
        | none => .stuck) := p2'
      have hz1 := hz.out hm2
      split at p3
      · rename_i e4 h4
        split at p3
        · rename_i e5 h5
          split at p3
          · rename_i e6 h6
            exact hR G3 H3 e3 e4 e5 e6 v u z va vb vc r3'' hv3 (hu3.out hm1) (hz1.out hm1) (hv_ne hu3 hm1) (hv_ne hz1 hm1) (hv_ne hz hm2) h4 h5 h6 (PostS.mono p3 (s2.trans s3))
          · exact p3.elim
        · exact p3.elim
      · exact p3.elim
theorem RpV.lay {v : V} {x : EV} {q : Addr} {o : HO} (h : RpV k c G σ H e v x) (hq : H q = none) : RpV k c G σ (upd H q o) e v x := by
  cases x with
  | d d => exact h
  | p y => exact h
  | m y =>
    obtain ⟨a, e1, ⟨m1, m2, o', m3, m4⟩, l⟩ := h
    exact ⟨a, e1, ⟨m1, m2, o', by rw [upd_ne (ne_of_none m3 hq)]; exact m3, m4⟩, l⟩
  | t _ _ => first | exact h2.elim | exact trivial | cases hw | exact hv.elim | exact h.elim | exact hx.elim | exact hu.elim | cases hy | cases h' | cases hd' | cases h2 | cases h1 | cases hd | cases h3 | cases h4
end
section
variable {X : Cx} {ct : Ct} {W : WX} {i j l : Nat} {x y z : Str} {a b c : Expr} {fa fb fc : EM EV} {px py pz pt pos : Pos} {kt k2 : Nat} {pt2 : Pos}
/-- by a tuple (a name is a cell) -/
theorem s_par2T (hc : X.calm = true) (hx : PG X (.Name x px) (gName i)) (hy : PG X (.Name y py) (gName j)) (ha : SV X ct W a fa) (hb : SV X ct W b fb)
    (hs : swapsWithSole [.Tuple [.Name x px, .Name y py] kt pt] (.Tuple [a, b] k2 pt2) pos.line X.env = pure false := by rfl)
    (hw : swappedStores [.Tuple [.Name x px, .Name y py] kt pt] (.Tuple [a, b] k2 pt2) X.env = pure none := by rfl)
    (h1 : starEach [a, b] X.env = (false, eval a X.env) :: starEach [b] X.env := by rfl) (h2 : starEach [b] X.env = (false, eval b X.env) :: starEach [] X.env := by rfl)
    (h3 : (assignEach [.Tuple [.Name x px, .Name y py] kt pt] X.env).map (·.2) = [assign (.Tuple [.Name x px, .Name y py] kt pt) X.env] := by rfl)
    (h4 : (assignEach [.Name x px, .Name y py] X.env).length = 2 := by rfl) (h5 : (assignEach [.Name x px, .Name y py] X.env).findIdx? (·.1) = none := by rfl)
    (h6 : (assignEach [.Name x px, .Name y py] X.env).map (·.2) = assign (.Name x px) X.env :: (assignEach [.Name y py] X.env).map (·.2) := by rfl) (h7 : (assignEach [.Name y py] X.env).map (·.2) = assign (.Name y py) X.env :: (assignEach [] X.env).map (·.2) := by rfl) :
    SS X ct W (.Assign [.Tuple [.Name x px, .Name y py] kt pt] (.Tuple [a, b] k2 pt2) pos) (sPar2 i j fa fb) :=
  PSw (ps_asg (pe_tup (pa_cons ha (pa_cons hb pa_nil h2) h1)) (pg_tup hc (pgs_cons hx (pgs_cons hy pgs_nil h7) h6) h4 h5) hs hw h3) fun Dn σ H q => by
  obtain ⟨c, G, e, r, p⟩ := q
  refine par2_core r p fun G2 H2 e2 e3 e4 v u va vb r2 hv hu ne g1 g2 pn => ⟨by rw [sizeLine_eq, List.length_cons, List.length_cons]; simp, fun q hq => ?_⟩
  have r3 := r2.layM (o := .tup [v, u]) hq
  obtain ⟨r4, k4⟩ := pput_ok r3 (hv.lay hq) g1
  obtain ⟨r5, _⟩ := pput_ok r4 (k4 vb u (hu.lay hq) ne) g2
  exact ⟨q, [v, u], rfl, .inl (.inl upd_same), rfl, v, [u], rfl, u, [], rfl, rfl, pn G2 _ _ (Same.refl _) r5⟩
theorem s_par3 (hc : X.calm = true) (hN : X.N.Nodup) (hi : X.N[i]? = some x) (hj : X.N[j]? = some y) (hl : X.N[l]? = some z) (hij : i ≠ j) (hil : i ≠ l) (hjl : j ≠ l)
    (hx : X.env.scope.names.lookup x = some .local) (hy : X.env.scope.names.lookup y = some .local) (hz : X.env.scope.names.lookup z = some .local) (ha : SV X ct W a fa) (hb : SV X ct W b fb) (hcc : SV X ct W c fc)
    (hw : swappedStores [.Tuple [.Name x px, .Name y py, .Name z pz] kt pt] (.Tuple [a, b, c] k2 pt2) X.env = pure (some [x, y, z]))
    (hs : swapsWithSole [.Tuple [.Name x px, .Name y py, .Name z pz] kt pt] (.Tuple [a, b, c] k2 pt2) pos.line X.env = pure false := by rfl)
    (h1 : starEach [a, b, c] X.env = (false, eval a X.env) :: starEach [b, c] X.env := by rfl) (h2 : starEach [b, c] X.env = (false, eval b X.env) :: starEach [c] X.env := by rfl) (h3 : starEach [c] X.env = (false, eval c X.env) :: starEach [] X.env := by rfl) :
    SS X ct W (.Assign [.Tuple [.Name x px, .Name y py, .Name z pz] kt pt] (.Tuple [a, b, c] k2 pt2) pos) (sPar3 i j l fa fb fc) :=
  PSw (ps_par3 hc hN hi hj hl hij hil hjl hx hy hz (pa_cons ha (pa_cons hb (pa_cons hcc pa_nil h3) h2) h1) hw hs) fun Dn σ H q => by
  obtain ⟨c, G, e, r, p⟩ := q
  refine par3_core r p fun G2 H2 e2 e3 e4 e5 v u w va vb vc r2 hv hu hz n1 n2 n3 g1 g2 g3 pn => ?_
  obtain ⟨r3, k3⟩ := pput_ok r2 hv g1
  obtain ⟨r4, k4⟩ := pput_ok r3 (k3 vb u hu n1) g2
  obtain ⟨r5, _⟩ := pput_ok r4 (k4 vc w (k3 vc w hz n2) n3) g3
  exact ⟨v, u, w, rfl, pn G2 _ _ (Same.refl _) r5⟩
theorem s_par3T (hc : X.calm = true) (hx : PG X (.Name x px) (gName i)) (hy : PG X (.Name y py) (gName j)) (hz : PG X (.Name z pz) (gName l)) (ha : SV X ct W a fa) (hb : SV X ct W b fb) (hcc : SV X ct W c fc)
    (hs : swapsWithSole [.Tuple [.Name x px, .Name y py, .Name z pz] kt pt] (.Tuple [a, b, c] k2 pt2) pos.line X.env = pure false := by rfl)
    (hw : swappedStores [.Tuple [.Name x px, .Name y py, .Name z pz] kt pt] (.Tuple [a, b, c] k2 pt2) X.env = pure none := by rfl)
    (h1 : starEach [a, b, c] X.env = (false, eval a X.env) :: starEach [b, c] X.env := by rfl) (h2 : starEach [b, c] X.env = (false, eval b X.env) :: starEach [c] X.env := by rfl) (h3 : starEach [c] X.env = (false, eval c X.env) :: starEach [] X.env := by rfl)
    (h4 : (assignEach [.Tuple [.Name x px, .Name y py, .Name z pz] kt pt] X.env).map (·.2) = [assign (.Tuple [.Name x px, .Name y py, .Name z pz] kt pt) X.env] := by rfl)
    (h5 : (assignEach [.Name x px, .Name y py, .Name z pz] X.env).length = 3 := by rfl) (h6 : (assignEach [.Name x px, .Name y py, .Name z pz] X.env).findIdx? (·.1) = none := by rfl)
    (h7 : (assignEach [.Name x px, .Name y py, .Name z pz] X.env).map (·.2) = assign (.Name x px) X.env :: (assignEach [.Name y py, .Name z pz] X.env).map (·.2) := by rfl)
    (h8 : (assignEach [.Name y py, .Name z pz] X.env).map (·.2) = assign (.Name y py) X.env :: (assignEach [.Name z pz] X.env).map (·.2) := by rfl) (h9 : (assignEach [.Name z pz] X.env).map (·.2) = assign (.Name z pz) X.env :: (assignEach [] X.env).map (·.2) := by rfl) :
    SS X ct W (.Assign [.Tuple [.Name x px, .Name y py, .Name z pz] kt pt] (.Tuple [a, b, c] k2 pt2) pos) (sPar3 i j l fa fb fc) :=
  PSw (ps_asg (pe_tup (pa_cons ha (pa_cons hb (pa_cons hcc pa_nil h3) h2) h1)) (pg_tup hc (pgs_cons hx (pgs_cons hy (pgs_cons hz pgs_nil h9) h8) h7) h5 h6) hs hw h4) fun Dn σ H q => by
  obtain ⟨c, G, e, r, p⟩ := q
  refine par3_core r p fun G2 H2 e2 e3 e4 e5 v u w va vb vc r2 hv hu hz n1 n2 n3 g1 g2 g3 pn => ⟨by rw [sizeLine_eq, List.length_cons, List.length_cons]; simp, fun q hq => ?_⟩
  have r3 := r2.layM (o := .tup [v, u, w]) hq
  obtain ⟨r4, k4⟩ := pput_ok r3 (hv.lay hq) g1
  obtain ⟨r5, k5⟩ := pput_ok r4 (k4 vb u (hu.lay hq) n1) g2
  obtain ⟨r6, _⟩ := pput_ok r5 (k5 vc w (k4 vc w (hz.lay hq) n2) n3) g3
  exact ⟨q, [v, u, w], rfl, .inl (.inl upd_same), rfl, v, [u, w], rfl, u, [w], rfl, w, [], rfl, rfl, pn G2 _ _ (Same.refl _) r6⟩
end
end MM
end
section
set_option Elab.async false
set_option linter.all false
set_option autoImplicit false
set_option maxRecDepth 100000
set_option maxHeartbeats 4000000
namespace MM
open PySem PySem.Spec L2
/-! ### evaluation: simp lemmas -/
def isP : Option EV → Bool
  | some (.p _) => true
  | _ => false
@[simp] theorem isP_none : isP none = false := rfl
@[simp] theorem isP_d {d : D} : isP (some (.d d)) = false := rfl
@[simp] theorem isP_m {d : MV} : isP (some (.m d)) = false := rfl
@[simp] theorem isP_p {d : MV} : isP (some (.p d)) = true := rfl
section
variable {α β : Type} {a : α} {e : Env} {x : EV} {xx : Exn} {d d' : D}
@[simp] theorem bind_ok {f : α → Env → Res β} : (Res.ok a e).bind f = f a e := rfl
@[simp] theorem bind_exc {f : α → Env → Res β} : (Res.exc xx e).bind f = .exc xx e := rfl
@[simp] theorem bind_stuck {f : α → Env → Res β} : (Res.stuck : Res α).bind f = .stuck := rfl
@[simp] theorem sb_ok {f : α → Env → SRes} : (Res.ok a e).sb f = f a e := rfl
@[simp] theorem sb_exc {f : α → Env → SRes} : (Res.exc xx e : Res α).sb f = .exc xx e := rfl
@[simp] theorem sb_stuck {f : α → Env → SRes} : (Res.stuck : Res α).sb f = .stuck := rfl
@[simp] theorem sbind_nx {f : SM} : (SRes.nx e).bind f = f e := rfl
@[simp] theorem sbind_rt {f : SM} : (SRes.rt x e).bind f = .rt x e := rfl
@[simp] theorem sbind_bk {f : SM} : (SRes.bk e).bind f = .bk e := rfl
@[simp] theorem sbind_ct {f : SM} : (SRes.ct e).bind f = .ct e := rfl
@[simp] theorem sbind_exc {f : SM} : (SRes.exc xx e).bind f = .exc xx e := rfl
@[simp] theorem sbind_stuck {f : SM} : SRes.stuck.bind f = .stuck := rfl
@[simp] theorem cC_ev : cC d e = .ok d e := rfl
@[simp] theorem kN_ev {i : Nat} : kN i e = (match e[i]? with
  | some (some _) => .ok (.slot i) e
  | _ => .stuck) := rfl
@[simp] theorem kE_ev {f : EM D} : kE f e = (f e).bind fun d e1 => .ok (.val d) e1 := rfl
@[simp] theorem vD_ev {f : EM D} : vD f e = (f e).bind fun d e1 => .ok (.d d) e1 := rfl
@[simp] theorem cN_ev {i : Nat} : cN i e = (match e[i]? with
  | some (some (.d x)) => .ok x e
  | some (some (.m x)) => (match x.frz with
    | some d => .ok d (e.set i (some (.d d)))
    | none => .stuck)
  | _ => .stuck) := rfl
@[simp] theorem cF_ev {f : EM EV} : cF f e = (f e).bind fun x e1 => match x.rd with
  | some d => .ok d e1
  | none => .stuck := rfl
@[simp] theorem rd_d : (EV.d d).rd = some d := rfl
@[simp] theorem rd_m {y : MV} : (EV.m y).rd = y.frz := rfl
@[simp] theorem rd_p {y : MV} : (EV.p y).rd = y.frz := rfl
@[simp] theorem frz_lst {xs : List D} : (MV.lst xs).frz = some (.lst xs) := rfl
@[simp] theorem frz_dic {ks : List Key} {xs : List D} : (MV.dic ks xs).frz = some (.dic ks xs) := rfl
@[simp] theorem frz_obj {c : Nat} {xs : List D} : (MV.obj c (clsNames c) xs).frz = some (.obj c xs) := by
  show (if clsNames c = clsNames c then _ else _) = _
  rw [if_pos rfl]
@[simp] theorem rdK_val : rdK e (.val d) = some d := rfl
@[simp] theorem rdK_slot {i : Nat} : rdK e (.slot i) = (match e[i]? with
  | some (some x) => x.rd
  | _ => none) := rfl
@[simp] theorem rdKs_nil : rdKs e [] = some [] := rfl
@[simp] theorem rdKs_cons {t : Tk} {ts : List Tk} : rdKs e (t :: ts) = (match rdK e t, rdKs e ts with
  | some d, some ds => some (d :: ds)
  | _, _ => none) := rfl
@[simp] theorem resV_some : resV (some x) e = .ok x e := rfl
@[simp] theorem resB_some {b : Bool} : resB (some b) e = .ok b e := rfl
@[simp] theorem vBin_ev {g : D → D → Option EV} {fa fb : EM Tk} : vBin g fa fb e = (fa e).bind fun t1 e1 => (fb e1).bind fun t2 e2 => match rdK e2 t1, rdK e2 t2 with
  | some a, some b => resV (g a b) e2
  | _, _ => .stuck := rfl
@[simp] theorem tCmpF_ev {g : D → D → Option Bool} {fa fb : EM Tk} : tCmpF g fa fb e = (fa e).bind fun t1 e1 => (fb e1).bind fun t2 e2 => match rdK e2 t1, rdK e2 t2 with
  | some a, some b => resB (g a b) e2
  | _, _ => .stuck := rfl
@[simp] theorem cB_ev {f : EM Bool} : cB f e = (f e).bind fun b e1 => .ok (.bl b) e1 := rfl
@[simp] theorem gI_ev {f : Int → Int → Int} {i j : Int} : gI f (.int i) (.int j) = some (.d (.int (f i j))) := rfl
@[simp] theorem gIC_ev {C : Int → Int → Prop} [∀ i j, Decidable (C i j)] {f : Int → Int → Int} {i j : Int} : gIC C f (.int i) (.int j) = if C i j then some (.d (.int (f i j))) else none := rfl
@[simp] theorem gAdd_int {i j : Int} : gAdd (.int i) (.int j) = some (.d (.int (i + j))) := rfl
@[simp] theorem gAdd_lst {xs ys : List D} : gAdd (.lst xs) (.lst ys) = if xs.length + ys.length ≤ LIM then some (.m (.lst (xs ++ ys))) else none := rfl
@[simp] theorem gMul_int {i j : Int} : gMul (.int i) (.int j) = if CMulW i j then some (.d (.int (i * j))) else none := rfl
@[simp] theorem gMul_lst {xs : List D} {j : Int} : gMul (.lst xs) (.int j) = if j ≤ 1000000 ∧ -1000000 ≤ j ∧ xs.length * j.toNat ≤ LIM then some (.m (.lst (List.replicate j.toNat xs).flatten)) else none := rfl
@[simp] theorem gCmpI_ev {f : Int → Int → Bool} {i j : Int} : gCmpI f (.int i) (.int j) = some (f i j) := rfl
@[simp] theorem tVal_ev {f : EM D} : tVal f e = (f e).bind fun d e1 => resB d.bool? e1 := rfl
@[simp] theorem bool?_bl {b : Bool} : (D.bl b).bool? = some b := rfl
@[simp] theorem tTru_ev {f : EM Tk} : tTru f e = (f e).bind fun t e1 => match rdK e1 t with
  | some d => resB d.tru e1
  | none => .stuck := rfl
@[simp] theorem tru_bl {b : Bool} : (D.bl b).tru = some b := rfl
@[simp] theorem tru_int {i : Int} : (D.int i).tru = some (i != 0) := rfl
@[simp] theorem tru_lst {xs : List D} : (D.lst xs).tru = some (!xs.isEmpty) := rfl
@[simp] theorem tAndF_ev {f g : EM Bool} : tAndF f g e = (f e).bind fun b e1 => if b = true then g e1 else .ok false e1 := rfl
@[simp] theorem tOrF_ev {f g : EM Bool} : tOrF f g e = (f e).bind fun b e1 => if b = true then .ok true e1 else g e1 := rfl
@[simp] theorem tNotF_ev {f : EM Bool} : tNotF f e = (f e).bind fun b e1 => .ok (!b) e1 := rfl
@[simp] theorem cIf_ev {t : EM Bool} {f g : EM D} : cIf t f g e = (t e).bind fun b e1 => if b = true then f e1 else g e1 := rfl
@[simp] theorem vIf_ev {t : EM Bool} {f g : EM EV} : vIf t f g e = (t e).bind fun b e1 => if b = true then f e1 else g e1 := rfl
@[simp] theorem cUn_ev {g : D → Option D} {f : EM Tk} : cUn g f e = (f e).bind fun t e1 => match rdK e1 t with
  | some d => (match g d with
    | some z => .ok z e1
    | none => .stuck)
  | none => .stuck := rfl
@[simp] theorem gNeg_int {i : Int} : gNeg (.int i) = some (.int (-i)) := rfl
@[simp] theorem gFld_obj {c i : Nat} {xs : List D} : gFld c i (.obj c xs) = xs[i]? := by
  show (if c = c then _ else _) = _
  rw [if_pos rfl]
@[simp] theorem cBin_ev {g : D → D → Option D} {fa fb : EM Tk} : cBin g fa fb e = (fa e).bind fun t1 e1 => (fb e1).bind fun t2 e2 => match rdK e2 t1, rdK e2 t2 with
  | some a, some b => (match g a b with
    | some z => .ok z e2
    | none => .stuck)
  | _, _ => .stuck := rfl
@[simp] theorem gIxA_lst {xs : List D} {i : Int} : gIxA (.lst xs) (.int i) = atI xs i := rfl
@[simp] theorem gIxA_tup {xs : List D} {i : Int} : gIxA (.tup xs) (.int i) = atI xs i := rfl
@[simp] theorem gIxA_scr {xs : List Int} {i : Int} : gIxA (.scr xs) (.int i) = (atI xs i).map D.int := rfl
@[simp] theorem gIxA_dic {ks : List Key} {ds : List D} {i : Int} : gIxA (.dic ks ds) (.int i) = valD ks ds (.inl i) := rfl
@[simp] theorem aNil_ev : aNil e = .ok [] e := rfl
@[simp] theorem aCons_ev {f : EM Tk} {g : EM (List Tk)} : aCons f g e = (f e).bind fun t e1 => (g e1).bind fun ts e2 => .ok (t :: ts) e2 := rfl
@[simp] theorem vals_nil : vals [] = some [] := rfl
@[simp] theorem vals_cons {ts : List Tk} : vals (.val d :: ts) = (vals ts).map (d :: ·) := rfl
@[simp] theorem cTup_ev {f : EM (List Tk)} : cTup f e = (f e).bind fun ts e1 => match vals ts with
  | some ds => if ds.length ≤ LIM then .ok (.tup ds) e1 else .stuck
  | none => .stuck := rfl
@[simp] theorem vLst_ev {f : EM (List Tk)} : vLst f e = (f e).bind fun ts e1 => match vals ts with
  | some ds => if ds.length ≤ LIM then .ok (.m (.lst ds)) e1 else .stuck
  | none => .stuck := rfl
@[simp] theorem oNone_ev : oNone e = .ok none e := rfl
@[simp] theorem oSome_ev {f : EM Tk} : oSome f e = (f e).bind fun t e1 => match rdK e1 t with
  | some (.int i) => .ok (some i) e1
  | _ => .stuck := rfl
@[simp] theorem vSl_ev {f : EM Tk} {fl fh : EO} : vSl f fl fh e = (f e).bind fun t e1 => (fl e1).bind fun lo e2 => (fh e2).bind fun hi e3 => match rdK e3 t with
  | some d => resV (gSl d lo hi) e3
  | none => .stuck := rfl
@[simp] theorem gSl_lst {xs : List D} {lo hi : Option Int} : gSl (.lst xs) lo hi = some (.m (.lst (cutD xs lo hi))) := rfl
@[simp] theorem gSl_tup {xs : List D} {lo hi : Option Int} : gSl (.tup xs) lo hi = some (.d (.tup (cutD xs lo hi))) := rfl
@[simp] theorem vCallB_ev {g : List D → Option EV} {f : EM (List Tk)} : vCallB g f e = (f e).bind fun ts e1 => match rdKs e1 ts with
  | some ds => resV (g ds) e1
  | none => .stuck := rfl
@[simp] theorem gF1_ev {f : D → Option EV} : gF1 f [d] = f d := rfl
@[simp] theorem gF2_ev {f : D → D → Option EV} : gF2 f [d, d'] = f d d' := rfl
@[simp] theorem fLen_lst {xs : List D} : fLen (.lst xs) = some (.d (.int xs.length)) := rfl
@[simp] theorem fLen_tup {xs : List D} : fLen (.tup xs) = some (.d (.int xs.length)) := rfl
@[simp] theorem fLen_scr {xs : List Int} : fLen (.scr xs) = some (.d (.int xs.length)) := rfl
@[simp] theorem fAbs_int {i : Int} : fAbs (.int i) = some (.d (.int (if i < 0 then -i else i))) := rfl
@[simp] theorem fInt_int {i : Int} : fInt (.int i) = some (.d (.int i)) := rfl
@[simp] theorem fMax2_int {i j : Int} : fMax2 (.int i) (.int j) = some (.d (.int (if j > i then j else i))) := rfl
@[simp] theorem fMin2_int {i j : Int} : fMin2 (.int i) (.int j) = some (.d (.int (if j < i then j else i))) := rfl
@[simp] theorem fDivmod_int {i j : Int} : fDivmod (.int i) (.int j) = if 0 < j ∧ j < 1073741824 then some (.d (.tup [.int (i / j), .int (i % j)])) else none := rfl
@[simp] theorem fList_lst {xs : List D} : fList (.lst xs) = some (.m (.lst xs)) := rfl
@[simp] theorem fList_tup {xs : List D} : fList (.tup xs) = some (.m (.lst xs)) := rfl
@[simp] theorem fTuple_lst {xs : List D} : fTuple (.lst xs) = some (.d (.tup xs)) := rfl
@[simp] theorem fTuple_tup {xs : List D} : fTuple (.tup xs) = some (.d (.tup xs)) := rfl
@[simp] theorem fSum_ints {ns : List Int} : fSum (.lst (ns.map D.int)) = some (.d (.int ns.sum)) := by
  show (ints? (ns.map D.int)).map _ = _
  rw [ints?_map]; rfl
@[simp] theorem fAny_bls {ns : List Bool} : fAny (.lst (ns.map D.bl)) = some (.d (.bl (ns.any id))) := by
  show (bls? (ns.map D.bl)).map _ = _
  rw [bls?_map]; rfl
@[simp] theorem fAll_bls {ns : List Bool} : fAll (.lst (ns.map D.bl)) = some (.d (.bl (ns.all id))) := by
  show (bls? (ns.map D.bl)).map _ = _
  rw [bls?_map]; rfl
@[simp] theorem fSorted_ints {ns : List Int} : fSorted (.lst (ns.map D.int)) = some (.m (.lst ((sortI ns).map D.int))) := by
  show (ints? (ns.map D.int)).map _ = _
  rw [ints?_map]; rfl
@[simp] theorem iSeq_ev {f : EM D} : iSeq f e = (f e).bind fun d e1 => match d.items with
  | some xs => .ok xs e1
  | none => .stuck := rfl
@[simp] theorem items_lst {xs : List D} : (D.lst xs).items = some xs := rfl
@[simp] theorem items_tup {xs : List D} : (D.tup xs).items = some xs := rfl
@[simp] theorem iRng1_ev {f : EM (List Tk)} : iRng1 f e = (f e).bind fun ts e1 => match rdKs e1 ts with
  | some [.int j] => if rngOk j = true then .ok (rangeD 0 j.toNat) e1 else .stuck
  | _ => .stuck := rfl
@[simp] theorem iRng2_ev {f : EM (List Tk)} : iRng2 f e = (f e).bind fun ts e1 => match rdKs e1 ts with
  | some [.int i, .int j] => if rngOk i = true ∧ rngOk j = true then .ok (rangeD i (j - i).toNat) e1 else .stuck
  | _ => .stuck := rfl
@[simp] theorem iZip2_ev {f : EM (List Tk)} : iZip2 f e = (f e).bind fun ts e1 => match vals ts with
  | some [a, b] => (match a.items, b.items with
    | some xs, some ys => .ok (zip2D xs ys) e1
    | _, _ => .stuck)
  | _ => .stuck := rfl
@[simp] theorem iEnum_ev {f : EM (List Tk)} : iEnum f e = (f e).bind fun ts e1 => match vals ts with
  | some [a] => (match a.items with
    | some xs => .ok (enumD 0 xs) e1
    | _ => .stuck)
  | _ => .stuck := rfl
theorem lr_ok {j : Int} (h0 : -1000000 ≤ j) (h : j ≤ 1000000) : lrOk j = true := by
  unfold lrOk rngOk
  rw [Bool.and_eq_true]
  exact ⟨decide_eq_true (by omega), decide_eq_true (by omega)⟩
@[simp] theorem vLstR_ev {f : EM (List Tk)} : vLstR f e = (f e).bind fun ts e1 => match rdKs e1 ts with
  | some [.int j] => if lrOk j = true then .ok (.m (.lst (rangeD 0 j.toNat))) e1 else .stuck
  | some [.int i, .int j] => if lrOk2 i j = true then .ok (.m (.lst (rangeD i (j - i).toNat))) e1 else .stuck
  | _ => .stuck := rfl
theorem vLstR_at {f : EM (List Tk)} {ts : List Tk} {e1 : Env} {j : Int} (h : f e = .ok ts e1) (h1 : rdKs e1 ts = some [.int j]) (h2 : lrOk j = true) : vLstR f e = .ok (.m (.lst (rangeD 0 j.toNat))) e1 := by
  unfold vLstR
  rw [h, bind_ok, h1]
  exact if_pos h2
@[simp] theorem gSet_ev {i : Nat} : gSet i d e = (match e[i]? with
  | some o => if isP o = true then none else some (e.set i (some (.d d)))
  | none => none) := by
  unfold gSet
  rcases h : e[i]? with _ | _ | x
  · rfl
  · rfl
  · cases x <;> rfl
@[simp] theorem gSets_nil : gSets [] [] e = some e := rfl
@[simp] theorem gSets_cons {i : Nat} {is : List Nat} {ds : List D} : gSets (i :: is) (d :: ds) e = (gSet i d e).bind (gSets is ds) := rfl
@[simp] theorem gUnp_tup {is : List Nat} {ds : List D} : gUnp is (.tup ds) e = gSets is ds e := rfl
@[simp] theorem wipeE_nil : wipeE [] e = some e := rfl
@[simp] theorem wipeE_cons {v : Nat} {vs : List Nat} : wipeE (v :: vs) e = (match wipeE vs e with
    | some e1 => (match e1[v]? with
      | some o => if isP o = true then none else some (e1.set v none)
      | none => none)
    | none => none) := by
  show (match wipeE vs e with
    | some e1 => (match e1[v]? with
      | some (some (.p _)) => none
      | some _ => some (e1.set v none)
      | none => none)
    | none => none) = _
  cases wipeE vs e with
  | none => rfl
  | some e1 =>
    show (match e1[v]? with
      | some (some (.p _)) => none
      | some _ => some (e1.set v none)
      | none => none) = (match e1[v]? with
      | some o => if isP o = true then none else some (e1.set v none)
      | none => none)
    rcases e1[v]? with _ | _ | x
    · rfl
    · rfl
    · cases x <;> rfl
@[simp] theorem tYesF_ev : tYesF e = .ok true e := rfl
@[simp] theorem sNext_ev : sNext e = .nx e := rfl
@[simp] theorem sSeq_ev {f g : SM} : sSeq f g e = (f e).bind g := rfl
@[simp] theorem sIf_ev {t : EM Bool} {f g : SM} : sIf t f g e = (t e).sb fun b e1 => if b = true then f e1 else g e1 := rfl
@[simp] theorem sRet_ev {f : EM EV} : sRet f e = (f e).sb fun x e1 => .rt x e1 := rfl
@[simp] theorem sRetN_ev : sRetN e = .rt (.d .non) e := rfl
@[simp] theorem sRetV_ev {i : Nat} : sRetV i e = (match e[i]? with
  | some (some (.d d)) => .rt (.d d) e
  | some (some (.m x)) => .rt (.m x) e
  | _ => .stuck) := rfl
@[simp] theorem putE_ev {i : Nat} : putE i x e = (match e[i]? with
  | some o => if isP o = true then .stuck else .nx (e.set i (some x))
  | none => .stuck) := by
  unfold putE
  rcases h : e[i]? with _ | _ | y
  · rfl
  · rfl
  · cases y <;> rfl
@[simp] theorem sSet_ev {i : Nat} {f : EM EV} : sSet i f e = (f e).sb fun x e1 => putE i x e1 := rfl
@[simp] theorem sDrop_ev {f : EM EV} : sDrop f e = (f e).sb fun _ e1 => .nx e1 := rfl
@[simp] theorem sFor_ev {fi : EM (List D)} {ft : D → Env → Option Env} {body : SM} : sFor fi ft body e = (fi e).sb fun ds e1 => forGo ft body ds e1 := rfl
@[simp] theorem mutE_ev {i : Nat} : mutE e i = (match e[i]? with
  | some (some (.m y)) => some y
  | some (some (.p y)) => some y
  | _ => none) := rfl
@[simp] theorem reE_ev {i : Nat} {y : MV} : reE e i y = (match e[i]? with
  | some (some (.p _)) => e.set i (some (.p y))
  | _ => e.set i (some (.m y))) := rfl
@[simp] theorem tyM_lst {xs : List D} {T : String} : tyM T (.lst xs) = decide (T = "list") := rfl
@[simp] theorem cMut_ev {T : String} {i : Nat} {g : MV → List D → Option (MV × D)} {f : EM (List Tk)} : cMut T i g f e = (match mutE e i with
  | some y0 => if tyM T y0 = true then (f e).bind fun ts e1 => (match mutE e1 i, vals ts with
    | some y, some ds => (match g y ds with
      | some (y', z) => .ok z (reE e1 i y')
      | none => .stuck)
    | _, _ => .stuck) else .stuck
  | none => .stuck) := rfl
@[simp] theorem gAppend_ev {xs : List D} : gAppend (.lst xs) [d] = if xs.length < LIM then some (.lst (xs ++ [d]), .non) else none := rfl
@[simp] theorem gExtend_lst {xs ys : List D} : gExtend (.lst xs) [.lst ys] = if xs.length + ys.length ≤ LIM then some (.lst (xs ++ ys), .non) else none := rfl
@[simp] theorem gExtend_tup {xs ys : List D} : gExtend (.lst xs) [.tup ys] = if xs.length + ys.length ≤ LIM then some (.lst (xs ++ ys), .non) else none := rfl
@[simp] theorem gNone_ev : gNone [] e = some e := rfl
@[simp] theorem gCon_ev {g : GT} {gs : List D → Env → Option Env} {ds : List D} : gCon g gs (d :: ds) e = (g d e).bind (gs ds) := rfl
@[simp] theorem gTupF_ev {n : Nat} {gs : List D → Env → Option Env} {ds : List D} : gTupF n gs (.tup ds) e = if ds.length = n then gs ds e else none := rfl
@[simp] theorem gStore_ev {i : Nat} {fi : EM Tk} : gStore i fi d e = (match mutE e i with
  | none => none
  | some _ => match fi e with
    | .ok t e2 => (match rdK e2 t, mutE e2 i with
      | some (.int j), some (.lst xs) => (match ixN xs.length j with
        | some m => some (reE e2 i (.lst (xs.set m d)))
        | none => none)
      | _, _ => none)
    | _ => none) := rfl
@[simp] theorem sAsgT_ev {f : EM D} {gt : GT} : sAsgT f gt e = (f e).sb fun d e1 => match gt d e1 with
  | some e2 => .nx e2
  | none => .stuck := rfl
@[simp] theorem pput_ev {i : Nat} : pput i x e = (match e[i]? with
  | some o => if isP o = true then none else some (e.set i (some x))
  | none => none) := by
  unfold pput
  rcases h : e[i]? with _ | _ | y
  · rfl
  · rfl
  · cases y <;> rfl
@[simp] theorem sPar2_ev {i j : Nat} {fa fb : EM EV} : sPar2 i j fa fb e = (fa e).sb fun x e1 => (fb e1).sb fun y e2 => match pput i x e2 with
  | some e3 => (match pput j y e3 with
    | some e4 => .nx e4
    | none => .stuck)
  | none => .stuck := rfl
@[simp] theorem argT_val : argT e (.val d) = some (.d d, none) := rfl
@[simp] theorem argT_slot {i : Nat} : argT e (.slot i) = (match e[i]? with
    | some (some (.d d)) => some (.d d, none)
    | some (some (.m x)) => some (.p x, some i)
    | some (some (.p x)) => some (.p x, some i)
    | _ => none) := rfl
@[simp] theorem argE_nil : argE e [] = some [] := rfl
@[simp] theorem argE_cons {t : Tk} {ts : List Tk} : argE e (t :: ts) = (match argT e t, argE e ts with
    | some a, some as => some (a :: as)
    | _, _ => none) := rfl
@[simp] theorem backE_nil {ps : List (Option MV)} : backE e [] ps = e := rfl
@[simp] theorem backE_no {as : List (EV × Option Nat)} {o : Option MV} {ps : List (Option MV)} : backE e ((x, none) :: as) (o :: ps) = backE e as ps := by
  cases o <;> rfl
@[simp] theorem backE_yes {as : List (EV × Option Nat)} {i : Nat} {y : MV} {ps : List (Option MV)} : backE e ((x, some i) :: as) (some y :: ps) = backE (reE e i y) as ps := rfl
@[simp] theorem slotsOf_nil : slotsOf [] = [] := rfl
@[simp] theorem slotsOf_no {as : List (EV × Option Nat)} : slotsOf ((x, none) :: as) = slotsOf as := rfl
@[simp] theorem slotsOf_yes {as : List (EV × Option Nat)} {i : Nat} : slotsOf ((x, some i) :: as) = i :: slotsOf as := rfl
@[simp] theorem vCall_ev {F : List EV → Out} {fa : EM (List Tk)} : vCall F fa e = (fa e).bind (tailC F) := rfl
@[simp] theorem tailC_ev {F : List EV → Out} {ts : List Tk} : tailC F ts e = (match argE e ts with
  | none => .stuck
  | some as => if (slotsOf as).Nodup then (match (F (as.map (·.1))).noT with
    | .ret x ps => .ok x (backE e as ps)
    | .exc x ps => .exc x (backE e as ps)
    | .stuck => .stuck) else .stuck) := rfl
@[simp] theorem noT_d {ps : List (Option MV)} : (Out.ret (.d d) ps).noT = .ret (.d d) ps := rfl
@[simp] theorem noT_m {y : MV} {ps : List (Option MV)} : (Out.ret (.m y) ps).noT = .ret (.m y) ps := rfl
@[simp] theorem noT_p {y : MV} {ps : List (Option MV)} : (Out.ret (.p y) ps).noT = .ret (.p y) ps := rfl
@[simp] theorem vCallK_ev {n m : Nat} {pm : List Nat} {F : List EV → Out} {fa fk : EM (List Tk)} : vCallK n m pm F fa fk e = (fa e).bind fun ts e1 => (fk e1).bind fun us e2 => if ts.length = n ∧ us.length = m then tailC F (permL pm (ts ++ us)) e2 else .stuck := rfl
@[simp] theorem vMeth_ev {cc : Nat} {m : Str} {F : List EV → Out} {fo : EM Tk} {fa : EM (List Tk)} : vMeth cc m F fo fa e = (fo e).bind fun t e1 => if isObj cc m e1 t = true then (fa e1).bind fun ts e2 => tailC F (t :: ts) e2 else .stuck := rfl
@[simp] theorem vProp_ev {cc : Nat} {F : List EV → Out} {fo : EM Tk} : vProp cc F fo e = (fo e).bind fun t e1 => if isObj cc Str.empty e1 t = true then tailC (fun as => noX (F as)) [t] e1 else .stuck := rfl
@[simp] theorem noX_ret {ps : List (Option MV)} : noX (.ret x ps) = .ret x ps := rfl
@[simp] theorem isObj_ev {cc : Nat} {m : Str} {t : Tk} : isObj cc m e t = (match argT e t with
  | some (.d (.obj c _), _) => decide (c = cc ∧ m ∉ clsNames cc)
  | some (.p (.obj c ns _), _) => decide (c = cc ∧ m ∉ ns)
  | _ => false) := rfl
@[simp] theorem vMake_ev {cc : Nat} {F : List EV → Out} {fa : EM (List Tk)} : vMake cc F fa e = (fa e).bind (tailMk cc F) := rfl
@[simp] theorem tailMk_ev {cc : Nat} {F : List EV → Out} {ts : List Tk} : tailMk cc F ts e = (match argE e ts with
  | none => .stuck
  | some as => if (slotsOf as).Nodup then (match F (.p (.obj cc [] []) :: as.map (·.1)) with
    | .ret (.d .non) (some y :: ps) => .ok (.m y) (backE e as ps)
    | .exc x (_ :: ps) => .exc x (backE e as ps)
    | _ => .stuck) else .stuck) := rfl
@[simp] theorem sFldO_ev {cc i : Nat} {f : Str} {fe : EM D} : sFldO cc i f fe e = (fe e).sb fun d e1 => match mutE e1 i with
  | some (.obj c ns ds) => if c = cc ∧ ns.length < 1000 then .nx (reE e1 i (.obj c (putNs f ns) (putDs f d ns ds))) else .stuck
  | _ => .stuck := rfl
@[simp] theorem cIsi_ev {ncl : Nat} {f : TyK → Bool} {fa : EM Tk} : cIsi ncl f fa e = (fa e).bind fun t e1 => match (rdK e1 t).bind (tyD ncl) with
  | some ty => .ok (.bl (f ty)) e1
  | none => .stuck := rfl
@[simp] theorem tyD_int {n : Nat} {i : Int} : tyD n (.int i) = some .int := rfl
@[simp] theorem tyD_bl {n : Nat} {i : Bool} : tyD n (.bl i) = some .bl := rfl
@[simp] theorem tyD_lst {n : Nat} {i : List D} : tyD n (.lst i) = some .lst := rfl
@[simp] theorem tyD_tup {n : Nat} {i : List D} : tyD n (.tup i) = some .tup := rfl
@[simp] theorem tyD_non {n : Nat} : tyD n .non = some .non := rfl
@[simp] theorem tyD_str {n : Nat} {i : Str} : tyD n (.str i) = some .str := rfl
@[simp] theorem tyD_obj {n c : Nat} {i : List D} : tyD n (.obj c i) = if c < n then some (.obj c) else none := rfl
@[simp] theorem isO_obj {c c' : Nat} : isO c (.obj c') = (c' == c) := rfl
@[simp] theorem isB_int : isB "int" .int = true := by decide
@[simp] theorem isB_int_bl : isB "int" .bl = true := by decide
@[simp] theorem isB_bool_int : isB "bool" .int = false := by decide
@[simp] theorem isB_bool_bl : isB "bool" .bl = true := by decide
@[simp] theorem isB_list_lst : isB "list" .lst = true := by decide
@[simp] theorem isB_tuple_tup : isB "tuple" .tup = true := by decide
@[simp] theorem isB_list_tup : isB "list" .tup = false := by decide
@[simp] theorem isB_tuple_lst : isB "tuple" .lst = false := by decide
@[simp] theorem tChain_ev {g g' : D → D → Option Bool} {fa fb fc : EM Tk} : tChain g g' fa fb fc e = (fa e).bind fun t1 e1 => (fb e1).bind fun t2 e2 => match rdK e2 t1, rdK e2 t2 with
  | some a, some b => (resB (g a b) e2).bind fun z e3 => if z = true then (fc e3).bind fun t3 e4 => (match rdK e4 t2, rdK e4 t3 with
      | some b', some c' => resB (g' b' c') e4
      | _, _ => .stuck) else .ok false e3
  | _, _ => .stuck := rfl
@[simp] theorem pinOf_p {y : MV} : pinOf (some (.p y)) = some y := rfl
@[simp] theorem pinOf_d : pinOf (some (.d d)) = none := rfl
@[simp] theorem pinOf_m {y : MV} : pinOf (some (.m y)) = none := rfl
@[simp] theorem pinOf_none : pinOf none = none := rfl
@[simp] theorem outOf_nx {m : Nat} : outOf m (.nx e) = .ret (.d .non) ((e.take m).map pinOf) := rfl
@[simp] theorem outOf_rt {m : Nat} : outOf m (.rt x e) = .ret x ((e.take m).map pinOf) := rfl
theorem runD_eq {n m : Nat} {f : SM} {as : List EV} (h : as.length = m) : runD n m f as = outOf m (f (as.map some ++ List.replicate (n - m) none)) := by
  unfold runD
  rw [if_pos h]
end
@[simp] theorem runD_0 {n : Nat} {f : SM} : runD n 0 f [] = outOf 0 (f ( List.replicate (n - 0) none)) := rfl
@[simp] theorem runD_1 {n : Nat} {f : SM} {x0 : EV} : runD n 1 f [x0] = outOf 1 (f (some x0 ::  List.replicate (n - 1) none)) := rfl
@[simp] theorem runD_2 {n : Nat} {f : SM} {x0 x1 : EV} : runD n 2 f [x0, x1] = outOf 2 (f (some x0 :: some x1 ::  List.replicate (n - 2) none)) := rfl
@[simp] theorem runD_3 {n : Nat} {f : SM} {x0 x1 x2 : EV} : runD n 3 f [x0, x1, x2] = outOf 3 (f (some x0 :: some x1 :: some x2 ::  List.replicate (n - 3) none)) := rfl
@[simp] theorem runD_4 {n : Nat} {f : SM} {x0 x1 x2 x3 : EV} : runD n 4 f [x0, x1, x2, x3] = outOf 4 (f (some x0 :: some x1 :: some x2 :: some x3 ::  List.replicate (n - 4) none)) := rfl
@[simp] theorem runD_5 {n : Nat} {f : SM} {x0 x1 x2 x3 x4 : EV} : runD n 5 f [x0, x1, x2, x3, x4] = outOf 5 (f (some x0 :: some x1 :: some x2 :: some x3 :: some x4 ::  List.replicate (n - 5) none)) := rfl
@[simp] theorem runD_6 {n : Nat} {f : SM} {x0 x1 x2 x3 x4 x5 : EV} : runD n 6 f [x0, x1, x2, x3, x4, x5] = outOf 6 (f (some x0 :: some x1 :: some x2 :: some x3 :: some x4 :: some x5 ::  List.replicate (n - 6) none)) := rfl
@[simp] theorem runD_7 {n : Nat} {f : SM} {x0 x1 x2 x3 x4 x5 x6 : EV} : runD n 7 f [x0, x1, x2, x3, x4, x5, x6] = outOf 7 (f (some x0 :: some x1 :: some x2 :: some x3 :: some x4 :: some x5 :: some x6 ::  List.replicate (n - 7) none)) := rfl
@[simp] theorem runD_8 {n : Nat} {f : SM} {x0 x1 x2 x3 x4 x5 x6 x7 : EV} : runD n 8 f [x0, x1, x2, x3, x4, x5, x6, x7] = outOf 8 (f (some x0 :: some x1 :: some x2 :: some x3 :: some x4 :: some x5 :: some x6 :: some x7 ::  List.replicate (n - 8) none)) := rfl
/-! ### numbers -/
theorem log2_lt {n k : Nat} (h : n < 2 ^ k) : n.log2 ≤ k := by
  by_cases q : n = 0
  · subst q
    have : Nat.log2 0 = 0 := by decide
    omega
  · exact Nat.le_of_lt ((Nat.log2_lt q).mpr h)
theorem cmulW {i j : Int} {a b : Nat} (ha : i.natAbs < 2 ^ a) (hb : j.natAbs < 2 ^ b) (h : a + b < 1000000 := by decide) : CMulW i j := by
  have h1 := log2_lt ha
  have h2 := log2_lt hb
  show i.natAbs.log2 + j.natAbs.log2 < 1000000
  omega
theorem cdivW {i j : Int} (h0 : 0 < j) (h : j < 2 ^ 64) : CDivW i j := by
  refine ⟨h0, ?_⟩
  have : j.natAbs < 2 ^ 64 := by omega
  have := log2_lt this
  omega
theorem ixN_nat {n : Nat} {i : Int} (h0 : 0 ≤ i) (h : i < n) : ixN n i = some i.toNat := by
  unfold ixN
  rw [if_pos h0, if_pos h]
theorem ixN_neg {n : Nat} {i : Int} (h0 : i < 0) (h : -(n : Int) ≤ i) : ixN n i = some (i + n).toNat := by
  unfold ixN
  rw [if_neg (by omega), if_pos h]
@[simp] theorem atI_0 {α : Type} {x : α} {xs : List α} : atI (x :: xs) 0 = some x := by
  unfold atI
  rw [ixN_nat (by omega) (by simp)]
  rfl
@[simp] theorem atI_1 {α : Type} {x y : α} {xs : List α} : atI (x :: y :: xs) 1 = some y := by
  unfold atI
  rw [ixN_nat (by omega) (by simp; omega)]
  rfl
theorem atI_at {α : Type} {xs : List α} {i : Int} {x : α} (h0 : 0 ≤ i) (h : xs[i.toNat]? = some x) : atI xs i = some x := by
  unfold atI
  have := (List.getElem?_eq_some_iff.mp h).1
  rw [ixN_nat h0 (by omega)]
  exact h
@[simp] theorem ixN_2_0 {n : Nat} : ixN (n + 1) 0 = some 0 := by
  rw [ixN_nat (by omega) (by omega)]
  rfl
@[simp] theorem ixN_2_1 {n : Nat} : ixN (n + 1 + 1) 1 = some 1 := by
  rw [ixN_nat (by omega) (by omega)]
  rfl

/-! ### loops -/
section
variable {ft : D → Env → Option Env} {body : SM} {ff : EM Bool} {fe : EM D} {vs : List Nat}
theorem forGo_go {P : Nat → Env → Prop} : ∀ (ds : List D) (k : Nat) (e : Env), P k e → (∀ i d e, ds[i]? = some d → P (k + i) e → ∃ e1 e2, ft d e = some e1 ∧ body e1 = .nx e2 ∧ P (k + i + 1) e2) → ∃ e', forGo ft body ds e = .nx e' ∧ P (k + ds.length) e'
  | [], k, e, h, _ => ⟨e, rfl, h⟩
  | d :: ds, k, e, h, hs => by
    obtain ⟨e1, e2, h1, h2, h3⟩ := hs 0 d e rfl h
    obtain ⟨e', h4, h5⟩ := forGo_go ds (k + 1) e2 h3 fun i d' e0 hd hp => by
      have := hs (i + 1) d' e0 (by simpa using hd) (by rw [show k + (i + 1) = k + 1 + i by omega]; exact hp)
      rw [show k + (i + 1) + 1 = k + 1 + i + 1 by omega] at this
      exact this
    refine ⟨e', ?_, by rw [List.length_cons, show k + (ds.length + 1) = k + 1 + ds.length by omega]; exact h5⟩
    simp only [forGo, h1, h2]
    exact h4
/-- a loop that ends by itself -/
theorem forGo_inv (P : Nat → Env → Prop) {ds : List D} {e : Env} (h0 : P 0 e) (hs : ∀ i d e, ds[i]? = some d → P i e → ∃ e1 e2, ft d e = some e1 ∧ body e1 = .nx e2 ∧ P (i + 1) e2) : ∃ e', forGo ft body ds e = .nx e' ∧ P ds.length e' := by
  obtain ⟨e', h1, h2⟩ := forGo_go (P := P) ds 0 e h0 fun i d e0 hd hp => by
    rw [Nat.zero_add] at hp ⊢
    exact hs i d e0 hd hp
  exact ⟨e', h1, by rw [Nat.zero_add] at h2; exact h2⟩
theorem lcGo_go {P : Nat → List D → Env → Prop} : ∀ (ds : List D) (k : Nat) (acc : List D) (e : Env), acc.length + ds.length ≤ LIM → P k acc e → (∀ i d acc e, ds[i]? = some d → P (k + i) acc e → ∃ e1, ft d e = some e1 ∧
    ((∃ e2 x e3 e4, ff e1 = .ok true e2 ∧ fe e2 = .ok x e3 ∧ wipeE vs e3 = some e4 ∧ P (k + i + 1) (acc ++ [x]) e4) ∨ ∃ e2 e4, ff e1 = .ok false e2 ∧ wipeE vs e2 = some e4 ∧ P (k + i + 1) acc e4)) →
    ∃ acc' e', lcGo vs ft ff fe ds acc e = .ok acc' e' ∧ P (k + ds.length) acc' e'
  | [], k, acc, e, _, h, _ => ⟨acc, e, rfl, h⟩
  | d :: ds, k, acc, e, hl, h, hs => by
    rw [List.length_cons] at hl
    have next : ∀ (i : Nat) (d' : D) (a0 : List D) (e0 : Env), ds[i]? = some d' → P (k + 1 + i) a0 e0 → ∃ e1, ft d' e0 = some e1 ∧
        ((∃ e2 x e3 e4, ff e1 = .ok true e2 ∧ fe e2 = .ok x e3 ∧ wipeE vs e3 = some e4 ∧ P (k + 1 + i + 1) (a0 ++ [x]) e4) ∨ ∃ e2 e4, ff e1 = .ok false e2 ∧ wipeE vs e2 = some e4 ∧ P (k + 1 + i + 1) a0 e4) := fun i d' a0 e0 hd hp => by
      have := hs (i + 1) d' a0 e0 (by simpa using hd) (by rw [show k + (i + 1) = k + 1 + i by omega]; exact hp)
      rw [show k + (i + 1) + 1 = k + 1 + i + 1 by omega] at this
      exact this
    obtain ⟨e1, h1, h2⟩ := hs 0 d acc e rfl h
    rw [List.length_cons, show k + (ds.length + 1) = k + 1 + ds.length by omega]
    unfold lcGo
    rw [h1]
    rcases h2 with ⟨e2, x, e3, e4, g1, g2, g3, g4⟩ | ⟨e2, e4, g1, g3, g4⟩
    · obtain ⟨acc', e', r1, r2⟩ := lcGo_go ds (k + 1) (acc ++ [x]) e4 (by rw [List.length_append]; simp; omega) g4 next
      refine ⟨acc', e', ?_, r2⟩
      simp only [g1, g2, g3]
      rw [if_pos (by omega)]
      exact r1
    · obtain ⟨acc', e', r1, r2⟩ := lcGo_go ds (k + 1) acc e4 (by omega) g4 next
      refine ⟨acc', e', ?_, r2⟩
      simp only [g1, g3]
      exact r1
/-- a comprehension -/
theorem lcGo_inv (P : Nat → List D → Env → Prop) {ds : List D} {e : Env} (hl : ds.length ≤ LIM) (h0 : P 0 [] e) (hs : ∀ i d acc e, ds[i]? = some d → P i acc e → ∃ e1, ft d e = some e1 ∧
    ((∃ e2 x e3 e4, ff e1 = .ok true e2 ∧ fe e2 = .ok x e3 ∧ wipeE vs e3 = some e4 ∧ P (i + 1) (acc ++ [x]) e4) ∨ ∃ e2 e4, ff e1 = .ok false e2 ∧ wipeE vs e2 = some e4 ∧ P (i + 1) acc e4)) :
    ∃ acc' e', lcGo vs ft ff fe ds [] e = .ok acc' e' ∧ P ds.length acc' e' := by
  obtain ⟨a', e', h1, h2⟩ := lcGo_go (P := P) ds 0 [] e (by simpa using hl) h0 fun i d a0 e0 hd hp => by
    rw [Nat.zero_add] at hp ⊢
    exact hs i d a0 e0 hd hp
  exact ⟨a', e', h1, by rw [Nat.zero_add] at h2; exact h2⟩
/-- without tests, the names as they were -/
theorem lcGo_map {α : Type} (g : α → D) (h : α → D) {xs : List α} {e : Env} (hl : xs.length ≤ LIM) (hs : ∀ x ∈ xs, ∃ e1 e2 e3, ft (h x) e = some e1 ∧ ff e1 = .ok true e2 ∧ fe e2 = .ok (g x) e3 ∧ wipeE vs e3 = some e) :
    lcGo vs ft ff fe (xs.map h) [] e = .ok (xs.map g) e := by
  obtain ⟨a', e', h1, h2, h3⟩ := lcGo_inv (ft := ft) (ff := ff) (fe := fe) (vs := vs) (fun i acc e' => e' = e ∧ acc = (xs.take i).map g) (ds := xs.map h) (e := e) (by simpa using hl) ⟨rfl, by simp⟩ fun i d acc e0 hd ⟨he, ha⟩ => by
    subst he
    rw [List.getElem?_map] at hd
    obtain ⟨x, hx, rfl⟩ := Option.map_eq_some_iff.mp hd
    obtain ⟨e1, e2, e3, g1, g2, g3, g4⟩ := hs x (List.mem_of_getElem? hx)
    exact ⟨e1, g1, .inl ⟨e2, _, e3, _, g2, g3, g4, rfl, by rw [ha, List.take_succ, hx]; simp⟩⟩
  rw [h1, h2, h3]
  simp
/-- with a test -/
theorem lcGo_filter {α : Type} (p : α → Bool) (g : α → D) (h : α → D) {xs : List α} {e : Env} (hl : xs.length ≤ LIM) (hs : ∀ x ∈ xs, ∃ e1, ft (h x) e = some e1 ∧
    ((p x = true ∧ ∃ e2 e3, ff e1 = .ok true e2 ∧ fe e2 = .ok (g x) e3 ∧ wipeE vs e3 = some e) ∨ (p x = false ∧ ∃ e2, ff e1 = .ok false e2 ∧ wipeE vs e2 = some e))) :
    lcGo vs ft ff fe (xs.map h) [] e = .ok ((xs.filter p).map g) e := by
  obtain ⟨a', e', h1, h2, h3⟩ := lcGo_inv (ft := ft) (ff := ff) (fe := fe) (vs := vs) (fun i acc e' => e' = e ∧ acc = ((xs.take i).filter p).map g) (ds := xs.map h) (e := e) (by simpa using hl) ⟨rfl, by simp⟩ fun i d acc e0 hd ⟨he, ha⟩ => by
    subst he
    rw [List.getElem?_map] at hd
    obtain ⟨x, hx, rfl⟩ := Option.map_eq_some_iff.mp hd
    obtain ⟨e1, g1, g2⟩ := hs x (List.mem_of_getElem? hx)
    refine ⟨e1, g1, ?_⟩
    rcases g2 with ⟨q, e2, e3, g2, g3, g4⟩ | ⟨q, e2, g2, g4⟩
    · exact .inl ⟨e2, _, e3, _, g2, g3, g4, rfl, by rw [ha, List.take_succ, hx]; simp [q]⟩
    · exact .inr ⟨e2, _, g2, g4, rfl, by rw [ha, List.take_succ, hx]; simp [q]⟩
  rw [h1, h2, h3]
  simp
end
theorem lcF_ev {vs : List Nat} {fi : EM (List D)} {ft : D → Env → Option Env} {ff : EM Bool} {fe : EM D} {e : Env} : lcF vs fi ft ff fe e = (fi e).bind fun ds e1 => match wipeE vs e1 with
  | none => .stuck
  | some e2 => (lcGo vs ft ff fe ds [] e2).bind fun acc e3 => .ok (.m (.lst acc)) e3 := rfl
@[simp] theorem lim_eq : LIM = 1000000 := rfl
/-! ### equality of data -/
def rowsD (es : List (List Int)) : List D := es.map fun r => D.lst (r.map D.int)
def trowsD (es : List (List Int)) : List D := es.map fun r => D.tup (r.map D.int)
@[simp] theorem rowsD_len {es : List (List Int)} : (rowsD es).length = es.length := by unfold rowsD; simp
@[simp] theorem rowsD_nil : rowsD [] = [] := rfl
@[simp] theorem rowsD_cons {e : List Int} {es : List (List Int)} : rowsD (e :: es) = D.lst (e.map D.int) :: rowsD es := rfl
@[simp] theorem rowsD_app {es fs : List (List Int)} : rowsD (es ++ fs) = rowsD es ++ rowsD fs := by unfold rowsD; simp
@[simp] theorem trowsD_len {es : List (List Int)} : (trowsD es).length = es.length := by unfold trowsD; simp
@[simp] theorem trowsD_nil : trowsD [] = [] := rfl
@[simp] theorem trowsD_cons {e : List Int} {es : List (List Int)} : trowsD (e :: es) = D.tup (e.map D.int) :: trowsD es := rfl
theorem flats_ints : ∀ ns : List Int, D.flats (ns.map D.int) = true
  | [] => by simp [D.flats]
  | n :: ns => by simp [D.flats, D.flat, flats_ints ns]
theorem pys_ints : ∀ ns : List Int, D.pys (ns.map D.int) = ns.map PyData.int
  | [] => by simp [D.pys]
  | n :: ns => by simp [D.pys, D.py, pys_ints ns]
theorem flats_rows : ∀ es : List (List Int), D.flats (rowsD es) = true ∧ D.flats (trowsD es) = true
  | [] => by simp [D.flats]
  | e :: es => by
    obtain ⟨h1, h2⟩ := flats_rows es
    simp [D.flats, D.flat, flats_ints, h1, h2]
theorem pys_rows : ∀ es : List (List Int), D.pys (rowsD es) = es.map (fun r => PyData.list (r.map PyData.int)) ∧ D.pys (trowsD es) = es.map (fun r => PyData.tuple (r.map PyData.int))
  | [] => by simp [D.pys]
  | e :: es => by
    obtain ⟨h1, h2⟩ := pys_rows es
    simp [D.pys, D.py, pys_ints, h1, h2]
theorem lay_ints : ∀ ns : List Int, PyData.canLayAll0 (ns.map PyData.int) = true ∧ PyData.depthAll (ns.map PyData.int) = 0
  | [] => by simp [PyData.canLayAll0, PyData.depthAll]
  | n :: ns => by
    obtain ⟨h1, h2⟩ := lay_ints ns
    simp [PyData.canLayAll0, PyData.canLay0, PyData.depthAll, PyData.depth, h1, h2]
theorem lay_rows : ∀ es : List (List Int), (PyData.canLayAll0 (es.map fun r => PyData.list (r.map PyData.int)) = true ∧ PyData.depthAll (es.map fun r => PyData.list (r.map PyData.int)) ≤ 1) ∧
    PyData.canLayAll0 (es.map fun r => PyData.tuple (r.map PyData.int)) = true ∧ PyData.depthAll (es.map fun r => PyData.tuple (r.map PyData.int)) ≤ 1
  | [] => by simp [PyData.canLayAll0, PyData.depthAll]
  | e :: es => by
    obtain ⟨⟨h1, h2⟩, h3, h4⟩ := lay_rows es
    simp [PyData.canLayAll0, PyData.canLay0, PyData.depthAll, PyData.depth, h1, h3, (lay_ints e).1, (lay_ints e).2]
    omega
theorem eqv_ints : ∀ ns ms : List Int, PyData.eqvAll (ns.map PyData.int) (ms.map PyData.int) = decide (ns = ms)
  | [], [] => by simp [PyData.eqvAll]
  | [], m :: ms => by simp [PyData.eqvAll]
  | n :: ns, [] => by simp [PyData.eqvAll]
  | n :: ns, m :: ms => by
    simp only [List.map_cons, PyData.eqvAll, PyData.eqv, eqv_ints ns ms]
    by_cases h : n = m <;> simp [h]
theorem eqv_rows : ∀ es fs : List (List Int), PyData.eqvAll (es.map fun r => PyData.list (r.map PyData.int)) (fs.map fun r => PyData.list (r.map PyData.int)) = decide (es = fs)
  | [], [] => by simp [PyData.eqvAll]
  | [], m :: ms => by simp [PyData.eqvAll]
  | n :: ns, [] => by simp [PyData.eqvAll]
  | n :: ns, m :: ms => by
    simp only [List.map_cons, PyData.eqvAll, PyData.eqv, eqv_rows ns ms, eqv_ints]
    by_cases h : n = m <;> simp [h]
theorem eqv_trows : ∀ es fs : List (List Int), PyData.eqvAll (es.map fun r => PyData.tuple (r.map PyData.int)) (fs.map fun r => PyData.tuple (r.map PyData.int)) = decide (es = fs)
  | [], [] => by simp [PyData.eqvAll]
  | [], m :: ms => by simp [PyData.eqvAll]
  | n :: ns, [] => by simp [PyData.eqvAll]
  | n :: ns, m :: ms => by
    simp only [List.map_cons, PyData.eqvAll, PyData.eqv, eqv_trows ns ms, eqv_ints]
    by_cases h : n = m <;> simp [h]
theorem okD_int (i : Int) : okD (.int i) = true := by simp [okD, D.flat, D.py, SeqAt.shaped, PyData.canLay0, PyData.depth]
theorem okD_bl (i : Bool) : okD (.bl i) = true := by simp [okD, D.flat, D.py, SeqAt.shaped, PyData.canLay0, PyData.depth]
theorem okD_ints (ns : List Int) : okD (.lst (ns.map D.int)) = true := by
  obtain ⟨h1, h2⟩ := lay_ints ns
  simp [okD, D.flat, D.py, SeqAt.shaped, PyData.canLay0, PyData.depth, flats_ints, pys_ints, h1, h2]
theorem okD_tints (ns : List Int) : okD (.tup (ns.map D.int)) = true := by
  obtain ⟨h1, h2⟩ := lay_ints ns
  simp [okD, D.flat, D.py, SeqAt.shaped, PyData.canLay0, PyData.depth, flats_ints, pys_ints, h1, h2]
theorem okD_rows (es : List (List Int)) : okD (.lst (rowsD es)) = true := by
  obtain ⟨⟨h1, h2⟩, _⟩ := lay_rows es
  simp [okD, D.flat, D.py, SeqAt.shaped, PyData.canLay0, PyData.depth, (flats_rows es).1, (pys_rows es).1, h1]
  omega
theorem okD_trows (es : List (List Int)) : okD (.tup (trowsD es)) = true := by
  obtain ⟨_, h1, h2⟩ := lay_rows es
  simp [okD, D.flat, D.py, SeqAt.shaped, PyData.canLay0, PyData.depth, (flats_rows es).2, (pys_rows es).2, h1]
  omega
@[simp] theorem gEq_int (i j : Int) : gEq (.int i) (.int j) = some (decide (i = j)) := by
  unfold gEq
  rw [if_pos ⟨okD_int i, okD_int j⟩]
  simp only [D.py, PyData.eqv]
  by_cases h : i = j <;> simp [h]
@[simp] theorem gEq_bl (i j : Bool) : gEq (.bl i) (.bl j) = some (decide (i = j)) := by
  unfold gEq
  rw [if_pos ⟨okD_bl i, okD_bl j⟩]
  simp only [D.py, PyData.eqv]
  by_cases h : i = j <;> simp [h]
@[simp] theorem gEq_ints (ns ms : List Int) : gEq (.lst (ns.map D.int)) (.lst (ms.map D.int)) = some (decide (ns = ms)) := by
  unfold gEq
  rw [if_pos ⟨okD_ints ns, okD_ints ms⟩]
  simp only [D.py, PyData.eqv, pys_ints, eqv_ints]
@[simp] theorem gEq_tints (ns ms : List Int) : gEq (.tup (ns.map D.int)) (.tup (ms.map D.int)) = some (decide (ns = ms)) := by
  unfold gEq
  rw [if_pos ⟨okD_tints ns, okD_tints ms⟩]
  simp only [D.py, PyData.eqv, pys_ints, eqv_ints]
@[simp] theorem gEq_rows (es fs : List (List Int)) : gEq (.lst (rowsD es)) (.lst (rowsD fs)) = some (decide (es = fs)) := by
  unfold gEq
  rw [if_pos ⟨okD_rows es, okD_rows fs⟩]
  simp only [D.py, PyData.eqv, (pys_rows _).1, eqv_rows]
@[simp] theorem gEq_trows (es fs : List (List Int)) : gEq (.tup (trowsD es)) (.tup (trowsD fs)) = some (decide (es = fs)) := by
  unfold gEq
  rw [if_pos ⟨okD_trows es, okD_trows fs⟩]
  simp only [D.py, PyData.eqv, (pys_rows _).2, eqv_trows]
@[simp] theorem gNe_eq (a b : D) : gNe a b = (gEq a b).map not := rfl
theorem bls?_fun {α : Type} (p : α → Bool) (xs : List α) : bls? (xs.map fun x => D.bl (p x)) = some (xs.map p) := by
  have : (xs.map fun x => D.bl (p x)) = (xs.map p).map D.bl := by simp
  rw [this, bls?_map]
theorem ints?_fun {α : Type} (p : α → Int) (xs : List α) : ints? (xs.map fun x => D.int (p x)) = some (xs.map p) := by
  have : (xs.map fun x => D.int (p x)) = (xs.map p).map D.int := by simp
  rw [this, ints?_map]
theorem fAll_fun {α : Type} (p : α → Bool) (xs : List α) : fAll (.lst (xs.map fun x => D.bl (p x))) = some (.d (.bl (xs.all p))) := by
  show (bls? _).map _ = _
  rw [bls?_fun]
  simp
theorem fAny_fun {α : Type} (p : α → Bool) (xs : List α) : fAny (.lst (xs.map fun x => D.bl (p x))) = some (.d (.bl (xs.any p))) := by
  show (bls? _).map _ = _
  rw [bls?_fun]
  simp
theorem fSum_fun {α : Type} (p : α → Int) (xs : List α) : fSum (.lst (xs.map fun x => D.int (p x))) = some (.d (.int (xs.map p).sum)) := by
  show (ints? _).map _ = _
  rw [ints?_fun]
  rfl
/-- 0, 1, .. -/
def irange (n : Nat) : List Int := (List.range n).map fun (i : Nat) => (i : Int)
theorem rangeD_0 (n : Nat) : rangeD 0 n = (irange n).map D.int := by
  unfold rangeD irange
  simp
@[simp] theorem irange_len {n : Nat} : (irange n).length = n := by unfold irange; simp
theorem irange_mem {n : Nat} {x : Int} : x ∈ irange n ↔ 0 ≤ x ∧ x < n := by
  unfold irange
  simp only [List.mem_map, List.mem_range]
  constructor
  · rintro ⟨i, hi, rfl⟩; omega
  · intro h; exact ⟨x.toNat, by omega, by omega⟩
theorem irange_at {n i : Nat} (h : i < n) : (irange n)[i]? = some (i : Int) := by
  unfold irange
  rw [List.getElem?_map, List.getElem?_range h]
  rfl
theorem range_at {n i : Nat} {d : D} (h : (rangeD 0 n)[i]? = some d) : d = .int i ∧ i < n := by
  unfold rangeD at h
  rw [List.getElem?_map] at h
  obtain ⟨x, hx, rfl⟩ := Option.map_eq_some_iff.mp h
  obtain ⟨h1, h2⟩ := List.getElem?_eq_some_iff.mp hx
  simp at h1 h2
  subst h2
  exact ⟨by simp, h1⟩
@[simp] theorem range_len {lo : Int} {n : Nat} : (rangeD lo n).length = n := by unfold rangeD; simp
theorem rng_ok {n : Int} (h0 : -1000000 ≤ n) (h : n ≤ 1000000) : rngOk n = true := by
  exact decide_eq_true (by omega)
theorem cut_take {xs : List D} {v : Int} (h0 : 0 ≤ v) (h : v ≤ xs.length) : cutD xs none (some v) = xs.take v.toNat := by
  have e1 : HT.sIx xs.length 0 none = 0 := rfl
  have e2 : HT.sIx xs.length xs.length (some v) = v.toNat := by
    show (if v < 0 then (v + (xs.length : Int)).toNat else min v.toNat xs.length) = v.toNat
    rw [if_neg (by omega)]
    omega
  unfold cutD
  rw [e1, e2]
  simp
theorem cut_drop {xs : List D} {v : Int} (h0 : 0 ≤ v) (h : v ≤ xs.length) : cutD xs (some v) none = xs.drop v.toNat := by
  have e1 : HT.sIx xs.length 0 (some v) = v.toNat := by
    show (if v < 0 then (v + (xs.length : Int)).toNat else min v.toNat xs.length) = v.toNat
    rw [if_neg (by omega)]
    omega
  have e2 : HT.sIx xs.length xs.length none = xs.length := rfl
  unfold cutD
  rw [e1, e2]
  exact List.take_of_length_le (by simp)
theorem erase_perm {α : Type} : ∀ {l : List α} {i : Nat} (h : i < l.length), ([l[i]] ++ l.eraseIdx i).Perm l
  | a :: l, 0, _ => by simp
  | a :: l, i + 1, h => by
    have ih := erase_perm (l := l) (i := i) (by simpa using h)
    simp only [List.getElem_cons_succ, List.eraseIdx_cons_succ]
    exact (List.Perm.swap a _ _).trans (ih.cons a)
end MM
end
section
set_option Elab.async false
set_option linter.all false
set_option autoImplicit false
set_option maxRecDepth 100000
set_option maxHeartbeats 4000000
namespace L2
open PySem PySem.Spec PyProof.Rows SrtO
/-! ### sorted(t), a tuple of ints -/
section
variable {prog : Program} {w : World} {A : Around} {E : Value → Shared → Prop} {s : Shared}
theorem mir_collect_tup {l : Addr} {vs : List Value} {Q : List Value → Shared → Prop} (hl : s.heap.IsTuple l vs.toArray) (hsz : vs.length ≤ sizeLine)
    (h : Q vs { s with heap := (s.heap.push (seqObj "list" #[] 0)).update s.heap.objs.size (Obj.mapSeq (· ++ vs.toArray)) }) : wpAny (model prog w) A (collect (.ref l)) Q E s := by
  obtain ⟨o, ho, hc, n, hd⟩ := id hl
  have ho' : (s.heap.push (seqObj "list" #[] 0)).get? l = some o := Heap.get?_push_of_some _ ho
  have hn : (s.heap.push (seqObj "list" #[] 0)).get? s.heap.objs.size = some (seqObj "list" #[] 0) := Heap.get?_push_size _ rfl
  unfold collect
  refine wpAny_bind (wpAny_runValue (codeAny_builtin entry_proto_collect' ?_))
  show wpAny _ _ (do again (.builtin "list.__iadd__" ⟨[← newList [], .ref l], []⟩)) _ _ s
  refine wpAny_bind (wpAny_newList (wpAny_pure ⟨Code.quiet_builtin _ (by decide +kernel), codeAny_builtin entry_list_iadd' ?_⟩))
  show wpAny _ _ (Builtin.List.listExtendWith (.ref s.heap.objs.size) (.ref l) (.ref s.heap.objs.size)) _ _ { s with heap := s.heap.push (seqObj "list" #[] 0) }
  unfold Builtin.List.listExtendWith
  refine wpAny_bind (wpAny_typeOf (T := "tuple") ⟨o, ho', hc⟩ ?_)
  have ht : (Value.type "tuple" == Value.type "tuple") = true := by rfl
  rw [if_pos (by rw [ht]; simp)]
  refine wpAny_bind (listItems_at ho' hd ?_)
  refine wpAny_bind (listItems_at (xs := #[]) (n := 0) hn rfl ?_)
  rw [if_neg (by simp)]
  refine wpAny_bind (listUpdate_at (xs := #[]) (n := 0) hn rfl ?_ (Nat.zero_le _) (by show (#[] ++ vs.toArray).size ≤ sizeLine + 1; simp only [Array.size_append, List.size_toArray, List.length_nil]; omega))
  refine wpAny_pure ?_
  show wpAny (model prog w) A (do
      let o ← load s.heap.objs.size
      match o.data with
      | .seq xs _ => pure xs.toList
      | _ => unsupported "internal:collect") Q E { s with heap := (s.heap.push (seqObj "list" #[] 0)).update s.heap.objs.size (Obj.mapSeq (· ++ vs.toArray)) }
  refine wpAny_bind (wpAny_load (get?_update_seq hn _) ?_)
  show wpAny _ _ (pure ((#[] : Array Value) ++ vs.toArray).toList) Q E _
  rw [show ((#[] : Array Value) ++ vs.toArray).toList = vs by simp]
  exact wpAny_pure h
theorem mir_sorted_tup {l : Addr} {vs : List Value} {ltv : Value → Value → Bool} {Q : Value → Shared → Prop} (O : Swo ltv) (hl : s.heap.IsTuple l vs.toArray) (hz : vs.length ≤ sizeLine)
    (hS : 2 ≤ vs.length → ∀ (h₁ : Heap) (a : Addr), h₁.get? a = some (seqObj "list" vs.toArray 0) → (∀ b o, s.heap.get? b = some o → b ≠ a ∧ h₁.get? b = some o) → SortableO prog w A.in1.in1 { s with heap := h₁ } a vs ltv)
    (h : ∀ out : List Value, Srtd ltv out → Stb ltv out vs → Q (.ref (s.heap.objs.size + 1)) { s with heap := sortedAll s.heap vs out.toArray }) :
    wpAny (model prog w) A (call (.builtin "sorted") [.ref l]) Q E s := by
  refine Calls.call_function_entry kind_sorted plain_sorted entry_sorted (args_sorted1 _) ?_
  unfold Builtin.«sorted»
  refine wpAny_bind (m := checkCount "sorted" 1 1 _) (wpAny_pure ?_)
  refine wpAny_bind (mir_collect_tup hl hz ?_)
  refine wpAny_bind (wpAny_newList ?_ hz)
  have hsz : ((s.heap.push (seqObj "list" #[] 0)).update s.heap.objs.size (Obj.mapSeq (· ++ vs.toArray))).objs.size = s.heap.objs.size + 1 := by
    rw [Heap.size_update, Heap.size_push]
  have hoL : (((s.heap.push (seqObj "list" #[] 0)).update s.heap.objs.size (Obj.mapSeq (· ++ vs.toArray))).push (seqObj "list" vs.toArray 0)).get? (s.heap.objs.size + 1) = some (seqObj "list" vs.toArray 0) := by
    rw [← hsz]; exact Heap.get?_push_size _ rfl
  have keep : ∀ b o, s.heap.get? b = some o → b ≠ s.heap.objs.size + 1 ∧ (((s.heap.push (seqObj "list" #[] 0)).update s.heap.objs.size (Obj.mapSeq (· ++ vs.toArray))).push (seqObj "list" vs.toArray 0)).get? b = some o := fun b o q => by
    have hlt : b < s.heap.objs.size := Heap.lt_size q
    refine ⟨Nat.ne_of_lt (Nat.lt_succ_of_lt hlt), Heap.get?_push_of_some _ ?_⟩
    rw [Heap.get?_update_ne _ _ _ _ (Nat.ne_of_lt hlt)]
    exact Heap.get?_push_of_some _ q
  show wpAny _ _ _ _ _ { s with heap := ((s.heap.push (seqObj "list" #[] 0)).update s.heap.objs.size (Obj.mapSeq (· ++ vs.toArray))).push (seqObj "list" vs.toArray 0) }
  rw [hsz]
  refine wpAny_bind (wpAny_holding (wpAny_call_entry slot_list_sort ⟨_, hoL, rfl⟩ entry_list_sort (list_sort_ord O hoL hz (fun h2 => hS h2 _ _ hoL keep) fun out hs hb => ⟨_, rfl, ?_⟩) (args_list_sort _)))
  exact wpAny_pure ⟨_, rfl, h out hs hb⟩
end
def rSortedIT (K : PySem.W.Frag) : List V → Hp → VK → Prop := fun vs H Q => ∃ (a : Addr) (ns : List Int), vs = [V.ref a] ∧ SqT K H a (ns.map V.int) ∧
  ∀ (ns' : List Int) (p : Addr), ns'.Perm ns → ns'.Pairwise (· ≤ ·) → H p = none → Q (.ref p) (upd H p (.lst (ns'.map V.int)))
theorem cr_sortedIT {X : Cx} : CallR X (.builtin "sorted") (rSortedIT X.K) := by
  intro pins s σ H vs us Q I r h
  obtain ⟨a, ns, rfl, hs, q⟩ := h
  obtain ⟨its, rv, hl, hz⟩ := I.tuple hs
  rw [Vals.ref1 r]
  have hi := rv.ints
  refine mir_sorted_tup SrtO.swo_int hl (by rw [← rv.length]; exact hz) (fun h2 h₁ a' _ _ => SrtO.ints_sortable hi h2) fun out h1 h2 => ?_
  obtain ⟨k1, k2, k3⟩ := SrtO.ints_out hi h1 h2
  obtain ⟨ep, he'⟩ := PyProof.Rows.sortedAll_at s.heap its out.toArray
  have hlen : ((out.map SrtO.iv).map V.int).length ≤ sizeLine := by
    rw [List.length_map, k2.length_eq]
    rw [List.length_map] at hz
    exact hz
  exact ⟨.ref _, upd H (s.heap.objs.size + 1) (.lst ((out.map SrtO.iv).map V.int)), I.laid (t' := s.toks) (fun _ _ => PyProof.Rows.sortedAll_old) (Nat.le_succ _) ⟨hlen, out, ep, vals_of_ints k1, he'⟩, rfl, q _ _ k2 k3 (I.hok.fresh (Nat.le_succ _))⟩
end L2
namespace MM
open PySem PySem.Spec L2
/-- the ints of a list or a tuple -/
def intsOfT : D → Option (List Int)
  | .tup xs => ints? xs
  | d => intsOf d
def fSortedA (d : D) : Option EV := (intsOfT d).map fun ns => .m (.lst ((sortI ns).map D.int))
theorem RB.intsT {k : Kc} {G H : Hp} {v : V} {xs : List D} (g : Same G H) (h : RB k G H v (.tup xs)) {ns : List Int} (e : ints? xs = some ns) : ∃ a, v = .ref a ∧ SqT k.K H a (ns.map V.int) := by
  obtain ⟨a, vs, rfl, h1, r, _⟩ := h.tup g
  rw [ints?_eq e] at r
  rw [← r.ints]
  exact ⟨a, rfl, h1⟩
theorem g_sortedA {X : Cx} {ct : Ct} : CallG ⟨X.K, ct⟩ (fun vs H Q => rSortedI X.K vs H Q ∨ rSortedIT X.K vs H Q) (gF1 fSortedA) := callG1 fun c G H σ e v d z Q re rb hz q => by
  have fin : ∀ (ns ns' : List Int) (p : Addr), z = .m (.lst ((sortI ns).map D.int)) → ns'.Perm ns → ns'.Pairwise (· ≤ ·) → H p = none → Q (.ref p) (upd H p (.lst (ns'.map V.int))) := fun ns ns' p ez hp hs hf => by
    subst ez
    have : ns' = sortI ns := sorted_eq (hp.trans (sortI_perm ns).symm) hs (sortI_sorted ns)
    subst this
    obtain ⟨r1, r2, r3⟩ := re.newM (x := .lst ((sortI ns).map D.int)) hf ⟨_, rfl, Rps.ofInts _⟩
    exact q G _ _ (Same.refl _) r1 ⟨p, rfl, r2, r3⟩
  unfold fSortedA at hz
  cases h : intsOfT d with
  | none => rw [h] at hz; cases hz
  | some ns =>
    rw [h] at hz; cases hz
    cases d with
    | tup xs =>
      obtain ⟨a, rfl, h1⟩ := RB.intsT re.gh rb h
      exact .inr ⟨a, ns, rfl, h1, fun ns' p hp hs hf => fin ns ns' p rfl hp hs hf⟩
    | lst xs =>
      obtain ⟨a, rfl, h1⟩ := rb.ints re.gh h
      exact .inl ⟨a, ns, rfl, h1, fun ns' p hp hs hf => fin ns ns' p rfl hp hs hf⟩
    | scr xs =>
      obtain ⟨a, rfl, h1⟩ := rb.ints re.gh h
      exact .inl ⟨a, ns, rfl, h1, fun ns' p hp hs hf => fin ns ns' p rfl hp hs hf⟩
    | _ => cases h
theorem cr_sortedA {X : Cx} : CallR X (.builtin "sorted") (fun vs H Q => rSortedI X.K vs H Q ∨ rSortedIT X.K vs H Q) := CallR.or cr_sortedI cr_sortedIT
@[simp] theorem fSortedA_ints {ns : List Int} : fSortedA (.lst (ns.map D.int)) = some (.m (.lst ((sortI ns).map D.int))) := by
  show (ints? (ns.map D.int)).map _ = _
  rw [ints?_map]; rfl
@[simp] theorem fSortedA_tints {ns : List Int} : fSortedA (.tup (ns.map D.int)) = some (.m (.lst ((sortI ns).map D.int))) := by
  show (ints? (ns.map D.int)).map _ = _
  rw [ints?_map]; rfl
end MM
end
section
set_option Elab.async false
set_option linter.all false
set_option autoImplicit false
set_option maxRecDepth 100000
set_option maxHeartbeats 4000000
namespace MM
open PySem PySem.Spec PyProof.Rows L2
/-! ### repr of a truth -/
def rRepr : List V → Hp → VK → Prop := fun xs H Q => ∃ b : Bool, xs = [.bl b] ∧ Q (.str (if b then "True" else "False")) H
def fRepr : D → Option EV
  | .bl b => some (.d (.str (if b then "True" else "False")))
  | _ => none
section
variable {X : Cx} {ct : Ct}
theorem cr_repr : CallR X (.builtin "repr") rRepr := by
  intro pins s σ H xs us Q I r h
  obtain ⟨b, rfl, q⟩ := h
  obtain ⟨u, rfl, rv⟩ := vals1 r
  obtain ⟨t, rfl⟩ := rv
  exact PySem.P.repr_of_bool ⟨.str _, H, I.tok _, ⟨_, rfl⟩, q⟩
theorem g_repr : CallG ⟨X.K, ct⟩ rRepr (gF1 fRepr) := callG1 fun c G H σ e v d z Q re rb hz q => by
  cases d with
  | bl b => cases hz; rw [rb.bl]; exact ⟨b, rfl, q G H _ (Same.refl _) re (.str _)⟩
  | _ => cases hz
/-! ### x is True, x is not True -/
theorem op_isB : OpR X (compareOp .Is) (fun x y H Q => ∃ a b : Bool, x = .bl a ∧ y = .bl b ∧ Q (.bl (a == b)) H) := by
  intro pins s σ H x y v u Q I rx ry h
  obtain ⟨a, b, rfl, rfl, q⟩ := h
  obtain ⟨t, rfl⟩ := rx
  obtain ⟨t', rfl⟩ := ry
  exact is_bool (fin_bl I q rfl)
theorem op_notB : OpR X (compareOp .IsNot) (fun x y H Q => ∃ a b : Bool, x = .bl a ∧ y = .bl b ∧ Q (.bl (!(a == b))) H) := by
  intro pins s σ H x y v u Q I rx ry h
  obtain ⟨a, b, rfl, rfl, q⟩ := h
  obtain ⟨t, rfl⟩ := rx
  obtain ⟨t', rfl⟩ := ry
  exact isnot_bool (fin_bl I q rfl)
def gIsB : D → D → Option Bool
  | .bl a, .bl b => some (a == b)
  | _, _ => none
def gNotB (a b : D) : Option Bool := (gIsB a b).map not
theorem opB_isB {k : Kc} : OpB k (fun x y H Q => ∃ a b : Bool, x = .bl a ∧ y = .bl b ∧ Q (.bl (a == b)) H) gIsB := fun G H x y a b z Q g ra rb hz q => by
  unfold gIsB at hz
  split at hz
  · cases hz
    rw [ra.bl, rb.bl]
    exact ⟨_, _, rfl, rfl, q⟩
  · cases hz
theorem opB_notB {k : Kc} : OpB k (fun x y H Q => ∃ a b : Bool, x = .bl a ∧ y = .bl b ∧ Q (.bl (!(a == b))) H) gNotB := fun G H x y a b z Q g ra rb hz q => by
  unfold gNotB gIsB at hz
  split at hz
  · cases hz
    rw [ra.bl, rb.bl]
    exact ⟨_, _, rfl, rfl, q⟩
  · cases hz
theorem x_isB : CmpX X ct .Is gIsB := ⟨_, op_isB, opB_isB⟩
theorem x_notB : CmpX X ct .IsNot gNotB := ⟨_, op_notB, opB_notB⟩
end
end MM
end
section
set_option Elab.async false
set_option linter.all false
set_option autoImplicit false
set_option maxRecDepth 100000
set_option maxHeartbeats 4000000
namespace MM
open PySem PySem.Spec L2
/-! ### a fresh thing of no name is held beside the frame -/
section
variable {k : Kc} {c : Fr} {G H : Hp} {σ : L2.St} {e : Env} {a : Addr} {o : HO}
def Fr.hold (c : Fr) (a : Addr) (o : HO) : Fr := ⟨upd c.O a o, c.G0, c.P⟩
theorem RepS.hold (r : RepS k c G σ H e) (hG : G a = none) (hO : c.O a = none) (hH : H a = some o) (hl : Loose σ e a) (hnt : NoT o) : RepS k (c.hold a o) G σ H e := by
  refine ⟨r.g0, r.gh, fun b u q => ?_, fun b g1 g2 => ?_, r.tb.keepT (fun b u q z => q) (fun b ps q => ⟨fun n => (show (upd c.O a o) b = none by rw [upd_ne (fun y => by subst y; rw [hH] at q; cases q; exact hnt _ rfl)]; exact n), id⟩), r.len, fun i x hx => ?_, r.dis, r.pin⟩
  · by_cases hb : b = a
    · subst hb
      have q : (upd c.O b o) b = some u := q
      rw [upd_same] at q; rw [hH, ← q]
    · have q : (upd c.O a o) b = some u := q
      rw [upd_ne hb] at q; exact r.oh _ _ q
  · by_cases hb : b = a
    · subst hb; exact absurd hG g1
    · have g2 : (upd c.O a o) b ≠ none := g2
      rw [upd_ne hb] at g2; exact r.fr b g1 g2
  · obtain ⟨v, h1, h2⟩ := r.slot i x hx
    refine ⟨v, h1, ?_⟩
    have own : x.own = true → ∀ {y : MV}, (∃ b, v = .ref b ∧ MAt k c G H b y) → ∃ b, v = .ref b ∧ MAt k (c.hold a o) G H b y := fun hw {y} ⟨b, e1, m⟩ => by
      have na : b ≠ a := fun z => by
        subst z
        rw [e1] at h1
        exact hl i x hx hw h1
      refine ⟨b, e1, m.1, ?_, m.2.2⟩
      show (upd c.O a o) b = none
      rw [upd_ne na]; exact m.2.1
    cases x with
    | d d => exact h2
    | m x => exact own rfl h2
    | p x => exact own rfl h2
    | t _ _ => first | exact h2.elim | exact trivial | cases hw | exact hv.elim | exact h.elim | exact hx.elim | exact hu.elim | cases hy | cases h' | cases hd' | cases h2 | cases h1 | cases hd | cases h3 | cases h4
/-- and let go again: nobody has touched it, nobody owns it -/
theorem RepS.unhold (r : RepS k (c.hold a o) G σ H e) (hO : c.O a = none) (h0 : c.G0 a = none) (hne : ∀ φ, o ≠ .ext φ) : RepS k c G σ H e ∧ G a = none ∧ H a = some o ∧ Loose σ e a := by
  have ha : H a = some o := r.oh a o (show (upd c.O a o) a = some o from upd_same)
  refine ⟨⟨r.g0, r.gh, fun b u q => ?_, fun b g1 g2 => ?_, r.tb.keep (fun b u q z => ⟨q, fun n => (by
      have n' : (upd c.O a o) b = none := n
      by_cases y : b = a
      · subst y; rw [upd_same] at n'; cases n'
      · rw [upd_ne y] at n'; exact n'), id⟩), r.len, fun i x hx => ?_, r.dis, r.pin⟩, ?_, ha, fun i x hx hw h1 => ?_⟩
  · have hb : b ≠ a := ne_of_none q hO
    exact r.oh b u (show (upd c.O a o) b = some u by rw [upd_ne hb]; exact q)
  · have hb : b ≠ a := fun z => g2 (z ▸ hO)
    exact r.fr b g1 (show (upd c.O a o) b ≠ none by rw [upd_ne hb]; exact g2)
  · obtain ⟨v, h1, h2⟩ := r.slot i x hx
    refine ⟨v, h1, ?_⟩
    have own : ∀ {y : MV}, (∃ b, v = .ref b ∧ MAt k (c.hold a o) G H b y) → ∃ b, v = .ref b ∧ MAt k c G H b y := fun {y} ⟨b, e1, m⟩ => by
      have q : (upd c.O a o) b = none := m.2.1
      have na : b ≠ a := fun z => by subst z; rw [upd_same] at q; cases q
      rw [upd_ne na] at q
      exact ⟨b, e1, m.1, q, m.2.2⟩
    cases x with
    | d d => exact h2
    | m x => exact own h2
    | p x => exact own h2
    | t _ _ => first | exact h2.elim | exact trivial | cases hw | exact hv.elim | exact h.elim | exact hx.elim | exact hu.elim | cases hy | cases h' | cases hd' | cases h2 | cases h1 | cases hd | cases h3 | cases h4
  · by_cases hg : G a = none
    · exact hg
    · rcases r.fr a hg (show (upd c.O a o) a ≠ none by rw [upd_same]; exact fun z => by cases z) with z | ⟨φ, z⟩
      · exact absurd h0 z
      · have y := r.gh _ _ z
        rw [ha] at y
        exact absurd (Option.some.inj y) (hne φ)
  · obtain ⟨b, y, _, hb, m⟩ := r.owner hx hw
    rw [h1] at hb
    obtain rfl : a = b := by injection hb with h; injection h with h; injection h
    have q : (upd c.O a o) a = none := m.2.1
    rw [upd_same] at q; cases q
end
/-- a cell that is nobody's is changed -/
theorem RepS.poke {k : Kc} {c : Fr} {G H : Hp} {σ : L2.St} {e : Env} {a : Addr} {o : HO} (r : RepS k c G σ H e) (hG : G a = none) (hO : c.O a = none) (hl : Loose σ e a) (hnt : ∀ u, H a = some u → ¬ IsTb u) : RepS k c G σ (upd H a o) e := by
  refine ⟨r.g0, fun b u q => ?_, fun b u q => ?_, r.fr, r.tb.keep (fun b u q z => ⟨by rw [upd_ne (fun y => by subst y; exact hnt u q z)]; exact q, id, id⟩), r.len, fun i x hx => ?_, r.dis, r.pin⟩
  · rw [upd_ne (ne_of_none q hG)]; exact r.gh _ _ q
  · rw [upd_ne (ne_of_none q hO)]; exact r.oh _ _ q
  · obtain ⟨v, h1, h2⟩ := r.slot i x hx
    refine ⟨v, h1, ?_⟩
    have own : x.own = true → ∀ {y : MV}, (∃ b, v = .ref b ∧ MAt k c G H b y) → ∃ b, v = .ref b ∧ MAt k c G (upd H a o) b y := fun hw {y} ⟨b, e1, m⟩ => by
      have na : b ≠ a := fun z => by
        subst z
        rw [e1] at h1
        exact hl i x hx hw h1
      exact ⟨b, e1, m.keep (Same.refl _) m.1 (upd_ne na)⟩
    cases x with
    | d d => exact h2
    | m x => exact own rfl h2
    | p x => exact own rfl h2
    | t _ _ => first | exact h2.elim | exact trivial | cases hw | exact hv.elim | exact h.elim | exact hx.elim | exact hu.elim | cases hy | cases h' | cases hd' | cases h2 | cases h1 | cases hd | cases h3 | cases h4
theorem Post.hold {α : Type} {k : Kc} {W : WX} {c : Fr} {G : Hp} {σ : L2.St} {a : Addr} {o : HO} {K : Hp → Hp → Env → α → Prop} {r : Res α} (h : Post k W c G σ K r) (hO : c.O a = none) (h0 : c.G0 a = none) (hne : ∀ φ, o ≠ .ext φ) :
    Post k W (c.hold a o) G σ (fun G' H' e x => K G' H' e x ∧ RepS k c G' σ H' e ∧ G' a = none ∧ H' a = some o ∧ Loose σ e a) r := by
  cases r with
  | ok x e =>
    intro G' H' s r
    have u := r.unhold hO h0 hne
    exact ⟨h G' H' s u.1, u⟩
  | exc x e => exact fun G' H' cls dc s r rx => h G' H' cls dc s (r.unhold hO h0 hne).1 rx
  | stuck => exact h
/-- f(..).append(x): what is changed has no name -/
def cMutX (T : String) (g : MV → List D → Option (MV × D)) (fv : EM EV) (f : EM (List Tk)) : EM D := fun e => (fv e).bind fun x e1 => match x with
  | .m y => if tyM T y = true then (f e1).bind fun ts e2 => (match vals ts with
      | some ds => (match g y ds with
        | some (_, z) => .ok z e2
        | none => .stuck)
      | none => .stuck) else .stuck
  | _ => .stuck
section
variable {X : Cx} {ct : Ct} {W : WX}
variable {name : Str} {apos cpos : Pos} {o a : Expr} {es : List Expr} {fv : EM EV} {fs : EM (List Tk)} {T id : String} {r : V → List V → Hp → VK → Prop} {g : MV → List D → Option (MV × D)}
theorem e_mutX (pa : PlainAttrs T) (slot : Slot T name id) (hty : typeOf (.builtin id) = pure (.type "method_descriptor")) (hm : MtM X id r) (hG : MutG ⟨X.K, ct⟩ r g) (ho : SV X ct W o fv) (ha : SA X ct W (a :: es) fs)
    (hbase : attributeBase o name X.env (eval o X.env) = eval o X.env := by rfl)
    (hfew : ((backTo cpos (starEach (a :: es) X.env)).all (fun x => !x.1) && (backToKw cpos (keywordEach [] X.env)).all (fun x => x.1.isSome)
      && decide ((a :: es).length + ([] : List Keyword).length + (if ([] : List Keyword).isEmpty then 0 else 1) < 30)) = true := by rfl)
    (hline : (apos.endLine == cpos.line) = true := by rfl) (hs : starEach (a :: es) X.env = (false, eval a X.env) :: starEach es X.env := by rfl) (hplain : (backTo cpos (starEach es X.env)).any (·.1) = false := by rfl) :
    SE X ct W (.Call (.Attribute o name apos) (a :: es) [] cpos) (cMutX T g fv fs) := PEw (pe_bm pa slot hty hm ho ha hbase hfew hline hs hplain) fun σ H Q q => by
  obtain ⟨c, G, e, re, p⟩ := q
  refine ⟨c, G, e, re, (Post.bind p).imp fun G1 H1 e1 ev s1 r1 p1 v hv => ?_⟩
  cases ev with
  | d d => exact p1.elim
  | p d => exact p1.elim
  | m y =>
    obtain ⟨b, rfl, ⟨hG1, hO, o1, hH1, m1⟩, hl⟩ := hv
    have h0 : c.G0 b = none := by
      cases hb : c.G0 b with
      | none => rfl
      | some w => rw [r1.g0 b w hb] at hG1; cases hG1
    have p1 : Post ⟨X.K, ct⟩ W c G1 σ (fun G' H' x d => ∀ v, Rp ⟨X.K, ct⟩ G' v d → Q v H') (if tyM T y = true then (fs e1).bind fun ts e2 => (match vals ts with
      | some ds => (match g y ds with
        | some (_, z) => .ok z e2
        | none => .stuck)
      | none => .stuck) else .stuck) := p1
    by_cases ht : tyM T y = true
    · rw [if_pos ht] at p1
      refine ⟨tyM_ok ht hH1 m1, c.hold b o1, G1, e1, r1.hold hG1 hO hH1 hl m1.noT, (Post.hold (Post.bind p1) hO h0 (fun φ z => m1.noTb (.inr ⟨φ, z⟩))).imp fun G2 H2 e2 ts s2 r2 p2 vs hvs => ?_⟩
      obtain ⟨p2, u1, u2, u3, u4⟩ := p2
      split at p2
      · rename_i ds h2
        split at p2
        · rename_i y' z hg
          refine hG G2 H2 b o1 y y' vs ds z Q u1.gh u3 (m1.mono s2) (vals_ok h2 hvs) hg fun o' v m' hv => p2 G2 _ (Same.refl _) ?_ v hv
          exact u1.poke u2 hO u4 (fun u q => by rw [u3] at q; cases q; exact m1.noTb)
        · exact p2.elim
      · exact p2.elim
    · rw [if_neg ht] at p1; exact p1.elim
  | t _ _ => first | exact h2.elim | exact trivial | cases hw | exact hv.elim | exact h.elim | exact hx.elim | exact hu.elim | cases hy | cases h' | cases hd' | cases h2 | cases h1 | cases hd | cases h3 | cases h4
end
end MM
end
section
set_option Elab.async false
set_option linter.all false
set_option autoImplicit false
set_option maxRecDepth 100000
set_option maxHeartbeats 4000000
namespace MM
open PySem PySem.Spec L2

/-! ### list(range(a, b)) -/
def gRg : D → D → Option EV
  | .int i, .int j => if lrOk2 i j = true then some (.m (.lst (rangeD i (j - i).toNat))) else none
  | _, _ => none
theorem lrOk2_iff {i j : Int} (h : lrOk2 i j = true) : RgOk i j := by
  obtain ⟨h1, h2⟩ := Bool.and_eq_true_iff.mp h
  obtain ⟨h2, h3⟩ := Bool.and_eq_true_iff.mp h2
  have := rngOk_iff h1
  have := rngOk_iff h2
  have := of_decide_eq_true h3
  exact ⟨by omega, by omega, by omega, by omega, by omega⟩
section
variable {X : Cx} {ct : Ct} {W : WX} {p p2 pos pos2 : Pos} {a b : Expr} {fa fb : EM Tk}
theorem v_listR2 (hc : X.calm = true) (hg : Gl X "list") (hm : X.mg "list" = none) (hg2 : Gl X "range") (hm2 : X.mg "range" = none) (ha : SK X ct W a fa) (hb : SK X ct W b fb)
    (na : starEach [a, b] X.env = (false, eval a X.env) :: starEach [b] X.env := by rfl) (nb : starEach [b] X.env = (false, eval b X.env) :: starEach [] X.env := by rfl)
    (hp : (backTo pos2 (starEach [b] X.env)).any (·.1) = false := by rfl)
    (na2 : starEach [.Call (.Name "range" p2) [a, b] [] pos2] X.env = (false, eval (.Call (.Name "range" p2) [a, b] [] pos2) X.env) :: starEach [] X.env := by rfl) :
    SV X ct W (.Call (.Name "list" p) [.Call (.Name "range" p2) [a, b] [] pos2] [] pos) (vBin gRg fa fb) := by
  refine PEw (pe_listRg hc hg hm (prg_2 hg2 hm2 ha hb na nb hp) na2) fun σ H Q q => ?_
  obtain ⟨c, G, e, re, p⟩ := q
  refine two re (R := fun x y H2 => ∃ i j, x = .int i ∧ y = .int j ∧ RgOk i j ∧ ∀ q, H2 q = none → Q (.ref q) (upd H2 q (.lst (rgV i j)))) p fun G2 H2 e2 t1 t2 x y s r2 hx hy p2 => ?_
  split at p2
  · rename_i d1 d2 h1 h2
    have b1 : RB ⟨X.K, ct⟩ G2 H2 x d1 := .of r2 hx h1
    have b2 : RB ⟨X.K, ct⟩ G2 H2 y d2 := .of r2 hy h2
    cases hz : gRg d1 d2 with
    | none => rw [hz] at p2; exact p2.elim
    | some z =>
      rw [hz] at p2
      cases d1 with
      | int i =>
        cases d2 with
        | int j =>
          have hz' : (if lrOk2 i j = true then some (EV.m (.lst (rangeD i (j - i).toNat))) else none) = some z := hz
          split at hz'
          · rename_i hj
            cases hz'
            refine ⟨i, j, b1.int, b2.int, lrOk2_iff hj, fun q hq => ?_⟩
            obtain ⟨r3, r4, r5⟩ := r2.newM (x := .lst (rangeD i (j - i).toNat)) hq ⟨_, rfl, rgV_rps (k := ⟨X.K, ct⟩) (G := G2) i j⟩
            exact p2 G2 _ (Same.refl _) r3 _ ⟨q, rfl, r4, r5⟩
          · cases hz'
        | _ => cases hz
      | _ => cases hz
  · exact p2.elim
end
end MM
end
section
set_option Elab.async false
set_option linter.all false
set_option autoImplicit false
set_option maxRecDepth 100000
set_option maxHeartbeats 4000000
namespace MM
open PySem PySem.Spec L2

/-! ### a pair of data and an own thing, handed out by a def and taken apart at once -/
def RpP (k : Kc) (c : Fr) (G : Hp) (σ : L2.St) (H : Hp) (e : Env) (v : V) (d : D) (y : MV) : Prop := ∃ q w b, v = .ref q ∧ SqT k.K H q [w, .ref b] ∧ Rp k G w d ∧ MAt k c G H b y ∧ Loose σ e b
def TP (k : Kc) (W : WX) (f : EM (D × MV)) : L2.TE := fun σ H Q => ∃ c G e, RepS k c G σ H e ∧ Post k W c G σ (fun G' H' e' p => ∀ v, RpP k c G' σ H' e' v p.1 p.2 → Q v H') (f e)
abbrev SP (X : Cx) (ct : Ct) (W : WX) (e : Expr) (f : EM (D × MV)) : Prop := PE X e (TP ⟨X.K, ct⟩ W f)
def pTail (F : List EV → Out) (ts : List Tk) : EM (D × MV) := fun e1 => match argE e1 ts with
  | none => .stuck
  | some as => if (slotsOf as).Nodup then (match F (as.map (·.1)) with
    | .ret (.t d y) ps => .ok (d, y) (backE e1 as ps)
    | .exc x ps => .exc x (backE e1 as ps)
    | _ => .stuck) else .stuck
def pCall (F : List EV → Out) (fa : EM (List Tk)) : EM (D × MV) := fun e => (fa e).bind (pTail F)
section
variable {k : Kc} {c : Fr} {G G' H H' : Hp} {σ : L2.St} {e : Env} {vs : List V} {ts : List Tk} {as : List (EV × Option Nat)} {ps : List (Option MV)}
theorem RRes.hereT (r : RepS k c G σ H e) (r' : RepS k c G' σ H' (backE e as ps)) (hv : RpKs k G σ vs ts) (hA : argE e ts = some as) (nd : (slotsOf as).Nodup) (af : Aft k vs (as.map (·.1)) G H G' H' ps) {v : V} {d : D} {y : MV} (h : RRes k G' H H' v (.t d y)) : RpP k c G' σ H' (backE e as ps) v d y := by
  obtain ⟨q, w, a, o, e1, hs, hw, h1, h2, h3, h4⟩ := h
  obtain ⟨a', ea, m, l⟩ := RRes.here r r' hv hA nd af (v := .ref a) (x := .m y) ⟨a, o, rfl, h1, h2, h3, h4⟩ (fun _ _ z => by cases z)
  cases ea
  exact ⟨q, w, a, e1, hs, hw, m, l⟩
theorem post_callP {K : PySem.W.Frag} {ct : Ct} {W : WX} {F : List EV → Out} {Q : VK} {E : XK} (him : ∀ cls d H, W cls d σ H → E cls d H) (r : RepS ⟨K, ct⟩ c G σ H e) (hv : RpKs ⟨K, ct⟩ G σ vs ts)
    (h : Post ⟨K, ct⟩ W c G σ (fun G' H' e' p => ∀ v, RpP ⟨K, ct⟩ c G' σ H' e' v p.1 p.2 → Q v H') (pTail F ts e)) : spM ⟨K, ct⟩ F vs H Q E := by
  unfold pTail at h
  cases h1 : argE e ts with
  | none => rw [h1] at h; exact h.elim
  | some as =>
    rw [h1] at h
    have h' : Post ⟨K, ct⟩ W c G σ (fun G' H' e' p => ∀ v, RpP ⟨K, ct⟩ c G' σ H' e' v p.1 p.2 → Q v H') (if (slotsOf as).Nodup then (match F (as.map (·.1)) with
        | .ret (.t d y) ps => .ok (d, y) (backE e as ps)
        | .exc x ps => .exc x (backE e as ps)
        | _ => .stuck) else .stuck) := h
    by_cases nd : (slotsOf as).Nodup
    · rw [if_pos nd] at h'
      refine ⟨G, as.map (·.1), r.gh, ⟨fun p hp => ⟨(r.tb p hp).1, rfl, (r.tb p hp).2.2⟩, args_ok r hv h1 nd⟩, ?_⟩
      cases h2 : F (as.map (·.1)) with
      | stuck => rw [h2] at h'; exact h'.elim
      | ret x ps =>
        rw [h2] at h'
        intro G' H' v af hr
        have r' := r.after hv h1 nd af
        cases x with
        | t d y => exact h' G' H' af.g r' v (RRes.hereT r r' hv h1 nd af hr)
        | d x => exact h'.elim
        | m x => exact h'.elim
        | p x => exact h'.elim
      | exc x ps =>
        rw [h2] at h'
        intro G' H' cls dc af hx
        exact him _ _ _ (h' G' H' cls dc af.g (r.after hv h1 nd af) hx)
    · rw [if_neg nd] at h'; exact h'.elim
end
section
variable {X : Cx} {ct : Ct} {W : WX} {k : Nat} {x : Str} {ps : List Str} {F : List EV → Out} {p pos : Pos} {a : Expr} {es : List Expr} {fa : EM (List Tk)}
theorem p_call (hF : FnAt X.prog X.w X.K X.mg X.base ct k x ps F) (hr : Room k X.A) (hg : Gl X x) (tk : Takes X W) (ha : SA X ct W (a :: es) fa) (hdb : (x == ("__debug__" : Str)) = false := by decide) (he : starEach (a :: es) X.env = (false, eval a X.env) :: starEach es X.env := by rfl)
    (hpl : (backTo pos (starEach es X.env)).any (·.1) = false := by rfl) : SP X ct W (.Call (.Name x p) (a :: es) [] pos) (pCall F fa) := by
  obtain ⟨f, fd, h1, h2, h3, h4⟩ := hF.ex
  refine PEw (pe_callS h1 hr hg h2 h3 h4 (E := WE W) (fun σ => passAt tk σ) ha hdb he hpl) fun σ H Q q => ?_
  obtain ⟨c, G, e, r, p⟩ := q
  refine ⟨c, G, e, r, (Post.bind p).imp fun G1 H1 e1 ts s1 r1 p1 vs hvs => ?_⟩
  exact post_callP (fun _ _ _ h => h) r1 hvs p1
/-- a, b = f(..): the one data, the other an own thing -/
def sUnpT (i j : Nat) (fp : EM (D × MV)) : SM := fun e => (fp e).sb fun p e1 => match pput i (.d p.1) e1 with
  | some e2 => (match pput j (.m p.2) e2 with
    | some e3 => .nx e3
    | none => .stuck)
  | none => .stuck
theorem s_unpT {i j m : Nat} {t1 t2 ex : Expr} {tpos : Pos} {fp : EM (D × MV)} (hc : X.calm = true) (h1 : PG X t1 (gName i)) (h2 : PG X t2 (gName j)) (he : SP X ct W ex fp)
    (hs : swapsWithSole [.Tuple [t1, t2] m tpos] ex pos.line X.env = pure false := by rfl) (hw : swappedStores [.Tuple [t1, t2] m tpos] ex X.env = pure none := by rfl)
    (h3 : (assignEach [.Tuple [t1, t2] m tpos] X.env).map (·.2) = [assign (.Tuple [t1, t2] m tpos) X.env] := by rfl)
    (h4 : (assignEach [t1, t2] X.env).map (·.2) = assign t1 X.env :: (assignEach [t2] X.env).map (·.2) := by rfl) (h5 : (assignEach [t2] X.env).map (·.2) = assign t2 X.env :: (assignEach [] X.env).map (·.2) := by rfl)
    (hn : (assignEach [t1, t2] X.env).length = 2 := by rfl) (hst : (assignEach [t1, t2] X.env).findIdx? (·.1) = none := by rfl) :
    SS X ct W (.Assign [.Tuple [t1, t2] m tpos] ex pos) (sUnpT i j fp) := PSw (ps_asg he (pg_tup (n := 2) hc (pgs_cons h1 (pgs_cons h2 pgs_nil h5) h4) hn hst) hs hw h3) fun Dn σ H q => by
  obtain ⟨c, G, e, r, p⟩ := q
  refine ⟨c, G, e, r, (PostS.sb p).imp fun G' H' e' y s r' h v hv => ?_⟩
  obtain ⟨d, y⟩ := y
  obtain ⟨q, w, b, rfl, hs, hw, hm, hl⟩ := hv
  have h : PostS ⟨X.K, ct⟩ W c G' Dn (match pput i (.d d) e' with
    | some e2 => (match pput j (.m y) e2 with
      | some e3 => .nx e3
      | none => .stuck)
    | none => .stuck) := h
  refine ⟨q, _, rfl, hs, rfl, w, _, rfl, .ref b, _, rfl, rfl, ?_⟩
  cases g1 : pput i (.d d) e' with
  | none => rw [g1] at h; exact h.elim
  | some e2 =>
    rw [g1] at h
    obtain ⟨r2, k2⟩ := pput_ok r' (show RpV ⟨X.K, ct⟩ c G' σ H' e' w (.d d) from hw) g1
    have h : PostS ⟨X.K, ct⟩ W c G' Dn (match pput j (.m y) e2 with
      | some e3 => .nx e3
      | none => .stuck) := h
    cases g2 : pput j (.m y) e2 with
    | none => rw [g2] at h; exact h.elim
    | some e3 =>
      rw [g2] at h
      obtain ⟨r3, _⟩ := pput_ok r2 (k2 (.m y) (.ref b) ⟨b, rfl, hm, hl⟩ (fun z => by cases z)) g2
      exact h G' _ H' (Same.refl _) r3
/-- return (e, name): the name's own thing is handed out in a pair -/
def sRetT (fe : EM D) (j : Nat) : SM := fun e => (fe e).sb fun d e1 => match e1[j]? with
  | some (some (.m y)) => .rt (.t d y) e1
  | _ => .stuck
theorem s_retT {ex : Expr} {y : Str} {j n : Nat} {fe : EM D} {tpos : Pos} (he : SE X ct W ex fe) (hy : PE X (.Name y p) (tVar j)) (s1 : starEach [ex, .Name y p] X.env = (false, eval ex X.env) :: starEach [.Name y p] X.env := by rfl)
    (s2 : starEach [.Name y p] X.env = (false, eval (.Name y p) X.env) :: starEach [] X.env := by rfl) : SS X ct W (.Return (some (.Tuple [ex, .Name y p] n tpos)) pos) (sRetT fe j) := PSw (ps_ret (pe_tup (pa_cons he (pa_cons hy pa_nil s2) s1))) fun Dn σ H q => by
  obtain ⟨c, G, e, r, p⟩ := q
  refine ⟨c, G, e, r, (PostS.sb p).imp fun G' H' e' d s r' h w hw => ?_⟩
  split at h
  · rename_i y hy
    obtain ⟨v, h1, b, e1, m⟩ := r'.slot j _ hy
    subst e1
    refine ⟨_, h1, by show 2 ≤ sizeLine; decide, fun q hq => ?_⟩
    have r2 := r'.layM (o := .tup [w, .ref b]) hq
    refine h G' σ _ _ (Same.refl _) r2 ⟨q, w, b, rfl, .inl (.inl upd_same), hw, ?_, fun i a ha z => ?_⟩
    · obtain ⟨v, h3, b', e1, m2⟩ := r2.slot j _ hy
      rw [h1] at h3
      cases h3
      cases e1
      exact m2
    · subst z
      obtain ⟨z, h3, h4⟩ := r'.pin i a ha
      have := r'.dis i j a _ _ h3 hy rfl rfl h4 h1
      subst this
      rw [hy] at h3
      cases h3
  · exact h.elim
end
@[simp] theorem pCall_ev {F : List EV → Out} {fa : EM (List Tk)} {e : Env} : pCall F fa e = (fa e).bind (pTail F) := rfl
@[simp] theorem pTail_ev {F : List EV → Out} {ts : List Tk} {e : Env} : pTail F ts e = (match argE e ts with
  | none => .stuck
  | some as => if (slotsOf as).Nodup then (match F (as.map (·.1)) with
    | .ret (.t d y) ps => .ok (d, y) (backE e as ps)
    | .exc x ps => .exc x (backE e as ps)
    | _ => .stuck) else .stuck) := rfl
@[simp] theorem sUnpT_ev {i j : Nat} {fp : EM (D × MV)} {e : Env} : sUnpT i j fp e = (fp e).sb fun p e1 => match pput i (.d p.1) e1 with
  | some e2 => (match pput j (.m p.2) e2 with
    | some e3 => .nx e3
    | none => .stuck)
  | none => .stuck := rfl
@[simp] theorem sRetT_ev {fe : EM D} {j : Nat} {e : Env} : sRetT fe j e = (fe e).sb fun d e1 => match e1[j]? with
  | some (some (.m y)) => .rt (.t d y) e1
  | _ => .stuck := rfl
@[simp] theorem gRg_int {i j : Int} : gRg (.int i) (.int j) = if lrOk2 i j = true then some (EV.m (.lst (rangeD i (j - i).toNat))) else none := rfl
theorem lr2_ok {i j : Int} (h0 : -1000000 ≤ i) (h1 : i ≤ 1000000) (h2 : -1000000 ≤ j) (h3 : j ≤ 1000000) : lrOk2 i j = true := by
  unfold lrOk2
  rw [rng_ok h0 h1, rng_ok h2 h3]
  simp
  omega
end MM
end
section
set_option Elab.async false
set_option linter.all false
set_option autoImplicit false
set_option maxRecDepth 100000
set_option maxHeartbeats 4000000
namespace MM
open PySem PySem.Spec L2
/-! ### loops by a measure; loops that may return -/
section
variable {t : EM Bool} {ft : D → Env → Option Env} {body : SM}
theorem while_by (P : Nat → Env → Prop) (R : SRes → Prop) (hR : ¬ R .stuck)
    (hs : ∀ k e, P k e → (∃ e1, t e = .ok false e1 ∧ R (.nx e1)) ∨ (∃ e1, t e = .ok true e1 ∧ ((∃ e2 k', body e1 = .nx e2 ∧ k' < k ∧ P k' e2) ∨ (∃ x e2, body e1 = .rt x e2 ∧ R (.rt x e2))))) :
    ∀ (k : Nat) (e : Env), P k e → R (sWhile t body e) := by
  have go : ∀ (n k : Nat) (e : Env), k ≤ n → P k e → ∃ m r, whileGo t body m e = r ∧ R r := fun n => by
    induction n with
    | zero =>
      intro k e hk hp
      rcases hs k e hp with ⟨e1, h1, h2⟩ | ⟨e1, h1, ⟨e2, k', h2, h3, h4⟩ | ⟨x, e2, h2, h3⟩⟩
      · exact ⟨1, .nx e1, by simp [whileGo, h1], h2⟩
      · omega
      · exact ⟨1, .rt x e2, by simp [whileGo, h1, h2], h3⟩
    | succ n ih =>
      intro k e hk hp
      rcases hs k e hp with ⟨e1, h1, h2⟩ | ⟨e1, h1, ⟨e2, k', h2, h3, h4⟩ | ⟨x, e2, h2, h3⟩⟩
      · exact ⟨1, .nx e1, by simp [whileGo, h1], h2⟩
      · obtain ⟨m, r, h5, h6⟩ := ih k' e2 (by omega) h4
        exact ⟨m + 1, r, by simp [whileGo, h1, h2, h5], h6⟩
      · exact ⟨1, .rt x e2, by simp [whileGo, h1, h2], h3⟩
  intro k e hp
  obtain ⟨m, r, h1, h2⟩ := go k k e (Nat.le_refl _) hp
  have hr : r ≠ .stuck := fun z => by subst z; exact hR h2
  rw [sWhile_eq h1 hr]
  exact h2
theorem forGo_rt_go {P : Nat → Env → Prop} {R : EV → Env → Prop} : ∀ (ds : List D) (k : Nat) (e : Env), P k e → (∀ i d e, ds[i]? = some d → P (k + i) e → ∃ e1, ft d e = some e1 ∧ ((∃ e2, body e1 = .nx e2 ∧ P (k + i + 1) e2) ∨ (∃ x e2, body e1 = .rt x e2 ∧ R x e2))) →
    (∃ e', forGo ft body ds e = .nx e' ∧ P (k + ds.length) e') ∨ (∃ x e', forGo ft body ds e = .rt x e' ∧ R x e')
  | [], k, e, h, _ => .inl ⟨e, rfl, h⟩
  | d :: ds, k, e, h, hs => by
    obtain ⟨e1, h1, h2⟩ := hs 0 d e rfl h
    rcases h2 with ⟨e2, h2, h3⟩ | ⟨x, e2, h2, h3⟩
    · have := forGo_rt_go (P := P) (R := R) ds (k + 1) e2 h3 fun i d' e0 hd hp => by
        have := hs (i + 1) d' e0 (by simpa using hd) (by rw [show k + (i + 1) = k + 1 + i by omega]; exact hp)
        rw [show k + (i + 1) + 1 = k + 1 + i + 1 by omega] at this
        exact this
      rcases this with ⟨e', h4, h5⟩ | ⟨x, e', h4, h5⟩
      · refine .inl ⟨e', ?_, by rw [List.length_cons, show k + (ds.length + 1) = k + 1 + ds.length by omega]; exact h5⟩
        simp only [forGo, h1, h2]
        exact h4
      · refine .inr ⟨x, e', ?_, h5⟩
        simp only [forGo, h1, h2]
        exact h4
    · refine .inr ⟨x, e2, ?_, h3⟩
      simp only [forGo, h1, h2]
/-- a loop that ends by itself or returns -/
theorem forGo_rt (P : Nat → Env → Prop) (R : EV → Env → Prop) {ds : List D} {e : Env} (h0 : P 0 e) (hs : ∀ i d e, ds[i]? = some d → P i e → ∃ e1, ft d e = some e1 ∧ ((∃ e2, body e1 = .nx e2 ∧ P (i + 1) e2) ∨ (∃ x e2, body e1 = .rt x e2 ∧ R x e2))) :
    (∃ e', forGo ft body ds e = .nx e' ∧ P ds.length e') ∨ (∃ x e', forGo ft body ds e = .rt x e' ∧ R x e') := by
  have := forGo_rt_go (P := P) (R := R) ds 0 e h0 fun i d e0 hd hp => by
    rw [Nat.zero_add] at hp ⊢
    exact hs i d e0 hd hp
  rw [Nat.zero_add] at this
  exact this
end
theorem rangeD_mem {lo : Int} {n : Nat} {d : D} : d ∈ rangeD lo n ↔ ∃ v : Int, d = .int v ∧ lo ≤ v ∧ v < lo + n := by
  unfold rangeD
  simp only [List.mem_map, List.mem_range]
  constructor
  · rintro ⟨i, hi, rfl⟩
    exact ⟨_, rfl, by omega, by omega⟩
  · rintro ⟨v, rfl, h1, h2⟩
    exact ⟨(v - lo).toNat, by omega, by congr 1; omega⟩
theorem ints_mem {xs : List Int} {d : D} : d ∈ xs.map D.int ↔ ∃ v, d = .int v ∧ v ∈ xs := by
  simp only [List.mem_map]
  constructor
  · rintro ⟨v, h, rfl⟩; exact ⟨v, rfl, h⟩
  · rintro ⟨v, rfl, h⟩; exact ⟨v, h, rfl⟩
end MM
end
section
set_option Elab.async false
set_option linter.all false
set_option autoImplicit false
set_option maxRecDepth 100000
set_option maxHeartbeats 4000000
namespace MM
open PySem PySem.Spec L2
/-! ### borrowing: all own things are data while one expression is reckoned, then own again -/
def frzE : Option EV → Option EV
  | some (.m x) => x.frz.map .d
  | some (.p x) => x.frz.map .d
  | some (.d d) => some (.d d)
  | _ => none
def frzAll (e : Env) : Env := e.map frzE
/-- all but the tables -/
def offT (T : List (Addr × Str)) (H : Hp) : Hp := fun a => if T.any (fun p => p.1 == a) then none else H a
theorem offT_in {T : List (Addr × Str)} {H : Hp} {p : Addr × Str} (h : p ∈ T) : offT T H p.1 = none := if_pos (List.any_eq_true.mpr ⟨p, h, by simp⟩)
theorem offT_same {T : List (Addr × Str)} {H : Hp} : Same (offT T H) H := fun a o h => by
  unfold offT at h
  split at h
  · cases h
  · exact h
theorem offT_out {T : List (Addr × Str)} {H : Hp} {a : Addr} (h : ∀ p ∈ T, p.1 ≠ a) : offT T H a = H a := if_neg fun z => by
  obtain ⟨p, hp, e⟩ := List.any_eq_true.mp z
  exact h p hp (by simpa using e)
open Classical in
theorem RepS.borrow {k : Kc} {c : Fr} {G H : Hp} {σ : L2.St} {e : Env} (r : RepS k c G σ H e) : ∃ G', Same G G' ∧ RepS k ⟨offT k.ct.T H, G', fun _ => none⟩ G' σ H (frzAll e) := by
  let own (a : Addr) : Prop := ∃ (i : Nat) (x : EV), e[i]? = some (some x) ∧ x.own = true ∧ σ[i]? = some (some (.ref a))
  let G' : Hp := fun a => if own a then H a else G a
  have ownG : ∀ a, own a → G a = none := fun a ⟨i, x, hx, hw, hs⟩ => by
    obtain ⟨b, y, _, h1, m1, _⟩ := r.owner hx hw
    rw [hs] at h1
    cases h1
    exact m1
  have sG : Same G G' := fun a o h => by
    by_cases q : own a
    · rw [ownG a q] at h; cases h
    · show (if own a then H a else G a) = _
      rw [if_neg q]; exact h
  have sH : Same G' H := fun a o h => by
    have h : (if own a then H a else G a) = some o := h
    by_cases q : own a
    · rw [if_pos q] at h; exact h
    · rw [if_neg q] at h; exact r.gh a o h
  refine ⟨G', sG, Same.refl _, sH, offT_same, fun a h _ => .inl h, fun p hp => ⟨(r.tb p hp).1, offT_in hp, ?_⟩, by unfold frzAll; rw [List.length_map]; exact r.len, fun i x hx => ?_, fun i j a x y hx hy wx wy h1 h2 => ?_, fun i a h => by cases h⟩
  · show (if own p.1 then H p.1 else G p.1) = none
    have no : ¬ own p.1 := fun ⟨i, x, hx, hw, hs⟩ => by
      obtain ⟨b, y, _, h1, _, _, o, m3, m4⟩ := r.owner hx hw
      rw [hs] at h1
      cases h1
      obtain ⟨ps, q, _⟩ := (r.tb p hp).1
      rw [m3] at q
      cases q
      exact m4.noTb (.inl ⟨_, rfl⟩)
    rw [if_neg no]
    exact (r.tb p hp).2.2
  · unfold frzAll at hx
    rw [List.getElem?_map] at hx
    obtain ⟨z, hz, ez⟩ := Option.map_eq_some_iff.mp hx
    cases z with
    | none => cases ez
    | some z =>
      obtain ⟨v, h1, h2⟩ := r.slot i z hz
      refine ⟨v, h1, ?_⟩
      have go : ∀ {y : MV}, z.own = true → (∃ a, v = .ref a ∧ MAt k c G H a y) → y.frz.map EV.d = some x → EVRep k ⟨offT k.ct.T H, G', fun _ => none⟩ G' H v x := fun {y} hw ⟨a, e1, m1, _, o, m3, m4⟩ hf => by
        obtain ⟨d, hd, ed⟩ := Option.map_eq_some_iff.mp hf
        subst ed
        subst e1
        have oa : own a := ⟨i, z, hz, hw, h1⟩
        exact m4.rp hd sG (by show (if own a then H a else G a) = _; rw [if_pos oa]; exact m3)
      cases z with
      | d d =>
        have ez : some (EV.d d) = some x := ez
        cases ez
        exact Rp.mono sG h2
      | m y => exact go rfl h2 ez
      | p y => exact go rfl h2 ez
      | t _ _ => exact h2.elim
  · unfold frzAll at hx
    rw [List.getElem?_map] at hx
    obtain ⟨z, hz, ez⟩ := Option.map_eq_some_iff.mp hx
    have : x.own = false := by
      cases z with
      | none => cases ez
      | some z =>
        cases z with
        | d d => have ez : some (EV.d d) = some x := ez; cases ez; rfl
        | m y => obtain ⟨d, _, ed⟩ := Option.map_eq_some_iff.mp (show y.frz.map EV.d = some x from ez); subst ed; rfl
        | p y => obtain ⟨d, _, ed⟩ := Option.map_eq_some_iff.mp (show y.frz.map EV.d = some x from ez); subst ed; rfl
        | t _ _ => cases ez
    rw [this] at wx
    cases wx
theorem RepS.thaw {k : Kc} {c : Fr} {G H H' : Hp} {σ : L2.St} {e : Env} (r : RepS k c G σ H e) (s : Same (offT k.ct.T H) H') (tb : ∀ p ∈ k.ct.T, LamX.TabS H' p.1 p.2) : RepS k c G σ H' e := by
  have offM : ∀ {a : Addr} {o : HO} {y : MV}, H a = some o → MRep k G o y → H' a = some o := fun {a o y} h m => s a o (by
    rw [offT_out fun p hp e => by
      obtain ⟨ps, q, _⟩ := (r.tb p hp).1
      rw [e, h] at q
      cases q
      exact m.noTb (.inl ⟨_, rfl⟩)]
    exact h)
  refine ⟨r.g0, fun a o h => s a o (by rw [offT_out fun p hp e => by subst e; rw [(r.tb p hp).2.2] at h; cases h]; exact r.gh a o h), fun a o h => s a o (by rw [offT_out fun p hp e => by subst e; rw [(r.tb p hp).2.1] at h; cases h]; exact r.oh a o h), r.fr, fun p hp => ⟨tb p hp, (r.tb p hp).2⟩, r.len, fun i x hx => ?_, r.dis, r.pin⟩
  obtain ⟨v, h1, h2⟩ := r.slot i x hx
  refine ⟨v, h1, ?_⟩
  have own : ∀ {y : MV}, (∃ a, v = .ref a ∧ MAt k c G H a y) → ∃ a, v = .ref a ∧ MAt k c G H' a y := fun {y} ⟨a, e1, m1, m2, o, m3, m4⟩ => ⟨a, e1, m1, m2, o, offM m3 m4, m4⟩
  cases x with
  | d d => exact h2
  | m y => exact own h2
  | p y => exact own h2
  | t _ _ => exact h2.elim
theorem Rp.sc2 {k : Kc} {G G' : Hp} {v : V} {d : D} (h : Rp k G v d) (hd : d.sc = true) : Rp k G' v d := by
  cases h with
  | non => exact .non
  | bl b => exact .bl b
  | int i => exact .int i
  | str x => exact .str x
  | lst _ _ => cases hd
  | scr _ => cases hd
  | rng _ => cases hd
  | thk _ => cases hd
  | lam _ => cases hd
  | tup _ _ => cases hd
  | obj _ _ _ => cases hd
  | dic _ _ _ => cases hd
theorem Rps.sc2 {k : Kc} {G G' : Hp} : ∀ {vs : List V} {ds : List D}, Rps k G vs ds → ds.all D.sc = true → Rps k G' vs ds
  | _, _, .nil, _ => .nil
  | _, _, .cons a b, h => by
    rw [List.all_cons, Bool.and_eq_true] at h
    exact .cons (Rp.sc2 a h.1) (Rps.sc2 b h.2)
def tBor (f : EM Bool) : EM Bool := fun e => match f (frzAll e) with
  | .ok b _ => .ok b e
  | _ => .stuck
def eBor (f : EM D) : EM D := fun e => match f (frzAll e) with
  | .ok d _ => if d.sc = true then .ok d e else .stuck
  | _ => .stuck
def vBor (f : EM EV) : EM EV := fun e => match f (frzAll e) with
  | .ok (.d d) _ => if d.sc = true then .ok (.d d) e else .stuck
  | .ok (.m (.lst ds)) _ => if ds.all D.sc = true then .ok (.m (.lst ds)) e else .stuck
  | _ => .stuck
section
variable {X : Cx} {ct : Ct} {W : WX} {ex : Expr}
theorem t_bor {f : EM Bool} (h : ST X ct W ex f) : ST X ct W ex (tBor f) := PTw h fun σ H Q q => by
  obtain ⟨c, G, e, r, p⟩ := q
  obtain ⟨G', sG, r'⟩ := r.borrow
  refine ⟨_, G', _, r', ?_⟩
  unfold tBor at p
  cases hf : f (frzAll e) with
  | stuck => rw [hf] at p; exact p.elim
  | exc y e' => rw [hf] at p; exact p.elim
  | ok b e' =>
    rw [hf] at p
    exact fun G2 H2 s2 r2 => p G H2 (Same.refl _) (r.thaw r2.oh fun p hp => (r2.tb p hp).1)
theorem e_bor {f : EM D} (h : SE X ct W ex f) : SE X ct W ex (eBor f) := PEw h fun σ H Q q => by
  obtain ⟨c, G, e, r, p⟩ := q
  obtain ⟨G', sG, r'⟩ := r.borrow
  refine ⟨_, G', _, r', ?_⟩
  unfold eBor at p
  cases hf : f (frzAll e) with
  | stuck => rw [hf] at p; exact p.elim
  | exc y e' => rw [hf] at p; exact p.elim
  | ok d e' =>
    rw [hf] at p
    have p : Post ⟨X.K, ct⟩ W c G σ (fun G' H' _ d => ∀ v, Rp ⟨X.K, ct⟩ G' v d → Q v H') (if d.sc = true then .ok d e else .stuck) := p
    by_cases hd : d.sc = true
    · rw [if_pos hd] at p
      exact fun G2 H2 s2 r2 v hv => p G H2 (Same.refl _) (r.thaw r2.oh fun p hp => (r2.tb p hp).1) v (Rp.sc2 hv hd)
    · rw [if_neg hd] at p; exact p.elim
theorem v_bor {f : EM EV} (h : SV X ct W ex f) : SV X ct W ex (vBor f) := PEw h fun σ H Q q => by
  obtain ⟨c, G, e, r, p⟩ := q
  obtain ⟨G', sG, r'⟩ := r.borrow
  refine ⟨_, G', _, r', ?_⟩
  unfold vBor at p
  cases hf : f (frzAll e) with
  | stuck => rw [hf] at p; exact p.elim
  | exc y e' => rw [hf] at p; exact p.elim
  | ok y e' =>
    rw [hf] at p
    cases y with
    | t _ _ => exact p.elim
    | p _ => exact p.elim
    | d d =>
      have p : Post ⟨X.K, ct⟩ W c G σ (fun G' H' e' x => ∀ v, RpV ⟨X.K, ct⟩ c G' σ H' e' v x → Q v H') (if d.sc = true then .ok (.d d) e else .stuck) := p
      by_cases hd : d.sc = true
      · rw [if_pos hd] at p
        exact fun G2 H2 s2 r2 v hv => p G H2 (Same.refl _) (r.thaw r2.oh fun p hp => (r2.tb p hp).1) v (show Rp _ _ _ _ from Rp.sc2 hv hd)
      · rw [if_neg hd] at p; exact p.elim
    | m y =>
      cases y with
      | dic _ _ => exact p.elim
      | obj _ _ _ => exact p.elim
      | lst ds =>
        have p : Post ⟨X.K, ct⟩ W c G σ (fun G' H' e' x => ∀ v, RpV ⟨X.K, ct⟩ c G' σ H' e' v x → Q v H') (if ds.all D.sc = true then .ok (.m (.lst ds)) e else .stuck) := p
        by_cases hd : ds.all D.sc = true
        · rw [if_pos hd] at p
          intro G2 H2 s2 r2 v hv
          obtain ⟨a, e1, ⟨m1, m2, o, m3, vs, rfl, m4⟩, l⟩ := hv
          have hHa : H a = none := by
            have m2 : offT ct.T H a = none := m2
            by_cases z : ∃ p ∈ ct.T, p.1 = a
            · obtain ⟨p, hp, e⟩ := z
              obtain ⟨ps, q, _⟩ := (r2.tb p hp).1
              rw [e, m3] at q
              cases q
            · rw [offT_out fun p hp e => z ⟨p, hp, e⟩] at m2
              exact m2
          have rt := r.thaw r2.oh fun p hp => (r2.tb p hp).1
          refine p G H2 (Same.refl _) rt v ⟨a, e1, ⟨?_, ?_, _, m3, vs, rfl, Rps.sc2 m4 hd⟩, fun i x hx hw hs => ?_⟩
          · cases q : G a with
            | none => rfl
            | some o => rw [r.gh a o q] at hHa; cases hHa
          · cases q : c.O a with
            | none => rfl
            | some o => rw [r.oh a o q] at hHa; cases hHa
          · obtain ⟨b, y, _, h1, _, _, o, h3, _⟩ := r.owner hx hw
            rw [hs] at h1
            cases h1
            rw [hHa] at h3
            cases h3
        · rw [if_neg hd] at p; exact p.elim
end
@[simp] theorem tBor_ev {f : EM Bool} {e : Env} : tBor f e = (match f (frzAll e) with
  | .ok b _ => .ok b e
  | _ => .stuck) := rfl
@[simp] theorem eBor_ev {f : EM D} {e : Env} : eBor f e = (match f (frzAll e) with
  | .ok d _ => if d.sc = true then .ok d e else .stuck
  | _ => .stuck) := rfl
@[simp] theorem vBor_ev {f : EM EV} {e : Env} : vBor f e = (match f (frzAll e) with
  | .ok (.d d) _ => if d.sc = true then .ok (.d d) e else .stuck
  | .ok (.m (.lst ds)) _ => if ds.all D.sc = true then .ok (.m (.lst ds)) e else .stuck
  | _ => .stuck) := rfl
@[simp] theorem frzAll_nil : frzAll [] = [] := rfl
@[simp] theorem frzAll_cons {x : Option EV} {e : Env} : frzAll (x :: e) = frzE x :: frzAll e := rfl
@[simp] theorem frzE_none : frzE none = none := rfl
@[simp] theorem frzE_d {d : D} : frzE (some (.d d)) = some (.d d) := rfl
@[simp] theorem frzE_m {y : MV} : frzE (some (.m y)) = y.frz.map .d := rfl
@[simp] theorem frzE_p {y : MV} : frzE (some (.p y)) = y.frz.map .d := rfl
@[simp] theorem sc_int {i : Int} : (D.int i).sc = true := rfl
@[simp] theorem sc_bl {i : Bool} : (D.bl i).sc = true := rfl
@[simp] theorem sc_non : (D.non).sc = true := rfl
@[simp] theorem sc_str {i : Str} : (D.str i).sc = true := rfl
@[simp] theorem sc_ints {ns : List Int} : (ns.map D.int).all D.sc = true := by
  rw [List.all_map, List.all_eq_true]
  intros
  rfl
end MM
end
section
set_option Elab.async false
set_option linter.all false
set_option autoImplicit false
set_option maxRecDepth 100000
set_option maxHeartbeats 4000000
namespace MM
open PySem PySem.Spec L2
/-! ### f(new thing): a fresh own thing of no name is handed to a def that may change it -/
section
variable {k : Kc} {c : Fr} {G G' H H' : Hp} {σ : L2.St} {e : Env} {a : Addr} {y : MV} {ps : List (Option MV)}
theorem pin_one {i : Nat} {b : Addr} (h : pinA [.ref a] [.p y] i = some b) : b = a := by
  obtain ⟨_, h2⟩ := pinA_ok h
  cases i with
  | zero => simp at h2; exact h2.symm
  | succ i => simp at h2
theorem RepS.afterF (r : RepS k c G σ H e) (m : MAt k c G H a y) (hl : Loose σ e a) (af : Aft k [.ref a] [.p y] G H G' H' ps) : RepS k c G' σ H' e := by
  obtain ⟨m1, m2, o, m3, m4⟩ := m
  have newN : ∀ {b : Addr}, G b = none → H b ≠ none → (∀ φ, H' b ≠ some (.ext φ)) → G' b = none := fun {b} h1 h2 h3 => by
    cases q : G' b with
    | none => rfl
    | some o =>
      rcases af.new b (by rw [q]; exact fun z => by cases z) h1 with z | ⟨φ, z⟩
      · exact absurd z h2
      · exact absurd (af.gh _ _ z) (h3 φ)
  have notm : ∀ {a : Addr} {o : HO} {y : MV}, H a = some o → MRep k G o y → a ∉ k.ct.T.map (·.1) := fun {a o y} h m z => by
    obtain ⟨p, hp, e⟩ := List.mem_map.mp z
    obtain ⟨ps, q, _⟩ := (r.tb p hp).1
    rw [e, h] at q
    cases q
    exact m.noTb (.inl ⟨_, rfl⟩)
  refine ⟨r.g0.trans af.g, af.gh, fun b o h => af.keep b o (r.oh b o h) (fun i q => ?_) (fun z => ?_), fun b h1 h2 => ?_, fun p hp => ⟨af.tb p hp, (r.tb p hp).2.1, ?_⟩, r.len, fun i x hx => ?_, r.dis, r.pin⟩
  · rw [pin_one q, m2] at h; cases h
  · obtain ⟨p, hp, e⟩ := List.mem_map.mp z
    rw [← e, (r.tb p hp).2.1] at h; cases h
  · cases q : G b with
    | some o =>
      rcases r.fr b (by rw [q]; exact fun z => by cases z) h2 with z | ⟨φ, z⟩
      · exact .inl z
      · exact .inr ⟨φ, af.g _ _ z⟩
    | none =>
      rcases af.new b h1 q with this | z
      · cases q2 : c.O b with
        | none => exact absurd q2 h2
        | some o => rw [r.oh b o q2] at this; cases this
      · exact .inr z
  · obtain ⟨⟨ps, q, _⟩, _, q2⟩ := r.tb p hp
    exact newN q2 (by rw [q]; exact fun z => by cases z) (fun φ z => by obtain ⟨ps', q', _⟩ := af.tb p hp; rw [q'] at z; cases z)
  · obtain ⟨v, h1, h2⟩ := r.slot i x hx
    refine ⟨v, h1, ?_⟩
    have own : x.own = true → ∀ {z : MV}, (∃ b, v = .ref b ∧ MAt k c G H b z) → ∃ b, v = .ref b ∧ MAt k c G' H' b z := fun hw {z} ⟨b, e1, n1, n2, o2, n3, n4⟩ => by
      subst e1
      have nb : b ≠ a := fun w => by subst w; exact hl i x hx hw h1
      exact ⟨b, rfl, newN n1 (by rw [n3]; exact fun z => by cases z) (fun φ z => by rw [af.keep b o2 n3 (fun i q => nb (pin_one q)) (notm n3 n4)] at z; cases z; exact n4.noTb (.inr ⟨_, rfl⟩)), n2, o2, af.keep b o2 n3 (fun i q => nb (pin_one q)) (notm n3 n4), n4.mono af.g⟩
    cases x with
    | d d => exact Rp.mono af.g h2
    | m z => exact own rfl h2
    | p z => exact own rfl h2
    | t _ _ => exact h2.elim
theorem RRes.hereF (r : RepS k c G σ H e) {v : V} {x : EV} (h : RRes k G' H H' v x) (nt : ∀ d y, x ≠ .t d y) : RpV k c G' σ H' e v x := by
  cases x with
  | d d => exact h
  | p y => exact h.elim
  | m y =>
    obtain ⟨b, o, rfl, h1, h2, h3, h4⟩ := h
    refine ⟨b, rfl, ⟨h1, ?_, o, h3, h4⟩, fun j x hx hw hs => ?_⟩
    · cases q : c.O b with
      | none => rfl
      | some o => rw [r.oh b o q] at h2; cases h2
    · obtain ⟨b', z, _, h5, _, _, o2, h6, _⟩ := r.owner hx hw
      rw [hs] at h5
      cases h5
      rw [h2] at h6
      cases h6
  | t d y => exact absurd rfl (nt d y)
end
def vCallF (F : List EV → Out) (fv : EM EV) : EM EV := fun e => (fv e).bind fun x e1 => match x with
  | .m y => (match (F [.p y]).noT with
    | .ret r _ => .ok r e1
    | .exc x _ => .exc x e1
    | .stuck => .stuck)
  | _ => .stuck
section
variable {X : Cx} {ct : Ct} {W : WX} {k : Nat} {x : Str} {ps : List Str} {F : List EV → Out} {p pos : Pos} {a : Expr} {fv : EM EV}
theorem v_callF (hF : FnAt X.prog X.w X.K X.mg X.base ct k x ps F) (hr : Room k X.A) (hg : Gl X x) (tk : Takes X W) (ha : SV X ct W a fv) (hdb : (x == ("__debug__" : Str)) = false := by decide) (he : starEach [a] X.env = (false, eval a X.env) :: starEach [] X.env := by rfl)
    (hpl : (backTo pos (starEach [] X.env)).any (·.1) = false := by rfl) : SV X ct W (.Call (.Name x p) [a] [] pos) (vCallF F fv) := by
  obtain ⟨f, fd, h1, h2, h3, h4⟩ := hF.ex
  refine PEw (pe_callS h1 hr hg h2 h3 h4 (E := WE W) (fun σ => passAt tk σ) (pa_cons ha pa_nil he) hdb he hpl) fun σ H Q q => ?_
  obtain ⟨c, G, e, r, p⟩ := q
  refine ⟨c, G, e, r, (Post.bind p).imp fun G1 H1 e1 z s1 r1 p1 v hv => ?_⟩
  show spM ⟨X.K, ct⟩ F [v] H1 Q (WE W σ)
  cases z with
  | d _ => exact p1.elim
  | p _ => exact p1.elim
  | t _ _ => exact p1.elim
  | m y =>
    obtain ⟨b, rfl, m, l⟩ := hv
    have p1 : Post ⟨X.K, ct⟩ W c G1 σ (fun G' H' e' x => ∀ v, RpV ⟨X.K, ct⟩ c G' σ H' e' v x → Q v H') (match (F [.p y]).noT with
      | .ret r _ => .ok r e1
      | .exc x _ => .exc x e1
      | .stuck => .stuck) := p1
    have m' := m
    obtain ⟨m1, m2, o, m3, m4⟩ := m'
    refine ⟨G1, [.p y], r1.gh, ⟨fun p hp => ⟨(r1.tb p hp).1, rfl, (r1.tb p hp).2.2⟩, rfl, fun i x hx => ?_, fun i j b' h1 h2 => ?_⟩, ?_⟩
    · cases i with
      | zero => simp at hx; subst hx; exact ⟨.ref b, rfl, b, o, rfl, m1, m3, m4⟩
      | succ i => simp at hx
    · obtain ⟨⟨x1, h3⟩, _⟩ := pinA_ok h1
      obtain ⟨⟨x2, h4⟩, _⟩ := pinA_ok h2
      have g1 := (List.getElem?_eq_some_iff.mp h3).1
      have g2 := (List.getElem?_eq_some_iff.mp h4).1
      simp at g1 g2
      omega
    · cases h2 : F [.p y] with
      | stuck => rw [h2] at p1; exact p1.elim
      | ret z qs =>
        rw [h2] at p1
        intro G' H' v af hr
        have r' := r1.afterF m l af
        cases z with
        | t _ _ => exact p1.elim
        | d x => exact p1 G' H' af.g r' v (RRes.hereF (x := .d x) r1 hr (fun _ _ z => by cases z))
        | m x => exact p1 G' H' af.g r' v (RRes.hereF (x := .m x) r1 hr (fun _ _ z => by cases z))
        | p x => exact hr.elim
      | exc z qs =>
        rw [h2] at p1
        intro G' H' cls dc af hx
        exact p1 G' H' cls dc af.g (r1.afterF m l af) hx
end
@[simp] theorem vCallF_ev {F : List EV → Out} {fv : EM EV} {e : Env} : vCallF F fv e = (fv e).bind fun x e1 => match x with
  | .m y => (match (F [.p y]).noT with
    | .ret r _ => .ok r e1
    | .exc x _ => .exc x e1
    | .stuck => .stuck)
  | _ => .stuck := rfl
end MM
end
section
set_option Elab.async false
set_option linter.all false
set_option autoImplicit false
set_option maxRecDepth 100000
set_option maxHeartbeats 4000000
namespace MM
open PySem PySem.Spec L2
/-! ### xs[::-1] -/
def vRev (f : EM Tk) : EM EV := fun e => (f e).bind fun t e1 => match rdK e1 t with
  | some (.lst xs) => .ok (.m (.lst xs.reverse)) e1
  | _ => .stuck
theorem v_rev {X : Cx} {ct : Ct} {W : WX} {a : Expr} {k : Nat} {p1 p2 p3 pos : Pos} {fa : EM Tk} (ha : SK X ct W a fa) : SV X ct W (.Subscript a (.Slice none none (some (.UnaryOp .USub (.Constant (.int 1) k p1) p2)) p3) pos) (vRev fa) := by
  refine PEw (pe_revL ha) fun σ H Q q => ?_
  obtain ⟨c, G, e, r, p⟩ := q
  refine ⟨c, G, e, r, (Post.bind p).imp fun G1 H1 e1 t s1 r1 p1 v hv => ?_⟩

  cases hd : rdK e1 t with
  | none => rw [hd] at p1; exact p1.elim
  | some d =>
    rw [hd] at p1
    have rb : RB ⟨X.K, ct⟩ G1 H1 v d := .of r1 hv hd
    cases d with
    | lst xs =>
      obtain ⟨b, vs, rfl, h1, h2⟩ := rb.lst r1.gh
      refine ⟨b, vs, rfl, SqL.of h1, fun q hq => ?_⟩
      obtain ⟨r2, r3, r4⟩ := r1.newM (x := .lst xs.reverse) hq ⟨_, rfl, h2.reverse⟩
      exact p1 G1 _ (Same.refl _) r2 _ ⟨q, rfl, r3, r4⟩
    | _ => exact p1.elim
@[simp] theorem vRev_ev {f : EM Tk} {e : Env} : vRev f e = (f e).bind fun t e1 => match rdK e1 t with
  | some (.lst xs) => .ok (.m (.lst xs.reverse)) e1
  | _ => .stuck := rfl
end MM
end
section
set_option Elab.async false
set_option linter.all false
set_option autoImplicit false
set_option maxRecDepth 100000
set_option maxHeartbeats 4000000
namespace MM
open PySem PySem.Spec L2
@[simp] theorem sPar3_ev {i j l : Nat} {fa fb fc : EM EV} {e : Env} : sPar3 i j l fa fb fc e = (fa e).sb fun x e1 => (fb e1).sb fun y e2 => (fc e2).sb fun z e3 => match pput i x e3 with
  | some e4 => (match pput j y e4 with
    | some e5 => (match pput l z e5 with
      | some e6 => .nx e6
      | none => .stuck)
    | none => .stuck)
  | none => .stuck := rfl
@[simp] theorem fRepr_bl {b : Bool} : fRepr (.bl b) = some (.d (.str (if b then "True" else "False"))) := rfl
theorem gEq_repr (a b : Bool) : gEq (.str (if a then "True" else "False")) (.str (if b then "True" else "False")) = some (decide (a = b)) := by
  cases a <;> cases b <;> decide +kernel
end MM
end
section
set_option Elab.async false
set_option linter.all false
set_option autoImplicit false
set_option maxRecDepth 100000
set_option maxHeartbeats 4000000
namespace MM
open PySem PySem.Spec L2
/-! ### NAME, a tuple of strings of the module -/
theorem strs_rps {k : Kc} {G : Hp} : ∀ zs : List Str, Rps k G (zs.map V.str) (zs.map D.str)
  | [] => .nil
  | z :: zs => .cons (.str z) (strs_rps zs)
section
variable {X : Cx} {ct : Ct} {W : WX} {pos : Pos} {x : Str} {p : Addr} {zs : List Str}
theorem e_gtup {ds : List D} (hg : Gl X x) (hm : X.mg x = some (.ref p)) (hs : ∀ H, SqT X.K H p (zs.map V.str)) (hz : ds = zs.map D.str := by rfl) (hd : (x == ("__debug__" : Str)) = false := by decide) : SE X ct W (.Name x pos) (cC (.tup ds)) := e_const (v := .ref p) (pe_glob hg hm rfl hd) fun G => .tup (hs G) (by rw [hz]; exact strs_rps zs)
end
/-! ### a tuple so many times -/
open PyProof.Rows in
theorem tuple_mul1 (l : Addr) (items : Array Value) (n : Nat) (dd : Option Addr) (sl : Array (Option Value)) (u : Tok) :
    Meets (Builtin.«tuple.__mul__» ⟨[.ref l, .int 1 u], []⟩) (fun _ R s => s.heap.get? l = some { cls := .type "tuple", dict := dd, data := .seq items n, slots := sl } ∧
      R (.ok (.ret (Value.ref l))) s) :=
  .of_wp fun prog w A R s h => by
    obtain ⟨hp, g, d, tk, os⟩ := s
    obtain ⟨hl, h⟩ := h
    have f1 := AutoSeq1.idx_int
    have c0 : (decide ((1 : Int) < -(2 ^ 63)) || decide ((1 : Int) ≥ 2 ^ 63)) = false := by decide
    have c1 : (items.isEmpty || (1 : Int) == 1) = true := by rw [Bool.or_eq_true]; exact .inr rfl
    wp_walk using wpAny_loadPart' hl
    repeat (first
      | (refine wpAny_ite_false (decide_eq_false (by rw [c0]; exact Bool.false_ne_true)) ?_; wp_walk using wpAny_loadPart' hl)
      | (refine wpAny_ite_true (decide_eq_true c1) ?_; wp_walk using wpAny_loadPart' hl))
    exact ⟨_, rfl, h⟩
def rRepT1 (K : PySem.W.Frag) : R2 := fun x y H Q => ∃ l xs, x = .ref l ∧ y = .int 1 ∧ SqT K H l xs ∧ Q (.ref l) H
section
variable {X : Cx} {ct : Ct} {W : WX} {pos : Pos} {a b : Expr} {fa fb : EM Tk}
open PyProof.Rows in
theorem op_repT1 : OpR X (binaryOp .Mult) (rRepT1 X.K) := by
  intro pins s σ H x y v u Q I rx ry h
  obtain ⟨l, xs, rfl, rfl, hT, q⟩ := h
  cases rx
  obtain ⟨t, rfl⟩ := ry
  obtain ⟨its, r, ⟨⟨cls, dd, data, sl⟩, ho, hc, n, hd⟩, hs⟩ := I.tuple hT
  simp only at hc hd
  subst hc hd
  refine wpAny_binaryOp_repeat_ref (T := "tuple") (U := "int") (by decide) ⟨_, ho, rfl⟩ (fun s' => typeIs_int s' 1 t) noFill_tuple_mul F.fills_int_mul F.slot_int_rmul repeat_tuple F.slot_int_index.lookup
    (call_meets F.slot_int_rmul (typeIs_int s 1 t) F.entry_int_rmul (F.args_int_rmul_2 _ _) (int_rmul_tuple 1 t l its.toArray n dd sl)
      ⟨ho, rfl, ⟨_, ho, rfl⟩, call_meets F.slot_tuple_mul ⟨_, ho, rfl⟩ F.entry_tuple_mul (F.args_tuple_mul_2 _ _) (tuple_mul1 l its.toArray n dd sl t) ⟨ho, ?_⟩⟩)
  exact ⟨.ref l, H, I, rfl, q⟩
def gMulT : D → D → Option EV
  | .tup xs, .int j => if (xs ≠ [] ∧ 1 ≤ j) ∧ j ≤ 1000 ∧ xs.length ≤ 1000 then some (.d (.tup (List.replicate j.toNat xs).flatten)) else none
  | _, _ => none
theorem opG_mulT : OpG ⟨X.K, ct⟩ (fun x y H Q => rRepT1 X.K x y H Q ∨ rRepT X.K x y H Q) gMulT := fun c G H σ e x y a b z Q r ra rb hz q => by
  unfold gMulT at hz
  split at hz
  · rename_i ds j
    split at hz
    · rename_i hl
      cases hz
      obtain ⟨p, vs, rfl, h1, r1, h2⟩ := ra.tup r.gh
      rw [rb.int]
      by_cases hj : j = 1
      · subst hj
        have e1 : (List.replicate (Int.toNat 1) ds).flatten = ds := by simp
        rw [e1] at q
        exact .inl ⟨_, _, rfl, rfl, h1, fin_d r (.tup h2 r1) q⟩
      · refine .inr ⟨_, _, _, rfl, rfl, h1, fun z => ?_, by omega, by omega, by rw [r1.len]; omega, fin_tup r (r1.rep _) q⟩
        subst z
        have := r1.len
        exact hl.1.1 (List.eq_nil_of_length_eq_zero this.symm)
    · cases hz
  · cases hz
theorem v_mulT (ha : SK X ct W a fa) (hb : SK X ct W b fb) : SV X ct W (.BinOp a .Mult b pos) (vBin gMulT fa fb) := v_bin (op_repT1.or op_repT) opG_mulT ha hb
end
@[simp] theorem gMulT_tup {xs : List D} {j : Int} : gMulT (.tup xs) (.int j) = if (xs ≠ [] ∧ 1 ≤ j) ∧ j ≤ 1000 ∧ xs.length ≤ 1000 then some (.d (.tup (List.replicate j.toNat xs).flatten)) else none := rfl
end MM
end
section
set_option Elab.async false
set_option linter.all false
set_option autoImplicit false
set_option maxRecDepth 100000
set_option maxHeartbeats 4000000
namespace MM
open PySem PySem.Spec L2
/-! ### pairs of data and an own list: called by keywords, handed on, made data -/
def pCallK (n m : Nat) (pm : List Nat) (F : List EV → Out) (fa fk : EM (List Tk)) : EM (D × MV) := fun e => (fa e).bind fun ts e1 => (fk e1).bind fun us e2 => if ts.length = n ∧ us.length = m then pTail F (permL pm (ts ++ us)) e2 else .stuck
def sRetP (fp : EM (D × MV)) : SM := fun e => (fp e).sb fun p e1 => .rt (.t p.1 p.2) e1
def cPair0 (fp : EM (D × MV)) : EM D := fun e => (fp e).bind fun p e1 => .ok p.1 e1
def vPair1 (fp : EM (D × MV)) : EM EV := fun e => (fp e).bind fun p e1 => .ok (.m p.2) e1
section
variable {X : Cx} {ct : Ct} {W : WX} {k n : Nat} {x : Str} {ps ks : List Str} {pm : List Nat} {F : List EV → Out} {p pos apos : Pos} {a o ex : Expr} {es : List Expr} {kws : List Keyword} {fa fk : EM (List Tk)} {fp : EM (D × MV)} {E : XK}
theorem callKP_sem {c : Fr} {G H : Hp} {σ : L2.St} {e : Env} {vs : List V} {ts : List Tk} {Q : VK} {m : Nat} (him : ∀ cls d H, W cls d σ H → E cls d H) (r : RepS ⟨X.K, ct⟩ c G σ H e) (hv : RpKs ⟨X.K, ct⟩ G σ vs ts)
    (h : Post ⟨X.K, ct⟩ W c G σ (fun G' H' e' p => ∀ v, RpP ⟨X.K, ct⟩ c G' σ H' e' v p.1 p.2 → Q v H') ((fk e).bind fun us e2 => if ts.length = n ∧ us.length = m then pTail F (permL pm (ts ++ us)) e2 else .stuck)) :
    TA ⟨X.K, ct⟩ W fk σ H fun zs H2 => vs.length = n ∧ zs.length = m ∧ spM ⟨X.K, ct⟩ F (permL pm (vs ++ zs)) H2 Q E := by
  refine ⟨c, G, e, r, (Post.bind h).imp fun G2 H2 e2 us s2 r2 p2 zs hzs => ?_⟩
  have l1 := (RpKs.at hv).1
  have l2 := (RpKs.at hzs).1
  by_cases q : ts.length = n ∧ us.length = m
  · rw [if_pos q] at p2
    exact ⟨l1.trans q.1, l2.trans q.2, post_callP him r2 ((hv.mono s2).app hzs |>.perm pm) p2⟩
  · rw [if_neg q] at p2; exact p2.elim
theorem p_callK0 (hF : FnKw X.prog X.w X.K X.mg X.base ct k x ps 0 ks pm F) (hr : Room k X.A) (hg : Gl X x) (hE : XOk X W E) (hkw : SKw X ct W kws fk) (hall : (backToKw pos (keywordEach kws X.env)).all (·.1.isSome) = true := by rfl) (hks : (backToKw pos (keywordEach kws X.env)).filterMap (·.1) = ks := by rfl)
    (hdb : (x == ("__debug__" : Str)) = false := by decide) (hpl : ((backTo pos (starEach [] X.env)).any (·.1) || (backToKw pos (keywordEach kws X.env)).any (·.1.isNone)) = false := by rfl) : SP X ct W (.Call (.Name x p) [] kws pos) (pCallK 0 ks.length pm F aNil fk) := by
  obtain ⟨f, fd, h1, h2, h3, h4⟩ := hF.ex
  refine PEw (pe_callN0 h1 hr hg h2 h3 h4 hE.ps hkw hall hks hdb hpl) fun σ H Q q => ?_
  obtain ⟨c, G, e, r, p⟩ := q
  exact callKP_sem (X := X) (vs := []) (ts := []) (fun cls d H h => hE.im cls d σ H h) r trivial p
theorem s_retP (h : SP X ct W ex fp) : SS X ct W (.Return (some ex) pos) (sRetP fp) := PSw (ps_ret h) fun Dn σ H q => by
  obtain ⟨c, G, e, r, p⟩ := q
  refine ⟨c, G, e, r, (PostS.sb p).imp fun G' H' e' y s r' h v hv => ?_⟩
  obtain ⟨q, w, b, e1, hs, hw, hm, hl⟩ := hv
  refine h G' σ H' v (Same.refl _) r' ⟨q, w, b, e1, hs, hw, hm, fun i a ha z => ?_⟩
  subst z
  obtain ⟨z, h3, h4⟩ := r'.pin i a ha
  exact hl i _ h3 rfl h4
theorem e_pair0 {i : Nat} {p2 : Pos} (h : SP X ct W ex fp) (hs : PlainIx (.Constant (.int 0) i p2) := by exact fun _ _ => rfl) : SE X ct W (.Subscript ex (.Constant (.int 0) i p2) pos) (cPair0 fp) := PEw (pe_ix ix_tup h pe_int hs) fun σ H Q q => by
  obtain ⟨c, G, e, r, p⟩ := q
  refine ⟨c, G, e, r, (Post.bind p).imp fun G' H' e' y s r' h v hv => ?_⟩
  obtain ⟨q, w, b, e1, hs, hw, hm, hl⟩ := hv
  exact ⟨q, _, 0, w, e1, rfl, hs, rfl, h G' H' (Same.refl _) r' w hw⟩
theorem v_pair1 {i : Nat} {p2 : Pos} (h : SP X ct W ex fp) (hs : PlainIx (.Constant (.int 1) i p2) := by exact fun _ _ => rfl) : SV X ct W (.Subscript ex (.Constant (.int 1) i p2) pos) (vPair1 fp) := PEw (pe_ix ix_tup h pe_int hs) fun σ H Q q => by
  obtain ⟨c, G, e, r, p⟩ := q
  refine ⟨c, G, e, r, (Post.bind p).imp fun G' H' e' y s r' h v hv => ?_⟩
  obtain ⟨q, w, b, e1, hs, hw, hm, hl⟩ := hv
  exact ⟨q, _, 1, .ref b, e1, rfl, hs, rfl, h G' H' (Same.refl _) r' (.ref b) ⟨b, rfl, hm, hl⟩⟩
end
end MM
end
section
set_option Elab.async false
set_option linter.all false
set_option autoImplicit false
set_option maxRecDepth 100000
set_option maxHeartbeats 4000000
namespace MM
open PySem PySem.Spec L2
@[simp] theorem pCallK_ev {n m : Nat} {pm : List Nat} {F : List EV → Out} {fa fk : EM (List Tk)} {e : Env} : pCallK n m pm F fa fk e = (fa e).bind fun ts e1 => (fk e1).bind fun us e2 => if ts.length = n ∧ us.length = m then pTail F (permL pm (ts ++ us)) e2 else .stuck := rfl
@[simp] theorem sRetP_ev {fp : EM (D × MV)} {e : Env} : sRetP fp e = (fp e).sb fun p e1 => .rt (.t p.1 p.2) e1 := rfl
@[simp] theorem cPair0_ev {fp : EM (D × MV)} {e : Env} : cPair0 fp e = (fp e).bind fun p e1 => .ok p.1 e1 := rfl
@[simp] theorem vPair1_ev {fp : EM (D × MV)} {e : Env} : vPair1 fp e = (fp e).bind fun p e1 => .ok (.m p.2) e1 := rfl
end MM
end
section
set_option Elab.async false
set_option linter.all false
set_option autoImplicit false
set_option maxRecDepth 100000
set_option maxHeartbeats 4000000
namespace MM
open PySem PySem.Spec L2
open PyProof.Rows (envOfC IntsAre AllBare)
open Classical
/-! ### defs on a stack on which nothing is being shown: repr of lists, tuples -/
/-- as FnOk, where no guard stands on the stack -/
structure FnG (P : Program) (w : World) (K : PySem.W.Frag) (mg : Str → Option Value) (base : Heap) (k : Nat) (f : Addr) (fd : FuncData) (ps : List Str) (sp : Sp) : Prop where
  len : ∀ vs H Q E, sp vs H Q E → vs.length = ps.length
  run : ∀ (A : Around) (outer : List PySem.Env) (s : Shared) (H : Hp) (args : PySem.Args) (us : List Value) (vs : List V) (Q : VK) (E : XK), A.guards = some [] → Room k A → Env0 P w K mg base A outer s H → BindsTo s fd args (ps.zip us) → Vals vs us → sp vs H Q E →
    codeAny (model P w) A (.call (.ref f) args) (CR (L2.CX P w) outer P w H s Q E) s
theorem FnG.mono {P : Program} {w : World} {K : PySem.W.Frag} {mg : Str → Option Value} {base : Heap} {j k : Nat} {f : Addr} {fd : FuncData} {ps : List Str} {sp : Sp} (F : FnG P w K mg base j f fd ps sp) (h : j ≤ k) : FnG P w K mg base k f fd ps sp :=
  ⟨F.len, fun A outer s H args us vs Q E hg hr => F.run A outer s H args us vs Q E hg (hr.mono h)⟩
theorem FnG.of {P : Program} {w : World} {K : PySem.W.Frag} {mg : Str → Option Value} {base : Heap} {k : Nat} {f : Addr} {fd : FuncData} {ps : List Str} {sp : Sp} (F : FnOk P w K mg base (L2.CX P w) k f fd ps sp) : FnG P w K mg base k f fd ps sp :=
  ⟨F.len, fun A outer s H args us vs Q E _ hr => F.run A outer s H args us vs Q E hr⟩
theorem funD_okG {P : Program} {w : World} {K : PySem.W.Frag} {mg : Str → Option Value} {base : Heap} {x qual : Str} {params : Arguments} {body : List Stmt} {scope : Scope} {dvs : List V} {kws : List (Str × V)} {f : Addr} {fd : FuncData} {N ps : List Str} {k : Nat} {sp : Sp}
    (F : FunD K x qual params body scope dvs kws f fd) (S : FnScope N ps scope) (len : ∀ vs H Q E, sp vs H Q E → vs.length = ps.length)
    (hb : ∀ (cdv : Value) (A : Around) (outer : List PySem.Env) (s : Shared) (H : Hp) (vs : List V) (Q : VK) (E : XK), A.guards = some [] → Room k (A.deeper (envOfC qual scope s.heap.objs.size f cdv)) → sp vs H Q E →
      ∃ t, PSs (cxOf (L2.CX P w) P w K mg base N qual scope f cdv A outer s H E) body t ∧ t { nx := fun _ H' => Q .non H', rt := Q } (start N vs) H) : FnG P w K mg base (k + 1) f fd ps sp := by
  obtain ⟨oc, od, dV, kV, doc, pm, an, cdv, ct, osl, hfd, lk, hcd, _, _⟩ := F.ex
  subst hfd
  refine ⟨len, fun A outer s H args us vs Q E hg hr e0 hbt r hsp => ?_⟩
  have hl := len _ _ _ _ hsp
  have kept : ∀ b o, base.get? b = some o → s.heap.get? b = some o := fun b o e => (e0.bs b o e).1
  have KX : K.In s.heap := e0.mod.kin.keeps kept
  have lim : s.heap.NoLimit := e0.mod.nolimit.keeps kept
  have kinds : ∀ y ∈ ps.zip us, scope.names.lookup y.1 = some .local ∨ (scope.names.lookup y.1 = some .cell ∧ ((cellsFrom (s.heap.objs.size + 1) scope.names []).lookup y.1).isSome = true) := by
    intro y hy
    cases S.par y.1 (List.of_mem_zip (a := y.1) (b := y.2) hy).1 with
    | inl q => exact .inl q
    | inr q => exact .inr ⟨q, PySem.W.cellsFrom_some _ _ _ (.inl q)⟩
  refine codeAny_call_function hr.depth (KX _ _ lk) rfl S.co S.gen rfl (PySem.W.codeRec_of KX hcd) (hbt _ _ _ _ (wpAny_newFunctionEnv_cells S.kind kinds fun env he s1 x => ?_))
  subst he
  refine ⟨lim.keeps x.toInCall.keep, codeAny_func ?_⟩
  obtain ⟨t, ht, hq⟩ := hb cdv A outer s H vs Q E hg (hr.deeper _) hsp
  have I := inv_start (CX := L2.CX P w) (E := E) S hr.hd e0 hl r x
  refine wpAny_mono (ht.run [] s1 (start N vs) H _ I hq) (fun fl s' hs => ?_) fun _ _ hs => hs
  cases fl with
  | ret u =>
    obtain ⟨v, σ', H', J, rv, q⟩ := hs
    exact (⟨v, H', J.os, J.bare, J.base, J.hok, rv, q⟩ : CE outer P w H s Q u s')
  | next =>
    obtain ⟨σ', H', J, q⟩ := hs
    exact (⟨V.non, H', J.os, J.bare, J.base, J.hok, rfl, q⟩ : CE outer P w H s Q Value.none s')
  | brk => obtain ⟨_, _, _, q⟩ := hs; exact q.elim
  | cont => obtain ⟨_, _, _, q⟩ := hs; exact q.elim
/-- THE RULE for such a def -/
theorem fn_mirG {P : Program} {w : World} {K : PySem.W.Frag} {mg : Str → Option Value} {base : Heap} {ct : Ct} {x qual : Str} {params : Arguments} {body : List Stmt} {scope : Scope} {dvs : List V} {kws : List (Str × V)} {f : Addr} {fd : FuncData} {N ps : List Str} {k n m : Nat} {fb : SM}
    (F : FunD K x qual params body scope dvs kws f fd) (S : FnScope N ps scope) (hm : ps.length = m) (hn : N.length = n)
    (hb : ∀ (cdv : Value) (A : Around) (outer : List PySem.Env) (s : Shared) (H : Hp) (E : XK), A.guards = some [] → Room k (A.deeper (PyProof.Rows.envOfC qual scope s.heap.objs.size f cdv)) → Takes (cxOf (L2.CX P w) P w K mg base N qual scope f cdv A outer s H E) (fun cls d _ H => E cls d H) →
      SSs (cxOf (L2.CX P w) P w K mg base N qual scope f cdv A outer s H E) ct (fun cls d _ H => E cls d H) body fb) :
    FnG P w K mg base (k + 1) f fd ps (spM ⟨K, ct⟩ (runD n m fb)) := by
  have lenA : ∀ {as : List EV} {vs : List V} {G H : Hp} {Q : VK} {E : XK}, EndO ⟨K, ct⟩ vs as G H Q E (runD n m fb as) → as.length = m := fun {as vs G H Q E} h => by
    by_cases q : as.length = m
    · exact q
    · unfold runD at h
      rw [if_neg q] at h
      exact h.elim
  refine funD_okG F S (fun vs H Q E q => ?_) fun cdv A outer s H vs Q E hg hr q => ?_
  · obtain ⟨G, as, _, ⟨_, r⟩, h⟩ := q
    rw [r.len, lenA h, hm]
  · obtain ⟨G, as, sm, ⟨tb, r⟩, h⟩ := q
    have hl := lenA h
    refine ⟨_, hb cdv A outer s H E hg hr (takes_of rfl rfl rfl rfl), ?_⟩
    have e1 : L2.start N vs = vs.map some ++ List.replicate (n - m) none := by
      unfold L2.start
      rw [hn, r.len, hl]
    rw [e1]
    refine ⟨frA ct.T vs as G H, G, _, repS_start (n := n - m) sm tb r, ?_⟩
    unfold runD at h
    rw [if_pos hl] at h
    cases hfb : fb (as.map some ++ List.replicate (n - m) none) with
    | stuck => rw [hfb] at h; exact h.elim
    | bk e => rw [hfb] at h; exact h.elim
    | ct e => rw [hfb] at h; exact h.elim
    | nx e =>
      rw [hfb] at h
      intro G' σ H' s' r'
      have af := aft_of r r'
      rw [hl] at af
      exact h G' H' .non af .non
    | exc y e =>
      rw [hfb] at h
      intro G' σ H' cls dc s' r' hx
      have af := aft_of r r'
      rw [hl] at af
      exact h G' H' cls dc af hx
    | rt y e =>
      rw [hfb] at h
      intro G' σ H' v s' r' hv
      have af := aft_of r r'
      rw [hl] at af
      refine h G' H' v af ?_
      cases y with
      | d d => exact hv
      | p z => exact hv.elim
      | m z =>
        obtain ⟨a, rfl, ⟨m1, m2, o, m3, m4⟩, hne⟩ := hv
        refine ⟨a, o, rfl, m1, ?_, m3, m4⟩
        have hO : (frA ct.T vs as G H).O a = if (∃ i, pinA vs as i = some a) ∨ a ∈ ct.T.map (·.1) then none else H a := rfl
        rw [m2] at hO
        split at hO
        · rename_i z
          rcases z with ⟨i, q⟩ | z
          · exact absurd rfl (hne i a q)
          · obtain ⟨p, hp, e⟩ := List.mem_map.mp z
            obtain ⟨ps, q, _⟩ := (r'.tb p hp).1
            rw [e, m3] at q
            cases q
            exact absurd (.inl ⟨_, rfl⟩) m4.noTb
        · exact hO.symm
      | t d z =>
        obtain ⟨q, w, a, e1, hs, hw, ⟨m1, m2, o, m3, m4⟩, hne⟩ := hv
        refine ⟨q, w, a, o, e1, hs, hw, m1, ?_, m3, m4⟩
        have hO : (frA ct.T vs as G H).O a = if (∃ i, pinA vs as i = some a) ∨ a ∈ ct.T.map (·.1) then none else H a := rfl
        rw [m2] at hO
        split at hO
        · rename_i z
          rcases z with ⟨i, q⟩ | z
          · exact absurd rfl (hne i a q)
          · obtain ⟨p, hp, e⟩ := List.mem_map.mp z
            obtain ⟨ps, q, _⟩ := (r'.tb p hp).1
            rw [e, m3] at q
            cases q
            exact absurd (.inl ⟨_, rfl⟩) m4.noTb
        · exact hO.symm
/-- such a def that stands in the main module's names -/
structure FnAtG (P : Program) (w : World) (K : PySem.W.Frag) (mg : Str → Option Value) (base : Heap) (ct : Ct) (k : Nat) (x : Str) (ps : List Str) (F : List EV → Out) : Prop where
  ex : ∃ f fd, FnG P w K mg base k f fd ps (spM ⟨K, ct⟩ F) ∧ mg x = some (.ref f) ∧ PySem.W.keepIn K (.ref f) = true ∧ Binds K fd ps []
section
variable {X : Cx} {ct : Ct} {W : WX} {k : Nat} {x : Str} {ps : List Str} {F : List EV → Out} {p pos : Pos} {a : Expr} {es : List Expr} {fa : EM (List Tk)} {f : Addr} {fd : FuncData} {sp : Sp} {E : St → XK} {t : L2.TA}
theorem pe_callSG (F : FnG X.prog X.w X.K X.mg X.base k f fd ps sp) (hgu : X.A.guards = some []) (hr : Room k X.A) (hg : Gl X x) (hm : X.mg x = some (.ref f)) (hk : PySem.W.keepIn X.K (.ref f) = true) (hb : Binds X.K fd ps []) (hx : ∀ σ, PassesAt (L2.CX X.prog X.w) X σ (E σ))
    (ha : PA X (a :: es) t) (hdb : (x == ("__debug__" : Str)) = false) (he : starEach (a :: es) X.env = (false, eval a X.env) :: starEach es X.env) (hpl : (backTo pos (starEach es X.env)).any (·.1) = false) : PE X (.Call (.Name x p) (a :: es) [] pos) (tCallS sp E t) := by
  refine ⟨fun pins s σ H Q I h => wpAny_Call_Name_kw (ld_glob I hg hm (PySem.W.callWith_K (h₀ := X.base) I.ok.mod.kin hk (thn (ha.run pos pins s σ H _ I h) fun us s1 ⟨vs, H1, I1, r, q⟩ => ⟨I1.kIn, ?_⟩) he hpl) hdb)⟩
  have hl : us.length = ps.length := by rw [← r.length]; exact F.len _ _ _ _ q
  have b := hb s1 us I1.kIn (by rw [List.append_nil]; exact hl)
  rw [List.append_nil] at b
  refine wpAny_call (codeAny_mono (F.run X.A X.stack s1 H1 ⟨us, []⟩ us vs Q (E σ) hgu hr I1.env0 b r q) fun res s' hq => ?_)
  rcases res with e | fl
  · exact hx σ pins H1 s1 e s' I1 hq
  · cases fl with
    | ret u => exact I1.after hq
    | _ => exact hq.elim
theorem v_callG (hF : FnAtG X.prog X.w X.K X.mg X.base ct k x ps F) (hgu : X.A.guards = some []) (hr : Room k X.A) (hg : Gl X x) (tk : Takes X W) (ha : SA X ct W (a :: es) fa) (hdb : (x == ("__debug__" : Str)) = false := by decide) (he : starEach (a :: es) X.env = (false, eval a X.env) :: starEach es X.env := by rfl)
    (hpl : (backTo pos (starEach es X.env)).any (·.1) = false := by rfl) : SV X ct W (.Call (.Name x p) (a :: es) [] pos) (vCall F fa) := by
  obtain ⟨f, fd, h1, h2, h3, h4⟩ := hF.ex
  refine PEw (pe_callSG h1 hgu hr hg h2 h3 h4 (E := WE W) (fun σ => passAt tk σ) ha hdb he hpl) fun σ H Q q => ?_
  obtain ⟨c, G, e, r, p⟩ := q
  exact ⟨c, G, e, r, (Post.bind p).imp fun G1 H1 e1 ts s1 r1 p1 vs hvs => post_call r1 hvs p1⟩
end
section
variable {X : Cx} {ct : Ct} {W : WX} {k : Nat} {x : Str} {ps : List Str} {F : List EV → Out} {p pos : Pos} {a : Expr} {fv : EM EV}
theorem v_callFG (hF : FnAtG X.prog X.w X.K X.mg X.base ct k x ps F) (hgu : X.A.guards = some []) (hr : Room k X.A) (hg : Gl X x) (tk : Takes X W) (ha : SV X ct W a fv) (hdb : (x == ("__debug__" : Str)) = false := by decide) (he : starEach [a] X.env = (false, eval a X.env) :: starEach [] X.env := by rfl)
    (hpl : (backTo pos (starEach [] X.env)).any (·.1) = false := by rfl) : SV X ct W (.Call (.Name x p) [a] [] pos) (vCallF F fv) := by
  obtain ⟨f, fd, h1, h2, h3, h4⟩ := hF.ex
  refine PEw (pe_callSG h1 hgu hr hg h2 h3 h4 (E := WE W) (fun σ => passAt tk σ) (pa_cons ha pa_nil he) hdb he hpl) fun σ H Q q => ?_
  obtain ⟨c, G, e, r, p⟩ := q
  refine ⟨c, G, e, r, (Post.bind p).imp fun G1 H1 e1 z s1 r1 p1 v hv => ?_⟩
  show spM ⟨X.K, ct⟩ F [v] H1 Q (WE W σ)
  cases z with
  | d _ => exact p1.elim
  | p _ => exact p1.elim
  | t _ _ => exact p1.elim
  | m y =>
    obtain ⟨b, rfl, m, l⟩ := hv
    have p1 : Post ⟨X.K, ct⟩ W c G1 σ (fun G' H' e' x => ∀ v, RpV ⟨X.K, ct⟩ c G' σ H' e' v x → Q v H') (match (F [.p y]).noT with
      | .ret r _ => .ok r e1
      | .exc x _ => .exc x e1
      | .stuck => .stuck) := p1
    have m' := m
    obtain ⟨m1, m2, o, m3, m4⟩ := m'
    refine ⟨G1, [.p y], r1.gh, ⟨fun p hp => ⟨(r1.tb p hp).1, rfl, (r1.tb p hp).2.2⟩, rfl, fun i x hx => ?_, fun i j b' h1 h2 => ?_⟩, ?_⟩
    · cases i with
      | zero => simp at hx; subst hx; exact ⟨.ref b, rfl, b, o, rfl, m1, m3, m4⟩
      | succ i => simp at hx
    · obtain ⟨⟨x1, h3⟩, _⟩ := pinA_ok h1
      obtain ⟨⟨x2, h4⟩, _⟩ := pinA_ok h2
      have g1 := (List.getElem?_eq_some_iff.mp h3).1
      have g2 := (List.getElem?_eq_some_iff.mp h4).1
      simp at g1 g2
      omega
    · cases h2 : F [.p y] with
      | stuck => rw [h2] at p1; exact p1.elim
      | ret z qs =>
        rw [h2] at p1
        intro G' H' v af hr
        have r' := r1.afterF m l af
        cases z with
        | t _ _ => exact p1.elim
        | d x => exact p1 G' H' af.g r' v (RRes.hereF (x := .d x) r1 hr (fun _ _ z => by cases z))
        | m x => exact p1 G' H' af.g r' v (RRes.hereF (x := .m x) r1 hr (fun _ _ z => by cases z))
        | p x => exact hr.elim
      | exc z qs =>
        rw [h2] at p1
        intro G' H' cls dc af hx
        exact p1 G' H' cls dc af.g (r1.afterF m l af) hx
end
/-- the law's call -/
theorem law_callG {P : Program} {w : World} {K : PySem.W.Frag} {mg mb : Str → Option Value} {k : Nat} {fa a : Addr} {fd : FuncData} {x : Str} {sp : Sp} {s₁ : Shared} {vs : List Value} {ns : List Int}
    (KX : K.In s₁.heap) (hns : s₁.heap.Ns mainGlobals mg) (hb : s₁.heap.Ns builtinsNs mb) (hbb : ∀ x : Str, x ≠ "__name__" → mb x = bootBuiltins x) (hlim : s₁.heap.NoLimit) (hg : s₁.gens = #[])
    (ha : s₁.heap.get? a = some { cls := .type "list", data := .seq vs.toArray }) (hi : IntsAre vs ns) (hl : ns.length ≤ sizeLine) (hr : Room k callerA)
    (F : ∀ base : Heap, K.In base → base.Ns mainGlobals mg → FnG P w K mg base k fa fd [x] sp) (hbind : ∀ (s : Shared) (u : Value), BindsTo s fd ⟨[u], []⟩ [(x, u)])
    (hsp : ∀ H : Hp, Only H → SqL K H a (ns.map V.int) → sp [.ref a] H (fun v _ => v = .bl true) fun _ _ _ => False) (hCX : ∀ H e s', L2.CX P w [] H s₁ (fun _ _ _ => False) e s' → False) :
    codeAny (model P w) callerA (.call (.ref fa) ⟨[.ref a], []⟩) (fun r s' => r = .ok (.ret (.bool true)) ∧ OldK s₁.heap s'.heap ∧ s'.os = s₁.os ∧ AllBare s'.gens) s₁ := by
  have rv := vals_ints hi
  have lenV := hi.length
  have core : ∀ T : Hp, Only T → SqL K T a (ns.map V.int) → HOk P w T s₁.heap → (∀ b, T b ≠ none → b = a) → (T a ≠ none → K.lookup a = none) →
      codeAny (model P w) callerA (.call (.ref fa) ⟨[.ref a], []⟩) (fun r s' => r = .ok (.ret (.bool true)) ∧ OldK s₁.heap s'.heap ∧ s'.os = s₁.os ∧ AllBare s'.gens) s₁ := fun T tO tS tok tA tK => by
    have noT : ∀ {b : Addr}, b ≠ a → T b = none := fun {b} nb => by
      cases q : T b with
      | none => rfl
      | some u => exact absurd (tA b (by rw [q]; exact fun z => by cases z)) nb
    have dictT : ∀ {b : Addr} {o : Obj} {es : Array DictEntry} {ep : Nat}, s₁.heap.get? b = some o → o.data = .dict es ep → T b = none := fun {b o es ep} e d => noT fun z => by
      rw [z, ha] at e
      have e := Option.some.inj e
      rw [← e] at d
      cases d
    have nsT : ∀ {b : Addr} {m : Str → Option Value}, s₁.heap.Ns b m → (hidT s₁.heap T).Ns b m := fun {b m} ⟨o, es, ep, e, d, r⟩ => ⟨o, es, ep, hidT_get e (dictT e d), d, r⟩
    have kT : K.In (hidT s₁.heap T) := fun b o e => hidT_get (KX b o e) (by
      cases q : T b with
      | none => rfl
      | some u =>
        have z : b = a := tA b (by rw [q]; exact fun z => by cases z)
        rw [z] at e q
        rw [tK (by rw [q]; exact fun z => by cases z)] at e
        cases e)
    have mT : Mod K mg (hidT s₁.heap T) := ⟨kT, nsT hns, ⟨mb, nsT hb, hbb⟩, by obtain ⟨mc, h1, h2⟩ := hlim; exact ⟨mc, nsT h1, h2⟩⟩
    have e0 : Env0 P w K mg (hidT s₁.heap T) callerA [] s₁ T := by
      refine ⟨rfl, mT, fun b o e => of_hidT e, Nat.le_of_eq (hidT_size _ _), trivial, fun b z => ?_, tok, .of_eq hg⟩
      have z : b ∈ ([] : List Addr) := z
      cases z
    refine codeAny_mono ((F _ kT (nsT hns)).run callerA [] s₁ T ⟨[.ref a], []⟩ [.ref a] [.ref a] _ _ rfl hr e0 (hbind s₁ (.ref a)) (.cons rfl .nil) (hsp T tO tS)) fun r s' h => ?_
    rcases r with e | fl
    · exact (hCX T e s' h).elim
    · cases fl with
      | ret u =>
        obtain ⟨v, T', os, bare, un, tok', r', q⟩ := h
        have q' : v = .bl true := q
        subst q'
        obtain rfl : u = Value.bool true := r'
        refine ⟨rfl, OldK.of_keep fun b o e => ?_, os, bare⟩
        rcases tO b with z | ⟨ob, xs, z⟩
        · exact un.keep b o e z (fun z => by have z : b ∈ ([] : List Addr) := z; cases z) (fun z => by cases z)
        · have z2 := un.frzs b ob _ z
          have e1 := (tok b _ z).1
          have e2 := (tok' b _ z2).1
          rw [e] at e1
          rw [Option.some.inj e1]
          exact e2
      | _ => exact h.elim
  cases hk : K.lookup a with
  | some o =>
    have e := KX a o hk
    rw [ha] at e
    have e := Option.some.inj e
    subst e
    refine core (fun _ => none) (fun _ => .inl rfl) (.inr ⟨_, vs.toArray, _, hk, rfl, rfl, rfl, by rw [List.size_toArray, lenV]; exact hl, by simpa using rv⟩) (fun b u z => ?_) (fun b z => absurd rfl z) fun z => absurd rfl z
    have z : (none : Option HO) = some u := z
    cases z
  | none =>
    let o : HO := .frz { cls := .type "list", data := .seq vs.toArray } (.lst (ns.map V.int))
    have at_ : ∀ b, (fun b => if b = a then some o else none : Hp) b = if b = a then some o else none := fun _ => rfl
    refine core (fun b => if b = a then some o else none) (fun b => ?_) (.inl (.inr ⟨_, if_pos rfl⟩)) (fun b u z => ?_) (fun b z => ?_) fun _ => hk
    · by_cases hb : b = a
      · exact .inr ⟨_, _, if_pos hb⟩
      · exact .inl (if_neg hb)
    · rw [at_] at z
      by_cases hb : b = a
      · rw [if_pos hb] at z
        have z := Option.some.inj z
        subst z
        subst hb
        exact ⟨ha, by rw [List.length_map]; exact hl, vs, _, rv, ha⟩
      · rw [if_neg hb] at z
        cases z
    · by_cases hb : b = a
      · exact hb
      · rw [if_neg hb] at z
        exact absurd rfl z
theorem walkMG {l : PySem.W.OpenLaw} {n k : Nat} {q : Program} {loose : List Str} {XP : (Str → Option Value) → Heap → Prop} {YP : World → Heap → Prop} {d : DefRec} {x : Str} {F : List EV → Out}
    (hn : l.most = some n) (hn2 : n ≤ sizeLine) (hdf : d.params.defaults = []) (hr : Room k callerA)
    (hF : ∀ (w : World) (mg : Str → Option Value) (fa : Addr) (h : Heap), YP w h → h.Ns mainGlobals mg → mg d.name = some (.ref fa) →
      ∃ (K : PySem.W.Frag) (ct : Ct) (fd : FuncData), K.In h ∧ ct.T = [] ∧ (∀ (s : Shared) (u : Value), BindsTo s fd ⟨[u], []⟩ [(x, u)]) ∧ ∀ base : Heap, K.In base → base.Ns mainGlobals mg → FnG l.prog w K mg base k fa fd [x] (spM ⟨K, ct⟩ F))
    (law : ∀ ns : List Int, ns.length ≤ n → (∀ i ∈ ns, Builtin.Int.intBits i ≤ 1048576) → ∃ ps, F [.d (.scr ns)] = .ret (.d (.bl true)) ps) :
    PySem.W.WalkO q loose XP YP l.row.toRowW d [] (fun f vs => PySem.call f vs) := by
  refine Att.attach_callB hn hdf fun w s₀ s₁ mg mb fa o pm cd doc a vs ns G Y ho hd hcd hmg hobj hints hlen hbits hg => ?_
  obtain ⟨K, ct, fd, KX, hT, hb, hF⟩ := hF w mg fa _ Y G.T.g hmg
  refine law_callG KX G.T.g G.T.b G.T.builtins G.T.nolimit hg hobj hints (Nat.le_trans hlen hn2) hr hF hb (fun H hO hS => ?_) fun H e s' h => cx_none h
  obtain ⟨ps, hl⟩ := law ns hlen hbits
  refine ⟨H, [.d (.scr ns)], Same.refl _, ⟨fun p hp => (by rw [show (Kc.mk K ct).ct.T = [] from hT] at hp; simp at hp), rfl, fun i y hy => ?_, fun i j b h _ => ?_⟩, ?_⟩
  · cases i with
    | zero => cases hy; exact ⟨.ref a, rfl, .scr hS⟩
    | succ i => simp at hy
  · obtain ⟨⟨y, hy⟩, _⟩ := pinA_ok h
    cases i with
    | zero => simp at hy
    | succ i => simp at hy
  · rw [hl]
    intro G' H' v _ hv
    have hv : Rp ⟨K, ct⟩ G' v (.bl true) := hv
    cases hv
    rfl
end MM
end
section
set_option Elab.async false
set_option linter.all false
set_option autoImplicit false
set_option maxRecDepth 100000
set_option maxHeartbeats 4000000
namespace MM
open PySem PySem.Spec PyProof.Rows L2
/-! ### repr of data -/
mutual
theorem D.noDict : ∀ d : D, d.py.hasDict = false
  | .non => by rw [D.py, PyData.hasDict]
  | .bl _ => by rw [D.py, PyData.hasDict]
  | .int _ => by rw [D.py, PyData.hasDict]
  | .str _ => by rw [D.py, PyData.hasDict]
  | .lst xs => by rw [D.py, PyData.hasDict]; exact D.noDicts xs
  | .tup xs => by rw [D.py, PyData.hasDict]; exact D.noDicts xs
  | .obj _ _ => by rw [D.py, PyData.hasDict]
  | .dic _ _ => by rw [D.py, PyData.hasDict]
  | .scr _ => by rw [D.py, PyData.hasDict]
  | .rng _ _ => by rw [D.py, PyData.hasDict]
  | .thk _ => by rw [D.py, PyData.hasDict]
  | .lam _ => by rw [D.py, PyData.hasDict]
theorem D.noDicts : ∀ ds : List D, PyData.hasDictAll (D.pys ds) = false
  | [] => by rw [D.pys, PyData.hasDictAll]
  | x :: xs => by rw [D.pys, PyData.hasDictAll, D.noDict x, D.noDicts xs]; rfl
end
mutual
/-- what a text of it may come to -/
def D.cst : D → Nat
  | .int _ => 1921
  | .str x => (reprText x).length
  | .lst xs => D.csts xs + 3
  | .tup xs => D.csts xs + 2
  | _ => 5
def D.csts : List D → Nat
  | [] => 0
  | x :: xs => D.cst x + 2 + D.csts xs
end
mutual
/-- data that is shown: no instances, no dicts, no great ints -/
def D.shw : D → Bool
  | .int i => decide (i.natAbs.log2 < 1920)
  | .lst xs => D.shws xs
  | .tup xs => D.shws xs
  | .obj _ _ => false
  | .dic _ _ => false
  | .scr _ => false
  | .rng _ _ => false
  | .thk _ => false
  | .lam _ => false
  | _ => true
def D.shws : List D → Bool
  | [] => true
  | x :: xs => D.shw x && D.shws xs
end
mutual
theorem D.shw_flat : ∀ d : D, d.shw = true → d.flat = true ∧ d.py.showable = true
  | .non, _ => by simp [D.flat, D.py, PyData.showable]
  | .bl _, _ => by simp [D.flat, D.py, PyData.showable]
  | .int i, h => by rw [D.shw] at h; rw [D.py, PyData.showable]; exact ⟨by simp [D.flat], h⟩
  | .str _, _ => by simp [D.flat, D.py, PyData.showable]
  | .lst xs, h => by rw [D.shw] at h; rw [D.flat, D.py, PyData.showable]; exact D.shws_flat xs h
  | .tup xs, h => by rw [D.shw] at h; rw [D.flat, D.py, PyData.showable]; exact D.shws_flat xs h
  | .obj _ _, h => by rw [D.shw] at h; cases h
  | .dic _ _, h => by rw [D.shw] at h; cases h
  | .scr _, h => by rw [D.shw] at h; cases h
  | .rng _ _, h => by rw [D.shw] at h; cases h
  | .thk _, h => by rw [D.shw] at h; cases h
  | .lam _, h => by rw [D.shw] at h; cases h
theorem D.shws_flat : ∀ ds : List D, D.shws ds = true → D.flats ds = true ∧ PyData.showableAll (D.pys ds) = true
  | [], _ => by rw [D.flats, D.pys, PyData.showableAll]; exact ⟨rfl, rfl⟩
  | x :: xs, h => by
    rw [D.shws, Bool.and_eq_true] at h
    have h1 := D.shw_flat x h.1
    have h2 := D.shws_flat xs h.2
    rw [D.flats, D.pys, PyData.showableAll, h1.1, h1.2, h2.1, h2.2]
    exact ⟨rfl, rfl⟩
end
mutual
theorem D.shown_len : ∀ d : D, d.shw = true → d.py.shown.length ≤ d.cst
  | .non, _ => by simp only [D.py, PyData.shown, D.cst]; decide +kernel
  | .bl b, _ => by simp only [D.py, PyData.shown, D.cst]; cases b <;> decide +kernel
  | .int i, h => by
    rw [D.shw] at h
    rw [D.py, PyData.shown, D.cst]
    exact int_text_len_1921 (of_decide_eq_true h)
  | .str x, _ => by rw [D.py, PyData.shown, D.cst]; exact Nat.le_refl _
  | .lst xs, h => by
    rw [D.shw] at h
    rw [D.py, PyData.shown, D.cst]
    have h1 := D.shown_lens xs h
    have h2 := listText_len_le (PyData.shownAll (D.pys xs))
    have h3 : ∀ l : List Str, (l.map (·.length)).sum + 2 * l.length = piled l := fun l => by
      induction l with
      | nil => rfl
      | cons t l ih => rw [piled_cons, ← ih, List.map_cons, List.sum_cons, List.length_cons]; omega
    rw [h3] at h2
    omega
  | .tup xs, h => by
    rw [D.shw] at h
    rw [D.py, PyData.shown, D.cst]
    have h1 := D.shown_lens xs h
    have h2 := fmt_text (PyData.shownAll (D.pys xs))
    omega
  | .obj _ _, h => by rw [D.shw] at h; cases h
  | .dic _ _, h => by rw [D.shw] at h; cases h
  | .scr _, h => by rw [D.shw] at h; cases h
  | .rng _ _, h => by rw [D.shw] at h; cases h
  | .thk _, h => by rw [D.shw] at h; cases h
  | .lam _, h => by rw [D.shw] at h; cases h
theorem D.shown_lens : ∀ ds : List D, D.shws ds = true → piled (PyData.shownAll (D.pys ds)) ≤ D.csts ds
  | [], _ => by rw [D.pys, PyData.shownAll, D.csts]; exact Nat.le_refl _
  | x :: xs, h => by
    rw [D.shws, Bool.and_eq_true] at h
    have h1 := D.shown_len x h.1
    have h2 := D.shown_lens xs h.2
    rw [D.pys, PyData.shownAll, D.csts, piled_cons]
    omega
end
def okR (d : D) : Bool := d.shw && (decide (d.py.depth ≤ 60) && decide (d.cst ≤ LIM))
def fReprD : D → Option EV
  | .dic [] [] => some (.d (.str "{}"))
  | d => if okR d = true then some (.d (.str d.py.shown)) else none
def rReprD (K : PySem.W.Frag) : List V → Hp → VK → Prop := fun xs H Q => ∃ x, xs = [x] ∧ ((∃ d, Dp K H x d ∧ d.hasDict = false ∧ d.showable = true ∧ d.depth ≤ 60 ∧ d.shown.length ≤ sizeLine ∧ Q (.str d.shown) H) ∨ ∃ a, x = .ref a ∧ H a = some (.dK []) ∧ Q (.str "{}") H)
section
variable {X : Cx} {ct : Ct} {kk : Nat}
theorem cr_reprD (hgu : X.A.guards = some []) (hr : Room kk X.A) : CallR X (.builtin "repr") (rReprD X.K) := by
  intro pins s σ H xs us Q I r h
  have hun := hr.un
  obtain ⟨x, rfl, h⟩ := h
  obtain ⟨u, rfl, rv⟩ := vals1 r
  rcases h with ⟨d, hd, nd, hs, hdp, hsz, q⟩ | ⟨a, rfl, ha, q⟩
  · have rd := Dp.reads I d x u hd rv
    obtain ⟨as, rd⟩ := rd
    have go : ∀ {a : Addr}, Reads s.heap (.ref a) d as → wpAny (model X.prog X.w) X.A (call (.builtin "repr") [.ref a]) (EP X pins σ Q) X.xe s := fun {a} rd =>
      repr_of_reads' rd hs (fun e => by rw [nd] at e; cases e) hgu (by omega) (fun _ _ e => e) (fun h' t tk hk => ⟨.str d.shown, H, I.kept hk, ⟨t, rfl⟩, q⟩) hsz
    cases hd with
    | non => cases rv; simp only [PyData.shown] at q; exact PySem.P.repr_of_none ⟨.str _, H, I.tok _, ⟨_, rfl⟩, q⟩
    | bl b => cases rv; simp only [PyData.shown] at q; exact PySem.P.repr_of_bool ⟨.str _, H, I.tok _, ⟨_, rfl⟩, q⟩
    | int i =>
      obtain ⟨t, rfl⟩ := rv
      simp only [PyData.shown] at q
      simp only [PyData.showable] at hs
      exact PySem.P.repr_of_int (of_decide_eq_true hs) ⟨.str _, H, I.tok _, ⟨_, rfl⟩, q⟩
    | str y =>
      obtain ⟨t, rfl⟩ := rv
      simp only [PyData.shown] at q hsz
      exact PySem.P.repr_of_str ⟨.str _, H, I.tok _, ⟨_, rfl⟩, q⟩ hsz
    | lst _ _ => cases rv; exact go rd
    | tup _ _ => cases rv; exact go rd
  · cases (show u = Value.ref a from rv)
    obtain ⟨_, hsm, vs, hk, o, es, ep, e1, e2, e3, _, hp, _⟩ := (show ObjOk X.prog X.w H s.heap a (.dK []) from I.hok a _ ha)
    cases hk
    have e4 : es.toList = [] := by
      cases hl : es.toList with
      | nil => rfl
      | cons y ys => rw [hl] at hp; cases hp
    have rd : Reads s.heap (.ref a) (.dict []) (a :: [] ++ []) := .dict e1 e2.1 e3 (by rw [e4]; exact .nil) (by rw [e4]; exact .nil)
    refine repr_of_reads' rd (by simp only [PyData.showable, PyData.showableKv]) (fun _ z => ?_) hgu (by simp only [PyData.depth, PyData.depthKv]; omega) (fun _ _ e => e) (fun h' t tk hk => ⟨.str "{}", H, I.kept hk, ⟨t, ?_⟩, q⟩) ?_
    · have z : a = sysModules := by
        have z : sysModules ∈ [a] := z
        exact (List.mem_singleton.mp z).symm
      rw [z] at hsm
      simp at hsm
    · simp only [PyData.shown, PyData.shownKv]
      rfl
    · simp only [PyData.shown, PyData.shownKv]
      decide +kernel
theorem RB.dic0 {k : Kc} {G H : Hp} {v : V} (g : Same G H) (h : RB k G H v (.dic [] [])) : ∃ a, v = .ref a ∧ H a = some (.dK []) := by
  obtain ⟨a, kvs, rfl, h1, h2, _⟩ := h.dic g
  have : kvs = [] := List.map_eq_nil_iff.mp h2
  subst this
  exact ⟨a, rfl, h1⟩
theorem g_reprD : CallG ⟨X.K, ct⟩ (rReprD X.K) (gF1 fReprD) := callG1 fun c G H σ e v d z Q re rb hz q => by
  have key : ∀ {d : D}, okR d = true → RB ⟨X.K, ct⟩ G H v d → some (EV.d (.str d.py.shown)) = some z → rReprD X.K [v] H Q := fun {d} hok rb hz => by
    cases hz
    unfold okR at hok
    rw [Bool.and_eq_true, Bool.and_eq_true] at hok
    have h1 := D.shw_flat d hok.1
    have h2 := D.shown_len d hok.1
    have h3 : d.cst ≤ 1000000 := of_decide_eq_true hok.2.2
    exact ⟨v, rfl, .inl ⟨d.py, rb.dp re.gh h1.1, D.noDict d, h1.2, of_decide_eq_true hok.2.1, by rw [sizeLine_eq]; omega, q G H _ (Same.refl _) re (.str _)⟩⟩
  unfold fReprD at hz
  split at hz
  · cases hz
    obtain ⟨a, rfl, ha⟩ := rb.dic0 re.gh
    exact ⟨_, rfl, .inr ⟨a, rfl, ha, q G H _ (Same.refl _) re (.str _)⟩⟩
  · split at hz
    · rename_i hok
      exact key hok rb hz
    · cases hz
end
/-! ### repr of scalars, wherever -/
def fReprS : D → Option EV
  | .non => some (.d (.str "None"))
  | .bl b => some (.d (.str (if b then "True" else "False")))
  | .int i => if i.natAbs.log2 < 1920 then some (.d (.str (toString i))) else none
  | .str x => if (reprText x).length ≤ LIM then some (.d (.str (reprText x))) else none
  | _ => none
def rReprS : List V → Hp → VK → Prop := fun xs H Q => ∃ (x : V) (y : Str), xs = [x] ∧ ((x = .non ∧ y = "None") ∨ (∃ b : Bool, x = .bl b ∧ y = if b then ("True" : Str) else "False") ∨ (∃ i : Int, x = .int i ∧ i.natAbs.log2 < 1920 ∧ y = (toString i : String)) ∨ ∃ z, x = .str z ∧ (reprText z).length ≤ sizeLine ∧ y = reprText z) ∧ Q (.str y) H
section
variable {X : Cx} {ct : Ct}
theorem cr_reprS : CallR X (.builtin "repr") rReprS := by
  intro pins s σ H xs us Q I r h
  obtain ⟨x, y, rfl, h, q⟩ := h
  obtain ⟨u, rfl, rv⟩ := vals1 r
  rcases h with ⟨rfl, rfl⟩ | ⟨b, rfl, rfl⟩ | ⟨i, rfl, hi, rfl⟩ | ⟨z, rfl, hz, rfl⟩
  · cases rv; exact PySem.P.repr_of_none ⟨.str _, H, I.tok _, ⟨_, rfl⟩, q⟩
  · cases rv; exact PySem.P.repr_of_bool ⟨.str _, H, I.tok _, ⟨_, by cases b <;> rfl⟩, q⟩
  · obtain ⟨t, rfl⟩ := rv; exact PySem.P.repr_of_int hi ⟨.str _, H, I.tok _, ⟨_, rfl⟩, q⟩
  · obtain ⟨t, rfl⟩ := rv; exact PySem.P.repr_of_str ⟨.str _, H, I.tok _, ⟨_, rfl⟩, q⟩ hz
theorem g_reprS : CallG ⟨X.K, ct⟩ rReprS (gF1 fReprS) := callG1 fun c G H σ e v d z Q re rb hz q => by
  cases d with
  | non => cases hz; rw [rb.non]; exact ⟨_, _, rfl, .inl ⟨rfl, rfl⟩, q G H _ (Same.refl _) re (.str _)⟩
  | bl b => cases hz; rw [rb.bl]; exact ⟨_, _, rfl, .inr (.inl ⟨b, rfl, rfl⟩), q G H _ (Same.refl _) re (.str _)⟩
  | int i =>
    simp only [fReprS] at hz
    split at hz
    · rename_i h; cases hz; rw [rb.int]; exact ⟨_, _, rfl, .inr (.inr (.inl ⟨i, rfl, h, rfl⟩)), q G H _ (Same.refl _) re (.str _)⟩
    · cases hz
  | str x =>
    simp only [fReprS] at hz
    split at hz
    · rename_i h; cases hz; rw [rb.str]; exact ⟨_, _, rfl, .inr (.inr (.inr ⟨x, rfl, by rw [sizeLine_eq]; exact Nat.le_trans h (by decide), rfl⟩)), q G H _ (Same.refl _) re (.str _)⟩
    · cases hz
  | _ => cases hz
end
end MM
end
section
set_option Elab.async false
set_option linter.all false
set_option autoImplicit false
set_option maxRecDepth 100000
set_option maxHeartbeats 4000000
namespace MM
open PySem PySem.Spec PyProof.Rows L2
/-! ### an empty dict; list.insert -/
def vDic0 : EM EV := fun e => .ok (.m (.dic [] [])) e
@[simp] theorem vDic0_ev {e : Env} : vDic0 e = .ok (.m (.dic [] [])) e := rfl
section
variable {X : Cx} {ct : Ct} {W : WX} {pos : Pos}
theorem v_dic0 : SV X ct W (.Dict [] [] pos) vDic0 := PEw pe_dnewK fun σ H Q q => by
  obtain ⟨c, G, e, r, p⟩ := q
  intro a ha
  have n := r.newM (x := .dic [] []) (o := .dK []) ha ⟨[], rfl, rfl, .nil⟩
  exact p G _ (Same.refl _) n.1 _ ⟨a, rfl, n.2.1, n.2.2⟩
def rInsert : V → List V → Hp → VK → Prop := fun x vs H Q => ∃ (l : Addr) (xs : List V) (i : Int) (y : V), x = .ref l ∧ vs = [.int i, y] ∧ H l = some (.lst xs) ∧ xs.length < sizeLine ∧ 0 ≤ i ∧ i < 2 ^ 63 ∧ Q .non (upd H l (.lst (xs.take i.toNat ++ [y] ++ xs.drop i.toNat)))
def gInsert : MV → List D → Option (MV × D)
  | .lst xs, [.int i, d] => if xs.length < LIM ∧ 0 ≤ i ∧ i ≤ 1000000 then some (.lst (xs.take i.toNat ++ [d] ++ xs.drop i.toNat), .non) else none
  | _, _ => none
theorem mt_insertM : MtM X "list.insert" rInsert := mt_insert
theorem mutG_insert : MutG ⟨X.K, ct⟩ rInsert gInsert := fun G H a o y y' vs ds z Q g hH m rs hg q => by
  unfold gInsert at hg
  split at hg
  · rename_i xs i d
    split at hg
    · rename_i hc
      cases hg
      obtain ⟨us, rfl, ru⟩ := m
      cases rs with
      | cons ri rs =>
        cases rs with
        | cons rd rs =>
          cases rs
          cases ri
          have hl : us.length < 1000000 := by rw [ru.len]; exact hc.1
          exact ⟨a, us, i, _, rfl, rfl, hH, by rw [sizeLine_eq]; omega, hc.2.1, by omega, q _ _ ⟨_, rfl, ((ru.take _).app (.cons rd .nil)).app (ru.drop _)⟩ .non⟩
    · cases hg
  · cases hg
end
@[simp] theorem gInsert_lst {xs : List D} {i : Int} {d : D} : gInsert (.lst xs) [.int i, d] = if xs.length < LIM ∧ 0 ≤ i ∧ i ≤ 1000000 then some (.lst (xs.take i.toNat ++ [d] ++ xs.drop i.toNat), .non) else none := rfl
end MM
end
section
set_option Elab.async false
set_option linter.all false
set_option autoImplicit false
set_option maxRecDepth 100000
set_option maxHeartbeats 4000000
namespace MM
open PySem PySem.Spec PyProof.Rows L2
/-! ### a slice of the script -/
def vSlS (f : EM Tk) (fl fh : EO) : EM EV := fun e => (f e).bind fun t e1 => (fl e1).bind fun lo e2 => (fh e2).bind fun hi e3 => match rdK e3 t with
  | some (.scr ns) => .ok (.m (.lst (cutD (ns.map D.int) lo hi))) e3
  | _ => .stuck
@[simp] theorem vSlS_ev {f : EM Tk} {fl fh : EO} {e : Env} : vSlS f fl fh e = (f e).bind fun t e1 => (fl e1).bind fun lo e2 => (fh e2).bind fun hi e3 => match rdK e3 t with
  | some (.scr ns) => .ok (.m (.lst (cutD (ns.map D.int) lo hi))) e3
  | _ => .stuck := rfl
section
variable {X : Cx} {ct : Ct} {W : WX} {pos p2 : Pos} {a : Expr} {lo hi : Option Expr} {fa : EM Tk} {fl fh : EO}
theorem v_sliceS (ha : SK X ct W a fa) (hl : SO X ct W lo fl) (hh : SO X ct W hi fh) : SV X ct W (.Subscript a (.Slice lo hi none p2) pos) (vSlS fa fl fh) := PEw (pe_slice sl_list ha hl hh) fun σ H Q q => by
  obtain ⟨c, G, e, r, p⟩ := q
  refine ⟨c, G, e, r, (Post.bind p).imp fun G1 H1 e1 t s1 r1 p1 x hx => ⟨c, G1, e1, r1, (Post.bind p1).imp fun G2 H2 e2 l s2 r2 p2 => ⟨c, G2, e2, r2, (Post.bind p2).imp fun G3 H3 e3 h s3 r3 p3 => ?_⟩⟩⟩
  split at p3
  · rename_i ns hd
    have hr := RB.of r3 ((hx.mono s2).mono s3) hd
    obtain ⟨b, rfl, h1⟩ := hr.scr r3.gh
    exact ⟨_, _, rfl, h1, fin_lst r3 ((Rps.ofInts ns).cut l h) fun G' H' v s' r' hv => p3 G' H' s' r' v hv⟩
  · exact p3.elim
end
/-! ### == of texts -/
def gEqT : D → D → Option Bool
  | .str x, .str y => some (decide (x = y))
  | _, _ => none
def gNeT : D → D → Option Bool
  | .str x, .str y => some (!decide (x = y))
  | _, _ => none
theorem dec_V (x y : Str) : decide (V.str x = V.str y) = decide (x = y) := by
  by_cases h : x = y <;> simp [h]
theorem opB_eqT {k : Kc} : OpB k rEq gEqT := fun G H x y a b z Q g ra rb hz q => by
  unfold gEqT at hz
  split at hz
  · cases hz
    rw [ra.str, rb.str]
    exact ⟨rfl, by rw [dec_V]; exact q⟩
  · cases hz
theorem opB_neT {k : Kc} : OpB k rNe gNeT := fun G H x y a b z Q g ra rb hz q => by
  unfold gNeT at hz
  split at hz
  · cases hz
    rw [ra.str, rb.str]
    exact ⟨rfl, by rw [dec_V]; exact q⟩
  · cases hz
section
variable {X : Cx} {ct : Ct}
theorem x_eqT : CmpX X ct .Eq gEqT := ⟨_, op_eq, opB_eqT⟩
theorem x_neT : CmpX X ct .NotEq gNeT := ⟨_, op_ne, opB_neT⟩
end
@[simp] theorem gEqT_str (x y : Str) : gEqT (.str x) (.str y) = some (decide (x = y)) := rfl
@[simp] theorem gNeT_str (x y : Str) : gNeT (.str x) (.str y) = some (!decide (x = y)) := rfl
/-! ### which data is shown -/
theorem log_ok {i : Int} (h : -(10 ^ 40) < i ∧ i < 10 ^ 40) : i.natAbs.log2 < 1920 := by
  have h1 : i.natAbs < 2 ^ 1920 := Nat.lt_of_lt_of_le (show i.natAbs < 10 ^ 40 by omega) (by decide +kernel)
  have := log2_lt h1
  by_cases z : i.natAbs = 0
  · rw [z]; decide
  · exact (Nat.log2_lt z).mpr h1
def Shown (ns : List Int) : Prop := ∀ i ∈ ns, i.natAbs.log2 < 1920
theorem shws_ints : ∀ {ns : List Int}, Shown ns → D.shws (ns.map D.int) = true
  | [], _ => by rw [List.map_nil, D.shws]
  | n :: ns, h => by
    rw [List.map_cons, D.shws, D.shw, decide_eq_true (h n (by simp)), shws_ints fun i hi => h i (by simp [hi])]
    rfl
theorem csts_ints : ∀ ns : List Int, D.csts (ns.map D.int) = 1923 * ns.length
  | [] => by rw [List.map_nil, D.csts]; rfl
  | n :: ns => by rw [List.map_cons, D.csts, D.cst, csts_ints ns, List.length_cons]; omega
theorem dep_ints : ∀ ns : List Int, PyData.depthAll (D.pys (ns.map D.int)) = 0
  | [] => by rw [List.map_nil, D.pys, PyData.depthAll]
  | n :: ns => by rw [List.map_cons, D.pys, PyData.depthAll, D.py, PyData.depth, dep_ints ns]; rfl
theorem okR_ints {ns : List Int} (h : Shown ns) (hl : ns.length ≤ 500) : okR (.lst (ns.map D.int)) = true := by
  unfold okR
  rw [D.shw, shws_ints h, D.py, PyData.depth, dep_ints, D.cst, csts_ints]
  have : 1923 * ns.length + 3 ≤ LIM := by show _ ≤ 1000000; omega
  simp [this]
theorem shws_rows : ∀ {R : List (List Int)}, (∀ r ∈ R, Shown r) → D.shws (rowsD R) = true
  | [], _ => by show D.shws [] = _; rw [D.shws]
  | r :: R, h => by
    show D.shws (.lst (r.map D.int) :: rowsD R) = _
    rw [D.shws, D.shw, shws_ints (h r (by simp)), shws_rows fun q hq => h q (by simp [hq])]
    rfl
theorem csts_rows : ∀ R : List (List Int), D.csts (rowsD R) = 1923 * R.flatten.length + 5 * R.length
  | [] => by show D.csts [] = _; rw [D.csts]; rfl
  | r :: R => by
    show D.csts (.lst (r.map D.int) :: rowsD R) = _
    rw [D.csts, D.cst, csts_ints, csts_rows R, List.flatten_cons, List.length_append, List.length_cons]
    omega
theorem dep_rows : ∀ R : List (List Int), PyData.depthAll (D.pys (rowsD R)) ≤ 1
  | [] => by show PyData.depthAll (D.pys []) ≤ _; rw [D.pys, PyData.depthAll]; omega
  | r :: R => by
    show PyData.depthAll (D.pys (.lst (r.map D.int) :: rowsD R)) ≤ _
    have := dep_rows R
    rw [D.pys, PyData.depthAll, D.py, PyData.depth, dep_ints]
    omega
theorem okR_rows {R : List (List Int)} (h : ∀ r ∈ R, Shown r) (hl : R.flatten.length ≤ 400) (hr : R.length ≤ 1000) : okR (.lst (rowsD R)) = true := by
  unfold okR
  have h1 := dep_rows R
  rw [D.shw, shws_rows h, D.py, PyData.depth, D.cst, csts_rows]
  have : 1923 * R.flatten.length + 5 * R.length + 3 ≤ LIM := by show _ ≤ 1000000; omega
  have h2 : PyData.depthAll (D.pys (rowsD R)) + 1 ≤ 60 := by omega
  rw [decide_eq_true this, decide_eq_true h2]
  rfl
theorem fReprD_ok {d : D} (h : okR d = true) (hn : d ≠ .dic [] []) : fReprD d = some (.d (.str d.py.shown)) := by
  unfold fReprD
  split
  · exact absurd rfl hn
  · rw [if_pos h]
end MM
end
section
set_option Elab.async false
set_option linter.all false
set_option autoImplicit false
set_option maxRecDepth 100000
set_option maxHeartbeats 4000000
namespace MM
open PySem PySem.Spec L2
/-! ### data of few nodes is shown -/
mutual
def D.nice : D → Bool
  | .int i => decide (i.natAbs.log2 < 1920)
  | .str x => decide ((reprText x).length ≤ 1921)
  | .lst xs => D.nices xs
  | .tup xs => D.nices xs
  | .obj _ _ => false
  | .dic _ _ => false
  | .scr _ => false
  | .rng _ _ => false
  | .thk _ => false
  | .lam _ => false
  | _ => true
def D.nices : List D → Bool
  | [] => true
  | x :: xs => D.nice x && D.nices xs
end
mutual
def D.nod : D → Nat
  | .lst xs => D.nods xs + 1
  | .tup xs => D.nods xs + 1
  | _ => 1
def D.nods : List D → Nat
  | [] => 0
  | x :: xs => D.nod x + D.nods xs
end
mutual
theorem D.nice_shw : ∀ d : D, d.nice = true → d.shw = true ∧ d.cst + 2 ≤ 1925 * d.nod ∧ d.py.depth ≤ d.nod
  | .non, _ => by simp [D.shw, D.cst, D.nod, D.py, PyData.depth]
  | .bl _, _ => by simp [D.shw, D.cst, D.nod, D.py, PyData.depth]
  | .int i, h => by rw [D.nice] at h; simp [D.shw, D.cst, D.nod, D.py, PyData.depth]; exact of_decide_eq_true h
  | .str x, h => by rw [D.nice] at h; have := of_decide_eq_true h; simp [D.shw, D.cst, D.nod, D.py, PyData.depth]; omega
  | .lst xs, h => by
    rw [D.nice] at h
    obtain ⟨h1, h2, h3⟩ := D.nices_shw xs h
    rw [D.shw, D.cst, D.nod, D.py, PyData.depth]
    exact ⟨h1, by omega, by omega⟩
  | .tup xs, h => by
    rw [D.nice] at h
    obtain ⟨h1, h2, h3⟩ := D.nices_shw xs h
    rw [D.shw, D.cst, D.nod, D.py, PyData.depth]
    exact ⟨h1, by omega, by omega⟩
  | .obj _ _, h => by rw [D.nice] at h; cases h
  | .dic _ _, h => by rw [D.nice] at h; cases h
  | .scr _, h => by rw [D.nice] at h; cases h
  | .rng _ _, h => by rw [D.nice] at h; cases h
  | .thk _, h => by rw [D.nice] at h; cases h
  | .lam _, h => by rw [D.nice] at h; cases h
theorem D.nices_shw : ∀ ds : List D, D.nices ds = true → D.shws ds = true ∧ D.csts ds ≤ 1925 * D.nods ds ∧ PyData.depthAll (D.pys ds) ≤ D.nods ds
  | [], _ => by simp [D.shws, D.csts, D.nods, D.pys, PyData.depthAll]
  | x :: xs, h => by
    rw [D.nices, Bool.and_eq_true] at h
    obtain ⟨a1, a2, a3⟩ := D.nice_shw x h.1
    obtain ⟨b1, b2, b3⟩ := D.nices_shw xs h.2
    rw [D.shws, D.csts, D.nods, D.pys, PyData.depthAll, a1, b1]
    exact ⟨rfl, by omega, by omega⟩
end
/-- few nodes, or the empty dict -/
def Good (n : Nat) (v : D) : Prop := v = .dic [] [] ∨ (v.nice = true ∧ v.nod ≤ n)
theorem Good.okR {n : Nat} {v : D} (h : v.nice = true) (hn : v.nod ≤ n) (h60 : n ≤ 60) : okR v = true := by
  obtain ⟨h1, h2, h3⟩ := D.nice_shw v h
  unfold MM.okR
  rw [h1, decide_eq_true (show v.py.depth ≤ 60 by omega), decide_eq_true (show v.cst ≤ LIM by show _ ≤ 1000000; omega)]
  rfl
theorem Good.repr {n : Nat} {v : D} (h : Good n v) (h60 : n ≤ 60) : ∃ T : Str, fReprD v = some (.d (.str T)) := by
  rcases h with rfl | ⟨h1, h2⟩
  · exact ⟨_, rfl⟩
  · exact ⟨_, fReprD_ok (Good.okR h1 h2 h60) fun z => by subst z; rw [D.nice] at h1; cases h1⟩
theorem nices_iff : ∀ {ds : List D}, D.nices ds = true ↔ ∀ d ∈ ds, d.nice = true
  | [] => by simp [D.nices]
  | x :: xs => by rw [D.nices, Bool.and_eq_true, nices_iff]; simp
theorem nods_app : ∀ {a b : List D}, D.nods (a ++ b) = D.nods a + D.nods b
  | [], b => by simp [D.nods]
  | x :: a, b => by rw [List.cons_append, D.nods, D.nods, nods_app]; omega
theorem nods_ints : ∀ ns : List Int, D.nods (ns.map D.int) = ns.length
  | [] => by simp [D.nods]
  | n :: ns => by rw [List.map_cons, D.nods, nods_ints ns, List.length_cons]; simp [D.nod]; omega
theorem nices_ints {ns : List Int} (h : Shown ns) : D.nices (ns.map D.int) = true := nices_iff.mpr fun d hd => by
  obtain ⟨i, hi, rfl⟩ := List.mem_map.mp hd
  rw [D.nice]
  exact decide_eq_true (h i hi)
theorem nods_take {l : List D} (n : Nat) : D.nods (l.take n) ≤ D.nods l := by
  conv => rhs; rw [← List.take_append_drop n l, nods_app]
  omega
theorem nods_drop {l : List D} (n : Nat) : D.nods (l.drop n) ≤ D.nods l := by
  conv => rhs; rw [← List.take_append_drop n l, nods_app]
  omega
theorem nods_cut {l : List D} {lo hi : Option Int} : D.nods (cutD l lo hi) ≤ D.nods l := by
  unfold cutD
  exact Nat.le_trans (nods_take _) (nods_drop _)
theorem nices_cut {l : List D} {lo hi : Option Int} (h : D.nices l = true) : D.nices (cutD l lo hi) = true := nices_iff.mpr fun d hd => by
  unfold cutD at hd
  exact nices_iff.mp h d (List.mem_of_mem_drop (List.mem_of_mem_take hd))
theorem nices_app {a b : List D} (ha : D.nices a = true) (hb : D.nices b = true) : D.nices (a ++ b) = true := nices_iff.mpr fun d hd => by
  rcases List.mem_append.mp hd with h | h
  · exact nices_iff.mp ha d h
  · exact nices_iff.mp hb d h
theorem len_nods : ∀ {l : List D}, l.length ≤ D.nods l
  | [] => by simp
  | x :: l => by
    have := len_nods (l := l)
    have h1 : 1 ≤ x.nod := by cases x <;> simp [D.nod]
    rw [List.length_cons, D.nods]
    omega
theorem cut_le {l : List D} {lo hi : Option Int} : (cutD l lo hi).length ≤ l.length := by
  unfold cutD
  rw [List.length_take, List.length_drop]
  omega
end MM
end
section
set_option Elab.async false
set_option linter.all false
set_option autoImplicit false
set_option maxRecDepth 100000
set_option maxHeartbeats 4000000
namespace MM
open PySem PySem.Spec L2
/-! ### comprehensions whose names are kept outside -/
def keep1 (e1 : Env) (v : Nat) (e : Env) : Env := match e1[v]? with
  | some (some (.d x)) => e.set v (some (.d x))
  | _ => e
def keepE : List Nat → Env → Env → Env
  | [], _, e => e
  | v :: vs, e1, e => keep1 e1 v (keepE vs e1 e)
def lcK (vs : List Nat) (fi : EM (List D)) (ft : D → Env → Option Env) (ff : EM Bool) (fe : EM D) : EM EV := fun e => (fi e).bind fun ds e1 => match wipeE vs e1 with
  | none => .stuck
  | some e2 => (lcGo vs ft ff fe ds [] e2).bind fun acc e3 => .ok (.m (.lst acc)) (keepE vs e1 e3)
theorem keep1_ok {k : Kc} {c : Fr} {G G' H H' : Hp} {σ : L2.St} {e1 e : Env} {v : Nat} (r1 : RepS k c G σ H e1) (s : Same G G') (r : RepS k c G' σ H' e) {D : Addr} (hl : Loose σ e D) : RepS k c G' σ H' (keep1 e1 v e) ∧ Loose σ (keep1 e1 v e) D := by
  unfold keep1
  split
  · rename_i x hx
    obtain ⟨u, hu, hr⟩ := r1.slot v _ hx
    have hr : Rp k G u x := hr
    have hset : σ.set v (some u) = σ := by
      apply List.ext_getElem?
      intro j
      by_cases h : v = j
      · subst h
        rw [List.getElem?_set_self (List.getElem?_eq_some_iff.mp hu).1, hu]
      · rw [List.getElem?_set_ne h]
    have := r.put (i := v) (v := u) (x := some (.d x)) (r1.nopin hx fun z q => by cases q) (fun y hy => by cases hy; exact hr.mono s) (fun y b hy hw => by cases hy; cases hw)
    rw [hset] at this
    refine ⟨this, fun j y hy hw => ?_⟩
    rcases set_get hy with ⟨_, q, _⟩ | ⟨_, q⟩
    · cases q; cases hw
    · exact hl j y q hw
  · exact ⟨r, hl⟩
theorem keep_ok {k : Kc} {c : Fr} {G G' H H' : Hp} {σ : L2.St} {e1 e : Env} (r1 : RepS k c G σ H e1) (s : Same G G') : ∀ {vs : List Nat}, RepS k c G' σ H' e → ∀ {D : Addr}, Loose σ e D → RepS k c G' σ H' (keepE vs e1 e) ∧ Loose σ (keepE vs e1 e) D
  | [], r, D, hl => ⟨r, hl⟩
  | v :: vs, r, D, hl => by
    obtain ⟨r2, l2⟩ := keep_ok r1 s (vs := vs) r hl
    exact keep1_ok r1 s r2 l2
section
variable {X : Cx} {ct : Ct} {W : WX} {elt tg iter : Expr} {ifs : List Expr} {scope : Scope} {own : List (Str × Nat)} {pos : Pos} {fi : EM (List D)} {ft : D → Env → Option Env} {ff : EM Bool} {fe : EM D} {ts : List Nat}
theorem lc_semK {vs : List Nat} (hts : ∀ i ∈ ts, i ∈ vs) (σ : L2.St) (H : Hp) (Q : VK) (q : TV ⟨X.K, ct⟩ W (lcK vs fi ft ff fe) σ H Q) :
    tLc (TIx ⟨X.K, ct⟩ W fi) (TGt ⟨X.K, ct⟩ ts ft) (TT ⟨X.K, ct⟩ W0 ff) (TE ⟨X.K, ct⟩ W0 fe) vs σ H Q := by
  obtain ⟨c, G, e, r, p⟩ := q
  refine ⟨c, G, e, r, (Post.bind p).imp fun G1 H1 e1 ds s1 r1 p1 J hJ D hD => ?_⟩
  cases hw : wipeE vs e1 with
  | none => rw [hw] at p1; exact p1.elim
  | some e2 =>
    rw [hw] at p1
    have p2 : Post ⟨X.K, ct⟩ W c G1 σ (fun G' H' e' x => ∀ v, RpV ⟨X.K, ct⟩ c G' σ H' e' v x → Q v H') ((lcGo vs ft ff fe ds [] e2).bind fun acc e3 => .ok (.m (.lst acc)) (keepE vs e1 e3)) := p1
    have hO : c.O D = none := r1.oh.free hD
    have h0 : c.G0 D = none := (r1.g0.trans r1.gh).free hD
    generalize hR : lcGo vs ft ff fe ds [] e2 = R at p2
    have notS : R ≠ .stuck := fun z => by rw [z] at p2; exact p2
    refine lc_it (walk_of hJ) (fun i H => ∃ acc e' G' va, RepS ⟨X.K, ct⟩ (c.guard D (.lst va)) G' (wipe σ vs) H e' ∧ Same G1 G' ∧ Rps ⟨X.K, ct⟩ G' va acc ∧ lcGo vs ft ff fe (ds.drop i) acc e' = R ∧ ∀ v ∈ vs, e'[v]? = some none) ?_ ?_ ?_ ?_
    · obtain ⟨r2, _, n2, _⟩ := wipeE_ok r1 hw
      obtain ⟨r3, _, l3⟩ := r2.newM (x := .lst []) (o := .lst []) hD ⟨[], rfl, .nil⟩
      exact ⟨[], e2, G1, [], r3.guard upd_same (r2.gh.free hD) l3 NoT.lst, Same.refl _, .nil, hR, n2⟩
    · rintro i H' _ ⟨acc, e', G', va, r', s', _⟩
      exact s'.trans r'.gh
    · rintro i x H' H'' hi ⟨acc, e', G', va, r', s', rs, eq, n'⟩ y
      obtain ⟨G2, d, hd, s2, r2, hx⟩ := item_ok r' s' y
      rw [drop_at hd] at eq
      have eq1 : (match ft d e' with
        | none => (.stuck : Res (List MM.D))
        | some e1 => match ff e1 with
          | .ok true e2 => (match fe e2 with
            | .ok x e3 => if acc.length < LIM then (match wipeE vs e3 with
                | some e4 => lcGo vs ft ff fe (ds.drop (i + 1)) (acc ++ [x]) e4
                | none => .stuck) else .stuck
            | _ => .stuck)
          | .ok false e2 => (match wipeE vs e2 with
            | some e4 => lcGo vs ft ff fe (ds.drop (i + 1)) acc e4
            | none => .stuck)
          | _ => .stuck) = R := eq
      cases h1 : ft d e' with
      | none => rw [h1] at eq1; exact absurd eq1.symm notS
      | some e3 =>
        rw [h1] at eq1
        refine ⟨_, G2, e', d, e3, r2, hx, h1, fun σ' r3 hl hj => ?_⟩
        have hwp : wipe σ' vs = wipe σ vs := by
          rw [wipe_same hl fun j hn => hj j fun z => hn (hts j z), wipe_wipe]
        refine ⟨hwp, _, G2, e3, r3, ?_⟩
        have eq2 : (match ff e3 with
          | .ok true e2 => (match fe e2 with
            | .ok x e3 => if acc.length < LIM then (match wipeE vs e3 with
                | some e4 => lcGo vs ft ff fe (ds.drop (i + 1)) (acc ++ [x]) e4
                | none => .stuck) else .stuck
            | _ => .stuck)
          | .ok false e2 => (match wipeE vs e2 with
            | some e4 => lcGo vs ft ff fe (ds.drop (i + 1)) acc e4
            | none => .stuck)
          | _ => .stuck) = R := eq1
        cases h2 : ff e3 with
        | stuck => rw [h2] at eq2; exact absurd eq2.symm notS
        | exc x e4 => rw [h2] at eq2; exact absurd eq2.symm notS
        | ok b e4 =>
          rw [h2] at eq2
          intro G3 H3 s3 r4
          cases b with
          | false =>
            rw [if_neg Bool.false_ne_true]
            have eq3 : (match wipeE vs e4 with
              | some e4 => lcGo vs ft ff fe (ds.drop (i + 1)) acc e4
              | none => .stuck) = R := eq2
            cases h3 : wipeE vs e4 with
            | none => rw [h3] at eq3; exact absurd eq3.symm notS
            | some e6 =>
              rw [h3] at eq3
              obtain ⟨r6, _, n6, _⟩ := wipeE_ok r4 h3
              rw [hwp] at r6
              exact ⟨acc, e6, G3, va, r6, (s'.trans s2).trans s3, (rs.mono s2).mono s3, eq3, n6⟩
          | true =>
            rw [if_pos rfl]
            refine ⟨_, G3, e4, r4, ?_⟩
            have eq3 : (match fe e4 with
              | .ok x e3 => if acc.length < LIM then (match wipeE vs e3 with
                | some e4 => lcGo vs ft ff fe (ds.drop (i + 1)) (acc ++ [x]) e4
                | none => .stuck) else .stuck
              | _ => .stuck) = R := eq2
            cases h3 : fe e4 with
            | stuck => rw [h3] at eq3; exact absurd eq3.symm notS
            | exc x e5 => rw [h3] at eq3; exact absurd eq3.symm notS
            | ok xd e5 =>
              rw [h3] at eq3
              have eq4 : (if acc.length < LIM then (match wipeE vs e5 with
                | some e4 => lcGo vs ft ff fe (ds.drop (i + 1)) (acc ++ [xd]) e4
                | none => .stuck) else .stuck) = R := eq3
              intro G4 H4 s4 r5 yv hy
              by_cases hlen : acc.length < LIM
              · rw [if_pos hlen] at eq4
                cases h4 : wipeE vs e5 with
                | none => rw [h4] at eq4; exact absurd eq4.symm notS
                | some e6 =>
                  rw [h4] at eq4
                  obtain ⟨r6, _, n6, _⟩ := wipeE_ok r5 h4
                  rw [hwp] at r6
                  obtain ⟨r7, hDD, gD, lD⟩ := r6.unguard hO h0 (fun φ z => by cases z)
                  have sall := (s2.trans s3).trans s4
                  refine ⟨va, hDD, by rw [rs.len]; exact Nat.lt_of_lt_of_le hlen (lim_le (Nat.le_refl _)), acc ++ [xd], e6, G4, va ++ [yv], ?_, s'.trans sall, (rs.mono sall).app (.cons hy .nil), eq4, n6⟩
                  exact (r7.other gD hO lD (fun u q => by rw [hDD] at q; cases q; exact IsTb.lst)).guard upd_same gD lD NoT.lst
              · rw [if_neg hlen] at eq4; exact absurd eq4.symm notS
    · rintro H' ⟨acc, e', G', va, r', s', rs, eq, n'⟩
      rw [List.drop_length] at eq
      have eq1 : R = .ok acc e' := eq.symm
      rw [eq1] at p2
      obtain ⟨r7, hDD, gD, lD⟩ := r'.unguard hO h0 (fun φ z => by cases z)
      have out : ∀ {j : Nat} {x : EV}, e'[j]? = some (some x) → j ∉ vs := fun {j x} hx hj => by rw [n' j hj] at hx; cases hx
      have r8 : RepS ⟨X.K, ct⟩ c G' σ H' e' := r7.unwipe (wipe_length σ vs).symm (fun j hj => (wipe_out' hj).symm) n'
      obtain ⟨r9, lz⟩ := keep_ok r1 s' (vs := vs) r8 (D := D) fun j x hx hw => by
        rw [← wipe_out' (σ := σ) (out hx)]
        exact lD j x hx hw
      exact p2 G' H' s' r9 _ ⟨D, rfl, ⟨gD, hO, _, hDD, va, rfl, rs⟩, lz⟩
theorem v_lcK (hc : X.calm = true) (hN : X.N.Nodup) (hi : SI X ct W tg iter fi) (ok : BlkOk X.N X.env.scope scope own) (hts : ∀ i ∈ ts, i ∈ own.map (·.2))
    (hg : ∀ (s : Shared) (H : Hp) (C : Addr) (cl : List (Str × Addr)) (fp : List Addr), SG (X.blk s H scope (compEnvC scope cl C X.env) fp) ct tg ts ft) (ht : ∀ (s : Shared) (H : Hp) (C : Addr) (cl : List (Str × Addr)) (fp : List Addr), PTs (X.blk s H scope (compEnvC scope cl C X.env) fp) ifs (TT ⟨X.K, ct⟩ W0 ff))
    (he : ∀ (s : Shared) (H : Hp) (C : Addr) (cl : List (Str × Addr)) (fp : List Addr), SE (X.blk s H scope (compEnvC scope cl C X.env) fp) ct W0 elt fe) (hs : ∀ x, foldedSetIterable iter X.env x = pure x := by intro _; rfl) :
    SV X ct W (.ListComp elt [⟨tg, iter, ifs, 0⟩] scope pos) (lcK (own.map (·.2)) fi ft ff fe) := PEw (pe_lc hc hN hi ok hg ht he hs) fun σ H Q q => lc_semK hts σ H Q q
end
section
variable {X : Cx} {ct : Ct} {W : WX} {elt tg iter : Expr} {ifs : List Expr} {scope : Scope} {own : List (Str × Nat)} {pos spos py : Pos} {fi : EM (List D)} {ft : D → Env → Option Env} {ff : EM Bool} {fe : EM D} {ts : List Nat} {i : Nat} {y : Str}
theorem s_setLcK (hc : X.calm = true) (hN : X.N.Nodup) (hy : X.N[i]? = some y) (hyl : X.env.scope.names.lookup y = some .local)
    (hsw : swapsWith (.ListComp elt [⟨tg, iter, ifs, 0⟩] scope pos) (some (.Name y py)) spos.line X.env = pure true) (hi : SI X ct W tg iter fi) (ok : BlkOk X.N X.env.scope scope own) (hts : ∀ i ∈ ts, i ∈ own.map (·.2))
    (hg : ∀ (s : Shared) (H : Hp) (C : Addr) (cl : List (Str × Addr)) (fp : List Addr), SG (X.blk s H scope (compEnvC scope cl C X.env) fp) ct tg ts ft) (ht : ∀ (s : Shared) (H : Hp) (C : Addr) (cl : List (Str × Addr)) (fp : List Addr), PTs (X.blk s H scope (compEnvC scope cl C X.env) fp) ifs (TT ⟨X.K, ct⟩ W0 ff))
    (he : ∀ (s : Shared) (H : Hp) (C : Addr) (cl : List (Str × Addr)) (fp : List Addr), SE (X.blk s H scope (compEnvC scope cl C X.env) fp) ct W0 elt fe) (hs : ∀ x, foldedSetIterable iter X.env x = pure x := by intro _; rfl) :
    SS X ct W (.Assign [.Name y py] (.ListComp elt [⟨tg, iter, ifs, 0⟩] scope pos) spos) (sSet i (lcK (own.map (·.2)) fi ft ff fe)) := PSw (ps_setLc hc hN hy hyl hsw hi ok hg ht he hs) fun Dn σ H q => by
  obtain ⟨c, G, e, r, p⟩ := q
  refine lc_semK hts σ H _ ⟨c, G, e, r, (PostS.sb p).imp fun G' H' e' y s r' h v hv => putE_ok r' hv h⟩
end
theorem lcK_ev {vs : List Nat} {fi : EM (List D)} {ft : D → Env → Option Env} {ff : EM Bool} {fe : EM D} {e : Env} : lcK vs fi ft ff fe e = (fi e).bind fun ds e1 => match wipeE vs e1 with
  | none => .stuck
  | some e2 => (lcGo vs ft ff fe ds [] e2).bind fun acc e3 => .ok (.m (.lst acc)) (keepE vs e1 e3) := rfl
end MM
end
section
set_option Elab.async false
set_option linter.all false
set_option autoImplicit false
set_option maxRecDepth 100000
set_option maxHeartbeats 4000000
namespace MM
open PySem PySem.Spec L2
/-! ### four names at once -/
def sPar4 (i j l m : Nat) (fa fb fc fd : EM EV) : SM := fun e => (fa e).sb fun x e1 => (fb e1).sb fun y e2 => (fc e2).sb fun z e3 => (fd e3).sb fun w e4 => match pput i x e4 with
  | some e5 => (match pput j y e5 with
    | some e6 => (match pput l z e6 with
      | some e7 => (match pput m w e7 with
        | some e8 => .nx e8
        | none => .stuck)
      | none => .stuck)
    | none => .stuck)
  | none => .stuck
@[simp] theorem sPar4_ev {i j l m : Nat} {fa fb fc fd : EM EV} {e : Env} : sPar4 i j l m fa fb fc fd e = (fa e).sb fun x e1 => (fb e1).sb fun y e2 => (fc e2).sb fun z e3 => (fd e3).sb fun w e4 => match pput i x e4 with
  | some e5 => (match pput j y e5 with
    | some e6 => (match pput l z e6 with
      | some e7 => (match pput m w e7 with
        | some e8 => .nx e8
        | none => .stuck)
      | none => .stuck)
    | none => .stuck)
  | none => .stuck := rfl
section
variable {k : Kc} {W : WX} {c : Fr} {G H : Hp} {σ : L2.St} {e : Env} {Dn : Ends} {i j l m : Nat} {fa fb fc fd : EM EV}
theorem par4_core {R : V → V → V → V → Hp → Prop} (r : RepS k c G σ H e) (p : PostS k W c G Dn (sPar4 i j l m fa fb fc fd e))
    (hR : ∀ G2 H2 e2 e3 e4 e5 e6 v u z y va vb vc vd, RepS k c G2 σ H2 e2 → RpV k c G2 σ H2 e2 v va → RpV k c G2 σ H2 e2 u vb → RpV k c G2 σ H2 e2 z vc → RpV k c G2 σ H2 e2 y vd →
      (va.own = true → vb.own = true → u ≠ v) → (va.own = true → vc.own = true → z ≠ v) → (vb.own = true → vc.own = true → z ≠ u) → (va.own = true → vd.own = true → y ≠ v) → (vb.own = true → vd.own = true → y ≠ u) → (vc.own = true → vd.own = true → y ≠ z) →
      pput i va e2 = some e3 → pput j vb e3 = some e4 → pput l vc e4 = some e5 → pput m vd e5 = some e6 → PostS k W c G2 Dn (.nx e6) → R v u z y H2) :
    TV k W fa σ H fun v H1 => TV k W fb σ H1 fun u H2 => TV k W fc σ H2 fun z H3 => TV k W fd σ H3 fun y H4 => R v u z y H4 := by
  refine ⟨c, G, e, r, (PostS.sb p).imp fun G1 H1 e1 va s1 r1 p1 v hv => ⟨hold c H1 v va, G1, e1, hold_in r1 hv, ?_⟩⟩
  have p1' : PostS k W c G1 Dn ((fb e1).sb fun y e2 => (fc e2).sb fun z e3 => (fd e3).sb fun w e4 => match pput i va e4 with
    | some e5 => (match pput j y e5 with
      | some e6 => (match pput l z e6 with
        | some e7 => (match pput m w e7 with
          | some e8 => .nx e8
          | none => .stuck)
        | none => .stuck)
      | none => .stuck)
    | none => .stuck) := p1
  cases h2 : fb e1 with
  | stuck => rw [h2] at p1'; exact p1'.elim
  | exc xx e2 =>
    rw [h2] at p1'
    intro G2 H2 cls dc s2 r2 hx2
    obtain ⟨r2', _, _⟩ := hold_out r1 hv s2 r2
    exact p1' G2 σ H2 cls dc s2 r2' hx2
  | ok vb e2 =>
    rw [h2] at p1'
    intro G2 H2 s2 r2 u hu
    refine ⟨hold (hold c H1 v va) H2 u vb, G2, e2, hold_in r2 hu, ?_⟩
    have p2' : PostS k W c G1 Dn ((fc e2).sb fun z e3 => (fd e3).sb fun w e4 => match pput i va e4 with
      | some e5 => (match pput j vb e5 with
        | some e6 => (match pput l z e6 with
          | some e7 => (match pput m w e7 with
            | some e8 => .nx e8
            | none => .stuck)
          | none => .stuck)
        | none => .stuck)
      | none => .stuck) := p1'
    cases h3 : fc e2 with
    | stuck => rw [h3] at p2'; exact p2'.elim
    | exc xx e3 =>
      rw [h3] at p2'
      intro G3 H3 cls dc s3 r3 hx3
      obtain ⟨r3', _, _⟩ := hold_out r2 hu s3 r3
      obtain ⟨r3'', _, _⟩ := hold_out r1 hv (s2.trans s3) r3'
      exact p2' G3 σ H3 cls dc (s2.trans s3) r3'' hx3
    | ok vc e3 =>
      rw [h3] at p2'
      intro G3 H3 s3 r3 z hz
      refine ⟨hold (hold (hold c H1 v va) H2 u vb) H3 z vc, G3, e3, hold_in r3 hz, ?_⟩
      have p3' : PostS k W c G1 Dn ((fd e3).sb fun w e4 => match pput i va e4 with
        | some e5 => (match pput j vb e5 with
          | some e6 => (match pput l vc e6 with
            | some e7 => (match pput m w e7 with
              | some e8 => .nx e8
              | none => .stuck)
            | none => .stuck)
          | none => .stuck)
        | none => .stuck) := p2'
      cases h4 : fd e3 with
      | stuck => rw [h4] at p3'; exact p3'.elim
      | exc xx e4 =>
        rw [h4] at p3'
        intro G4 H4 cls dc s4 r4 hx4
        obtain ⟨r4', _, _⟩ := hold_out r3 hz s4 r4
        obtain ⟨r4'', _, _⟩ := hold_out r2 hu (s3.trans s4) r4'
        obtain ⟨r4''', _, _⟩ := hold_out r1 hv (s2.trans (s3.trans s4)) r4''
        exact p3' G4 σ H4 cls dc (s2.trans (s3.trans s4)) r4''' hx4
      | ok vd e4 =>
        rw [h4] at p3'
        intro G4 H4 s4 r4 y hy
        obtain ⟨r4', hz4, hm3⟩ := hold_out r3 hz s4 r4
        obtain ⟨r4'', hu4, hm2⟩ := hold_out r2 hu (s3.trans s4) r4'
        obtain ⟨r4''', hv4, hm1⟩ := hold_out r1 hv (s2.trans (s3.trans s4)) r4''
        have p4 : PostS k W c G1 Dn (match pput i va e4 with
          | some e5 => (match pput j vb e5 with
            | some e6 => (match pput l vc e6 with
              | some e7 => (match pput m vd e7 with
                | some e8 => .nx e8
                | none => .stuck)
              | none => .stuck)
            | none => .stuck)
          | none => .stuck) := p3'
        have hy1 := hy.out hm3
        have hy2 := hy1.out hm2
        have hz2 := hz4.out hm2
        split at p4
        · rename_i e5 h5
          split at p4
          · rename_i e6 h6
            split at p4
            · rename_i e7 h7
              split at p4
              · rename_i e8 h8
                exact hR G4 H4 e4 e5 e6 e7 e8 v u z y va vb vc vd r4''' hv4 (hu4.out hm1) (hz2.out hm1) (hy2.out hm1) (hv_ne hu4 hm1) (hv_ne hz2 hm1) (hv_ne hz4 hm2) (hv_ne hy2 hm1) (hv_ne hy1 hm2) (hv_ne hy hm3) h5 h6 h7 h8 (PostS.mono p4 (s2.trans (s3.trans s4)))
              · exact p4.elim
            · exact p4.elim
          · exact p4.elim
        · exact p4.elim
end
section
variable {X : Cx} {ct : Ct} {W : WX} {i j l m : Nat} {x y z q : Str} {a b c d : Expr} {fa fb fc fd : EM EV} {px py pz pq pt pos : Pos} {kt k2 : Nat} {pt2 : Pos}
theorem s_par4T (hc : X.calm = true) (hx : PG X (.Name x px) (gName i)) (hy : PG X (.Name y py) (gName j)) (hz : PG X (.Name z pz) (gName l)) (hq' : PG X (.Name q pq) (gName m)) (ha : SV X ct W a fa) (hb : SV X ct W b fb) (hcc : SV X ct W c fc) (hdd : SV X ct W d fd)
    (hs : swapsWithSole [.Tuple [.Name x px, .Name y py, .Name z pz, .Name q pq] kt pt] (.Tuple [a, b, c, d] k2 pt2) pos.line X.env = pure false := by rfl)
    (hw : swappedStores [.Tuple [.Name x px, .Name y py, .Name z pz, .Name q pq] kt pt] (.Tuple [a, b, c, d] k2 pt2) X.env = pure none := by rfl)
    (h1 : starEach [a, b, c, d] X.env = (false, eval a X.env) :: starEach [b, c, d] X.env := by rfl) (h2 : starEach [b, c, d] X.env = (false, eval b X.env) :: starEach [c, d] X.env := by rfl) (h3 : starEach [c, d] X.env = (false, eval c X.env) :: starEach [d] X.env := by rfl) (h3' : starEach [d] X.env = (false, eval d X.env) :: starEach [] X.env := by rfl)
    (h4 : (assignEach [.Tuple [.Name x px, .Name y py, .Name z pz, .Name q pq] kt pt] X.env).map (·.2) = [assign (.Tuple [.Name x px, .Name y py, .Name z pz, .Name q pq] kt pt) X.env] := by rfl)
    (h5 : (assignEach [.Name x px, .Name y py, .Name z pz, .Name q pq] X.env).length = 4 := by rfl) (h6 : (assignEach [.Name x px, .Name y py, .Name z pz, .Name q pq] X.env).findIdx? (·.1) = none := by rfl)
    (h7 : (assignEach [.Name x px, .Name y py, .Name z pz, .Name q pq] X.env).map (·.2) = assign (.Name x px) X.env :: (assignEach [.Name y py, .Name z pz, .Name q pq] X.env).map (·.2) := by rfl)
    (h8 : (assignEach [.Name y py, .Name z pz, .Name q pq] X.env).map (·.2) = assign (.Name y py) X.env :: (assignEach [.Name z pz, .Name q pq] X.env).map (·.2) := by rfl) (h9 : (assignEach [.Name z pz, .Name q pq] X.env).map (·.2) = assign (.Name z pz) X.env :: (assignEach [.Name q pq] X.env).map (·.2) := by rfl)
    (h9' : (assignEach [.Name q pq] X.env).map (·.2) = assign (.Name q pq) X.env :: (assignEach [] X.env).map (·.2) := by rfl) :
    SS X ct W (.Assign [.Tuple [.Name x px, .Name y py, .Name z pz, .Name q pq] kt pt] (.Tuple [a, b, c, d] k2 pt2) pos) (sPar4 i j l m fa fb fc fd) :=
  PSw (ps_asg (pe_tup (pa_cons ha (pa_cons hb (pa_cons hcc (pa_cons hdd pa_nil h3') h3) h2) h1)) (pg_tup hc (pgs_cons hx (pgs_cons hy (pgs_cons hz (pgs_cons hq' pgs_nil h9') h9) h8) h7) h5 h6) hs hw h4) fun Dn σ H qq => by
  obtain ⟨c, G, e, r, p⟩ := qq
  refine par4_core r p fun G2 H2 e2 e3 e4 e5 e6 v u w t va vb vc vd r2 hv hu hz ht n1 n2 n3 n4 n5 n6 g1 g2 g3 g4 pn => ⟨by rw [sizeLine_eq, List.length_cons, List.length_cons]; simp, fun q hq => ?_⟩
  have r3 := r2.layM (o := .tup [v, u, w, t]) hq
  obtain ⟨r4, k4⟩ := pput_ok r3 (hv.lay hq) g1
  obtain ⟨r5, k5⟩ := pput_ok r4 (k4 vb u (hu.lay hq) n1) g2
  obtain ⟨r6, k6⟩ := pput_ok r5 (k5 vc w (k4 vc w (hz.lay hq) n2) n3) g3
  obtain ⟨r7, _⟩ := pput_ok r6 (k6 vd t (k5 vd t (k4 vd t (ht.lay hq) n4) n5) n6) g4
  exact ⟨q, [v, u, w, t], rfl, .inl (.inl upd_same), rfl, v, [u, w, t], rfl, u, [w, t], rfl, w, [t], rfl, t, [], rfl, rfl, pn G2 _ _ (Same.refl _) r7⟩
end
end MM
end
section
set_option Elab.async false
set_option linter.all false
set_option autoImplicit false
set_option maxRecDepth 100000
set_option maxHeartbeats 4000000
namespace MM
open PySem PySem.Spec PyProof.Rows L2
/-! ### list.index, list.remove of an own list of numbers -/
def gIndex : MV → List D → Option (MV × D)
  | .lst ds, [.int k] => match ints? ds with
    | some ns => if k ∈ ns then some (.lst ds, .int (ns.findIdx (· == k) : Nat)) else none
    | none => none
  | _, _ => none
def gRemove : MV → List D → Option (MV × D)
  | .lst ds, [.int k] => match ints? ds with
    | some ns => if k ∈ ns then some (.lst ((ns.eraseIdx (ns.findIdx (· == k))).map D.int), .non) else none
    | none => none
  | _, _ => none
section
variable {X : Cx} {ct : Ct}
theorem mt_indexM : MtM X "list.index" (rIndex X.K) := fun pins s σ H x xs v us Q I rx rxs h => mt_index pins s σ H x xs v us Q I rx rxs h
theorem find_facts {ns : List Int} {k : Int} (h : k ∈ ns) : ns[ns.findIdx (· == k)]? = some k ∧ ∀ m : Nat, m < ns.findIdx (· == k) → ns[m]? ≠ some k := by
  have hl : ns.findIdx (· == k) < ns.length := List.findIdx_lt_length_of_exists ⟨k, h, by simp⟩
  refine ⟨?_, fun m hm hk => ?_⟩
  · have h2 := List.findIdx_getElem (w := hl)
    rw [List.getElem?_eq_getElem hl]
    have h3 : ns[ns.findIdx (· == k)] = k := by simpa using h2
    rw [h3]
  · have h2 := List.not_of_lt_findIdx hm
    have hml : m < ns.length := by omega
    rw [List.getElem?_eq_getElem hml] at hk
    have h3 : ns[m] = k := Option.some.inj hk
    rw [h3] at h2
    simp at h2
theorem mutG_index : MutG ⟨X.K, ct⟩ (rIndex X.K) gIndex := fun G H a o y y' vs ds z Q g hH m rs hg q => by
  unfold gIndex at hg
  split at hg
  · rename_i xs k
    split at hg
    · rename_i ns hns
      split at hg
      · rename_i hk
        cases hg
        obtain ⟨us, rfl, ru⟩ := m
        cases rs with
        | cons rk rs =>
          cases rs
          cases rk
          have hxs := ints?_eq hns
          have ru' := ru
          rw [hxs] at ru'
          have hus := Rps.ints ru'
          obtain ⟨f1, f2⟩ := find_facts hk
          have hup : upd H a (.lst us) = H := by
            funext b
            by_cases hb : b = a
            · subst hb; rw [upd_same, hH]
            · rw [upd_ne hb]
          have hq := q (.lst us) (.int (ns.findIdx (· == k) : Nat)) ⟨us, rfl, ru⟩ (.int _)
          rw [hup] at hq
          subst hus
          refine ⟨a, ns.map V.int, .int k, ns.findIdx (· == k), .int k, rfl, rfl, SqL.of hH, rfl, ?_, ?_, ?_, fun m z hm hz => ?_, hq⟩
          · rw [List.all_eq_true]
            intro v hv
            obtain ⟨n, _, rfl⟩ := List.mem_map.mp hv
            rfl
          · rw [List.getElem?_map, f1]; rfl
          · show (k == k) = true
            simp
          · rw [List.getElem?_map] at hz
            obtain ⟨n, hn, rfl⟩ := Option.map_eq_some_iff.mp hz
            have := f2 m hm
            show (n == k) = false
            rw [hn] at this
            simpa using this
      · cases hg
    · cases hg
  · cases hg
end
@[simp] theorem gIndex_ints {ns : List Int} {k : Int} : gIndex (.lst (ns.map D.int)) [.int k] = if k ∈ ns then some (.lst (ns.map D.int), .int (ns.findIdx (· == k) : Nat)) else none := by
  unfold gIndex
  simp only [ints?_map]
end MM
end
section
set_option Elab.async false
set_option linter.all false
set_option autoImplicit false
set_option maxRecDepth 100000
set_option maxHeartbeats 4000000
namespace L2
open PySem PySem.Spec PyProof.Rows
/-! ### set(xs) of a tuple of ints -/
set_option maxHeartbeats 8000000 in
theorem mir_set_tuple {P : Program} {w : World} {A : Around} {E : Value → Shared → Prop} {s : Shared} {l : Addr} {items : Array Value} (ns : List Int) {Q : Value → Shared → Prop} (hh : A.handled = none) (hl : s.heap.IsTuple l items) (hit : IntsAre items.toList ns) (hb : ns.length + 1 < scanBound)
    (h : ∀ (h' : Heap) (tk c : Nat), SetR w h' s.heap.objs.size (fun j => decide (j ∈ ns)) c → c ≤ ns.length → (∀ b o, s.heap.get? b = some o → h'.get? b = some o) → Q (.ref s.heap.objs.size) { s with heap := h', toks := tk }) :
    wpAny (model P w) A (call (.type "set") [.ref l]) Q E s := by
  have hisz : items.size = ns.length := by rw [← IntsAre.length hit, Array.length_toList]
  obtain ⟨c, tl, hmro⟩ := F.called_set.mro
  have hmade := F.called_set.made
  have hsub := F.called_set.sub
  have h1 := F.called_set.notType
  have h2 := F.called_set.canCreate
  have hct := F.typeCall_set_1 (.ref l)
  have hS : (s.heap.push (newSet w)).get? s.heap.objs.size = some (newSet w) := Heap.get?_push_size _ rfl
  have hT : Shared.TypeIs { s with heap := s.heap.push (newSet w) } (.ref s.heap.objs.size) "set" := ⟨_, hS, rfl⟩
  have hli := F.called_set.init.lookup
  have hbi := F.called_set.init.bind (.ref s.heap.objs.size)
  refine wpAny_call (codeAny_of_tree ?_)
  show wpAny _ _ (callAny (.type "set") _) _ _ _
  refine wpAny_pure ⟨Code.quiet_builtin _ (by decide +kernel), codeAny_builtin F.entry_type_call ?_⟩
  rw [Around.under_plain (weight_type_call_type "set" [.ref l] []) rfl]
  repeat (any_goals (first | assumption | wp_step))
  refine codeAny_mono (code_set_led1 (.ref l) (E := E) (Q₁ := fun obj s₁ => obj = .ref s.heap.objs.size ∧ s₁ = { s with heap := s.heap.push (newSet w) }) ⟨rfl, rfl⟩) fun r s₁ hr => ?_
  cases r with
  | error e => exact hr
  | ok fl =>
    cases fl with
    | next => exact hr.elim
    | brk => exact hr.elim
    | cont => exact hr.elim
    | ret obj =>
      obtain ⟨rfl, rfl⟩ := hr
      repeat (any_goals (first | assumption | wp_step))
      refine codeAny_mono (codeAny_call_builtin (R := wants (fun r s₂ => r = .none ∧ ∃ h' tk c, s₂ = { s with heap := h', toks := tk } ∧ SetR w h' s.heap.objs.size (fun j => decide (j ∈ ns)) c ∧ c ≤ ns.length ∧
          (∀ b o, s.heap.get? b = some o → h'.get? b = some o)) E) F.called_set.init.plain F.entry_set_init (check_set_init_1 hT ?_)) fun r₂ s₂ hr₂ => ?_
      · obtain ⟨⟨oc, od, odt, os⟩, hol, hcl, nl, hdl⟩ := hl
        simp only at hcl hdl
        subst hcl; subst hdl
        have hol' : (s.heap.push (newSet w)).get? l = some { cls := .type "tuple", dict := od, data := .seq items nl, slots := os } := Heap.get?_push_of_some _ hol
        have hsls := PySem.F.sub_tuple_set
        have hslf := PySem.F.sub_tuple_frozenset
        have hne : (Value.type "tuple" == Value.type "dict") = false := by decide
        have hl1 : (s.heap.push (newSet w)).IsTuple l items := ⟨_, hol', rfl, nl, rfl⟩
        have hlS : l < s.heap.objs.size := Heap.lt_size hol
        have hz1 : (s.heap.push (newSet w)).objs.size = s.heap.objs.size + 1 := Heap.size_push ..
        unfold Builtin.«set.__init__» noKeywords Builtin.Frozenset.updateFrom
        generalize hPI : pyIter = PI
        wp_walk
        subst hPI
        refine wpAny_pyIter_tuple hl1 ?_
        refine wpAny_bind (wpAny_runValue ?_)
        have hneI : l ≠ (s.heap.push (newSet w)).objs.size := by rw [hz1]; exact Nat.ne_of_lt (Nat.lt_succ_of_lt hlS)
        have hSf : s.heap.objs.size ∉ [(s.heap.push (newSet w)).objs.size, l] := by
          rw [hz1]
          simp only [List.mem_cons, List.not_mem_nil, or_false, not_or]
          exact ⟨Nat.ne_of_lt (Nat.lt_succ_self _), Nat.ne_of_gt hlS⟩
        have hval : ∀ (i : Nat) (v : Value), items[i]? = some v → ∃ k t, ns[i]? = some k ∧ v = .int k t := fun i v hv => by
          have hi : i < ns.length := by rw [← hisz]; exact (Array.getElem?_eq_some_iff.mp hv).1
          obtain ⟨t, e⟩ := PyProof.Rows.IntsAre.int_at hit i v (by rw [Array.getElem?_toList]; exact hv)
          refine ⟨ns[i], t, List.getElem?_eq_getElem hi, ?_⟩
          rw [e, List.getD_eq_getElem?_getD, List.getElem?_eq_getElem hi] <;> rfl
        have hh3 : A.in1.in1.in1.handled = none := by simp [hh]
        refine set_update_ints ((Walks.tuple hh3 _ l hneI items).toS) s.heap.objs.size hSf ns hisz hb hval (items.size - 0) 0 _ (by omega) (Nat.zero_le _) ⟨⟨_, Heap.get?_push_size _ rfl, rfl, rfl⟩, (hl1.push _)⟩ ⟨0, Nat.le_refl 0, setR_new_at (Heap.get?_push_of_some _ hS)⟩ ?_
        intro s' c' hm hc' hS'
        obtain ⟨h', g2, d', tk', os'⟩ := s'
        obtain rfl : g2 = s.gens := hm.gens
        obtain rfl : d' = s.drawn := hm.drawn
        obtain rfl : os' = s.os := hm.os
        show wpAny _ _ _ _ _ _
        refine wpAny_pure ?_
        show wpAny _ _ (ret Value.none) _ _ _
        refine wpAny_pure ⟨rfl, h', tk', c', rfl, hS', by rw [← hisz]; exact hc', fun b o e => ?_⟩
        have hb0 : b < s.heap.objs.size := Heap.lt_size e
        refine hm.heap b o ?_ (Heap.get?_push_of_some _ (Heap.get?_push_of_some _ e))
        simp only [List.mem_cons, List.not_mem_nil, or_false, not_or]
        exact ⟨Nat.ne_of_lt hb0, by rw [hz1]; exact Nat.ne_of_lt (Nat.lt_succ_of_lt hb0)⟩
      · cases r₂ with
        | error e => exact hr₂
        | ok fl₂ =>
          cases fl₂ with
          | ret r =>
            obtain ⟨rfl, h', tk, c', rfl, hS', hc', hk'⟩ := hr₂
            repeat (any_goals (first | assumption | wp_step))
            exact h _ _ _ hS' hc' hk'
          | next => exact hr₂.elim
          | brk => exact hr₂.elim
          | cont => exact hr₂.elim
end L2
end
section
set_option Elab.async false
set_option linter.all false
set_option autoImplicit false
set_option maxRecDepth 100000
set_option maxHeartbeats 4000000
namespace L2
open PySem PySem.Spec PyProof.Rows
theorem mir_set_any {P : Program} {w : World} {A : Around} {E : Value → Shared → Prop} {s : Shared} {l : Addr} {items : Array Value} (ns : List Int) {Q : Value → Shared → Prop} (hh : A.handled = none) (hl : s.heap.IsList l items ∨ s.heap.IsTuple l items) (hit : IntsAre items.toList ns) (hb : ns.length + 1 < scanBound)
    (h : ∀ (h' : Heap) (tk c : Nat), SetR w h' s.heap.objs.size (fun j => decide (j ∈ ns)) c → c ≤ ns.length → (∀ b o, s.heap.get? b = some o → h'.get? b = some o) → Q (.ref s.heap.objs.size) { s with heap := h', toks := tk }) :
    wpAny (model P w) A (call (.type "set") [.ref l]) Q E s := by
  rcases hl with hl | hl
  · exact mir_set_list ns hh hl hit hb h
  · exact mir_set_tuple ns hh hl hit hb h
end L2
namespace MM
open PySem PySem.Spec L2
/-! ### sorted(set(xs)), xs a list or a tuple -/
def intsOf2 : D → Option (List Int)
  | .tup xs => ints? xs
  | d => intsOf d
theorem RB.ints2 {k : Kc} {G H : Hp} {v : V} {d : D} {ns : List Int} (h : RB k G H v d) (g : Same G H) (e : intsOf2 d = some ns) : ∃ a, v = .ref a ∧ (SqL k.K H a (ns.map V.int) ∨ SqT k.K H a (ns.map V.int)) := by
  by_cases ht : ∃ xs, d = .tup xs
  · obtain ⟨xs, rfl⟩ := ht
    have e : ints? xs = some ns := e
    obtain ⟨a, vs, rfl, hs, rs, _⟩ := RB.tup g h
    rw [ints?_eq e] at rs
    rw [Rps.ints rs] at hs
    exact ⟨a, rfl, .inr hs⟩
  · have e2 : intsOf d = some ns := by
      cases d with
      | tup xs => exact absurd ⟨xs, rfl⟩ ht
      | _ => exact e
    obtain ⟨a, e3, h3⟩ := RB.ints g h e2
    exact ⟨a, e3, .inl h3⟩
def vSortSet2 (f : EM (List Tk)) : EM EV := fun e => (f e).bind fun ts e1 => match rdKs e1 ts with
  | some [d] => (match intsOf2 d with
    | some ns => if ns.length < 4000 ∧ (usortI ns).length < 64 then .ok (.m (.lst ((usortI ns).map D.int))) e1 else .stuck
    | none => .stuck)
  | _ => .stuck
def tSortSet2 (K : PySem.W.Frag) (ta : L2.TE) : L2.TE := fun σ H Q => ta σ H fun x H1 => ∃ (l : Addr) (ns : List Int), x = V.ref l ∧ (SqL K H1 l (ns.map V.int) ∨ SqT K H1 l (ns.map V.int)) ∧ ns.length < 4000 ∧ (usortI ns).length < 64 ∧ ∀ p, H1 p = none → Q (.ref p) (upd H1 p (.lst ((usortI ns).map V.int)))
section
variable {X : Cx} {ct : Ct} {W : WX} {a : Expr} {ta : L2.TE} {p p2 q pos : Pos} {fa : EM Tk}
theorem pe_sortSet2 (hc : X.calm = true) (hg : Gl X "sorted") (hm : X.mg "sorted" = none) (hg2 : Gl X "set") (hm2 : X.mg "set" = none) (ha : PE X a ta)
    (na : starEach [a] X.env = (false, eval a X.env) :: starEach [] X.env := by rfl) : PE X (.Call (.Name "sorted" p) [.Call (.Name "set" p2) [a] [] q] [] pos) (tSortSet2 X.K ta) := by
  refine ⟨fun pins s σ H Q I h => ?_⟩
  refine PyProof.Rows.Call_ (ld_blt I hg hm (show bootBuiltins "sorted" = some (.builtin "sorted") by decide +kernel) ?_)
  refine PyProof.Rows.callWith_builtin1 (PyProof.Rows.args_cons ?_ rfl) rfl rfl
  refine PyProof.Rows.Call_ (ld_blt I hg2 hm2 PyProof.Rows.boot_set ?_)
  refine PyProof.Rows.callWith_type1 (PyProof.Rows.args_cons (thn (ha.run pins s σ H _ I h) fun v s1 ⟨x, H1, I1, r1, q1⟩ => PyProof.Rows.args_nil ?_) na) na rfl
  obtain ⟨l, ns, rfl, hq, h1, h2, q1⟩ := q1
  cases r1
  have hq2 : ∃ its : List Value, Vals (ns.map V.int) its ∧ (s1.heap.IsList l its.toArray ∨ s1.heap.IsTuple l its.toArray) := by
    rcases hq with hq | hq
    · obtain ⟨its, r, pl, hz⟩ := I1.list hq
      exact ⟨its, r, .inl pl.isList⟩
    · obtain ⟨its, r, it, hz⟩ := I1.tuple hq
      exact ⟨its, r, .inr it⟩
  obtain ⟨its, r, pl⟩ := hq2
  refine mir_set_any ns (I1.ok.hd hc) pl (by simpa using r.ints) (by unfold scanBound; omega) fun h' tk c hS hcn hk => ?_
  refine PyProof.Rows.args_nil ?_
  have I2 : Inv X pins σ H1 { s1 with heap := h', toks := tk } := I1.kept hk
  have hS0 := hS
  obtain ⟨o, es, ep, t, ho, hex, hd, g, nd, hmm, hb, hf, hn, hr, hl⟩ := hS0
  have hc64 : c < 64 := by
    have hsz : es.size = c := hn
    have hnd : (es.toList.map keyOf).Nodup := nd
    have hsub : ∀ y ∈ es.toList.map keyOf, y ∈ usortI ns := fun y hy => by
      rw [usortI_mem]
      have := (hmm y).mpr hy
      simpa using this
    have hle := nodup_len hnd hsub
    rw [List.length_map, Array.length_toList, hsz] at hle
    omega
  refine sorted_set hS (I2.ok.hd hc) hc64 fun s' p out c2 ns' k g2 o2 hp hg3 hi hs hm3 hl3 => ?_
  have e1 : ns' = usortI ns := lt_unique hs (usortI_lt ns) fun x => by rw [hm3 x, usortI_mem]; simp
  subst e1
  have hnp : H1 p = none := I2.hok.fresh hp
  have hlen : ((usortI ns).map V.int).length ≤ sizeLine := by rw [List.length_map, sizeLine_eq]; omega
  have J : Inv X pins σ (upd H1 p (.lst ((usortI ns).map V.int))) { ({ s1 with heap := h', toks := tk } : Shared) with heap := s'.heap, gens := s'.gens, drawn := s'.drawn, toks := s'.toks } :=
    I2.call (ch := []) (Un.laid k hp hnp) (I2.hok.laid k hp ⟨hlen, out.toList, c2, vals_of_ints hi, hg3⟩) (by rw [g2]; exact I2.bare) (fun _ z => nomatch z)
  have e : s' = { ({ s1 with heap := h', toks := tk } : Shared) with heap := s'.heap, gens := s'.gens, drawn := s'.drawn, toks := s'.toks } := by
    cases s'
    cases s1
    cases o2
    rfl
  rw [e]
  exact ⟨.ref p, _, J, rfl, q1 p hnp⟩
theorem v_sortSet2 (hc : X.calm = true) (hg : Gl X "sorted") (hm : X.mg "sorted" = none) (hg2 : Gl X "set") (hm2 : X.mg "set" = none) (ha : SK X ct W a fa)
    (na : starEach [a] X.env = (false, eval a X.env) :: starEach [] X.env := by rfl) : SV X ct W (.Call (.Name "sorted" p) [.Call (.Name "set" p2) [a] [] q] [] pos) (vSortSet2 (aCons fa aNil)) := by
  refine PEw (pe_sortSet2 hc hg hm hg2 hm2 ha na) fun σ H Q q => ?_
  obtain ⟨c, G, e, r, p⟩ := q
  have p : Post ⟨X.K, ct⟩ W c G σ (fun G' H' e' x => ∀ v, RpV ⟨X.K, ct⟩ c G' σ H' e' v x → Q v H') (((fa e).bind fun t e1 => .ok [t] e1).bind fun ts e1 => match rdKs e1 ts with
    | some [d] => (match intsOf2 d with
      | some ns => if ns.length < 4000 ∧ (usortI ns).length < 64 then .ok (.m (.lst ((usortI ns).map D.int))) e1 else .stuck
      | none => .stuck)
    | _ => .stuck) := p
  refine ⟨c, G, e, r, (Post.bind (Post.bind p)).imp fun G1 H1 e1 t s1 r1 p1 v hv => ?_⟩
  have p1 := p1.now r1
  cases hd : rdK e1 t with
  | none =>
    have hz : rdKs e1 [t] = none := by show (match rdK e1 t, rdKs e1 [] with | some d, some ds => some (d :: ds) | _, _ => none) = none; rw [hd]
    rw [hz] at p1; exact p1.elim
  | some d =>
    have hz : rdKs e1 [t] = some [d] := by show (match rdK e1 t, rdKs e1 [] with | some d, some ds => some (d :: ds) | _, _ => none) = some [d]; rw [hd]; rfl
    rw [hz] at p1
    have rb : RB ⟨X.K, ct⟩ G1 H1 v d := .of r1 hv hd
    cases hi : intsOf2 d with
    | none =>
      have p2 : Post ⟨X.K, ct⟩ W c G1 σ (fun G' H' e' x => ∀ v, RpV ⟨X.K, ct⟩ c G' σ H' e' v x → Q v H') (match intsOf2 d with
        | some ns => if ns.length < 4000 ∧ (usortI ns).length < 64 then .ok (.m (.lst ((usortI ns).map D.int))) e1 else .stuck
        | none => .stuck) := p1
      rw [hi] at p2; exact p2.elim
    | some ns =>
      have p2 : Post ⟨X.K, ct⟩ W c G1 σ (fun G' H' e' x => ∀ v, RpV ⟨X.K, ct⟩ c G' σ H' e' v x → Q v H') (match intsOf2 d with
        | some ns => if ns.length < 4000 ∧ (usortI ns).length < 64 then .ok (.m (.lst ((usortI ns).map D.int))) e1 else .stuck
        | none => .stuck) := p1
      rw [hi] at p2
      have p3 : Post ⟨X.K, ct⟩ W c G1 σ (fun G' H' e' x => ∀ v, RpV ⟨X.K, ct⟩ c G' σ H' e' v x → Q v H') (if ns.length < 4000 ∧ (usortI ns).length < 64 then .ok (.m (.lst ((usortI ns).map D.int))) e1 else .stuck) := p2
      split at p3
      · rename_i hl
        obtain ⟨ad, rfl, h1⟩ := RB.ints2 rb r1.gh hi
        refine ⟨ad, ns, rfl, h1, hl.1, hl.2, fun pp hp => ?_⟩
        obtain ⟨r2, r3, r4⟩ := r1.newM (x := .lst ((usortI ns).map D.int)) hp ⟨_, rfl, Rps.ofInts _⟩
        exact p3 G1 _ (Same.refl _) r2 _ ⟨pp, rfl, r3, r4⟩
      · exact p3.elim
end
end MM
end
section
set_option Elab.async false
set_option linter.all false
set_option autoImplicit false
set_option maxRecDepth 100000
set_option maxHeartbeats 4000000
namespace MM
open PySem PySem.Spec L2
/-! ### // by divisors of either sign -/
instance : ∀ i j, Decidable (CDivN i j) := fun i j => inferInstanceAs (Decidable (_ ∧ _))
abbrev gDivN : D → D → Option EV := gIC CDivN fun i j => i.fdiv j
@[simp] theorem gDivN_int {i j : Int} : gDivN (.int i) (.int j) = if CDivN i j then some (.d (.int (i.fdiv j))) else none := rfl
section
variable {X : Cx} {ct : Ct} {W : WX} {pos : Pos} {a b : Expr} {fa fb : EM Tk}
theorem v_divN (ha : SK X ct W a fa) (hb : SK X ct W b fb) : SV X ct W (.BinOp a .FloorDiv b pos) (vBin gDivN fa fb) := v_bin op_fdivN opG_IC ha hb
end
end MM
end
section
set_option Elab.async false
set_option linter.all false
set_option autoImplicit false
set_option maxRecDepth 100000
set_option maxHeartbeats 4000000
namespace MM
open PySem PySem.Spec L2
/-! ### a def whose call is never reached -/
theorem ss_never {X : Cx} {ct : Ct} {W : WX} {st : List Stmt} : SSs X ct W st (fun _ => .stuck) := ⟨fun pins s σ H Dn I q => by
  obtain ⟨c, G, e, r, p⟩ := q
  exact p.elim⟩
end MM
end
section
set_option Elab.async false
set_option linter.all false
set_option autoImplicit false
set_option maxRecDepth 100000
set_option maxHeartbeats 4000000
namespace MM
open PySem PySem.Spec L2
/-! ### in: a list, a tuple, a dict -/
def rInDic : R2 := fun x y H Q => ∃ a o, y = .ref a ∧ DGet H a x o ∧ Q (.bl o.isSome) H
def rNotInDic : R2 := fun x y H Q => ∃ a o, y = .ref a ∧ DGet H a x o ∧ Q (.bl (!o.isSome)) H
theorem op_inDic {X : Cx} (hu : X.A.units + 1 < cLine) : OpR X (compareOp .In) rInDic := fun pins s σ H x y v u Q I rx ry h => by
  obtain ⟨a, o, rfl, g, q⟩ := h
  have eu : u = Value.ref a := ry
  subst eu
  exact d_in hu I g rx fun s' J => ⟨.bl o.isSome, H, J, rfl, q⟩
theorem op_notInDic {X : Cx} (hu : X.A.units + 1 < cLine) : OpR X (compareOp .NotIn) rNotInDic := fun pins s σ H x y v u Q I rx ry h => by
  obtain ⟨a, o, rfl, g, q⟩ := h
  have eu : u = Value.ref a := ry
  subst eu
  exact d_notIn hu I g rx fun s' J => ⟨.bl (!o.isSome), H, J, rfl, q⟩
def memK (ks : List Key) (j : Key) : Bool := ks.any fun k => decide (k = j)
def gInK (a b : D) : Option Bool := match b with
  | .dic ks _ => (D.key a).map fun k => memK ks k
  | b => gIn a b
def gNotInK (a b : D) : Option Bool := (gInK a b).map not
@[simp] theorem gInK_dic {a : D} {ks : List Key} {ds : List D} : gInK a (.dic ks ds) = (D.key a).map fun k => memK ks k := rfl
@[simp] theorem gInK_lst {a : D} {ds : List D} : gInK a (.lst ds) = gIn a (.lst ds) := rfl
@[simp] theorem gInK_tup {a : D} {ds : List D} : gInK a (.tup ds) = gIn a (.tup ds) := rfl
@[simp] theorem gNotInK_eq {a b : D} : gNotInK a b = (gInK a b).map not := rfl
theorem valV_mem {kvs : List (Key × V)} {j : Key} : (valV kvs j).isSome = memK (kvs.map (·.1)) j := by
  rw [← valV_any]
  unfold memK
  rw [List.any_map]
  rfl
theorem opB_inK {k : Kc} : OpB k (fun x y H Q => (rIn k.K false x y H Q ∨ rInD k.K x y H Q) ∨ rInDic x y H Q) gInK := fun G H x y a b z Q g ra rb hz q => by
  cases b with
  | dic ks ds =>
    obtain ⟨j, hj, rfl⟩ := Option.map_eq_some_iff.mp (show (D.key a).map (fun k => memK ks k) = some z from hz)
    obtain ⟨p, kvs, rfl, h1, h2, _⟩ := rb.dic g
    have ex := ra.key hj
    subst ex
    refine .inr ⟨p, _, rfl, DGet.k h1, ?_⟩
    rw [valV_mem, h2]
    exact q
  | lst ds => exact .inl (opB_in G H x y a _ z Q g ra rb hz q)
  | tup ds => exact .inl (opB_in G H x y a _ z Q g ra rb hz q)
  | non => exact .inl (opB_in G H x y a _ z Q g ra rb hz q)
  | bl _ => exact .inl (opB_in G H x y a _ z Q g ra rb hz q)
  | int _ => exact .inl (opB_in G H x y a _ z Q g ra rb hz q)
  | str _ => exact .inl (opB_in G H x y a _ z Q g ra rb hz q)
  | obj _ _ => exact .inl (opB_in G H x y a _ z Q g ra rb hz q)
  | scr _ => exact .inl (opB_in G H x y a _ z Q g ra rb hz q)
  | rng _ _ => exact .inl (opB_in G H x y a _ z Q g ra rb hz q)
  | thk _ => exact .inl (opB_in G H x y a _ z Q g ra rb hz q)
  | lam _ => exact .inl (opB_in G H x y a _ z Q g ra rb hz q)
theorem opB_notInK {k : Kc} : OpB k (fun x y H Q => (rIn k.K true x y H Q ∨ rNotInD k.K x y H Q) ∨ rNotInDic x y H Q) gNotInK := fun G H x y a b z Q g ra rb hz q => by
  have keep : (∀ ks ds, b ≠ .dic ks ds) → gNotInK a b = gNotIn a b := fun hn => by
    cases b with
    | dic ks ds => exact absurd rfl (hn ks ds)
    | _ => rfl
  cases b with
  | dic ks ds =>
    obtain ⟨y', h3, rfl⟩ := Option.map_eq_some_iff.mp (show ((D.key a).map (fun k => memK ks k)).map not = some z from hz)
    obtain ⟨j, hj, rfl⟩ := Option.map_eq_some_iff.mp h3
    obtain ⟨p, kvs, rfl, h1, h2, _⟩ := rb.dic g
    have ex := ra.key hj
    subst ex
    refine .inr ⟨p, _, rfl, DGet.k h1, ?_⟩
    rw [valV_mem, h2]
    exact q
  | lst ds => exact .inl (opB_notIn G H x y a _ z Q g ra rb (by rw [← keep (fun _ _ h => by cases h)]; exact hz) q)
  | tup ds => exact .inl (opB_notIn G H x y a _ z Q g ra rb (by rw [← keep (fun _ _ h => by cases h)]; exact hz) q)
  | non => exact .inl (opB_notIn G H x y a _ z Q g ra rb (by rw [← keep (fun _ _ h => by cases h)]; exact hz) q)
  | bl _ => exact .inl (opB_notIn G H x y a _ z Q g ra rb (by rw [← keep (fun _ _ h => by cases h)]; exact hz) q)
  | int _ => exact .inl (opB_notIn G H x y a _ z Q g ra rb (by rw [← keep (fun _ _ h => by cases h)]; exact hz) q)
  | str _ => exact .inl (opB_notIn G H x y a _ z Q g ra rb (by rw [← keep (fun _ _ h => by cases h)]; exact hz) q)
  | obj _ _ => exact .inl (opB_notIn G H x y a _ z Q g ra rb (by rw [← keep (fun _ _ h => by cases h)]; exact hz) q)
  | scr _ => exact .inl (opB_notIn G H x y a _ z Q g ra rb (by rw [← keep (fun _ _ h => by cases h)]; exact hz) q)
  | rng _ _ => exact .inl (opB_notIn G H x y a _ z Q g ra rb (by rw [← keep (fun _ _ h => by cases h)]; exact hz) q)
  | thk _ => exact .inl (opB_notIn G H x y a _ z Q g ra rb (by rw [← keep (fun _ _ h => by cases h)]; exact hz) q)
  | lam _ => exact .inl (opB_notIn G H x y a _ z Q g ra rb (by rw [← keep (fun _ _ h => by cases h)]; exact hz) q)
section
variable {X : Cx} {ct : Ct} {kk : Nat}
theorem x_inK (hr : Room kk X.A) : CmpX X ct .In gInK := ⟨_, (op_in_seq.or (op_inD (hu65 hr))).or (op_inDic (by have := hu65 hr; omega)), opB_inK (k := ⟨X.K, ct⟩)⟩
theorem x_notInK (hr : Room kk X.A) : CmpX X ct .NotIn gNotInK := ⟨_, (op_notIn_seq.or (op_notInD (hu65 hr))).or (op_notInDic (by have := hu65 hr; omega)), opB_notInK (k := ⟨X.K, ct⟩)⟩
end
end MM
end
section
set_option Elab.async false
set_option linter.all false
set_option autoImplicit false
set_option maxRecDepth 100000
set_option maxHeartbeats 4000000
namespace MM
open PySem PySem.Spec PyProof.Rows L2
/-! ### list.remove of an own list of numbers -/
def rRemI : V → List V → Hp → VK → Prop := fun x vs H Q => ∃ (l : Addr) (ns : List Int) (k : Int), x = .ref l ∧ vs = [.int k] ∧ H l = some (.lst (ns.map V.int)) ∧ k ∈ ns ∧ Q .non (upd H l (.lst ((ns.erase k).map V.int)))
def gRem : MV → List D → Option (MV × D)
  | .lst ds, [.int k] => match ints? ds with
    | some ns => if k ∈ ns then some (.lst ((ns.erase k).map D.int), .non) else none
    | none => none
  | _, _ => none
section
variable {X : Cx} {ct : Ct}
theorem mt_remI : MtM X "list.remove" rRemI := by
  intro pins s σ H x xs v us Q I rx rv h
  obtain ⟨l, ns, k, rfl, rfl, hH, hk, qy⟩ := h
  cases rx
  obtain ⟨u, rfl, ry⟩ := vals1 rv
  obtain ⟨t, rfl⟩ := (show ∃ t, u = Value.int k t from ry)
  obtain ⟨z, its, n, r, hl, e0⟩ := I.lstM hH
  have hi : IntsAre its ns := intsAre_of r
  have heq := eq_isInt k t hi
  have hnl : ns.length = its.length := by rw [← hl, List.length_map]
  have hsz : its.toArray.size ≤ sizeLine := by rw [List.size_toArray, ← hl]; exact z
  obtain ⟨j, j1, j2, j3, j4⟩ := first_at hk
  have hj : j < its.length := by omega
  refine call_meets PySem.F.slot_list_remove ⟨_, e0, rfl⟩ PySem.F.entry_list_remove (PySem.F.args_list_remove_2 _ _)
    (MeetsSeq.list_remove l its.toArray n (.int k t) (isInt k) (fun y hy => heq y (by simpa using hy)) j (by rw [List.size_toArray]; exact hj) ?hit (fun i hi2 hlt => ?hno) hsz) ⟨e0, ?_⟩
  case hit =>
    show isInt k its[j] = true
    exact (L2.isInt_at k hi j hj).mpr j2
  case hno =>
    have hi3 : i < its.length := by rw [List.size_toArray] at hi2; exact hi2
    show isInt k its[i] = false
    rw [Bool.eq_false_iff]
    intro w
    exact j3 i hlt ((L2.isInt_at k hi i hi3).mp w)
  have r2 : Vals ((ns.erase k).map V.int) (its.eraseIdx j) := by
    have w := r.eraseIdx j
    rw [map_eraseIdx', j4] at w
    exact w
  refine ⟨.non, _, I.lset (its' := its.eraseIdx j) hH e0 ?_ r2 ?_, rfl, qy⟩
  · show its.toArray.eraseIdxIfInBounds j = (its.eraseIdx j).toArray
    rw [List.eraseIdxIfInBounds_toArray]
  · rw [List.length_map]
    have := List.length_erase_le (a := k) (l := ns)
    rw [List.length_map] at z
    omega
theorem mutG_remI : MutG ⟨X.K, ct⟩ rRemI gRem := fun G H a o y y' vs ds z Q g hH m rs hg q => by
  unfold gRem at hg
  split at hg
  · rename_i xs k
    split at hg
    · rename_i ns hns
      split at hg
      · rename_i hk
        cases hg
        obtain ⟨us, rfl, ru⟩ := m
        cases rs with
        | cons rk rs =>
          cases rs
          cases rk
          have hxs := ints?_eq hns
          rw [hxs] at ru
          have hus := Rps.ints ru
          subst hus
          exact ⟨a, ns, k, rfl, rfl, hH, hk, q _ _ ⟨_, rfl, Rps.ofInts _⟩ .non⟩
      · cases hg
    · cases hg
  · cases hg
end
@[simp] theorem gRem_ints {ns : List Int} {k : Int} : gRem (.lst (ns.map D.int)) [.int k] = if k ∈ ns then some (.lst ((ns.erase k).map D.int), .non) else none := by
  unfold gRem
  simp only [ints?_map]
/-! ### x[lo::k] -/
/-- each k-th from lo on -/
def pickL {α : Type} (xs : List α) (lo : Option Int) (k : Int) : List α := (sliceRange (sliceBounds lo none (some k) xs.length).1 (sliceBounds lo none (some k) xs.length).2.1 (sliceBounds lo none (some k) xs.length).2.2).filterMap (xs[·]?)
theorem pickL_sub {α : Type} {xs : List α} {lo : Option Int} {k : Int} {x : α} (h : x ∈ pickL xs lo k) : x ∈ xs := by
  obtain ⟨i, _, hi⟩ := List.mem_filterMap.mp h
  exact List.mem_of_getElem? hi
theorem slicePick_pickL {xs : List Value} {lo : Option Int} {k : Int} : slicePick xs.toArray lo none (some k) = (pickL xs lo k).toArray := by
  unfold slicePick pickL
  simp
theorem Rps.pick {kk : Kc} {G : Hp} {vs : List V} {ds : List D} (r : Rps kk G vs ds) (is : List Nat) : Rps kk G (is.filterMap (vs[·]?)) (is.filterMap (ds[·]?)) := by
  induction is with
  | nil => exact .nil
  | cons i is ih =>
    cases h : vs[i]? with
    | none =>
      have : ds[i]? = none := by
        rw [List.getElem?_eq_none_iff] at h ⊢
        rw [← r.len]; exact h
      rw [List.filterMap_cons_none h, List.filterMap_cons_none this]
      exact ih
    | some v =>
      obtain ⟨d, h1, h2⟩ := r.getV h
      rw [List.filterMap_cons_some h, List.filterMap_cons_some h1]
      exact .cons h2 ih
theorem vals_pick : ∀ {vs : List V} {us : List Value}, Vals vs us → ∀ is : List Nat, Vals (is.filterMap (vs[·]?)) (is.filterMap (us[·]?)) := fun {vs us} r is => by
  induction is with
  | nil => exact .nil
  | cons i is ih =>
    cases h : vs[i]? with
    | none =>
      have : us[i]? = none := by
        rw [List.getElem?_eq_none_iff] at h ⊢
        rw [← r.length]; exact h
      rw [List.filterMap_cons_none h, List.filterMap_cons_none this]
      exact ih
    | some v =>
      obtain ⟨d, h1, h2⟩ := r.get h
      rw [List.filterMap_cons_some h, List.filterMap_cons_some h1]
      exact .cons h2 ih
def tSlK (K : PySem.W.Frag) (te : L2.TE) (tl : L2.TO) (k : Int) : L2.TE := fun σ H Q => te σ H fun x H1 => tl σ H1 fun lo H2 => ∃ a xs, x = .ref a ∧ SqL K H2 a xs ∧ (pickL xs lo k).length ≤ sizeLine ∧ ∀ p, H2 p = none → Q (.ref p) (upd H2 p (.lst (pickL xs lo k)))
theorem pe_slK {X : Cx} {e : Expr} {te : L2.TE} {lo : Option Expr} {tl : L2.TO} {k : Int} {j : Nat} {p1 p3 pos : Pos} (hk : k ≠ 0) (he : PE X e te) (hlo : PO X lo tl) : PE X (.Subscript e (.Slice lo none (some (.Constant (.int k) j p1)) p3) pos) (tSlK X.K te tl k) := by
  refine ⟨fun pins s σ H Q I h => ?_⟩
  refine Subscript_ (thn (he.run pins s σ H _ I h) fun v s1 ⟨x, H1, I1, r1, q1⟩ => ?_)
  have hst : PO X (some (.Constant (.int k) j p1)) (tPart (tC (.int k))) := po_some pe_int
  refine wpAny_Slice (thn (hlo.run pins s1 σ H1 _ I1 q1) fun vl s2 ⟨l, H2, I2, pl, q2⟩ => ?_)
  refine thn (po_none.run pins s2 σ H2 (fun o H3 => o = none ∧ H3 = H2) I2 ⟨rfl, rfl⟩) fun vu s3 ⟨u, H3, I3, pu, eu, e3⟩ => ?_
  subst eu e3
  refine thn (hst.run pins s3 σ H3 (fun o H4 => o = some k ∧ H4 = H3) I3 ⟨k, rfl, rfl, rfl⟩) fun vs s4 ⟨o, H4, I4, ps, eo, e4⟩ => ?_
  subst eo e4
  obtain ⟨a, xs, ex, hx, hzz, q⟩ := q2
  subst ex
  cases r1
  have I5 : Inv X pins σ H4 { s4 with heap := s4.heap.push { cls := .type "slice", data := .fields #[vl, vu, vs] } } := I4.kept (t' := s4.toks) fun b ob q => Heap.get?_push_of_some _ q
  obtain ⟨its, r, ht, hz⟩ := I5.list hx
  have hlen := r.length
  show wpAny (model X.prog X.w) X.A (subscriptTail e (.Slice lo none (some (.Constant (.int k) j p1)) p3) (.ref a) (.ref s4.heap.objs.size)) (EP X pins σ Q) X.xe { s4 with heap := s4.heap.push { cls := .type "slice", data := .fields #[vl, vu, vs] } }
  refine tail_any (ops := [.ref a, .ref s4.heap.objs.size]) ht.isList.typeIs (PySem.slot_list_getitem.lookup) ?_ (by with_unfolding_all rfl)
  refine wpAny_getItem_list_slice ht.isList (Heap.IsSliceOf.new _ vl vu vs) pl pu ps (fun z => hk (Option.some.inj z)) ?_ (by rw [List.size_toArray]; omega)
  rw [slicePick_pickL]
  have rp : Vals (pickL xs l k) (pickL its l k) := by
    unfold pickL
    rw [hlen]
    exact vals_pick r _
  refine ⟨.ref _, _, I5.laid (t' := s4.toks) (o := .lst (pickL xs l k)) (fun b ob q => Heap.get?_push_of_some _ q) (Nat.le_refl _) ?_, rfl, q _ (I5.hok.fresh (Nat.le_refl _))⟩
  exact ⟨hzz, _, 0, rp, Heap.get?_push_size _ rfl⟩
def gSlK (d : D) (lo : Option Int) (k : Int) : Option EV := match d with
  | .lst xs => if (pickL xs lo k).length ≤ LIM then some (.m (.lst (pickL xs lo k))) else none
  | _ => none
def vSlK (f : EM Tk) (fl : EO) (k : Int) : EM EV := fun e => (f e).bind fun t e1 => (fl e1).bind fun lo e2 => match rdK e2 t with
  | some d => resV (gSlK d lo k) e2
  | none => .stuck
section
variable {X : Cx} {ct : Ct} {W : WX} {pos p1 p2 : Pos} {a : Expr} {fa : EM Tk} {lo : Option Expr} {fl : EO} {k : Int} {j : Nat}
theorem v_slK (hk : k ≠ 0) (ha : SK X ct W a fa) (hl : SO X ct W lo fl) : SV X ct W (.Subscript a (.Slice lo none (some (.Constant (.int k) j p1)) p2) pos) (vSlK fa fl k) := PEw (pe_slK hk ha hl) fun σ H Q q => by
  obtain ⟨c, G, e, r, p⟩ := q
  refine ⟨c, G, e, r, (Post.bind p).imp fun G1 H1 e1 t s1 r1 p1 x hx => ⟨c, G1, e1, r1, (Post.bind p1).imp fun G2 H2 e2 l s2 r2 p2 => ?_⟩⟩
  split at p2
  · rename_i d hd
    have hr := RB.of r2 (hx.mono s2) hd
    unfold gSlK at p2
    cases d with
    | lst xs =>
      obtain ⟨pp, vs, rfl, h1, rr⟩ := hr.lst r2.gh
      dsimp only at p2
      split at p2
      · rename_i hle
        have rp : Rps ⟨X.K, ct⟩ G2 (pickL vs l k) (pickL xs l k) := by
          unfold pickL
          rw [rr.len]
          exact rr.pick _
        exact ⟨_, _, rfl, SqL.of h1, by rw [rp.len]; exact lim_le hle, fin_lst r2 rp fun G' H' v s' r' hv => p2 G' H' s' r' v hv⟩
      · exact p2.elim
    | _ => exact p2.elim
  · exact p2.elim
end
end MM
end
section
set_option Elab.async false
set_option linter.all false
set_option autoImplicit false
set_option maxRecDepth 100000
set_option maxHeartbeats 4000000
namespace MM
open PySem PySem.Spec PyProof.Rows L2
/-! ### sorted(list of pairs of a number and a list of numbers) -/
abbrev IL := Int × List Int
def ltL : List Int → List Int → Bool
  | [], [] => false
  | [], _ :: _ => true
  | _ :: _, [] => false
  | x :: xs, y :: ys => if x = y then ltL xs ys else decide (x < y)
theorem ltL_iff : ∀ xs ys : List Int, ltL xs ys = decide (xs < ys)
  | [], [] => by simp [ltL]
  | [], y :: ys => by simp [ltL]
  | x :: xs, [] => by simp [ltL]
  | x :: xs, y :: ys => by
    rw [ltL]
    by_cases h : x = y
    · rw [if_pos h, ltL_iff xs ys]; simp [h, List.cons_lt_cons_iff]
    · rw [if_neg h]; simp [h, List.cons_lt_cons_iff]
def ltIL (a b : IL) : Bool := if a.1 = b.1 then ltL a.2 b.2 else decide (a.1 < b.1)
def leIL (a b : IL) : Bool := !ltIL b a
theorem leIL_iff (a b : IL) : leIL a b = true ↔ a.1 < b.1 ∨ (a.1 = b.1 ∧ a.2 ≤ b.2) := by
  unfold leIL ltIL
  rw [ltL_iff]
  by_cases h : b.1 = a.1
  · rw [if_pos h]
    simp [h, List.not_lt]
  · rw [if_neg h]
    simp
    omega
theorem leIL_trans (a b c : IL) (h1 : leIL a b = true) (h2 : leIL b c = true) : leIL a c = true := by
  rw [leIL_iff] at *
  rcases h1 with h1 | ⟨h1, h1'⟩ <;> rcases h2 with h2 | ⟨h2, h2'⟩
  · left; omega
  · left; omega
  · left; omega
  · right; exact ⟨by omega, List.le_trans h1' h2'⟩
theorem leIL_total (a b : IL) : (leIL a b || leIL b a) = true := by
  rw [Bool.or_eq_true, leIL_iff, leIL_iff]
  rcases Int.lt_trichotomy a.1 b.1 with h | h | h
  · exact .inl (.inl h)
  · rcases List.le_total a.2 b.2 with q | q
    · exact .inl (.inr ⟨h, q⟩)
    · exact .inr (.inr ⟨h.symm, q⟩)
  · exact .inr (.inl h)
theorem leIL_anti (a b : IL) (h1 : leIL a b = true) (h2 : leIL b a = true) : a = b := by
  rw [leIL_iff] at *
  rcases h1 with h1 | ⟨h1, h1'⟩ <;> rcases h2 with h2 | ⟨h2, h2'⟩
  · omega
  · omega
  · omega
  · exact Prod.ext h1 (List.le_antisymm h1' h2')
def insIL (x : IL) : List IL → List IL
  | [] => [x]
  | y :: ys => if leIL x y = true then x :: y :: ys else y :: insIL x ys
def sortIL : List IL → List IL
  | [] => []
  | x :: xs => insIL x (sortIL xs)
theorem insIL_perm (x : IL) : ∀ ys : List IL, (insIL x ys).Perm (x :: ys)
  | [] => .refl _
  | y :: ys => by
    rw [insIL]
    split
    · exact .refl _
    · exact ((insIL_perm x ys).cons y).trans (.swap ..)
theorem sortIL_perm : ∀ xs : List IL, (sortIL xs).Perm xs
  | [] => .refl _
  | x :: xs => (insIL_perm x _).trans ((sortIL_perm xs).cons x)
theorem insIL_sorted (x : IL) : ∀ ys : List IL, ys.Pairwise (fun a b => leIL a b = true) → (insIL x ys).Pairwise (fun a b => leIL a b = true)
  | [], _ => by rw [insIL]; exact List.pairwise_singleton _ _
  | y :: ys, h => by
    rw [insIL]
    have h' := List.pairwise_cons.mp h
    split
    · rename_i hxy
      refine List.pairwise_cons.mpr ⟨fun z hz => ?_, h⟩
      rcases List.mem_cons.mp hz with rfl | hz
      · exact hxy
      · exact leIL_trans _ _ _ hxy (h'.1 z hz)
    · rename_i hxy
      refine List.pairwise_cons.mpr ⟨fun z hz => ?_, insIL_sorted x ys h'.2⟩
      have hz := (insIL_perm x ys).mem_iff.mp hz
      rcases List.mem_cons.mp hz with rfl | hz
      · have := leIL_total z y
        rw [Bool.or_eq_true] at this
        exact this.resolve_left hxy
      · exact h'.1 z hz
theorem sortIL_sorted : ∀ xs : List IL, (sortIL xs).Pairwise (fun a b => leIL a b = true)
  | [] => .nil
  | x :: xs => insIL_sorted x _ (sortIL_sorted xs)
def ilD (p : IL) : D := .tup [.int p.1, .lst (p.2.map D.int)]
def il? : D → Option IL
  | .tup [.int i, .lst xs] => (ints? xs).map fun ns => (i, ns)
  | _ => none
theorem il?_eq {d : D} {p : IL} (h : il? d = some p) : d = ilD p := by
  unfold il? at h
  split at h
  · rename_i i xs
    cases hi : ints? xs with
    | none => rw [hi] at h; cases h
    | some ns =>
      rw [hi] at h
      cases h
      rw [ints?_eq hi]
      rfl
  · cases h
def ils? : List D → Option (List IL)
  | [] => some []
  | d :: ds => match il? d, ils? ds with
    | some p, some ps => some (p :: ps)
    | _, _ => none
theorem ils?_eq : ∀ {ds : List D} {ps : List IL}, ils? ds = some ps → ds = ps.map ilD
  | [], ps, h => by cases h; rfl
  | d :: ds, ps, h => by
    rw [ils?] at h
    split at h
    · rename_i p ps' h1 h2
      cases h
      rw [il?_eq h1, ils?_eq h2, List.map_cons]
    · cases h
theorem ils?_map : ∀ ps : List IL, ils? (ps.map ilD) = some ps
  | [] => rfl
  | p :: ps => by
    rw [List.map_cons, ils?]
    have h1 : il? (ilD p) = some p := by
      show (ints? (p.2.map D.int)).map _ = _
      rw [ints?_map]; rfl
    rw [h1, ils?_map ps]
def fSortedP : D → Option EV
  | .lst ds => (ils? ds).map fun ps => .m (.lst ((sortIL ps).map ilD))
  | _ => none
@[simp] theorem fSortedP_map {ps : List IL} : fSortedP (.lst (ps.map ilD)) = some (.m (.lst ((sortIL ps).map ilD))) := by
  show (ils? _).map _ = _
  rw [ils?_map]; rfl
theorem ilD_py (p : IL) : (ilD p).py = .tuple [.int p.1, .list (p.2.map PyData.int)] := by
  unfold ilD
  rw [D.py, D.pys, D.pys, D.pys, D.py, D.py, pys_ints]
theorem ilD_flat (p : IL) : (ilD p).flat = true := by
  unfold ilD
  rw [D.flat, D.flats, D.flats, D.flats]
  simp [D.flat, flats_ints]
theorem eqv_ints_il (xs ys : List Int) : PyData.eqvAll (xs.map PyData.int) (ys.map PyData.int) = decide (xs = ys) := by
  induction xs generalizing ys with
  | nil => cases ys <;> simp [PyData.eqvAll]
  | cons x xs ih =>
    cases ys with
    | nil => simp [PyData.eqvAll]
    | cons y ys =>
      rw [List.map_cons, List.map_cons, PyData.eqvAll, ih, PyData.eqv]
      by_cases h : x = y <;> by_cases h2 : xs = ys <;> simp [h, h2]
theorem dataLt_il (p q : IL) : PySem.W.dataLt (ilD p).py (ilD q).py = ltIL p q := by
  rw [ilD_py, ilD_py, PySem.W.dataLt_pair (by simp [PySem.W.alike]) (by simp [PySem.W.alike, PySem.W.alike_ints]), PySem.W.dataLt_int]
  have e1 : PySem.W.dataLt (.list (p.2.map PyData.int)) (.list (q.2.map PyData.int)) = ltL p.2 q.2 := by
    rw [PySem.W.dataLt_list, ltL_iff]
    exact PySem.W.dataLt_ints _ _
  rw [e1]
  unfold ltIL
  simp only [PyData.eqv, beq_iff_eq, eqv_ints_il]
  by_cases h : p.1 = q.1
  · rw [if_pos h, if_pos h]
    by_cases h2 : p.2 = q.2
    · rw [if_pos (by simpa using h2), h2, ltL_iff]
      simp
    · rw [if_neg (by simpa using h2)]
  · rw [if_neg h, if_neg h]
theorem dataLe_il : PySem.W.dataLe false (fun z : V × IL => (ilD z.2).py) = fun a b => leIL a.2 b.2 := by
  funext a b
  show (!PySem.W.dataLt (ilD b.2).py (ilD a.2).py) = _
  rw [dataLt_il]
  rfl
def rSortedP (K : PySem.W.Frag) : List V → Hp → VK → Prop := fun xs H Q => ∃ (a : Addr) (zs : List (V × IL)), xs = [.ref a] ∧ SqL K H a (zs.map (·.1)) ∧ (∀ z ∈ zs, Dp K H z.1 (ilD z.2).py) ∧
  ∀ p, H p = none → Q (.ref p) (upd H p (.lst ((zs.mergeSort (fun a b => leIL a.2 b.2)).map (·.1))))
section
variable {X : Cx} {ct : Ct} {kk : Nat}
theorem vals_each {pins : List (Addr × Obj)} {σ : L2.St} {H : Hp} {s : Shared} (I : Inv X pins σ H s) : ∀ {zs : List (V × IL)} {us : List Value}, Vals (zs.map (·.1)) us → (∀ z ∈ zs, Dp X.K H z.1 (ilD z.2).py) →
    PySem.W.EachIs (fun v (z : V × IL) => RelV z.1 v) us zs ∧ PySem.W.EachIs (fun v (z : V × IL) => ∃ as, Reads s.heap v (ilD z.2).py as) us zs
  | [], _, r, _ => by cases r; exact ⟨.nil, .nil⟩
  | z :: zs, _, r, h => by
    cases r with
    | cons r1 r2 =>
      obtain ⟨a, b⟩ := vals_each I r2 fun z hz => h z (List.mem_cons_of_mem _ hz)
      exact ⟨.cons r1 a, .cons (Dp.reads I _ _ _ (h z List.mem_cons_self) r1) b⟩
theorem each_vals : ∀ {zs : List (V × IL)} {us : List Value}, PySem.W.EachIs (fun v (z : V × IL) => RelV z.1 v) us zs → Vals (zs.map (·.1)) us
  | _, _, .nil => .nil
  | _, _, .cons a b => .cons a (each_vals b)
theorem cr_sortedP' (hr : Room kk X.A) : CallR X (.builtin "sorted") (rSortedP X.K) := by
  intro pins s σ H vs us Q I r h
  obtain ⟨a, zs, rfl, hs, hd, q⟩ := h
  obtain ⟨its, rv, hl, hz⟩ := I.list hs
  rw [List.length_map] at hz
  rw [Vals.ref1 r]
  obtain ⟨e1, e2⟩ := vals_each I rv hd
  have hun := hr.un
  refine PySem.W.sorted_data (enc := fun z : V × IL => (ilD z.2).py) hl.isList e1 e2 (PySem.W.AllAlike.of fun b b' => ?_) (PySem.W.Sortable.tuples fun b => ⟨_, _, ilD_py b.2⟩) hz (fun b _ => ?_) fun out hlen he => ?_
  · rw [ilD_py, ilD_py]
    simp [PySem.W.alike, PySem.W.alikeAll, PySem.W.alike_ints]
  · rw [ilD_py]
    simp only [PyData.depth, PyData.depthAll, PySem.W.depth_ints]
    omega
  rw [dataLe_il] at he
  have hv := each_vals he
  obtain ⟨ep, he'⟩ := PyProof.Rows.sortedAll_at s.heap its out.toArray
  exact ⟨.ref _, upd H (s.heap.objs.size + 1) (.lst ((zs.mergeSort (fun a b => leIL a.2 b.2)).map (·.1))), I.laid (t' := s.toks) (fun _ _ => PyProof.Rows.sortedAll_old) (Nat.le_succ _) ⟨by rw [List.length_map, List.length_mergeSort]; exact hz, out, ep, hv, he'⟩, rfl, q _ (I.hok.fresh (Nat.le_succ _))⟩
theorem Rps.zipIL {k : Kc} {G : Hp} : ∀ {vs : List V} {ps : List IL}, Rps k G vs (ps.map ilD) → ∃ zs : List (V × IL), vs = zs.map (·.1) ∧ ps = zs.map (·.2) ∧ ∀ z ∈ zs, Rp k G z.1 (ilD z.2)
  | [], [], _ => ⟨[], rfl, rfl, fun z hz => by cases hz⟩
  | [], _ :: _, h => by cases h
  | _ :: _, [], h => by cases h
  | v :: vs, p :: ps, h => by
    cases h with
    | cons h1 h2 =>
      obtain ⟨zs, e1, e2, h3⟩ := Rps.zipIL h2
      refine ⟨(v, p) :: zs, by rw [e1]; rfl, by rw [e2]; rfl, fun z hz => ?_⟩
      rcases List.mem_cons.mp hz with rfl | hz
      · exact h1
      · exact h3 z hz
theorem Rps.ofIL {k : Kc} {G : Hp} : ∀ {zs : List (V × IL)}, (∀ z ∈ zs, Rp k G z.1 (ilD z.2)) → Rps k G (zs.map (·.1)) ((zs.map (·.2)).map ilD)
  | [], _ => .nil
  | z :: zs, h => .cons (h z List.mem_cons_self) (Rps.ofIL fun z hz => h z (List.mem_cons_of_mem _ hz))
theorem sort_zip (zs : List (V × IL)) : (zs.mergeSort (fun a b => leIL a.2 b.2)).map (·.2) = sortIL (zs.map (·.2)) := by
  have h1 : ((zs.mergeSort (fun a b => leIL a.2 b.2)).map (·.2)).Perm (sortIL (zs.map (·.2))) := ((List.mergeSort_perm zs _).map _).trans (sortIL_perm _).symm
  refine h1.eq_of_pairwise (le := fun a b => leIL a b = true) (fun a b _ _ => leIL_anti a b) ?_ (sortIL_sorted _)
  refine List.pairwise_map.mpr ?_
  exact List.pairwise_mergeSort (le := fun (a b : V × IL) => leIL a.2 b.2) (fun a b c => leIL_trans a.2 b.2 c.2) (fun a b => leIL_total a.2 b.2) zs
theorem g_sortedP : CallG ⟨X.K, ct⟩ (rSortedP X.K) (gF1 fSortedP) := callG1 fun c G H σ e v d z Q re rb hz q => by
  unfold fSortedP at hz
  split at hz
  · rename_i ds
    cases hp : ils? ds with
    | none => rw [hp] at hz; cases hz
    | some ps =>
      rw [hp] at hz
      cases hz
      rw [ils?_eq hp] at rb
      obtain ⟨a, vs, rfl, h1, rr⟩ := rb.lst re.gh
      obtain ⟨zs, rfl, rfl, hz⟩ := rr.zipIL
      have hr : ∀ z ∈ zs.mergeSort (fun a b => leIL a.2 b.2), Rp ⟨X.K, ct⟩ G z.1 (ilD z.2) := fun z h => hz z ((List.mergeSort_perm zs _).mem_iff.mp h)
      have rp := Rps.ofIL hr
      rw [sort_zip] at rp
      exact ⟨a, zs, rfl, SqL.of h1, fun z hz' => dp_mono re.gh ((hz z hz').dp (ilD_flat z.2)), fin_lst re rp fun G' H' v s' r' hv => q G' H' v s' r' hv⟩
  · cases hz
end
end MM
end
section
set_option Elab.async false
set_option linter.all false
set_option autoImplicit false
set_option maxRecDepth 100000
set_option maxHeartbeats 4000000
namespace MM
open PySem PySem.Spec PyProof.Rows L2
/-! ### x[k] = v of an own dict -/
theorem RelKD.of {k : Kc} {G : Hp} : ∀ {kvs : List (Key × V)} {ds : List D}, Rps k G (kvs.map (·.2)) ds → RelKD k G kvs ((kvs.map (·.1)).zip ds)
  | [], [], _ => trivial
  | [], _ :: _, h => by cases h
  | (a, v) :: kvs, [], h => by cases h
  | (a, v) :: kvs, d :: ds, h => by
    cases h with
    | cons h1 h2 => exact ⟨rfl, h1, RelKD.of h2⟩
theorem RelKD.length {k : Kc} {G : Hp} {l : List (Key × V)} {m : List (Key × D)} (h : RelKD k G l m) : l.length = m.length := by
  have := congrArg List.length h.fst.1
  simpa using this
def gStoreK (i : Nat) (fi : EM Tk) : GT := fun d e => match mutE e i with
  | none => none
  | some _ => match fi e with
    | .ok t e2 => (match rdK e2 t, mutE e2 i with
      | some y, some (.dic ks ds) => (match D.key y with
        | some j => if ks.length < LIM then some (reE e2 i (.dic ((putKD j d (ks.zip ds)).map (·.1)) ((putKD j d (ks.zip ds)).map (·.2)))) else none
        | none => none)
      | _, _ => none)
    | _ => none
section
variable {X : Cx} {ct : Ct} {W : WX} {pos tpos p : Pos} {x : Str} {i n : Nat} {ix : Expr} {fi : EM Tk}
theorem h_storeK (hu : X.A.units + 1 < cLine) (ho : PE X (.Name x p) (tVar i)) (hi : SK X ct W0 ix fi) (ha : ∀ v, assign (.Subscript (.Name x p) ix tpos) X.env v = (do
      let ov ← holding [v] (eval (.Name x p) X.env)
      let iv ← holding [v, ov] (eval ix X.env)
      standAt tpos
      holding [v, ov, iv] (setItem ov iv v)
      release [v, ov, iv] []) := by intro _; rfl) : SG2 X ct (.Subscript (.Name x p) ix tpos) (gStoreK i fi) := PGw (pg_sub ho hi (set_dict hu) ha) fun v σ H Q q => by
  obtain ⟨c, G, e, d, e', r, hv, hf, q⟩ := q
  unfold gStoreK at hf
  cases h0 : mutE e i with
  | none => rw [h0] at hf; cases hf
  | some y0 =>
    rw [h0] at hf
    obtain ⟨a0, o0, ha0, _⟩ := mutE_ok r h0
    refine ⟨_, ha0, c, G, e, r, ?_⟩
    cases h1 : fi e with
    | stuck => rw [h1] at hf; cases hf
    | exc y e2 => rw [h1] at hf; cases hf
    | ok t e2 =>
      rw [h1] at hf
      intro G2 H2 s2 r2 iv hiv
      dsimp only at hf
      split at hf
      · rename_i y ks ds hj hm
        split at hf
        · rename_i j hkey
          split at hf
          · rename_i hl
            cases hf
            obtain ⟨a1, o1, ha1, hH1, ⟨kvs, rfl, rfl, ru⟩, g1, hre⟩ := mutE_ok r2 hm
            rw [ha0] at ha1
            cases ha1
            have hk : iv = kV j := (RB.of r2 hiv hj).key hkey
            have rel := RelKD.put (j := j) (hv.mono s2) (RelKD.of ru)
            have hl' : kvs.length < sizeLine := by
              rw [sizeLine_eq]
              rw [List.length_map] at hl
              exact Nat.lt_of_lt_of_le hl (by decide)
            rw [hk]
            exact ⟨a0, _, rfl, DPut.k hH1 hl', q G2 σ _ s2 (hre _ _ ⟨_, rfl, rel.fst.1, rel.fst.2⟩)⟩
          · cases hf
        · cases hf
      · cases hf
end
section
variable {e : Env} {d : D}
@[simp] theorem gStoreK_ev {i : Nat} {fi : EM Tk} : gStoreK i fi d e = (match mutE e i with
  | none => none
  | some _ => match fi e with
    | .ok t e2 => (match rdK e2 t, mutE e2 i with
      | some y, some (.dic ks ds) => (match D.key y with
        | some j => if ks.length < LIM then some (reE e2 i (.dic ((putKD j d (ks.zip ds)).map (·.1)) ((putKD j d (ks.zip ds)).map (·.2)))) else none
        | none => none)
      | _, _ => none)
    | _ => none) := rfl
end
end MM
end
section
set_option Elab.async false
set_option linter.all false
set_option autoImplicit false
set_option maxRecDepth 100000
set_option maxHeartbeats 4000000
namespace MM
open PySem PySem.Spec L2
/-! ### x = [.. for .. in ..], all own things borrowed meanwhile -/
section
variable {X : Cx} {ct : Ct} {W : WX} {ex : Expr}
theorem bor_sem {f : EM EV} (σ : L2.St) (H : Hp) (Q : VK) (q : TV ⟨X.K, ct⟩ W (vBor f) σ H Q) : TV ⟨X.K, ct⟩ W f σ H Q := by
  obtain ⟨c, G, e, r, p⟩ := q
  obtain ⟨G', sG, r'⟩ := r.borrow
  refine ⟨_, G', _, r', ?_⟩
  unfold vBor at p
  cases hf : f (frzAll e) with
  | stuck => rw [hf] at p; exact p.elim
  | exc y e' => rw [hf] at p; exact p.elim
  | ok y e' =>
    rw [hf] at p
    cases y with
    | t _ _ => exact p.elim
    | p _ => exact p.elim
    | d d =>
      have p : Post ⟨X.K, ct⟩ W c G σ (fun G' H' e' x => ∀ v, RpV ⟨X.K, ct⟩ c G' σ H' e' v x → Q v H') (if d.sc = true then .ok (.d d) e else .stuck) := p
      by_cases hd : d.sc = true
      · rw [if_pos hd] at p
        exact fun G2 H2 s2 r2 v hv => p G H2 (Same.refl _) (r.thaw r2.oh fun p hp => (r2.tb p hp).1) v (show Rp _ _ _ _ from Rp.sc2 hv hd)
      · rw [if_neg hd] at p; exact p.elim
    | m y =>
      cases y with
      | dic _ _ => exact p.elim
      | obj _ _ _ => exact p.elim
      | lst ds =>
        have p : Post ⟨X.K, ct⟩ W c G σ (fun G' H' e' x => ∀ v, RpV ⟨X.K, ct⟩ c G' σ H' e' v x → Q v H') (if ds.all D.sc = true then .ok (.m (.lst ds)) e else .stuck) := p
        by_cases hd : ds.all D.sc = true
        · rw [if_pos hd] at p
          intro G2 H2 s2 r2 v hv
          obtain ⟨a, e1, ⟨m1, m2, o, m3, vs, rfl, m4⟩, l⟩ := hv
          have hHa : H a = none := by
            have m2 : offT ct.T H a = none := m2
            by_cases z : ∃ p ∈ ct.T, p.1 = a
            · obtain ⟨p, hp, e⟩ := z
              obtain ⟨ps, q, _⟩ := (r2.tb p hp).1
              rw [e, m3] at q
              cases q
            · rw [offT_out fun p hp e => z ⟨p, hp, e⟩] at m2
              exact m2
          have rt := r.thaw r2.oh fun p hp => (r2.tb p hp).1
          refine p G H2 (Same.refl _) rt v ⟨a, e1, ⟨?_, ?_, _, m3, vs, rfl, Rps.sc2 m4 hd⟩, fun i x hx hw hs => ?_⟩
          · cases q : G a with
            | none => rfl
            | some o => rw [r.gh a o q] at hHa; cases hHa
          · cases q : c.O a with
            | none => rfl
            | some o => rw [r.oh a o q] at hHa; cases hHa
          · obtain ⟨b, y, _, h1, _, _, o, h3, _⟩ := r.owner hx hw
            rw [hs] at h1
            cases h1
            rw [hHa] at h3
            cases h3
        · rw [if_neg hd] at p; exact p.elim
end
section
variable {X : Cx} {ct : Ct} {W : WX} {elt tg iter : Expr} {ifs : List Expr} {scope : Scope} {own : List (Str × Nat)} {pos spos py : Pos} {fi : EM (List D)} {ft : D → Env → Option Env} {ff : EM Bool} {fe : EM D} {ts : List Nat} {i : Nat} {y : Str}
theorem s_setLcB (hc : X.calm = true) (hN : X.N.Nodup) (hy : X.N[i]? = some y) (hyl : X.env.scope.names.lookup y = some .local)
    (hsw : swapsWith (.ListComp elt [⟨tg, iter, ifs, 0⟩] scope pos) (some (.Name y py)) spos.line X.env = pure true) (hi : SI X ct W tg iter fi) (ok : BlkOk X.N X.env.scope scope own) (hts : ∀ i ∈ ts, i ∈ own.map (·.2))
    (hg : ∀ (s : Shared) (H : Hp) (C : Addr) (cl : List (Str × Addr)) (fp : List Addr), SG (X.blk s H scope (compEnvC scope cl C X.env) fp) ct tg ts ft) (ht : ∀ (s : Shared) (H : Hp) (C : Addr) (cl : List (Str × Addr)) (fp : List Addr), PTs (X.blk s H scope (compEnvC scope cl C X.env) fp) ifs (TT ⟨X.K, ct⟩ W0 ff))
    (he : ∀ (s : Shared) (H : Hp) (C : Addr) (cl : List (Str × Addr)) (fp : List Addr), SE (X.blk s H scope (compEnvC scope cl C X.env) fp) ct W0 elt fe) (hs : ∀ x, foldedSetIterable iter X.env x = pure x := by intro _; rfl) :
    SS X ct W (.Assign [.Name y py] (.ListComp elt [⟨tg, iter, ifs, 0⟩] scope pos) spos) (sSet i (vBor (lcF (own.map (·.2)) fi ft ff fe))) := PSw (ps_setLc hc hN hy hyl hsw hi ok hg ht he hs) fun Dn σ H q => by
  obtain ⟨c, G, e, r, p⟩ := q
  refine lc_sem hts σ H _ (bor_sem σ H _ ⟨c, G, e, r, (PostS.sb p).imp fun G' H' e' y s r' h v hv => putE_ok r' hv h⟩)
end
end MM
end
section
set_option Elab.async false
set_option linter.all false
set_option autoImplicit false
set_option maxRecDepth 100000
set_option maxHeartbeats 4000000
namespace MM
open PySem PySem.Spec PyProof.Rows L2
/-! ### range(n) held by a name; i in it -/
def rRng1 : List V → Hp → VK → Prop := fun vs H Q => ∃ j, vs = [V.int j] ∧ ∀ p, H p = none → Q (.ref p) (upd H p (.rng 0 j))
theorem cr_range1 {X : Cx} : CallR X (.type "range") rRng1 := by
  intro pins s σ H vs us Q I r h
  obtain ⟨j, rfl, q⟩ := h
  obtain ⟨u1, rfl, rj⟩ := vals1 r
  obtain ⟨u, rfl⟩ := rj
  refine call_range_1 ⟨.ref s.heap.objs.size, upd H s.heap.objs.size (.rng 0 j), I.laid (t' := s.toks + 2) (fun b o e => Heap.get?_push_of_some _ e) (Nat.le_refl _) ?_, rfl, q _ (I.hok.fresh (Nat.le_refl _))⟩
  exact ⟨_, _, _, Heap.get?_push_size _ rfl⟩
def fRng : D → Option EV
  | .int j => some (.d (.rng 0 j))
  | _ => none
theorem g_rng {X : Cx} {ct : Ct} : CallG ⟨X.K, ct⟩ rRng1 (gF1 fRng) := callG1 fun c G H σ e v d z Q re rb hz q => by
  cases d with
  | int j =>
    cases hz
    rw [rb.int]
    refine ⟨j, rfl, fun p hp => ?_⟩
    have gp : G p = none := re.gh.free hp
    exact q _ _ _ (same_upd gp) (re.lay hp) (.rng upd_same)
  | _ => cases hz
def gInR : D → D → Option Bool
  | .int i, .rng lo hi => some (decide (lo ≤ i ∧ i < hi))
  | _, _ => none
@[simp] theorem gInR_ev {i lo hi : Int} : gInR (.int i) (.rng lo hi) = some (decide (lo ≤ i ∧ i < hi)) := rfl
theorem RB.rng {k : Kc} {G H : Hp} {v : V} {lo hi : Int} (g : Same G H) (h : RB k G H v (.rng lo hi)) : ∃ a, v = .ref a ∧ H a = some (.rng lo hi) := by
  rcases h with h | ⟨a, o, x, rfl, h1, h2, h3⟩
  · cases h with
    | rng h1 => exact ⟨_, rfl, g _ _ h1⟩
  · cases x with
    | lst _ => cases h3
    | dic _ _ => cases h3
    | obj _ ns _ =>
      have h3 : (if ns = clsNames _ then some (D.obj _ _) else none) = some (D.rng lo hi) := h3
      split at h3 <;> cases h3
theorem x_inR {X : Cx} {ct : Ct} : CmpX X ct .In gInR := ⟨_, op_in_rng, fun G H x y a b z Q g ra rb hz q => by
  unfold gInR at hz
  split at hz
  · cases hz
    obtain ⟨p, rfl, h1⟩ := rb.rng g
    exact ⟨_, p, _, _, ra.int, rfl, h1, q⟩
  · cases hz⟩
end MM
end
section
set_option Elab.async false
set_option linter.all false
set_option autoImplicit false
set_option maxRecDepth 100000
set_option maxHeartbeats 4000000
namespace MM
open PySem PySem.Spec PyProof.Rows L2
/-! ### own exceptions over ValueError with one field -/
/-- what __init__(self, y): self.f = y keeps -/
def spX (K : PySem.W.Frag) (f : Str) : Sp := fun vs H Q _ => ∃ (a C : Addr) (y : V), vs = [.ref a, y] ∧ OexC K C ∧ PySem.W.findIn K (.ref C) f = some none ∧ H a = some (exo a C none) ∧
  ∀ dx, H dx = none → dx ≠ a → Q .non (upd (upd H dx (exd dx [(f, y)])) a (exo a C (some dx)))
theorem fn_exinit {P : Program} {w : World} {K : PySem.W.Frag} {mg : Str → Option Value} {base : Heap} {x qual : Str} {params : Arguments} {scope : Scope} {dvs : List V} {kws : List (Str × V)} {fa : Addr} {fd : FuncData} {f n1 n2 : Str} {p1 p2 p3 p4 : Pos}
    (F : FunD K x qual params [.Assign [.Attribute (.Name n1 p1) f p2] (.Name n2 p3) p4] scope dvs kws fa fd) (S : FnScope [n1, n2] [n1, n2] scope) (h1 : Vis scope n1) (h2 : Vis scope n2)
    (d1 : (n1 == ("__debug__" : Str)) = false) (d2 : (n1 == ("__classdict__" : Str)) = false) (d3 : (n2 == ("__debug__" : Str)) = false) (d4 : (n2 == ("__classdict__" : Str)) = false)
    (hs : ∀ env, swapsWith (.Name n2 p3) (some (.Attribute (.Name n1 p1) f p2)) p4.line env = pure false) : FnOk P w K mg base (L2.CX P w) 1 fa fd [n1, n2] (spX K f) := by
  refine F.ok S (fun vs H Q E q => ?_) fun cdv A outer s H vs Q E hr q => ?_
  · obtain ⟨a, C, y, rfl, _⟩ := q
    rfl
  · obtain ⟨a, C, y, rfl, T, hno, ha, hq⟩ := q
    refine ⟨_, pss_one (ps_ost (pe_var (i := 0) rfl h1 d1 d2) (pe_var (i := 1) rfl h2 d3 d4) (hs _)), ?_⟩
    exact ⟨y, rfl, .ref a, rfl, a, C, rfl, T, hno, .inl ⟨ha, fun dx n ne => hq dx n ne⟩⟩
/-- raise C(e) -/
def sRaise (c : Nat) (fe : EM D) : SM := fun e => (fe e).sb fun d e1 => .exc ⟨c, [d]⟩ e1
@[simp] theorem sRaise_ev {c : Nat} {fe : EM D} {e : Env} : sRaise c fe e = (fe e).sb fun d e1 => .exc ⟨c, [d]⟩ e1 := rfl
theorem upd_raise {H : Hp} {a dx : Addr} {o1 o2 o3 o4 : HO} (ha : H a = none) (hd : H dx = none) (hne : dx ≠ a) : upd (del (upd (upd (upd H a o1) dx o2) a o3) a) dx o4 = upd H dx o4 := by
  funext b
  by_cases h1 : b = dx
  · subst h1; rw [upd_same, upd_same]
  · rw [upd_ne h1, upd_ne h1]
    by_cases h2 : b = a
    · subst h2; rw [del_same, ha]
    · rw [del_ne h2, upd_ne h2, upd_ne h1, upd_ne h2]
section
variable {X : Cx} {ct : Ct} {W : WX} {pos p p2 : Pos} {x : Str} {ex : Expr} {fe : EM D} {C fI : Addr} {cn k : Nat} {fd : FuncData} {f n1 n2 : Str}
theorem s_raise (hcalm : X.calm = true) (tk : Takes X W) (hC : C = ct cn) (hf : clsNames cn = [f]) (T : OexC X.K C) (iC : PySem.W.findIn X.K (.ref C) "__init__" = some (some (.ref fI))) (tI : PySem.W.typeIn X.K (.ref fI) = some (.type "function"))
    (hno : PySem.W.findIn X.K (.ref C) f = some none) (F1 : FnOk X.prog X.w X.K X.mg X.base (L2.CX X.prog X.w) k fI fd [n1, n2] (spX X.K f)) (hr : Room (k + 1) X.A) (hb : Binds X.K fd [n1, n2] [])
    (hg : Gl X x) (hm : X.mg x = some (.ref C)) (he : SE X ct W ex fe) (hdb : (x == ("__debug__" : Str)) = false := by decide)
    (hst : starEach [ex] X.env = (false, eval ex X.env) :: starEach [] X.env := by rfl) (hpl : (backTo p2 (starEach [] X.env)).any (·.1) = false := by rfl) :
    SS X ct W (.Raise (some (.Call (.Name x p) [ex] [] p2)) none pos) (sRaise cn fe) := by
  have hx : Passes (L2.CX X.prog X.w) X (fun _ _ _ => False) := passes_call tk fun _ _ _ _ z => z.elim
  refine PSw (ps_raise hcalm tk (pmk_oex (ds := []) (dvs := []) T iC tI F1 hr hb .nil hx hg hm (a_cons (k_val he) a_nil hst) hdb hst hpl)) fun Dn σ H q => ?_
  obtain ⟨c, G, e, r, p⟩ := q
  refine ⟨c, G, e, r, ?_⟩
  have p : PostS ⟨X.K, ct⟩ W c G Dn ((fe e).sb fun d e1 => .exc ⟨cn, [d]⟩ e1) := p
  show Post ⟨X.K, ct⟩ W c G σ _ (aCons (kE fe) aNil e)
  unfold aCons kE aNil
  cases hfe : fe e with
  | stuck => rw [hfe] at p; exact p.elim
  | exc y e1 => rw [hfe] at p; exact fun G' H' cls dc s' r' hx => p G' σ H' cls dc s' r' hx
  | ok d e1 =>
    rw [hfe] at p
    intro G' H' s' r' vs hvs
    match vs, hvs with
    | [v], hvs =>
      have hv : Rp ⟨X.K, ct⟩ G' v d := hvs.1
      refine ⟨by simp, fun a ha => ⟨a, C, v, rfl, T, hno, upd_same, fun dx hdx hne => ⟨rfl, dx, [(f, v)], upd_same, by rw [upd_ne hne, upd_same], ?_, ?_⟩⟩⟩
      · rw [upd_ne hne] at hdx; exact hdx
      · rw [upd_ne hne] at hdx
        rw [upd_raise ha hdx hne]
        have hg' : G' dx = none := r'.gh.free hdx
        refine p (upd G' dx (.xd [(f, v)])) σ _ (.ref C) (some dx) (s'.trans (same_upd hg')) (r'.lay hdx) ⟨by rw [hC], .inr ⟨dx, [(f, v)], rfl, upd_same, hf.symm, .cons (hv.mono (same_upd hg')) .nil⟩⟩
    | [], hvs => exact hvs.elim
    | _ :: _ :: _, hvs => exact hvs.2.elim
end
end MM
end
section
set_option Elab.async false
set_option linter.all false
set_option autoImplicit false
set_option maxRecDepth 100000
set_option maxHeartbeats 4000000
namespace MM
open PySem PySem.Spec PyProof.Rows L2
/-! ### try: body / except C as e: handler -/
/-- what an except suite with the name of slot i keeps -/
def tH (k : Kc) (i : Nat) (h : Exn → SM) : Addr → Value → Option Addr → L2.TS := fun a cls d D σ H => σ[i]? = some (some (.ref a)) ∧ ∃ x c G e, RepS k c G σ H e ∧ RepX k G H cls d x ∧ PostS k W0 c G D (h x e)
abbrev SH (Y : Cx) (ct : Ct) (i : Nat) (a : Addr) (cls : Value) (d : Option Addr) (st : Stmt) (h : Exn → SM) : Prop := PS Y st (tH ⟨Y.K, ct⟩ i h a cls d)
/-- an expression of the suite -/
def tHE (k : Kc) (i : Nat) (f : Exn → EM D) : Addr → Value → Option Addr → L2.TE := fun a cls d σ H Q => σ[i]? = some (some (.ref a)) ∧ ∃ x c G e, RepS k c G σ H e ∧ RepX k G H cls d x ∧ Post k W0 c G σ (fun G' H' e' y => ∀ v, Rp k G' v y → Q v H') (f x e)
abbrev HE (Y : Cx) (ct : Ct) (i : Nat) (a : Addr) (cls : Value) (d : Option Addr) (ex : Expr) (f : Exn → EM D) : Prop := PE Y ex (tHE ⟨Y.K, ct⟩ i f a cls d)
def unE (i : Nat) (e : Env) : Option Env := match e[i]? with
  | some o => if isP o = true then none else some (e.set i none)
  | none => none
/-- behind the suite the name is gone -/
def finE (i : Nat) : SRes → SRes
  | .nx e => match unE i e with | some e => .nx e | none => .stuck
  | .bk e => match unE i e with | some e => .bk e | none => .stuck
  | .ct e => match unE i e with | some e => .ct e | none => .stuck
  | .rt x e => .rt x e
  | .exc _ _ => .stuck
  | .stuck => .stuck
def sTry (c i : Nat) (b : SM) (h : Exn → SM) : SM := fun e => match b e with
  | .exc x e1 => if x.cls = c then (match unE i e1 with
    | some e2 => finE i (h x e2)
    | none => .stuck) else .stuck
  | r => r
@[simp] theorem sTry_ev {c i : Nat} {b : SM} {h : Exn → SM} {e : Env} : sTry c i b h e = (match b e with
  | .exc x e1 => if x.cls = c then (match unE i e1 with
    | some e2 => finE i (h x e2)
    | none => .stuck) else .stuck
  | r => r) := rfl
section
variable {k : Kc} {c : Fr} {G H : Hp} {σ : L2.St} {e e' : Env} {i : Nat}
theorem unE_ok (h : unE i e = some e') : e' = e.set i none ∧ i < e.length ∧ ∀ x, e[i]? ≠ some (some (.p x)) := by
  unfold unE at h
  cases q : e[i]? with
  | none => rw [q] at h; cases h
  | some o =>
    rw [q] at h
    have h : (if isP o = true then none else some (e.set i none)) = some e' := h
    split at h
    · cases h
    · rename_i hp
      cases h
      refine ⟨rfl, (List.getElem?_eq_some_iff.mp q).1, fun x z => ?_⟩
      have z : o = some (.p x) := Option.some.inj z
      subst z
      exact hp rfl
theorem unpinned (r : RepS k c G σ H e) (h : ∀ x, e[i]? ≠ some (some (.p x))) : c.P i = none := by
  cases q : c.P i with
  | none => rfl
  | some a =>
    obtain ⟨x, h1, _⟩ := r.pin i a q
    exact absurd h1 (h x)
/-- the slot's value is another one, of which nothing is known -/
theorem RepS.blank (r : RepS k c G σ H e) (h : unE i e = some e') (o : Option V) : RepS k c G (σ.set i o) H e' := by
  obtain ⟨rfl, hl, hp⟩ := unE_ok h
  have hP := unpinned r hp
  have old : ∀ {j : Nat} {z : EV}, (e.set i none)[j]? = some (some z) → i ≠ j ∧ e[j]? = some (some z) := fun {j z} hz => by
    rcases set_get hz with ⟨_, q, _⟩ | q
    · cases q
    · exact q
  refine ⟨r.g0, r.gh, r.oh, r.fr, r.tb, by rw [List.length_set, List.length_set]; exact r.len, fun j z hz => ?_, fun j l b z w hz hw z1 z2 s1 s2 => ?_, fun j b hb => ?_⟩
  · obtain ⟨h1, h2⟩ := old hz
    obtain ⟨v, h3, h4⟩ := r.slot j z h2
    exact ⟨v, by rw [List.getElem?_set_ne h1]; exact h3, h4⟩
  · obtain ⟨a1, a2⟩ := old hz
    obtain ⟨b1, b2⟩ := old hw
    rw [List.getElem?_set_ne a1] at s1
    rw [List.getElem?_set_ne b1] at s2
    exact r.dis j l b z w a2 b2 z1 z2 s1 s2
  · obtain ⟨z, h1, h2⟩ := r.pin j b hb
    have hij : i ≠ j := fun q => by subst q; rw [hP] at hb; cases hb
    exact ⟨z, by rw [List.getElem?_set_ne hij]; exact h1, by rw [List.getElem?_set_ne hij]; exact h2⟩
theorem finE_ok {W : WX} {D : Ends} {r : SRes} (p : PostS k W c G D (finE i r)) :
    PostS k W0 c G { nx := fun σ' H' => D.nx (σ'.set i none) H', rt := D.rt, bk := fun σ' H' => D.bk (σ'.set i none) H', ct := fun σ' H' => D.ct (σ'.set i none) H' } r := by
  cases r with
  | stuck => exact p.elim
  | exc _ _ => exact p.elim
  | rt x e => exact p
  | nx e =>
    have p : PostS k W c G D (match unE i e with | some e => .nx e | none => .stuck) := p
    cases hu : unE i e with
    | none => rw [hu] at p; exact p.elim
    | some e2 => rw [hu] at p; exact fun G' σ H s r => p G' _ H s (r.blank hu none)
  | bk e =>
    have p : PostS k W c G D (match unE i e with | some e => .bk e | none => .stuck) := p
    cases hu : unE i e with
    | none => rw [hu] at p; exact p.elim
    | some e2 => rw [hu] at p; exact fun G' σ H s r => p G' _ H s (r.blank hu none)
  | ct e =>
    have p : PostS k W c G D (match unE i e with | some e => .ct e | none => .stuck) := p
    cases hu : unE i e with
    | none => rw [hu] at p; exact p.elim
    | some e2 => rw [hu] at p; exact fun G' σ H s r => p G' _ H s (r.blank hu none)
end
section
variable {X : Cx} {ct : Ct} {W : WX} {pos pos' np : Pos} {x n : Str} {body : List Stmt} {b₀ : Stmt} {b : SM} {h : Exn → SM} {cn i : Nat}
theorem s_try (hs : X.stack = X.env :: X.outer) (hf : X.env.frame = some X.env.locals) (hN : X.N.Nodup) (hi : X.N[i]? = some n) (hln : X.env.kindOf n = some .local) (hc : Names X x (.ref (ct cn))) (tk : Takes X W)
    (hex : PySem.W.exmOne X.K (.ref (ct cn)) (.ref (ct cn)) = some true)
    (hb : ∀ (W' : WX) (pn : List (Addr × Obj)) (xe : Value → Shared → Prop), Takes (X.tr pn xe) W' → SSs (X.tr pn xe) ct W' body b)
    (hh : ∀ (a : Addr) (oe : Obj) (cls : Value) (d : Option Addr) (pn : List (Addr × Obj)), Zc cls d oe → (∃ vs, oe.data = .fields vs) → SH (X.suite a ((a, oe) :: pn)) ct i a cls d b₀ h) :
    SS X ct W (.Try body [.ExceptHandler (some (.Name x np)) (some n) [b₀] pos'] [] [] pos) (sTry cn i b h) :=
  PSw (ps_try_as (tb := fun W' => TS ⟨X.K, ct⟩ W' b) (ts := tH ⟨X.K, ct⟩ i h) (Wout := W) hs hf hN hi hln hc tk (fun W' pn xe tk' _ => hb W' pn xe tk') (fun a oe cls d pn hz hd => pss_one (hh a oe cls d pn hz hd))) fun D σ H q => by
    obtain ⟨c, G, e, r, p⟩ := q
    refine ⟨c, G, e, r, ?_⟩
    have p : PostS ⟨X.K, ct⟩ W c G D (match b e with
      | .exc x e1 => if x.cls = cn then (match unE i e1 with
        | some e2 => finE i (h x e2)
        | none => .stuck) else .stuck
      | r => r) := p
    cases hbe : b e with
    | stuck => rw [hbe] at p; exact p.elim
    | nx e1 => rw [hbe] at p; exact p
    | bk e1 => rw [hbe] at p; exact p
    | ct e1 => rw [hbe] at p; exact p
    | rt y e1 => rw [hbe] at p; exact p
    | exc y e1 =>
      rw [hbe] at p
      have p : PostS ⟨X.K, ct⟩ W c G D (if y.cls = cn then (match unE i e1 with
        | some e2 => finE i (h y e2)
        | none => .stuck) else .stuck) := p
      by_cases hy : y.cls = cn
      · rw [if_pos hy] at p
        cases hu : unE i e1 with
        | none => rw [hu] at p; exact p.elim
        | some e2 =>
          rw [hu] at p
          intro G' σ' H' cls dc s' r' hx
          have ecls : cls = .ref (ct cn) := by rw [hx.1, hy]
          refine ⟨true, by rw [ecls]; exact hex, fun _ a ha => ?_, fun z => by cases z⟩
          obtain ⟨_, hl, _⟩ := unE_ok hu
          refine ⟨by rw [List.getElem?_set_self (by rw [← r'.len]; exact hl)], y, c, G', e2, r'.blank hu _, hx, (finE_ok p).mono s'⟩
      · rw [if_neg hy] at p; exact p.elim
end
end MM
end
section
set_option Elab.async false
set_option linter.all false
set_option autoImplicit false
set_option maxRecDepth 100000
set_option maxHeartbeats 4000000
namespace MM
open PySem PySem.Spec PyProof.Rows L2
/-! ### expressions in an except suite: e.f, repr, == of texts -/
theorem RepX.mono {k : Kc} {G G' H H' : Hp} {cls : Value} {d : Option Addr} {x : Exn} (h : RepX k G H cls d x) (s : Same G G') : RepX k G' H' cls d x := by
  obtain ⟨h1, h2⟩ := h
  refine ⟨h1, ?_⟩
  rcases h2 with h2 | ⟨dd, fs, e1, e2, e3, e4⟩
  · exact .inl h2
  · exact .inr ⟨dd, fs, e1, s _ _ e2, e3, e4.mono s⟩
def xE (f : EM D) : Exn → EM D := fun _ => f
/-- e.f: the one field -/
def xFld (cn : Nat) : Exn → EM D := fun x e => if x.cls = cn then (match x.fs with
  | [d] => .ok d e
  | _ => .stuck) else .stuck
def xRepr (f : Exn → EM D) : Exn → EM D := fun x e => (f x e).bind fun d e1 => match fReprD d with
  | some (.d z) => .ok z e1
  | _ => .stuck
def xEqT (f g : Exn → EM D) : Exn → EM D := fun x e => (f x e).bind fun a e1 => (g x e1).bind fun b e2 => match a, b with
  | .str s, .str t => .ok (.bl (decide (s = t))) e2
  | _, _ => .stuck
def hSet (j : Nat) (f : Exn → EM D) : Exn → SM := fun x => sSet j (vD (f x))
def hRet (f : Exn → EM D) : Exn → SM := fun x => sRet (vD (f x))
section
variable {Y : Cx} {ct : Ct} {i j : Nat} {a : Addr} {cls : Value} {d : Option Addr} {ex ex1 ex2 : Expr} {f g : Exn → EM D} {pos p pos' : Pos} {y : Str}
theorem h_e {f : EM D} (h : SE Y ct W0 ex f) : HE Y ct i a cls d ex (xE f) := PEw h fun σ H Q q => by
  obtain ⟨_, x, c, G, e, r, _, p⟩ := q
  exact ⟨c, G, e, r, p⟩
theorem h_eqT (ha : HE Y ct i a cls d ex1 f) (hb : HE Y ct i a cls d ex2 g) (hm : behindInMarks .Eq ex2 = false) : HE Y ct i a cls d (.Compare ex1 [.Eq] [ex2] pos) (xEqT f g) := PEw (pe_cmpR op_eq ha hb hm) fun σ H Q q => by
  obtain ⟨hs, x, c, G, e, r, hx, p⟩ := q
  refine ⟨hs, x, c, G, e, r, hx, (Post.bind p).imp fun G1 H1 e1 d1 s1 r1 p1 v hv => ⟨hs, x, c, G1, e1, r1, hx.mono s1, (Post.bind p1).imp fun G2 H2 e2 d2 s2 r2 p2 w hw => ?_⟩⟩
  split at p2
  · cases hv
    cases hw
    exact ⟨rfl, by rw [dec_V]; exact p2.now r2 _ (.bl _)⟩
  · exact p2.elim
theorem cr_reprD2 {X : Cx} (hgu : X.A.guards = some []) (hun : X.A.units + 200 < cLine) : CallR X (.builtin "repr") (rReprD X.K) := by
  intro pins s σ H xs us Q I r h
  obtain ⟨x, rfl, h⟩ := h
  obtain ⟨u, rfl, rv⟩ := vals1 r
  rcases h with ⟨d, hd, nd, hs, hdp, hsz, q⟩ | ⟨a, rfl, ha, q⟩
  · have rd := Dp.reads I d x u hd rv
    obtain ⟨as, rd⟩ := rd
    have go : ∀ {a : Addr}, Reads s.heap (.ref a) d as → wpAny (model X.prog X.w) X.A (call (.builtin "repr") [.ref a]) (EP X pins σ Q) X.xe s := fun {a} rd =>
      repr_of_reads' rd hs (fun e => by rw [nd] at e; cases e) hgu (by omega) (fun _ _ e => e) (fun h' t tk hk => ⟨.str d.shown, H, I.kept hk, ⟨t, rfl⟩, q⟩) hsz
    cases hd with
    | non => cases rv; simp only [PyData.shown] at q; exact PySem.P.repr_of_none ⟨.str _, H, I.tok _, ⟨_, rfl⟩, q⟩
    | bl b => cases rv; simp only [PyData.shown] at q; exact PySem.P.repr_of_bool ⟨.str _, H, I.tok _, ⟨_, rfl⟩, q⟩
    | int i =>
      obtain ⟨t, rfl⟩ := rv
      simp only [PyData.shown] at q
      simp only [PyData.showable] at hs
      exact PySem.P.repr_of_int (of_decide_eq_true hs) ⟨.str _, H, I.tok _, ⟨_, rfl⟩, q⟩
    | str y =>
      obtain ⟨t, rfl⟩ := rv
      simp only [PyData.shown] at q hsz
      exact PySem.P.repr_of_str ⟨.str _, H, I.tok _, ⟨_, rfl⟩, q⟩ hsz
    | lst _ _ => cases rv; exact go rd
    | tup _ _ => cases rv; exact go rd
  · cases (show u = Value.ref a from rv)
    obtain ⟨_, hsm, vs, hk, o, es, ep, e1, e2, e3, _, hp, _⟩ := (show ObjOk X.prog X.w H s.heap a (.dK []) from I.hok a _ ha)
    cases hk
    have e4 : es.toList = [] := by
      cases hl : es.toList with
      | nil => rfl
      | cons y ys => rw [hl] at hp; cases hp
    have rd : Reads s.heap (.ref a) (.dict []) (a :: [] ++ []) := .dict e1 e2.1 e3 (by rw [e4]; exact .nil) (by rw [e4]; exact .nil)
    refine repr_of_reads' rd (by simp only [PyData.showable, PyData.showableKv]) (fun _ z => ?_) hgu (by simp only [PyData.depth, PyData.depthKv]; omega) (fun _ _ e => e) (fun h' t tk hk => ⟨.str "{}", H, I.kept hk, ⟨t, ?_⟩, q⟩) ?_
    · have z : a = sysModules := by
        have z : sysModules ∈ [a] := z
        exact (List.mem_singleton.mp z).symm
      rw [z] at hsm
      simp at hsm
    · simp only [PyData.shown, PyData.shownKv]
      rfl
    · simp only [PyData.shown, PyData.shownKv]
      decide +kernel
theorem h_repr (hgu : Y.A.guards = some []) (hun : Y.A.units + 200 < cLine) (hg : Gl Y "repr") (hm : Y.mg "repr" = none) (hv : bootBuiltins "repr" = some (.builtin "repr")) (ha : HE Y ct i a cls d ex f)
    (he : starEach [ex] Y.env = (false, eval ex Y.env) :: starEach [] Y.env := by rfl) (hpl : (backTo pos (starEach [] Y.env)).any (·.1) = false := by rfl) : HE Y ct i a cls d (.Call (.Name "repr" p) [ex] [] pos) (xRepr f) :=
  PEw (pe_callB (cr_reprD2 hgu hun) hg hm hv (pa_cons ha pa_nil he) (by decide) (by decide) he hpl) fun σ H Q q => by
    obtain ⟨hs, x, c, G, e, r, hx, p⟩ := q
    refine ⟨hs, x, c, G, e, r, hx, (Post.bind p).imp fun G1 H1 e1 d1 s1 r1 p1 v hv => ?_⟩
    cases hz : fReprD d1 with
    | none => rw [hz] at p1; exact p1.elim
    | some z =>
      rw [hz] at p1
      cases z with
      | d z =>
        refine g_reprD (X := Y) (ct := ct) c G1 H1 σ e1 [v] [d1] (.d z) Q r1 (.cons (.inl hv) .nil) (by simp [gF1, hz]) fun G' H' w s' r' hw => p1 G' H' s' r' w hw
      | _ => exact p1.elim
end
section
variable {X : Cx} {ct : Ct} {i j cn : Nat} {a : Addr} {oe : Obj} {cls : Value} {d : Option Addr} {pn : List (Addr × Obj)} {n fl y : Str} {pos p pos' : Pos} {ex : Expr} {f : Exn → EM D}
theorem h_fld (T : XfC X.K (ct cn)) (hno : PySem.W.findIn X.K (.ref (ct cn)) fl = some none) (hf : clsNames cn = [fl]) (hz : Zc cls d oe) (hd : ∃ vs, oe.data = .fields vs) (he : PE (X.suite a ((a, oe) :: pn)) ex (tVar i)) (hb : attributeBase ex fl X.env (eval ex X.env) = eval ex X.env := by rfl) :
    HE (X.suite a ((a, oe) :: pn)) ct i a cls d (.Attribute ex fl pos) (xFld cn) := PEw (pe_xf T hno hz hd he hb) fun σ H Q q => by
  obtain ⟨hs, x, c, G, e, r, hx, p⟩ := q
  unfold xFld at p
  by_cases hc : x.cls = cn
  · rw [if_pos hc] at p
    obtain ⟨h1, h2⟩ := hx
    split at p
    · rename_i y hy
      rcases h2 with h2 | ⟨dd, fs, e1, e2, e3, e4⟩
      · rw [hy] at h2; cases h2.1
      · rw [hc, hf] at e3
        rw [hy] at e4
        match fs, e3, e4 with
        | [q1], e3, e4 =>
          have hq : q1.1 = fl := by simpa using e3
          cases e4 with
          | cons h3 _ =>
            exact ⟨.ref a, hs, rfl, by rw [h1, hc], dd, [q1], q1.2, e1, r.gh _ _ e2, by rw [← hq]; simp [List.lookup], p G H (Same.refl _) r _ h3⟩
        | [], e3, _ => simp at e3
        | _ :: _ :: _, e3, _ => simp at e3
    · exact p.elim
  · rw [if_neg hc] at p; exact p.elim
theorem hs_set (hN : X.N.Nodup) (hj : X.N[j]? = some y) (hx : Loc X.env.scope y) (hf' : X.fn y = true ∨ X.env.scope.names.lookup y = some .local) (he : HE (X.suite a ((a, oe) :: pn)) ct i a cls d ex f) (hs : swapsWith ex (some (.Name y pos')) pos.line X.env = pure false := by rfl) :
    SH (X.suite a ((a, oe) :: pn)) ct i a cls d (.Assign [.Name y pos'] ex pos) (hSet j f) := PSw (ps_set hN hj hx he hs hf') fun D σ H q => by
  obtain ⟨h1, x, c, G, e, r, hx', p⟩ := q
  refine ⟨h1, x, c, G, e, r, hx', ?_⟩
  have p : PostS ⟨X.K, ct⟩ W0 c G D ((vD (f x) e).sb fun y e1 => putE j y e1) := p
  unfold vD at p
  cases hfe : f x e with
  | stuck => rw [hfe] at p; exact p.elim
  | exc y e1 => rw [hfe] at p; exact fun G' H' cls dc s' r' hx => p G' σ H' cls dc s' r' hx
  | ok z e1 =>
    rw [hfe] at p
    intro G' H' s' r' v hv
    exact putE_ok r' (show RpV ⟨X.K, ct⟩ c G' σ H' e1 v (.d z) from hv) (PostS.mono p s')
theorem hs_ret (he : HE (X.suite a ((a, oe) :: pn)) ct i a cls d ex f) : SH (X.suite a ((a, oe) :: pn)) ct i a cls d (.Return (some ex) pos) (hRet f) := PSw (ps_ret he) fun D σ H q => by
  obtain ⟨h1, x, c, G, e, r, hx', p⟩ := q
  refine ⟨h1, x, c, G, e, r, hx', ?_⟩
  have p : PostS ⟨X.K, ct⟩ W0 c G D ((vD (f x) e).sb fun y e1 => .rt y e1) := p
  unfold vD at p
  cases hfe : f x e with
  | stuck => rw [hfe] at p; exact p.elim
  | exc y e1 => rw [hfe] at p; exact fun G' H' cls dc s' r' hx => p G' σ H' cls dc s' r' hx
  | ok z e1 =>
    rw [hfe] at p
    intro G' H' s' r' v hv
    exact p G' σ H' v s' r' hv
end
@[simp] theorem xE_ev {f : EM D} {x : Exn} {e : Env} : xE f x e = f e := rfl
@[simp] theorem xFld_ev {cn : Nat} {x : Exn} {e : Env} : xFld cn x e = if x.cls = cn then (match x.fs with
  | [d] => .ok d e
  | _ => .stuck) else .stuck := rfl
@[simp] theorem xRepr_ev {f : Exn → EM D} {x : Exn} {e : Env} : xRepr f x e = (f x e).bind fun d e1 => match fReprD d with
  | some (.d z) => .ok z e1
  | _ => .stuck := rfl
@[simp] theorem xEqT_ev {f g : Exn → EM D} {x : Exn} {e : Env} : xEqT f g x e = (f x e).bind fun a e1 => (g x e1).bind fun b e2 => match a, b with
  | .str s, .str t => .ok (.bl (decide (s = t))) e2
  | _, _ => .stuck := rfl
@[simp] theorem hSet_ev {j : Nat} {f : Exn → EM D} {x : Exn} : hSet j f x = sSet j (vD (f x)) := rfl
@[simp] theorem hRet_ev {f : Exn → EM D} {x : Exn} : hRet f x = sRet (vD (f x)) := rfl
end MM
end
section
set_option Elab.async false
set_option linter.all false
set_option autoImplicit false
set_option maxRecDepth 100000
set_option maxHeartbeats 4000000
namespace MM
open PySem PySem.Spec PyProof.Rows L2
/-! ### an own exception class, all that is asked of it -/
structure ExAt (P : Program) (w : World) (K : PySem.W.Frag) (mg : Str → Option Value) (base : Heap) (ct : Ct) (cn : Nat) (x f : Str) : Prop where
  ex : ∃ (fI : Addr) (fd : FuncData) (n1 n2 : Str), FnOk P w K mg base (L2.CX P w) 1 fI fd [n1, n2] (spX K f) ∧ Binds K fd [n1, n2] [] ∧ PySem.W.findIn K (.ref (ct cn)) "__init__" = some (some (.ref fI)) ∧ PySem.W.typeIn K (.ref fI) = some (.type "function")
  T : OexC K (ct cn)
  X : XfC K (ct cn)
  no : PySem.W.findIn K (.ref (ct cn)) f = some none
  em : PySem.W.exmOne K (.ref (ct cn)) (.ref (ct cn)) = some true
  mg : mg x = some (.ref (ct cn))
  nm : clsNames cn = [f]
section
variable {X : Cx} {ct : Ct} {W : WX} {pos pos' np p p2 : Pos} {x f n : Str} {ex : Expr} {fe : EM D} {cn i k : Nat} {body : List Stmt} {b₀ : Stmt} {b : SM} {h : Exn → SM}
theorem s_raiseA (E : ExAt X.prog X.w X.K X.mg X.base ct cn x f) (hcalm : X.calm = true) (tk : Takes X W) (hr : Room 2 X.A) (hg : Gl X x) (he : SE X ct W ex fe) (hdb : (x == ("__debug__" : Str)) = false := by decide)
    (hst : starEach [ex] X.env = (false, eval ex X.env) :: starEach [] X.env := by rfl) (hpl : (backTo p2 (starEach [] X.env)).any (·.1) = false := by rfl) :
    SS X ct W (.Raise (some (.Call (.Name x p) [ex] [] p2)) none pos) (sRaise cn fe) := by
  obtain ⟨fI, fd, n1, n2, h1, h2, h3, h4⟩ := E.ex
  exact s_raise hcalm tk rfl E.nm E.T h3 h4 E.no h1 hr h2 hg E.mg he hdb hst hpl
theorem s_tryA (E : ExAt X.prog X.w X.K X.mg X.base ct cn x f) (hs : X.stack = X.env :: X.outer) (hf : X.env.frame = some X.env.locals) (hN : X.N.Nodup) (hi : X.N[i]? = some n) (hln : X.env.kindOf n = some .local) (hg : Gl X x) (tk : Takes X W)
    (hb : ∀ (W' : WX) (pn : List (Addr × Obj)) (xe : Value → Shared → Prop), Takes (X.tr pn xe) W' → SSs (X.tr pn xe) ct W' body b)
    (hh : ∀ (a : Addr) (oe : Obj) (cls : Value) (d : Option Addr) (pn : List (Addr × Obj)), Zc cls d oe → (∃ vs, oe.data = .fields vs) → SH (X.suite a ((a, oe) :: pn)) ct i a cls d b₀ h) (hdb : (x == ("__debug__" : Str)) = false := by decide) :
    SS X ct W (.Try body [.ExceptHandler (some (.Name x np)) (some n) [b₀] pos'] [] [] pos) (sTry cn i b h) := s_try hs hf hN hi hln ⟨hg, hdb, .inl E.mg⟩ tk E.em hb hh
end
end MM
namespace MM
theorem hu200 {k : Nat} {A : PySem.Around} (hr : L2.Room k A) : A.units + 200 < PySem.cLine := by have := hr.un; omega
end MM
end
section
set_option Elab.async false
set_option linter.all false
set_option autoImplicit false
set_option maxRecDepth 100000
set_option maxHeartbeats 4000000
namespace MM
open PySem PySem.Spec PyProof.Rows L2
/-! ### len(set(xs)) of numbers -/
def vLenSet2 (f : EM (List Tk)) : EM EV := fun e => (f e).bind fun ts e1 => match rdKs e1 ts with
  | some [d] => (match intsOf2 d with
    | some ns => if ns.length < 4000 then .ok (.d (.int (usortI ns).length)) e1 else .stuck
    | none => .stuck)
  | _ => .stuck
def tLenSet2 (K : PySem.W.Frag) (ta : L2.TE) : L2.TE := fun σ H Q => ta σ H fun x H1 => ∃ (l : Addr) (ns : List Int), x = V.ref l ∧ (SqL K H1 l (ns.map V.int) ∨ SqT K H1 l (ns.map V.int)) ∧ ns.length < 4000 ∧ Q (.int (usortI ns).length) H1
section
variable {X : Cx} {ct : Ct} {W : WX} {a : Expr} {ta : L2.TE} {p p2 q pos : Pos} {fa : EM Tk}
theorem pe_lenSet2 (hc : X.calm = true) (hg : Gl X "len") (hm : X.mg "len" = none) (hg2 : Gl X "set") (hm2 : X.mg "set" = none) (ha : PE X a ta)
    (na : starEach [a] X.env = (false, eval a X.env) :: starEach [] X.env := by rfl) : PE X (.Call (.Name "len" p) [.Call (.Name "set" p2) [a] [] q] [] pos) (tLenSet2 X.K ta) := by
  refine ⟨fun pins s σ H Q I h => ?_⟩
  refine PyProof.Rows.Call_ (ld_blt I hg hm (show bootBuiltins "len" = some (.builtin "len") by decide +kernel) ?_)
  refine PyProof.Rows.callWith_builtin1 (PyProof.Rows.args_cons ?_ rfl) rfl rfl
  refine PyProof.Rows.Call_ (ld_blt I hg2 hm2 PyProof.Rows.boot_set ?_)
  refine PyProof.Rows.callWith_type1 (PyProof.Rows.args_cons (thn (ha.run pins s σ H _ I h) fun v s1 ⟨x, H1, I1, r1, q1⟩ => PyProof.Rows.args_nil ?_) na) na rfl
  obtain ⟨l, ns, rfl, hq, h1, q1⟩ := q1
  cases r1
  have hq2 : ∃ its : List Value, Vals (ns.map V.int) its ∧ (s1.heap.IsList l its.toArray ∨ s1.heap.IsTuple l its.toArray) := by
    rcases hq with hq | hq
    · obtain ⟨its, r, pl, hz⟩ := I1.list hq
      exact ⟨its, r, .inl pl.isList⟩
    · obtain ⟨its, r, it, hz⟩ := I1.tuple hq
      exact ⟨its, r, .inr it⟩
  obtain ⟨its, r, pl⟩ := hq2
  refine mir_set_any ns (I1.ok.hd hc) pl (by simpa using r.ints) (by unfold scanBound; omega) fun h' tk c hS hcn hk => ?_
  refine PyProof.Rows.args_nil ?_
  have I2 : Inv X pins σ H1 { s1 with heap := h', toks := tk } := I1.kept hk
  have hS0 := hS
  obtain ⟨o, es, ep, t, ho, hex, hd, g, nd, hmm, hb, hf, hn, hr, hl⟩ := hS0
  have e0 : es.size = (usortI ns).length := by
    have hnd : (es.toList.map keyOf).Nodup := nd
    have hsub : ∀ y ∈ es.toList.map keyOf, y ∈ usortI ns := fun y hy => by
      rw [usortI_mem]
      have := (hmm y).mpr hy
      simpa using this
    have hsub2 : ∀ y ∈ usortI ns, y ∈ es.toList.map keyOf := fun y hy => by
      rw [usortI_mem] at hy
      exact (hmm y).mp (by simpa using hy)
    have hnd2 : (usortI ns).Nodup := (usortI_lt ns).imp fun h => Int.ne_of_lt h
    have l1 : (es.toList.map keyOf).length ≤ (usortI ns).length := nodup_len hnd hsub
    have l2 : (usortI ns).length ≤ (es.toList.map keyOf).length := nodup_len hnd2 hsub2
    have l3 : (es.toList.map keyOf).length = es.size := by rw [List.length_map, Array.length_toList]
    omega
  have hul : (usortI ns).length ≤ ns.length := by
    have hnd2 : (usortI ns).Nodup := (usortI_lt ns).imp fun h => Int.ne_of_lt h
    exact nodup_len hnd2 fun x hx => usortI_mem.mp hx
  exact call_len_set ho hex hd hf (by rw [e0]; omega) ⟨.int (usortI ns).length, H1, I2.tok _, ⟨_, by rw [e0]⟩, q1⟩
theorem v_lenSet2 (hc : X.calm = true) (hg : Gl X "len") (hm : X.mg "len" = none) (hg2 : Gl X "set") (hm2 : X.mg "set" = none) (ha : SK X ct W a fa)
    (na : starEach [a] X.env = (false, eval a X.env) :: starEach [] X.env := by rfl) : SV X ct W (.Call (.Name "len" p) [.Call (.Name "set" p2) [a] [] q] [] pos) (vLenSet2 (aCons fa aNil)) := by
  refine PEw (pe_lenSet2 hc hg hm hg2 hm2 ha na) fun σ H Q q => ?_
  obtain ⟨c, G, e, r, p⟩ := q
  have p : Post ⟨X.K, ct⟩ W c G σ (fun G' H' e' x => ∀ v, RpV ⟨X.K, ct⟩ c G' σ H' e' v x → Q v H') (((fa e).bind fun t e1 => .ok [t] e1).bind fun ts e1 => match rdKs e1 ts with
    | some [d] => (match intsOf2 d with
      | some ns => if ns.length < 4000 then .ok (.d (.int (usortI ns).length)) e1 else .stuck
      | none => .stuck)
    | _ => .stuck) := p
  refine ⟨c, G, e, r, (Post.bind (Post.bind p)).imp fun G1 H1 e1 t s1 r1 p1 v hv => ?_⟩
  have p1 := p1.now r1
  cases hd : rdK e1 t with
  | none =>
    have hz : rdKs e1 [t] = none := by show (match rdK e1 t, rdKs e1 [] with | some d, some ds => some (d :: ds) | _, _ => none) = none; rw [hd]
    rw [hz] at p1; exact p1.elim
  | some d =>
    have hz : rdKs e1 [t] = some [d] := by show (match rdK e1 t, rdKs e1 [] with | some d, some ds => some (d :: ds) | _, _ => none) = some [d]; rw [hd]; rfl
    rw [hz] at p1
    have rb : RB ⟨X.K, ct⟩ G1 H1 v d := .of r1 hv hd
    cases hi : intsOf2 d with
    | none =>
      have p2 : Post ⟨X.K, ct⟩ W c G1 σ (fun G' H' e' x => ∀ v, RpV ⟨X.K, ct⟩ c G' σ H' e' v x → Q v H') (match intsOf2 d with
        | some ns => if ns.length < 4000 then .ok (.d (.int (usortI ns).length)) e1 else .stuck
        | none => .stuck) := p1
      rw [hi] at p2; exact p2.elim
    | some ns =>
      have p2 : Post ⟨X.K, ct⟩ W c G1 σ (fun G' H' e' x => ∀ v, RpV ⟨X.K, ct⟩ c G' σ H' e' v x → Q v H') (match intsOf2 d with
        | some ns => if ns.length < 4000 then .ok (.d (.int (usortI ns).length)) e1 else .stuck
        | none => .stuck) := p1
      rw [hi] at p2
      have p3 : Post ⟨X.K, ct⟩ W c G1 σ (fun G' H' e' x => ∀ v, RpV ⟨X.K, ct⟩ c G' σ H' e' v x → Q v H') (if ns.length < 4000 then .ok (.d (.int (usortI ns).length)) e1 else .stuck) := p2
      split at p3
      · rename_i hl
        obtain ⟨ad, rfl, h1⟩ := RB.ints2 rb r1.gh hi
        exact ⟨ad, ns, rfl, h1, hl, p3 G1 _ (Same.refl _) r1 _ (.int _)⟩
      · exact p3.elim
end
@[simp] theorem vLenSet2_ev {f : EM (List Tk)} {e : Env} : vLenSet2 f e = (f e).bind fun ts e1 => match rdKs e1 ts with
  | some [d] => (match intsOf2 d with
    | some ns => if ns.length < 4000 then .ok (.d (.int (usortI ns).length)) e1 else .stuck
    | none => .stuck)
  | _ => .stuck := rfl
end MM
end
section
set_option Elab.async false
set_option linter.all false
set_option autoImplicit false
set_option maxRecDepth 100000
set_option maxHeartbeats 4000000
namespace MM
open PySem PySem.Spec PyProof.Rows L2
/-! ### texts -/
def strs? : List D → Option (List Str)
  | [] => some []
  | .str x :: ds => (strs? ds).map (x :: ·)
  | _ :: _ => none
theorem strs?_ok : ∀ {ds : List D} {ys : List Str}, strs? ds = some ys → ds = ys.map D.str
  | [], ys, h => by cases h; rfl
  | d :: ds, ys, h => by
    cases d with
    | str x =>
      have h : (strs? ds).map (x :: ·) = some ys := h
      obtain ⟨zs, h1, rfl⟩ := Option.map_eq_some_iff.mp h
      rw [strs?_ok h1]
      rfl
    | _ => cases h
@[simp] theorem strs?_map : ∀ ys : List Str, strs? (ys.map D.str) = some ys
  | [] => rfl
  | y :: ys => by
    show (strs? (ys.map D.str)).map (y :: ·) = _
    rw [strs?_map ys]; rfl
theorem Rps.strs {k : Kc} {G : Hp} : ∀ {vs : List V} {ys : List Str}, Rps k G vs (ys.map D.str) → vs = ys.map V.str
  | [], [], _ => rfl
  | _, [], h => by cases h; rfl
  | _, y :: ys, h => by
    cases h with
    | cons a b => cases a; rw [Rps.strs b]; rfl
theorem Rps.ofStrs {k : Kc} {G : Hp} : ∀ ys : List Str, Rps k G (ys.map V.str) (ys.map D.str)
  | [] => .nil
  | y :: ys => .cons (.str y) (Rps.ofStrs ys)
def strsOf : D → Option (List Str)
  | .lst ds => strs? ds
  | .tup ds => strs? ds
  | _ => none
/-! x.split(y) -/
def vSplit (fa fb : EM Tk) : EM EV := fun e => (fa e).bind fun t e1 => match rdK e1 t with
  | some (.str a) => (fb e1).bind fun u e2 => (match rdK e2 u with
    | some (.str b) => if (b.length == 0) = false ∧ a.length + 2 ≤ LIM then .ok (.m (.lst ((Txt.split a b).map D.str))) e2 else .stuck
    | _ => .stuck)
  | _ => .stuck
@[simp] theorem vSplit_ev {fa fb : EM Tk} {e : Env} : vSplit fa fb e = (fa e).bind fun t e1 => match rdK e1 t with
  | some (.str a) => (fb e1).bind fun u e2 => (match rdK e2 u with
    | some (.str b) => if (b.length == 0) = false ∧ a.length + 2 ≤ LIM then .ok (.m (.lst ((Txt.split a b).map D.str))) e2 else .stuck
    | _ => .stuck)
  | _ => .stuck := rfl
/-! x.join(ys) -/
def cJoin (fa fb : EM Tk) : EM D := fun e => (fa e).bind fun t e1 => match rdK e1 t with
  | some (.str a) => (fb e1).bind fun u e2 => (match rdK e2 u with
    | some d => (match strsOf d with
      | some ys => if (ys.map (·.length)).sum + ys.length * a.length ≤ 16777216 then .ok (.str (Txt.join a ys)) e2 else .stuck
      | none => .stuck)
    | _ => .stuck)
  | _ => .stuck
@[simp] theorem cJoin_ev {fa fb : EM Tk} {e : Env} : cJoin fa fb e = (fa e).bind fun t e1 => match rdK e1 t with
  | some (.str a) => (fb e1).bind fun u e2 => (match rdK e2 u with
    | some d => (match strsOf d with
      | some ys => if (ys.map (·.length)).sum + ys.length * a.length ≤ 16777216 then .ok (.str (Txt.join a ys)) e2 else .stuck
      | none => .stuck)
    | _ => .stuck)
  | _ => .stuck := rfl
def gIxT : D → D → Option D
  | .str z, .int i => if z.length ≤ LIM then (atI z.cps.toList i).map fun c => .str ⟨#[c]⟩ else none
  | _, _ => none
def vSlT (f : EM Tk) (fl fh : EO) : EM EV := fun e => (f e).bind fun t e1 => (fl e1).bind fun lo e2 => (fh e2).bind fun hi e3 => match rdK e3 t with
  | some (.str z) => if z.length ≤ LIM then .ok (.d (.str (cutS z lo hi))) e3 else .stuck
  | _ => .stuck
@[simp] theorem vSlT_ev {f : EM Tk} {fl fh : EO} {e : Env} : vSlT f fl fh e = (f e).bind fun t e1 => (fl e1).bind fun lo e2 => (fh e2).bind fun hi e3 => match rdK e3 t with
  | some (.str z) => if z.length ≤ LIM then .ok (.d (.str (cutS z lo hi))) e3 else .stuck
  | _ => .stuck := rfl
def fIntT : D → Option EV
  | .str a => match PySem.intText? a with
    | some n => if a.length ≤ 640 then some (.d (.int n)) else none
    | none => none
  | _ => none
def fStrI : D → Option EV
  | .int i => if i.natAbs.log2 < 1920 then some (.d (.str (toString i))) else none
  | _ => none
def signsD (z : Str) : List D := z.cps.toList.map fun c => D.str ⟨#[c]⟩
def iTxt (f : EM D) : EM (List D) := fun e => (f e).bind fun d e1 => match d with
  | .str z => .ok (signsD z) e1
  | _ => .stuck
@[simp] theorem iTxt_ev {f : EM D} {e : Env} : iTxt f e = (f e).bind fun d e1 => match d with
  | .str z => .ok (signsD z) e1
  | _ => .stuck := rfl
def gInT : D → D → Option Bool
  | .str y, .str z => match y.cps.toList with
    | [c] => some (decide (c ∈ z.cps.toList))
    | _ => none
  | _, _ => none
section
variable {X : Cx} {ct : Ct} {W : WX} {pos apos p p2 : Pos} {a b tg : Expr} {fa fb : EM Tk} {fe : EM D} {lo hi : Option Expr} {fl fh : EO}
theorem v_split (ha : SK X ct W a fa) (hb : SK X ct W b fb) (hs : starEach [b] X.env = [(false, eval b X.env)] := by rfl) (hbase : attributeBase a "split" X.env (eval a X.env) = eval a X.env := by rfl) (hline : (apos.endLine == pos.line) = true := by rfl) :
    SV X ct W (.Call (.Attribute a "split" apos) [b] [] pos) (vSplit fa fb) := PEw (pe_split ha hb hs hbase hline) fun σ H Q q => by
  obtain ⟨c, G, e, r, p⟩ := q
  refine ⟨c, G, e, r, (Post.bind p).imp fun G1 H1 e1 t s1 r1 p1 x hx => ?_⟩
  cases hd : rdK e1 t with
  | none => rw [hd] at p1; exact p1.elim
  | some d =>
    rw [hd] at p1
    cases d with
    | str z =>
      have rb : RB ⟨X.K, ct⟩ G1 H1 x (.str z) := .of r1 hx hd
      have ex := rb.str
      subst ex
      refine ⟨⟨z, rfl⟩, c, G1, e1, r1, (Post.bind p1).imp fun G2 H2 e2 u s2 r2 p2 y hy => ?_⟩
      cases hd2 : rdK e2 u with
      | none => rw [hd2] at p2; exact p2.elim
      | some d2 =>
        rw [hd2] at p2
        cases d2 with
        | str w =>
          have rb2 : RB ⟨X.K, ct⟩ G2 H2 y (.str w) := .of r2 hy hd2
          rw [rb2.str]
          have p3 : Post ⟨X.K, ct⟩ W c G2 σ (fun G' H' e' x => ∀ v, RpV ⟨X.K, ct⟩ c G' σ H' e' v x → Q v H') (if (w.length == 0) = false ∧ z.length + 2 ≤ LIM then .ok (.m (.lst ((Txt.split z w).map D.str))) e2 else .stuck) := p2
          split at p3
          · rename_i hc
            refine ⟨z, w, rfl, rfl, hc.1, lim_le hc.2, fun q hq => ?_⟩
            obtain ⟨r3, r4, r5⟩ := r2.newM (x := .lst ((Txt.split z w).map D.str)) hq ⟨_, rfl, Rps.ofStrs _⟩
            exact p3 G2 _ (Same.refl _) r3 _ ⟨q, rfl, r4, r5⟩
          · exact p3.elim
        | _ => exact p2.elim
    | _ => exact p1.elim
theorem RB.strsL {k : Kc} {G H : Hp} {v : V} {d : D} {ys : List Str} (h : RB k G H v d) (g : Same G H) (e : strsOf d = some ys) : ∃ p, v = .ref p ∧ (SqL k.K H p (ys.map V.str) ∨ SqT k.K H p (ys.map V.str)) := by
  cases d with
  | lst ds =>
    have e := strs?_ok (show strs? ds = some ys from e)
    subst e
    obtain ⟨p, vs, rfl, h1, h2⟩ := h.lst g
    rw [h2.strs] at h1
    exact ⟨p, rfl, .inl (SqL.of h1)⟩
  | tup ds =>
    have e := strs?_ok (show strs? ds = some ys from e)
    subst e
    obtain ⟨p, vs, rfl, h1, h2, _⟩ := h.tup g
    rw [h2.strs] at h1
    exact ⟨p, rfl, .inr h1⟩
  | _ => cases e
theorem e_join (ha : SK X ct W a fa) (hb : SK X ct W b fb) (hs : starEach [b] X.env = [(false, eval b X.env)] := by rfl) (hbase : attributeBase a "join" X.env (eval a X.env) = eval a X.env := by rfl) (hline : (apos.endLine == pos.line) = true := by rfl) :
    SE X ct W (.Call (.Attribute a "join" apos) [b] [] pos) (cJoin fa fb) := PEw (pe_join ha hb hs hbase hline) fun σ H Q q => by
  obtain ⟨c, G, e, r, p⟩ := q
  refine ⟨c, G, e, r, (Post.bind p).imp fun G1 H1 e1 t s1 r1 p1 x hx => ?_⟩
  cases hd : rdK e1 t with
  | none => rw [hd] at p1; exact p1.elim
  | some d =>
    rw [hd] at p1
    cases d with
    | str z =>
      have rb : RB ⟨X.K, ct⟩ G1 H1 x (.str z) := .of r1 hx hd
      have ex := rb.str
      subst ex
      refine ⟨⟨z, rfl⟩, c, G1, e1, r1, (Post.bind p1).imp fun G2 H2 e2 u s2 r2 p2 y hy => ?_⟩
      cases hd2 : rdK e2 u with
      | none => rw [hd2] at p2; exact p2.elim
      | some d2 =>
        rw [hd2] at p2
        have rb2 : RB ⟨X.K, ct⟩ G2 H2 y d2 := .of r2 hy hd2
        cases hy2 : strsOf d2 with
        | none =>
          have p3 : Post ⟨X.K, ct⟩ W c G2 σ (fun G' H' e' x => ∀ v, Rp ⟨X.K, ct⟩ G' v x → Q v H') (match strsOf d2 with
            | some ys => if (ys.map (·.length)).sum + ys.length * z.length ≤ 16777216 then .ok (.str (Txt.join z ys)) e2 else .stuck
            | none => .stuck) := p2
          rw [hy2] at p3; exact p3.elim
        | some ys =>
          have p3 : Post ⟨X.K, ct⟩ W c G2 σ (fun G' H' e' x => ∀ v, Rp ⟨X.K, ct⟩ G' v x → Q v H') (match strsOf d2 with
            | some ys => if (ys.map (·.length)).sum + ys.length * z.length ≤ 16777216 then .ok (.str (Txt.join z ys)) e2 else .stuck
            | none => .stuck) := p2
          rw [hy2] at p3
          have p4 : Post ⟨X.K, ct⟩ W c G2 σ (fun G' H' e' x => ∀ v, Rp ⟨X.K, ct⟩ G' v x → Q v H') (if (ys.map (·.length)).sum + ys.length * z.length ≤ 16777216 then .ok (.str (Txt.join z ys)) e2 else .stuck) := p3
          obtain ⟨q1, rfl, hq⟩ := rb2.strsL r2.gh hy2
          split at p4
          · rename_i hc
            exact ⟨z, q1, ys, rfl, rfl, hq, hc, p4 G2 _ (Same.refl _) r2 _ (.str _)⟩
          · exact p4.elim
    | _ => exact p1.elim
theorem e_ixT (ha : SK X ct W a fa) (hb : SK X ct W b fb) (hs : PlainIx b := by exact fun _ _ => rfl) : SE X ct W (.Subscript a b pos) (cBin gIxT fa fb) := PEw (pe_ix ix_str ha hb hs) fun σ H Q q => by
  obtain ⟨c0, G, e, r, p⟩ := q
  refine two_d r p fun G2 H2 e2 x y d d' z s r2 hx hy hz q2 => ?_
  unfold gIxT at hz
  split at hz
  · rename_i w i
    split at hz
    · rename_i hl
      obtain ⟨n, h3, h4⟩ := Option.map_eq_some_iff.mp hz
      subst h4
      rw [hx.str, hy.int]
      exact ⟨w, i, n, rfl, rfl, lim_le hl, h3, q2 _ (.str _)⟩
    · cases hz
  · cases hz
theorem v_sliceT (ha : SK X ct W a fa) (hl : SO X ct W lo fl) (hh : SO X ct W hi fh) : SV X ct W (.Subscript a (.Slice lo hi none p2) pos) (vSlT fa fl fh) := PEw (pe_slice sl_str ha hl hh) fun σ H Q q => by
  obtain ⟨c, G, e, r, p⟩ := q
  refine ⟨c, G, e, r, (Post.bind p).imp fun G1 H1 e1 t s1 r1 p1 x hx => ⟨c, G1, e1, r1, (Post.bind p1).imp fun G2 H2 e2 l s2 r2 p2 => ⟨c, G2, e2, r2, (Post.bind p2).imp fun G3 H3 e3 h s3 r3 p3 => ?_⟩⟩⟩
  cases hd : rdK e3 t with
  | none => rw [hd] at p3; exact p3.elim
  | some d =>
    rw [hd] at p3
    cases d with
    | str z =>
      have hr := RB.of r3 ((hx.mono s2).mono s3) hd
      rw [hr.str]
      have p4 : Post ⟨X.K, ct⟩ W c G3 σ (fun G' H' e' x => ∀ v, RpV ⟨X.K, ct⟩ c G' σ H' e' v x → Q v H') (if z.length ≤ LIM then .ok (.d (.str (cutS z l h))) e3 else .stuck) := p3
      split at p4
      · rename_i hc
        exact ⟨z, rfl, lim_le hc, p4 G3 _ (Same.refl _) r3 _ (.str _)⟩
      · exact p4.elim
    | _ => exact p3.elim
theorem g_intT : CallG ⟨X.K, ct⟩ (fun xs H Q => ∃ a n, xs = [.str a] ∧ PySem.intText? a = some n ∧ a.length ≤ 640 ∧ Q (.int n) H) (gF1 fIntT) := callG1 fun c G H σ e v d z Q re rb hz q => by
  cases d with
  | str x =>
    have hz : (match PySem.intText? x with
      | some n => if x.length ≤ 640 then some (EV.d (.int n)) else none
      | none => none) = some z := hz
    cases hi : PySem.intText? x with
    | none => rw [hi] at hz; cases hz
    | some n =>
      rw [hi] at hz
      have hz : (if x.length ≤ 640 then some (EV.d (.int n)) else none) = some z := hz
      split at hz
      · rename_i hl
        cases hz
        rw [rb.str]
        exact ⟨x, n, rfl, hi, hl, q G H _ (Same.refl _) re (.int _)⟩
      · cases hz
  | _ => cases hz
theorem g_strI : CallG ⟨X.K, ct⟩ (fun xs H Q => ∃ i, xs = [.int i] ∧ i.natAbs.log2 < 1920 ∧ Q (.str (toString i)) H) (gF1 fStrI) := callG1 fun c G H σ e v d z Q re rb hz q => by
  cases d with
  | int x =>
    have hz : (if x.natAbs.log2 < 1920 then some (EV.d (.str (toString x))) else none) = some z := hz
    split at hz
    · rename_i hl
      cases hz
      rw [rb.int]
      exact ⟨x, rfl, hl, q G H _ (Same.refl _) re (.str _)⟩
    · cases hz
  | _ => cases hz
theorem x_inT : CmpX X ct .In gInT := ⟨_, op_in_sign, fun G H x y a b z Q g ra rb hz q => by
  unfold gInT at hz
  split at hz
  · rename_i u w
    split at hz
    · rename_i c hc
      cases hz
      have hu : u = ⟨#[c]⟩ := Str.ext' (Array.toList_inj.mp hc)
      subst hu
      rw [ra.str, rb.str]
      exact ⟨c, w, rfl, rfl, q⟩
    · cases hz
  · cases hz⟩
end
end MM
end
section
set_option Elab.async false
set_option linter.all false
set_option autoImplicit false
set_option maxRecDepth 100000
set_option maxHeartbeats 4000000
namespace MM
open PySem PySem.Spec PyProof.Rows L2
/-! ### texts so many times, sign by sign -/
def gMulS : D → D → Option EV
  | .str z, .int n => if 0 ≤ n ∧ n ≤ 1000 ∧ z.length ≤ 10000 then some (.d (.str (Txt.mul z n))) else none
  | _, _ => none
@[simp] theorem gMulS_ev {z : Str} {n : Int} : gMulS (.str z) (.int n) = if 0 ≤ n ∧ n ≤ 1000 ∧ z.length ≤ 10000 then some (.d (.str (Txt.mul z n))) else none := rfl
theorem mulOk {z : Str} {n : Int} (h : 0 ≤ n ∧ n ≤ 1000 ∧ z.length ≤ 10000) : MulOk z n := by
  refine ⟨?_, fun h1 _ => ?_, fun _ _ => ?_⟩
  · simp only [Bool.or_eq_false_iff, decide_eq_false_iff_not]
    omega
  · have h2 : (2 ^ 63 - 1 : Int) / 1000 ≤ (2 ^ 63 - 1) / n := by
      refine Int.le_ediv_of_mul_le (by omega) ?_
      have : (2 ^ 63 - 1 : Int) / 1000 * n ≤ (2 ^ 63 - 1 : Int) / 1000 * 1000 := Int.mul_le_mul_of_nonneg_left h.2.1 (by decide)
      have h3 : (2 ^ 63 - 1 : Int) / 1000 * 1000 ≤ 2 ^ 63 - 1 := by decide
      omega
    have h3 : (10000 : Int) ≤ (2 ^ 63 - 1) / 1000 := by decide
    omega
  · have : z.length * n.toNat ≤ 10000 * 1000 := Nat.mul_le_mul h.2.2 (by omega)
    unfold Builtin.Str.tooLong
    exact decide_eq_false (by
      have h4 : (10000 * 1000 : Nat) ≤ sizeLine := by decide +kernel
      omega)
def rMulS : R2 := fun x y H Q => ∃ (z : Str) (n : Int), x = .str z ∧ y = .int n ∧ MulOk z n ∧ Q (.str (Txt.mul z n)) H
theorem op_mulS {X : Cx} : OpR X (binaryOp .Mult) rMulS := by
  intro pins s σ H x y v u Q I rx ry h
  obtain ⟨z, n, rfl, rfl, hk, q⟩ := h
  obtain ⟨t, rfl⟩ := rx
  obtain ⟨t', rfl⟩ := ry
  exact SB.mul hk fun t2 k => ⟨.str _, H, I.tok _, ⟨_, rfl⟩, q⟩
theorem opG_mulS {k : Kc} : OpG k rMulS gMulS := fun c G H σ e x y d d' z Q re ra rb hz q => by
  unfold gMulS at hz
  split at hz
  · rename_i w n
    split at hz
    · rename_i hc
      cases hz
      exact ⟨w, n, ra.str, rb.int, mulOk hc, q G H _ (Same.refl _) re (.str _)⟩
    · cases hz
  · cases hz
theorem itOk_txt {k : Kc} {G : Hp} {z : Str} : ItOk k G (Its z) (signsD z) := by
  have l : (signsD z).length = z.cps.size := by unfold signsD; simp
  refine ⟨fun i H hi s => by rw [l] at hi; exact hi, fun H s => by rw [l]; exact Nat.le_refl _, fun i H x H' hi s y => ?_⟩
  obtain ⟨e1, c, h1, rfl⟩ := y
  refine ⟨.str ⟨#[c]⟩, ?_, .inl ⟨e1, .str _⟩⟩
  unfold signsD
  rw [List.getElem?_map, Array.getElem?_toList, h1]
  rfl
section
variable {X : Cx} {ct : Ct} {W : WX} {pos : Pos} {a b tg : Expr} {fa fb : EM Tk} {fe : EM D}
theorem v_mulS (ha : SK X ct W a fa) (hb : SK X ct W b fb) : SV X ct W (.BinOp a .Mult b pos) (vBin gMulS fa fb) := v_bin op_mulS opG_mulS ha hb
theorem i_txt (h : SE X ct W a fe) : SI X ct W tg a (iTxt fe) := PIw (pi_str h) fun σ H R q => by
  obtain ⟨c, G, e, r, p⟩ := q
  refine ⟨c, G, e, r, (Post.bind p).imp fun G1 H1 e1 d s1 r1 p1 v hv => ?_⟩
  cases d with
  | str z =>
    cases hv
    exact ⟨z, rfl, p1.now r1 _ itOk_txt⟩
  | _ => exact p1.elim
end
end MM
namespace MM
open PySem PySem.Spec PyProof.Rows L2
section
variable {X : Cx} {ct : Ct} {W : WX} {x : Str} {pos : Pos}
theorem e_gstr {z : Str} {t : Tok} (hg : Gl X x) (hm : X.mg x = some (.str z t)) (hd : (x == ("__debug__" : Str)) = false := by decide) : SE X ct W (.Name x pos) (cC (.str z)) := e_const (v := V.str z) (pe_glob hg hm ⟨t, rfl⟩ hd) fun _ => .str z
end
theorem okD_str {x : Str} (h : PyData.strOk x = true) : okD (.str x) = true := by simp [okD, D.flat, D.py, SeqAt.shaped, PyData.canLay0, PyData.depth, h]
theorem okD_non : okD .non = true := by simp [okD, D.flat, D.py, SeqAt.shaped, PyData.canLay0, PyData.depth]
theorem gEq_str {a b : Str} (ha : PyData.strOk a = true) (hb : PyData.strOk b = true) : gEq (.str a) (.str b) = some (decide (a = b)) := by
  unfold gEq
  rw [if_pos ⟨okD_str ha, okD_str hb⟩]
  simp only [D.py, PyData.eqv]
  by_cases z : a = b <;> simp [z]
theorem pys_strs : ∀ ys : List Str, D.pys (ys.map D.str) = ys.map PyData.str
  | [] => by simp [D.pys]
  | y :: ys => by rw [List.map_cons, D.pys, pys_strs ys, D.py]; rfl
theorem flats_strs : ∀ ys : List Str, D.flats (ys.map D.str) = true
  | [] => by simp [D.flats]
  | y :: ys => by rw [List.map_cons, D.flats, flats_strs ys]; simp [D.flat]
theorem eqv_strs : ∀ as bs : List Str, PyData.eqvAll (as.map PyData.str) (bs.map PyData.str) = decide (as = bs)
  | [], [] => by simp [PyData.eqvAll]
  | [], b :: bs => by simp [PyData.eqvAll]
  | a :: as, [] => by simp [PyData.eqvAll]
  | a :: as, b :: bs => by
    simp only [List.map_cons, PyData.eqvAll, PyData.eqv, eqv_strs as bs]
    by_cases z : a = b <;> simp [z]
theorem lay_strs : ∀ {ys : List Str}, (∀ y ∈ ys, PyData.strOk y = true) → PyData.canLayAll0 (ys.map PyData.str) = true ∧ PyData.depthAll (ys.map PyData.str) = 0
  | [], _ => by simp [PyData.canLayAll0, PyData.depthAll]
  | y :: ys, h => by
    obtain ⟨h1, h2⟩ := lay_strs (ys := ys) fun z hz => h z (List.mem_cons_of_mem _ hz)
    simp [PyData.canLayAll0, PyData.canLay0, PyData.depthAll, PyData.depth, h1, h2, h y (List.mem_cons_self ..)]
theorem okD_strs {ys : List Str} (h : ∀ y ∈ ys, PyData.strOk y = true) : okD (.lst (ys.map D.str)) = true := by
  obtain ⟨h1, h2⟩ := lay_strs h
  simp [okD, D.flat, D.py, SeqAt.shaped, PyData.canLay0, PyData.depth, flats_strs, pys_strs, h1, h2]
theorem gEq_strs {as bs : List Str} (ha : ∀ y ∈ as, PyData.strOk y = true) (hb : ∀ y ∈ bs, PyData.strOk y = true) : gEq (.lst (as.map D.str)) (.lst (bs.map D.str)) = some (decide (as = bs)) := by
  unfold gEq
  rw [if_pos ⟨okD_strs ha, okD_strs hb⟩]
  simp only [D.py, PyData.eqv, pys_strs, eqv_strs]
end MM
end
section
set_option Elab.async false
set_option linter.all false
set_option autoImplicit false
set_option maxRecDepth 100000
set_option maxHeartbeats 4000000
namespace MM
open PySem PySem.Spec L2
/-! ### things that are known to a callee and not to the caller: closure cells -/
/-- just this object -/
def ExO (b : Addr) (o : Obj) : HO := .ext fun h => h.get? b = some o
def addM (H : Hp) (M : List (Addr × Obj)) : Hp := fun b => match M.lookup b with
  | some o => some (ExO b o)
  | none => H b
def offM (H : Hp) (M : List (Addr × Obj)) : Hp := fun b => match M.lookup b with
  | some _ => none
  | none => H b
section
variable {H H' G : Hp} {M : List (Addr × Obj)} {b : Addr} {o : Obj} {P : Program} {w : World} {h h' B : Heap} {fs : List Addr}
theorem addM_in (q : M.lookup b = some o) : addM H M b = some (ExO b o) := by unfold addM; rw [q]
theorem addM_out (q : M.lookup b = none) : addM H M b = H b := by unfold addM; rw [q]
theorem offM_in (q : M.lookup b = some o) : offM H M b = none := by unfold offM; rw [q]
theorem offM_out (q : M.lookup b = none) : offM H M b = H b := by unfold offM; rw [q]
theorem addM_none (q : addM H M b = none) : M.lookup b = none ∧ H b = none := by
  cases e : M.lookup b with
  | none => rw [addM_out e] at q; exact ⟨rfl, q⟩
  | some o => rw [addM_in e] at q; cases q
theorem addM_some {u : HO} (q : addM H M b = some u) : (∃ o, M.lookup b = some o ∧ u = ExO b o) ∨ (M.lookup b = none ∧ H b = some u) := by
  cases e : M.lookup b with
  | none => rw [addM_out e] at q; exact .inr ⟨rfl, q⟩
  | some o => rw [addM_in e] at q; cases q; exact .inl ⟨o, rfl, rfl⟩
theorem offM_some {u : HO} (q : offM H M b = some u) : M.lookup b = none ∧ H b = some u := by
  cases e : M.lookup b with
  | none => rw [offM_out e] at q; exact ⟨rfl, q⟩
  | some o => rw [offM_in e] at q; cases q
theorem add_off (q : ∀ b o, M.lookup b = some o → H b = some (ExO b o)) : addM (offM H M) M = H := by
  funext b
  cases e : M.lookup b with
  | none => rw [addM_out e, offM_out e]
  | some o => rw [addM_in e, q b o e]
theorem off_add (q : ∀ b o, M.lookup b = some o → H b = none) : offM (addM H M) M = H := by
  funext b
  cases e : M.lookup b with
  | none => rw [offM_out e, addM_out e]
  | some o => rw [offM_in e, q b o e]
theorem exO_ok (e : h.get? b = some o) : ObjOk P w H h b (ExO b o) := ⟨e, ⟨o, e⟩, fun _ _ q st => st _ q⟩
theorem exO_of (x : ObjOk P w H h b (ExO b o)) : h.get? b = some o := x.1
theorem hok_off (x : HOk P w H h) (q : ∀ b o, M.lookup b = some o → H b = none ∨ ∃ φ, H b = some (.ext φ)) : HOk P w (offM H M) h := fun b u e => by
  obtain ⟨e1, e2⟩ := offM_some e
  have out : ∀ d v, H d = some v → (∀ φ, v ≠ .ext φ) → offM H M d = some v := fun d v z n => by
    cases l : M.lookup d with
    | none => rw [offM_out l]; exact z
    | some o =>
      rcases q d o l with y | ⟨φ, y⟩
      · rw [z] at y; cases y
      · rw [z] at y; exact absurd (Option.some.inj y) (n φ)
  exact (x b u e2).stay (fun d v _ z => z) (fun d z => out d _ z fun φ y => by cases y) fun d xs z => out d _ z fun φ y => by cases y
theorem hok_add (x : HOk P w H h) (q : ∀ b o, M.lookup b = some o → h.get? b = some o ∧ H b = none) : HOk P w (addM H M) h := fun b u e => by
  rcases addM_some e with ⟨o, l, rfl⟩ | ⟨l, e2⟩
  · exact exO_ok (q b o l).1
  · have out : ∀ d v, H d = some v → addM H M d = some v := fun d v z => by
      cases l : M.lookup d with
      | none => rw [addM_out l]; exact z
      | some o => rw [(q d o l).2] at z; cases z
    exact (x b u e2).stay (fun d v _ z => z) (fun d z => out d _ z) fun d xs z => out d _ z
theorem un_add (u : Un fs [] H H' h h') (q : ∀ b o, M.lookup b = some o → h.get? b = some o ∧ H b = none) : Un fs [] (addM H M) (addM H' M) h h' := by
  have up : ∀ {d : Addr} {v v' : HO}, (H d = some v → H' d = some v') → addM H M d = some v → (∀ o, v ≠ ExO d o) → addM H' M d = some v' := fun {d v v'} f e n => by
    rcases addM_some e with ⟨o, l, z⟩ | ⟨l, e2⟩
    · exact absurd z (n o)
    · rw [addM_out l]; exact f e2
  refine ⟨fun b o e n nf nx => u.keep b o e (addM_none n).2 nf nx, fun b o e n nf nx => u.slot b o e (addM_none n).2 nf nx, fun b o e n nx => ?_, u.there, fun b xs e => up (u.tups b xs) e (fun o z => by cases z), fun b o v e => up (u.frzs b o v) e (fun o z => by cases z), fun b ps e => ?_⟩
  · obtain ⟨l, n2⟩ := addM_none n
    rw [addM_out l]; exact u.free b o e n2 nx
  · rcases addM_some e with ⟨o, l, z⟩ | ⟨l, e2⟩
    · cases z
    · obtain ⟨m, z⟩ := u.tbls b ps e2
      exact ⟨m, by rw [addM_out l]; exact z⟩
theorem ub_add (u : UB fs H H' h B h') : UB fs (addM H M) (addM H' M) h B h' := by
  have up : ∀ {d : Addr} {v v' : HO}, (H d = some v → H' d = some v') → addM H M d = some v → (∀ o, v ≠ ExO d o) → addM H' M d = some v' := fun {d v v'} f e n => by
    rcases addM_some e with ⟨o, l, z⟩ | ⟨l, e2⟩
    · exact absurd z (n o)
    · rw [addM_out l]; exact f e2
  refine ⟨fun b o e n nf => u.keep b o e (addM_none n).2 nf, fun b o e nf => u.slot b o e nf, fun b o e n => ?_, u.there, fun b xs e => up (u.tups b xs) e (fun o z => by cases z), fun b o v e => up (u.frzs b o v) e (fun o z => by cases z), fun b ps e => ?_⟩
  · obtain ⟨l, n2⟩ := addM_none n
    rw [addM_out l]; exact u.free b o e n2
  · rcases addM_some e with ⟨o, l, z⟩ | ⟨l, e2⟩
    · cases z
    · obtain ⟨m, z⟩ := u.tbls b ps e2
      exact ⟨m, by rw [addM_out l]; exact z⟩
theorem un_off (u : Un fs [] (addM H M) H' h h') (q : ∀ b o, M.lookup b = some o → h.get? b = some o ∧ H b = none) (q' : ∀ b o, M.lookup b = some o → h'.get? b = some o) : Un fs [] H (offM H' M) h h' := by
  have at_ : ∀ {d : Addr} {v v' : HO}, (addM H M d = some v → H' d = some v') → H d = some v → offM H' M d = some v' := fun {d v v'} f e => by
    cases l : M.lookup d with
    | none => rw [offM_out l]; exact f (by rw [addM_out l]; exact e)
    | some o => rw [(q d o l).2] at e; cases e
  refine ⟨fun b o e n nf nx => ?_, fun b o e n nf nx => ?_, fun b o e n nx => ?_, u.there, fun b xs e => at_ (u.tups b xs) e, fun b o v e => at_ (u.frzs b o v) e, fun b ps e => ?_⟩
  · cases l : M.lookup b with
    | none => exact u.keep b o e (by rw [addM_out l]; exact n) nf nx
    | some o2 =>
      have := (q b o2 l).1
      rw [e] at this
      cases this
      exact q' b o l
  · cases l : M.lookup b with
    | none => exact u.slot b o e (by rw [addM_out l]; exact n) nf nx
    | some o2 =>
      have := (q b o2 l).1
      rw [e] at this
      cases this
      exact ⟨o.slots, q' b o l⟩
  · cases l : M.lookup b with
    | none => rw [offM_out l]; exact u.free b o e (by rw [addM_out l]; exact n) nx
    | some o2 => exact offM_in l
  · cases l : M.lookup b with
    | none =>
      obtain ⟨m, z⟩ := u.tbls b ps (by rw [addM_out l]; exact e)
      exact ⟨m, by rw [offM_out l]; exact z⟩
    | some o => rw [(q b o l).2] at e; cases e
end
section
variable {P : Program} {w : World} {outer : List PySem.Env} {H : Hp} {s s' : Shared} {M : List (Addr × Obj)} {Q Q' : VK} {E E' : XK} {r : Result}
/-- what is promised without the cells holds with them -/
theorem cr_less (q : ∀ b o, M.lookup b = some o → s.heap.get? b = some o ∧ H b = none) (nf : ∀ b o, M.lookup b = some o → b ∉ frs outer) (hQ : ∀ v H', (∀ b o, M.lookup b = some o → H' b = none) → Q v H' → Q' v (addM H' M)) (hE : ∀ cls d H', (∀ b o, M.lookup b = some o → H' b = none) → E cls d H' → E' cls d (addM H' M))
    (h : CR (L2.CX P w) outer P w H s Q E r s') : CR (L2.CX P w) outer P w (addM H M) s Q' E' r s' := by
  cases r with
  | error e =>
    obtain ⟨a, B, H', cls, d, rfl, fl, hok, ub, na, os, ag, hE1⟩ := h
    have mB : ∀ b o, M.lookup b = some o → B.get? b = some o ∧ H' b = none := fun b o l => ⟨ub.keep b o (q b o l).1 (q b o l).2 (nf b o l), ub.free b o (q b o l).1 (q b o l).2⟩
    have la : M.lookup a = none := by
      cases l : M.lookup a with
      | none => rfl
      | some o =>
        have z := (mB a o l).1
        rw [fl.2.1] at z
        cases z
    exact ⟨a, B, addM H' M, cls, d, rfl, fl, hok_add hok mB, ub_add ub, by rw [addM_out la]; exact na, os, ag, hE _ _ _ (fun b o l => (mB b o l).2) hE1⟩
  | ok fl =>
    cases fl with
    | ret u =>
      obtain ⟨v, H', os, bare, un, hok, rv, hq⟩ := h
      exact ⟨v, addM H' M, os, bare, un_add un q, hok_add hok fun b o l => ⟨un.keep b o (q b o l).1 (q b o l).2 (nf b o l) (by simp), un.free b o (q b o l).1 (q b o l).2 (by simp)⟩, rv, hQ _ _ (fun b o l => un.free b o (q b o l).1 (q b o l).2 (by simp)) hq⟩
    | next => exact h.elim
    | brk => exact h.elim
    | cont => exact h.elim
/-- and the other way about: the callee keeps the cells -/
theorem cr_more (q : ∀ b o, M.lookup b = some o → s.heap.get? b = some o ∧ H b = none) (hQ : ∀ v H', Q v H' → (∀ b o, M.lookup b = some o → H' b = some (ExO b o)) ∧ Q' v (offM H' M))
    (h : CR (L2.CX P w) outer P w (addM H M) s Q (fun _ _ _ => False) r s') : CR (L2.CX P w) outer P w H s Q' E' r s' := by
  cases r with
  | error e =>
    obtain ⟨a, B, H', cls, d, rfl, fl, hok, ub, na, os, ag, hE1⟩ := h
    exact hE1.elim
  | ok fl =>
    cases fl with
    | ret u =>
      obtain ⟨v, H', os, bare, un, hok, rv, hq⟩ := h
      obtain ⟨k1, k2⟩ := hQ _ _ hq
      exact ⟨v, offM H' M, os, bare, un_off un q fun b o l => exO_of (hok b _ (k1 b o l)), hok_off hok fun b o l => .inr ⟨_, k1 b o l⟩, rv, k2⟩
    | next => exact h.elim
    | brk => exact h.elim
    | cont => exact h.elim
end
end MM
end
section
set_option Elab.async false
set_option linter.all false
set_option autoImplicit false
set_option maxRecDepth 100000
set_option maxHeartbeats 4000000
namespace MM
open PySem PySem.Spec L2
open PyProof.Rows (envOfC)
/-! ### a lambda is made: its object, its code object and the maker's table are known -/
structure Grow (P c' : Addr) (q : Str) (H H1 : Hp) : Prop where
  code : H1 c' = some (LamX.CodeO c' q)
  same : ∀ b, b ≠ P → b ≠ c' → H1 b = H b
  old : H c' = none ∨ H c' = some (LamX.CodeO c' q)
  ne : c' ≠ P
  was : ∃ ps, H P = some (.tbl ps)
  now : LamX.TabS H1 P q
section
variable {X : Cx} {pins : List (Addr × Obj)} {σ : L2.St} {H : Hp} {s : Shared} {c P : Addr} {params : Arguments} {body : Expr} {scope : Scope} {pos : Pos}
/-- the object just pushed is known -/
theorem lam_laid {h' : Heap} {tk : Tok} {q : Str} {cl : List (Str × Addr)} {pm ctv : Value} {c' : Addr} (I : Inv X pins σ H { s with heap := h', toks := tk }) :
    Inv X pins σ (upd H h'.objs.size (LamO h'.objs.size q params body scope cl c')) { s with heap := h'.push (PySem.W.kla_obj "<lambda>" q params body scope cl pm c' ctv), toks := tk } := by
  have e : (h'.push (PySem.W.kla_obj "<lambda>" q params body scope cl pm c' ctv)).get? h'.objs.size = some (PySem.W.kla_obj "<lambda>" q params body scope cl pm c' ctv) := Heap.get?_push_size _ rfl
  exact I.laid (s := { s with heap := h', toks := tk }) (t' := tk) (fun b u z => Heap.get?_push_of_some _ z) (Nat.le_refl _) ⟨⟨pm, ctv, e⟩, ⟨_, e⟩, fun h1 h2 ⟨p, t, z⟩ st => ⟨p, t, st _ z⟩⟩
theorem lam_eval {Q : Value → Shared → Prop} {E : Value → Shared → Prop} (I : Inv X pins σ H s) (TB : LamX.TabB X.base X.mg c P) (hcode : X.env.code = .ref c) (hT : LamX.TabS H P (X.env.qual ++ "<lambda>")) (hdef : defaultsOf params X.env = ([], []))
    (L : LamX.LamS X.env.scope scope)
    (h : ∀ (f c' : Addr) (H1 : Hp) (s' : Shared), Grow P c' (X.env.qual ++ "<lambda>") H H1 → H1 f = none → Inv X pins σ (upd H1 f (LamO f (X.env.qual ++ "<lambda>") params body scope (cloFrom X.env.cells scope.names []) c')) s' → Q (.ref f) s') :
    wpAny (model X.prog X.w) X.A (eval (.Lambda params body scope pos) X.env) Q E s := by
  have clo := closure_ok (L.has I.ok)
  have hT' := hT
  obtain ⟨ps, tP, trip, among⟩ := hT'
  have oP : s.heap.get? P = some { cls := .none, data := .fields ps } := I.hok P _ tP
  have gl := I.mod.glob.keeps I.bk
  have cH := TB.code.keeps I.bk
  have bA : s.heap.BuiltinsAt X.mg P := TB.bm.keeps I.bk
  refine PySem.W.kla_eval hdef ?_
  rcases e : codeAmong pos ps.toList with _ | cv
  · refine PySem.W.kla_makeFunction clo I.ok.glob gl hcode cH oP trip e TB.gP bA ?_
    intro c' ctv h' tk ext lo up rec' tab
    obtain ⟨c2, oc, vs, t, e2, oC, dC, nC⟩ := rec'
    cases e2
    have fr : H c' = none := I.hok.fresh lo
    have ne : c' ≠ P := fun z => by rw [z, tP] at fr; cases fr
    have J := LamX.inv_table (q := X.env.qual ++ "<lambda>") (t' := tk) (more := #[rawInt pos.line, rawInt pos.col, .ref c']) I tP (fun b o nb z => ext b o nb z) tab lo ⟨oc, vs, t, oC, dC, nC⟩
    refine h h'.objs.size c' _ _ ⟨upd_same, fun b n1 n2 => by rw [upd_ne n2, upd_ne n1], .inl fr, ne, ⟨ps, tP⟩, _, by rw [upd_ne ne.symm, upd_same], ?_, fun p' cv hcv => ?_⟩ (J.hok.fresh (Nat.le_refl _)) (lam_laid J)
    · rw [show (ps ++ #[rawInt pos.line, rawInt pos.col, .ref c']).toList = ps.toList ++ [rawInt pos.line, rawInt pos.col, .ref c'] by simp]
      exact PySem.TriplesOk_snoc _ _ _ _ trip
    · rw [show (ps ++ #[rawInt pos.line, rawInt pos.col, .ref c']).toList = ps.toList ++ [rawInt pos.line, rawInt pos.col, .ref c'] by simp] at hcv
      rcases LamX.among_app _ trip hcv with z | z
      · obtain ⟨d, d1, d2⟩ := among p' cv z
        have n1 : d ≠ c' := fun y => by rw [y, fr] at d2; cases d2
        have n2 : d ≠ P := fun y => by rw [y, tP] at d2; cases d2
        exact ⟨d, d1, by rw [upd_ne n1, upd_ne n2]; exact d2⟩
      · exact ⟨c', z, upd_same⟩
  · obtain ⟨c', rfl, hco⟩ := among pos cv e
    have ne : c' ≠ P := fun z => by rw [z, tP] at hco; cases hco
    refine PySem.W.kla_makeFunctionHit clo I.ok.glob gl hcode cH oP trip e bA ?_
    intro ctv h' tk ext _
    have J : Inv X pins σ H { s with heap := h', toks := tk } := I.kept ext
    exact h h'.objs.size c' H _ ⟨hco, fun _ _ _ => rfl, .inr hco, ne, ⟨ps, tP⟩, hT⟩ (J.hok.fresh (Nat.le_refl _)) (lam_laid J)
end
/-- the reading of a lambda -/
def tLam1 (P : Addr) (q : Str) (params : Arguments) (body : Expr) (scope : Scope) (cl : List (Str × Addr)) : L2.TE := fun σ H Q => LamX.TabS H P q ∧
  ∀ (f c' : Addr) (H1 : Hp), Grow P c' q H H1 → H1 f = none → Q (.ref f) (upd H1 f (LamO f q params body scope cl c'))
theorem pe_lam {X : Cx} {c P : Addr} {params : Arguments} {body : Expr} {scope : Scope} {pos : Pos} (TB : LamX.TabB X.base X.mg c P) (hcode : X.env.code = .ref c) (L : LamX.LamS X.env.scope scope) (hdef : defaultsOf params X.env = ([], [])) :
    PE X (.Lambda params body scope pos) (tLam1 P (X.env.qual ++ "<lambda>") params body scope (cloFrom X.env.cells scope.names [])) :=
  ⟨fun pins s σ H Q I h => lam_eval I TB hcode h.1 hdef L fun f c' H1 s' g n J => ⟨.ref f, _, J, rfl, h.2 f c' H1 g n⟩⟩
section
variable {k : Kc} {c : Fr} {G H H1 : Hp} {σ : L2.St} {e : Env} {P c' f : Addr} {q : Str}
theorem Grow.ext (g : Grow P c' q H H1) {b : Addr} {o : HO} (h : H b = some o) (n : b ≠ P) : H1 b = some o := by
  by_cases hb : b = c'
  · subst hb
    rcases g.old with z | z
    · rw [z] at h; cases h
    · rw [h] at z; cases z; exact g.code
  · rw [g.same b n hb]; exact h
theorem Grow.notT (g : Grow P c' q H H1) {b : Addr} {o : HO} (h : H b = some o) (n : NoT o) : b ≠ P := fun z => by
  obtain ⟨ps, w⟩ := g.was
  rw [z, w] at h
  cases h
  exact n ps rfl
/-- the state behind the growth of a table -/
theorem RepS.grow (r : RepS k c G σ H e) (g : Grow P c' q H H1) (hm : (P, q) ∈ k.ct.T) (hu : ∀ p ∈ k.ct.T, p.1 = P → p.2 = q) : RepS k c G σ H1 e := by
  obtain ⟨_, oP, gP⟩ := r.tb _ hm
  refine ⟨r.g0, fun b u z => g.ext (r.gh b u z) (ne_of_none z gP), fun b u z => g.ext (r.oh b u z) (ne_of_none z oP), r.fr, fun p hp => ⟨?_, (r.tb p hp).2⟩, r.len, fun i x hx => ?_, r.dis, r.pin⟩
  · by_cases hp1 : p.1 = P
    · rw [hp1, hu p hp hp1]; exact g.now
    · obtain ⟨ps, a1, a2, a3⟩ := (r.tb p hp).1
      refine ⟨ps, g.ext a1 hp1, a2, fun pos cv hc => ?_⟩
      obtain ⟨d, d1, d2⟩ := a3 pos cv hc
      exact ⟨d, d1, g.ext d2 (g.notT d2 NoT.ext)⟩
  · obtain ⟨v, h1, h2⟩ := r.slot i x hx
    refine ⟨v, h1, ?_⟩
    have own : ∀ {y : MV}, (∃ a, v = .ref a ∧ MAt k c G H a y) → ∃ a, v = .ref a ∧ MAt k c G H1 a y := fun {y} ⟨a, e1, m1, m2, o, m3, m4⟩ => ⟨a, e1, m1, m2, o, g.ext m3 (g.notT m3 m4.noT), m4⟩
    cases x with
    | d d => exact h2
    | m y => exact own h2
    | p y => exact own h2
    | t _ _ => exact h2.elim
end
end MM
end
section
set_option Elab.async false
set_option linter.all false
set_option autoImplicit false
set_option maxRecDepth 100000
set_option maxHeartbeats 4000000
namespace MM
open PySem PySem.Spec L2
open PyProof.Rows (envOfC IntsAre AllBare)
/-! ### a thunk: a lambda that is data; what its call does -/
def ThkRun (P : Program) (w : World) (K : PySem.W.Frag) (mg : Str → Option Value) (base : Heap) (k : Nat) (ct : Ct) (j : Nat) (o : Out) : Prop :=
  ∀ (A : Around) (outer : List PySem.Env) (s : Shared) (H G : Hp) (Q : VK) (E : XK), A.guards = some [] → Room k A → Env0 P w K mg base A outer s H → Same (ct.g j) G → Same G H → Tbs ct.T (fun _ => none) G H →
    EndO ⟨K, ct⟩ [] [] G H Q E o → codeAny (model P w) A (.call (.ref (ct.t j)) ⟨[], []⟩) (CR (L2.CX P w) outer P w H s Q E) s
structure Thk (P : Program) (w : World) (K : PySem.W.Frag) (mg : Str → Option Value) (base : Heap) (k : Nat) (ct : Ct) (j : Nat) (o : Out) : Prop where
  fn : ∃ q params body scope cl c', ct.g j (ct.t j) = some (LamO (ct.t j) q params body scope cl c')
  run : ThkRun P w K mg base k ct j o
theorem Thk.mono {P : Program} {w : World} {K : PySem.W.Frag} {mg : Str → Option Value} {base : Heap} {k k' : Nat} {ct : Ct} {j : Nat} {o : Out} (h : Thk P w K mg base k ct j o) (hk : k ≤ k') : Thk P w K mg base k' ct j o :=
  ⟨h.fn, fun A outer s H G Q E hg hr => h.run A outer s H G Q E hg (hr.mono hk)⟩
def outV (o : Out) (e : Env) : Res EV := match o with
  | .ret (.d x) _ => .ok (.d x) e
  | .ret (.m x) _ => .ok (.m x) e
  | .exc x _ => .exc x e
  | _ => .stuck
def vThk (th : Nat → Out) (i : Nat) : EM EV := fun e => match e[i]? with
  | some (some (.d (.thk j))) => outV (th j) e
  | _ => .stuck
@[simp] theorem vThk_ev {th : Nat → Out} {i : Nat} {e : Env} : vThk th i e = (match e[i]? with
  | some (some (.d (.thk j))) => outV (th j) e
  | _ => .stuck) := rfl
/-- behind a call without arguments -/
theorem endO_out {k : Kc} {W : WX} {c : Fr} {G H : Hp} {σ : L2.St} {e : Env} {o : Out} {Q : VK} (r : RepS k c G σ H e) (p : Post k W c G σ (fun G' H' e' x => ∀ v, RpV k c G' σ H' e' v x → Q v H') (outV o e)) : EndO k [] [] G H Q (WE W σ) o := by
  have aft : ∀ {G' H' : Hp} {ps : List (Option MV)}, Aft k [] [] G H G' H' ps → RepS k c G' σ H' e := fun {G' H' ps} af => r.after (vs := []) (ts := []) (as := []) (ps := ps) trivial rfl List.nodup_nil af
  cases o with
  | stuck => exact p.elim
  | exc x ps => exact fun G' H' cls dc af hx => p G' H' cls dc af.g (aft af) hx
  | ret x ps =>
    cases x with
    | t _ _ => exact p.elim
    | p _ => exact p.elim
    | d x => exact fun G' H' v af hv => p G' H' af.g (aft af) v (RRes.here (x := .d x) (vs := []) (ts := []) (as := []) (ps := ps) r (aft af) trivial rfl List.nodup_nil af hv (fun _ _ z => by cases z))
    | m x => exact fun G' H' v af hv => p G' H' af.g (aft af) v (RRes.here (x := .m x) (vs := []) (ts := []) (as := []) (ps := ps) r (aft af) trivial rfl List.nodup_nil af hv (fun _ _ z => by cases z))
theorem Rp.thkI {k : Kc} {G : Hp} {j : Nat} : ∀ {v : V} {d : D}, Rp k G v d → d = .thk j → v = .ref (k.ct.t j) ∧ j < k.ct.n ∧ Same (k.ct.g j) G
  | _, _, .thk h, e => by injection e with e; subst e; exact ⟨rfl, h⟩
  | _, _, .non, e => by cases e
  | _, _, .bl _, e => by cases e
  | _, _, .int _, e => by cases e
  | _, _, .str _, e => by cases e
  | _, _, .lst _ _, e => by cases e
  | _, _, .scr _, e => by cases e
  | _, _, .rng _, e => by cases e
  | _, _, .lam _, e => by cases e
  | _, _, .tup _ _, e => by cases e
  | _, _, .obj _ _ _, e => by cases e
  | _, _, .dic _ _ _, e => by cases e
/-- x(), x a name that holds a thunk -/
theorem v_thk {X : Cx} {ct : Ct} {W : WX} {k i : Nat} {a : Str} {th : Nat → Out} {p1 p2 : Pos} (hth : ∀ j, j < ct.n → Thk X.prog X.w X.K X.mg X.base k ct j (th j)) (hgu : X.A.guards = some []) (hr : Room k X.A) (tk : Takes X W) (hN : X.N[i]? = some a) (hv : Vis X.env.scope a)
    (hd : (a == ("__debug__" : Str)) = false := by decide) (hcd : (a == ("__classdict__" : Str)) = false := by decide) : SV X ct W (.Call (.Name a p1) [] [] p2) (vThk th i) := by
  refine ⟨fun pins s σ H Q I h => ?_⟩
  obtain ⟨c, G, e, r, p⟩ := h
  unfold vThk at p
  split at p
  · rename_i j hj
    obtain ⟨v, h1, h2⟩ := r.slot i _ hj
    obtain ⟨ev, jn, sg⟩ := Rp.thkI (show Rp ⟨X.K, ct⟩ G v (.thk j) from h2) rfl
    subst ev
    · have jn : j < ct.n := jn
      have sg : Same (ct.g j) G := sg
      refine wpAny_Call_Name_kw (thn ((pe_var (pos := p1) (i := i) hN hv hd hcd).run pins s σ H (fun v H1 => v = .ref (ct.t j) ∧ H1 = H) I ⟨_, h1, rfl, rfl⟩) fun u s1 ⟨v, H1, I1, r1, q1⟩ => ?_)
      obtain ⟨ev, eH⟩ := q1
      subst ev
      subst eH
      obtain rfl : u = Value.ref (ct.t j) := r1
      obtain ⟨q, ps, bd, sc, cl, c', hf⟩ := (hth j jn).fn
      obtain ⟨⟨pm, ctv, hf⟩, _⟩ := I1.hok _ _ (r.gh _ _ (sg _ _ hf))
      refine PySem.W.callWith_F0 ⟨_, _, _, _, hf⟩ (wpAny_call (codeAny_mono ((hth j jn).run X.A X.stack s1 H1 G Q (WE W σ) hgu hr I1.env0 sg r.gh (fun p hp => ⟨(r.tb p hp).1, rfl, (r.tb p hp).2.2⟩) (endO_out r p)) fun z s' hq => ?_))
      cases z with
      | error e' => exact passAt tk σ pins H1 s1 e' s' I1 hq
      | ok fl =>
        cases fl with
        | ret u => exact I1.after hq
        | next => exact hq.elim
        | brk => exact hq.elim
        | cont => exact hq.elim
  · exact p.elim
end MM
end
section
set_option Elab.async false
set_option linter.all false
set_option autoImplicit false
set_option maxRecDepth 100000
set_option maxHeartbeats 4000000
namespace MM
open PySem PySem.Spec L2
open PyProof.Rows (envOfC IntsAre AllBare)
/-! ### what a lambda's body does, told as a thunk -/
section
variable {k : Kc} {G : Hp} {K : PySem.W.Frag} {c0 : Ct} {t : Nat → Addr} {g : Nat → Hp} {n : Nat}
mutual
theorem Rp.up (hn : c0.n = 0) : ∀ {v : V} {d : D}, Rp ⟨K, c0⟩ G v d → Rp ⟨K, c0.wth t g n⟩ G v d
  | _, _, .non => .non
  | _, _, .bl b => .bl b
  | _, _, .int i => .int i
  | _, _, .str x => .str x
  | _, _, .lst h r => .lst h (Rps.up hn r)
  | _, _, .scr h => .scr h
  | _, _, .rng h => .rng h
  | _, _, .thk h => absurd (show _ < c0.n from h.1) (by rw [hn]; exact Nat.not_lt_zero _)
  | _, _, .tup h r => .tup h (Rps.up hn r)
  | _, _, .obj (c := c) h n r => .obj (c := c) h n (Rps.up hn r)
  | _, _, .lam h => .lam h
  | _, _, .dic h n r => .dic h n (Rps.up hn r)
theorem Rps.up (hn : c0.n = 0) : ∀ {vs : List V} {ds : List D}, Rps ⟨K, c0⟩ G vs ds → Rps ⟨K, c0.wth t g n⟩ G vs ds
  | _, _, .nil => .nil
  | _, _, .cons a b => .cons (Rp.up hn a) (Rps.up hn b)
end
theorem MRep.up (hn : c0.n = 0) {o : HO} {x : MV} (h : MRep ⟨K, c0⟩ G o x) : MRep ⟨K, c0.wth t g n⟩ G o x := by
  cases x with
  | lst ds => obtain ⟨vs, e, r⟩ := h; exact ⟨vs, e, r.up hn⟩
  | dic ks ds => obtain ⟨vs, e, n, r⟩ := h; exact ⟨vs, e, n, r.up hn⟩
  | obj c ns ds => obtain ⟨dx, fs, e, n, r⟩ := h; exact ⟨dx, fs, e, n, r.up hn⟩
theorem RepX.up (hn : c0.n = 0) {H : Hp} {cls : Value} {dc : Option Addr} {x : Exn} (h : RepX ⟨K, c0⟩ G H cls dc x) : RepX ⟨K, c0.wth t g n⟩ G H cls dc x := by
  obtain ⟨e, h⟩ := h
  refine ⟨e, ?_⟩
  rcases h with h | ⟨d, fs, a1, a2, a3, a4⟩
  · exact .inl h
  · exact .inr ⟨d, fs, a1, a2, a3, a4.up hn⟩
end
def resO : Res EV → Out
  | .ok x _ => .ret x []
  | .exc x _ => .exc x []
  | .stuck => .stuck
/-- what a lambda sees: data alone -/
def dOnly (e : Env) : Env := e.map fun x => match x with
  | some (.d d) => some (.d d)
  | _ => none
section
variable {X : Cx} {scope : Scope} {σ : L2.St} {A : Around} {outer : List PySem.Env} {s : Shared} {H : Hp} {E : XK} {f c' : Addr}
/-- the entry of a lambda's body -/
theorem lam_inv {h₁ : Heap} {tk : Tok} (ok : X.Ok) (hlen : σ.length = X.N.length) (L : LamX.LamS X.env.scope scope) (e0 : Env0 X.prog X.w X.K X.mg X.base A outer s H) (hd : A.handled = none)
    (hC : ∀ x c, X.env.cells.lookup x = some c → (∃ v, s.heap.IsCell c v) ∧ H c = none)
    (hV : ∀ (i : Nat) (y : Str) (v : V), X.N[i]? = some y → σ[i]? = some (some v) → scope.names.lookup y = some .free → ∃ u c, RelV v u ∧ X.env.cells.lookup y = some c ∧ s.heap.IsCell c (some u))
    (hns : h₁.Ns s.heap.objs.size fun y => ([] : List (Str × Value)).reverse.lookup y) (kp : ∀ b o, s.heap.get? b = some o → h₁.get? b = some o) :
    Inv (LamX.lamCx X A outer s H E scope f c') [] σ H { s with heap := h₁, toks := tk } := by
  have hfree := L.has ok
  have sub : ∀ {y : Str} {c : Addr}, (cloFrom X.env.cells scope.names []).lookup y = some c → X.env.cells.lookup y = some c := fun {y c} e => by
    rcases cloFrom_mem (PySem.mem_of_lookup e) with z | ⟨z1, z2⟩
    · cases z
    · obtain ⟨c1, z3⟩ := hfree _ z1 rfl
      have z3 : X.env.cells.lookup y = some c1 := z3
      rw [z3] at z2
      rw [z3, z2]
      rfl
  have has : ∀ {y : Str}, scope.names.lookup y = some .free → ∃ c, (cloFrom X.env.cells scope.names []).lookup y = some c := fun {y} l => mem_lookup (cloFrom_has (cells := X.env.cells) (acc := []) (show (y, NameKind.free) ∈ scope.names from PySem.mem_of_lookup l))
  have cellK : ∀ {c : Addr} {v : Option Value}, s.heap.IsCell c v → h₁.IsCell c v := fun ⟨o, ho, hd⟩ => ⟨o, kp _ _ ho, hd⟩
  have none_ : ∀ b : Addr, b ∉ (LamX.lamCx X A outer s H E scope f c').ex := fun b z => by cases (show b ∈ ([] : List Addr) from z)
  have okL : (LamX.lamCx X A outer s H E scope f c').Ok := by
    constructor
    case mod => exact e0.mod
    case kind => exact L.kind
    case glob => rfl
    case blt => rfl
    case above => exact Nat.le_refl _
    case inj => exact fun x y c e1 e2 => ok.inj x y c (sub e1) (sub e2)
    case has =>
      intro y hy
      have hy : scope.names.lookup y = some .cell ∨ scope.names.lookup y = some .free := hy
      rcases hy with hy | hy
      · exact absurd rfl (L.own _ (PySem.mem_of_lookup hy)).2
      · exact has hy
    case cab => exact fun y c z => by cases (show false = true from z)
    case hd => exact fun _ => hd
    case frames => exact Around.frames_deeper e0.frames
    case stk => exact .inr ⟨rfl, rfl⟩
    case exf => exact fun b z => absurd z (none_ b)
    case bs => exact e0.bs
    case bsz => exact e0.bsz
    case noex => exact fun b _ _ => none_ b
    case exfs => exact fun b z => absurd z (none_ b)
    case funs => exact e0.funs
    case frf => exact e0.frf
  constructor
  case ok => exact okL
  case os => rfl
  case bare => exact e0.bare
  case base => exact Un.kept kp
  case loc =>
    refine ⟨_, hns, fun i y v e1 e2 e3 => ?_⟩
    have e3 : Vis scope y := e3
    rcases e3 with z | z | z
    · exact absurd rfl (L.own _ (PySem.mem_of_lookup z)).1
    · exact absurd rfl (L.own _ (PySem.mem_of_lookup z)).2
    · obtain ⟨u, c, r, l, ic⟩ := hV i y v e1 e2 z
      obtain ⟨c2, l2⟩ := has z
      have := sub l2
      rw [l] at this
      cases this
      exact ⟨u, r, .inr ⟨.inr z, c, l2, cellK ic⟩⟩
  case cell =>
    intro y c e
    obtain ⟨⟨v, z⟩, _⟩ := hC y c (sub e)
    exact ⟨v, cellK z⟩
  case free => exact e0.hok.fresh (Nat.le_refl _)
  case freeC => exact fun y c e => (hC y c (sub e)).2
  case pin => exact fun q hq => by cases (show q ∈ ([] : List (Addr × Obj)) from hq)
  case hok => exact e0.hok.kept kp
  case len => exact hlen
end
end MM
end
section
set_option Elab.async false
set_option linter.all false
set_option autoImplicit false
set_option maxRecDepth 100000
set_option maxHeartbeats 4000000
namespace MM
open PySem PySem.Spec L2
open PyProof.Rows (envOfC IntsAre AllBare)
/-- what stands still for the thunks of a maker: its cells, its data -/
structure ThkGr (X : Cx) (σ : L2.St) (M : List (Addr × Obj)) (Gm Gp : Hp) : Prop where
  m : ∀ b o, M.lookup b = some o → Gp b = some (ExO b o) ∧ Gm b = none
  le : Same Gm Gp
  cells : ∀ x c, X.env.cells.lookup x = some c → ∃ o v, M.lookup c = some o ∧ o.data = .cell v
  dat : ∀ b o, M.lookup b = some o → ∃ v, o.data = .cell v
  vals : ∀ (i : Nat) (y : Str) (v : V), X.N[i]? = some y → σ[i]? = some (some v) → (X.env.scope.names.lookup y = some .cell ∨ X.env.scope.names.lookup y = some .free) → ∃ u c o, RelV v u ∧ X.env.cells.lookup y = some c ∧ M.lookup c = some o ∧ o.data = .cell (some u)
theorem tabS_add {H H' : Hp} {M : List (Addr × Obj)} {P : Addr} {q : Str} (t : LamX.TabS H' P q) (h : ∀ b o, M.lookup b = some o → H' b = none) : LamX.TabS (addM H' M) P q := by
  have out : ∀ {b : Addr} {u : HO}, H' b = some u → addM H' M b = some u := fun {b u} e => by
    cases l : M.lookup b with
    | none => rw [addM_out l]; exact e
    | some o => rw [h b o l] at e; cases e
  obtain ⟨ps, a1, a2, a3⟩ := t
  refine ⟨ps, out a1, a2, fun pos cv hc => ?_⟩
  obtain ⟨d, d1, d2⟩ := a3 pos cv hc
  exact ⟨d, d1, out d2⟩
section
variable {X : Cx} {σ : L2.St} {M : List (Addr × Obj)} {Gm : Hp} {c' : Addr} {params : Arguments} {body : Expr} {scope : Scope} {k j : Nat} {ct0 : Ct} {t : Nat → Addr} {g : Nat → Hp} {n : Nat} {e : Env} {fv : EM EV}
theorem thk_of (ok : X.Ok) (hlen : σ.length = X.N.length) (L : LamX.LamS X.env.scope scope)
    (hbind : ∀ (q : Str) (cl : List (Str × Addr)) (pm cv ctv : Value), bindArgs (PySem.W.kla_fn "<lambda>" q params body scope cl pm cv ctv) ⟨[], []⟩ = pure [])
    (hn : ct0.n = 0) (gr : ThkGr X σ M Gm (g j)) (hfo : g j (t j) = some (LamO (t j) (X.env.qual ++ "<lambda>") params body scope (cloFrom X.env.cells scope.names []) c'))
    (hco : g j c' = some (LamX.CodeO c' (X.env.qual ++ "<lambda>"))) (hel : e.length = σ.length) (he : ∀ (i : Nat) (x : EV), e[i]? = some (some x) → ∃ d v, x = .d d ∧ σ[i]? = some (some v) ∧ Rp ⟨X.K, ct0⟩ Gm v d)
    (hbody : ∀ (A : Around) (outer : List PySem.Env) (s : Shared) (H : Hp) (E : XK), A.guards = some [] → Room k (A.deeper (LamX.lamEnv X scope s.heap.objs.size (t j) c')) → Takes (LamX.lamCx X A outer s H E scope (t j) c') (fun cls d _ H => E cls d H) →
      SV (LamX.lamCx X A outer s H E scope (t j) c') ct0 (fun cls d _ H => E cls d H) body fv) :
    Thk X.prog X.w X.K X.mg X.base (k + 1) (ct0.wth t g n) j (resO (fv e)) := by
  refine ⟨⟨_, _, _, _, _, _, hfo⟩, fun A outer s H G Q E hgu hr e0 sg gh tb hEnd => ?_⟩
  have mH : ∀ b o, M.lookup b = some o → H b = some (ExO b o) := fun b o l => gh _ _ (sg _ _ (gr.m b o l).1)
  have mG : ∀ b o, M.lookup b = some o → G b = some (ExO b o) := fun b o l => sg _ _ (gr.m b o l).1
  have mS : ∀ b o, M.lookup b = some o → s.heap.get? b = some o := fun b o l => exO_of (e0.hok b _ (mH b o l))
  have mF : ∀ b o, M.lookup b = some o → b ∉ frs outer := fun b o l z => by
    have := e0.frf b z
    rw [mH b o l] at this
    cases this
  have mN : ∀ b o, M.lookup b = some o → s.heap.get? b = some o ∧ offM H M b = none := fun b o l => ⟨mS b o l, offM_in l⟩
  have offN : ∀ {b : Addr}, H b = none → offM H M b = none := fun {b} e => by
    cases l : M.lookup b with
    | none => rw [offM_out l]; exact e
    | some o => exact offM_in l
  have okH : HOk X.prog X.w (offM H M) s.heap := hok_off e0.hok fun b o l => .inr ⟨_, mH b o l⟩
  have e0' : Env0 X.prog X.w X.K X.mg X.base A outer s (offM H M) := ⟨e0.frames, e0.mod, fun b o e => ⟨(e0.bs b o e).1, offN (e0.bs b o e).2⟩, e0.bsz, e0.funs, fun b z => offN (e0.frf b z), okH, e0.bare⟩
  obtain ⟨⟨pm, ctv, of1⟩, _⟩ := e0.hok _ _ (gh _ _ (sg _ _ hfo))
  obtain ⟨⟨oc, vs, tt, hoc, hdc, hvc⟩, _, _⟩ := e0.hok _ _ (gh _ _ (sg _ _ hco))
  rw [← add_off mH]
  refine codeAny_mono (R := CR (L2.CX X.prog X.w) outer X.prog X.w (offM H M) s (fun v H' => (∀ b o, M.lookup b = some o → H' b = none) → Q v (addM H' M)) (fun cls d H' => (∀ b o, M.lookup b = some o → H' b = none) → E cls d (addM H' M))) ?_
    fun r s' hq => cr_less mN mF (fun v H' n q => q n) (fun cls d H' n q => q n) hq
  refine PySem.W.kla_callFunE hr.depth of1 rfl L.co L.gen rfl ⟨c', oc, vs, tt, rfl, hoc, hdc, hvc⟩ ?_
  rw [hbind]
  have lim : s.heap.NoLimit := e0.mod.nolimit.keeps fun b o e => (e0.bs b o e).1
  refine wpAny_pure (wpAny_newFunctionEnv (fun y hy => (L.own y hy).2) (fun y hy => by simp at hy) (fun h₁ hns hsb => ⟨lim.fresh _ hsb, ?_⟩) L.kind)
  have kp : ∀ b o, s.heap.get? b = some o → h₁.get? b = some o := fun b o z => hsb.extBut b o (Nat.ne_of_lt (Heap.lt_size z)) (Heap.get?_push_of_some _ z)
  show codeAny _ _ (.expr body (LamX.lamEnv X scope s.heap.objs.size (t j) c')) _ _
  generalize hE1 : (fun cls d H' => (∀ b o, M.lookup b = some o → H' b = none) → E cls d (addM H' M) : XK) = E1
  generalize hQ1 : (fun v H' => (∀ b o, M.lookup b = some o → H' b = none) → Q v (addM H' M) : VK) = Q1
  have J : Inv (LamX.lamCx X A outer s (offM H M) E1 scope (t j) c') [] σ (offM H M) { s with heap := h₁, toks := s.toks + ([] : List (Str × Value)).length } := by
    refine lam_inv ok hlen L e0' hr.hd (fun x c l => ?_) (fun i y v h1 h2 h3 => ?_) hns kp
    · obtain ⟨o, v, l2, dv⟩ := gr.cells x c l
      exact ⟨⟨v, o, mS c o l2, dv⟩, offM_in l2⟩
    · obtain ⟨u, c, o, r, l, l2, dv⟩ := gr.vals i y v h1 h2 (L.free _ (PySem.mem_of_lookup h3) rfl)
      exact ⟨u, c, r, l, o, mS c o l2, dv⟩
  have hb := hbody A outer s (offM H M) E1 hgu (hr.deeper _) (takes_of rfl rfl rfl rfl)
  have nM : ∀ {b : Addr} {u : HO}, H b = some u → NoT u → (∀ φ, u ≠ .ext φ) → M.lookup b = none := fun {b u} z _ n => by
    cases l : M.lookup b with
    | none => rfl
    | some o => rw [mH b o l] at z; cases z; exact absurd rfl (n _)
  have tM : ∀ p ∈ ct0.T, M.lookup p.1 = none := fun p hp => by
    obtain ⟨ps, z, _⟩ := (tb p hp).1
    cases l : M.lookup p.1 with
    | none => rfl
    | some o => rw [mH _ o l] at z; cases z
  have cM : ∀ {d : Addr} {q : Str}, H d = some (LamX.CodeO d q) → M.lookup d = none := fun {d q} z => by
    cases l : M.lookup d with
    | none => rfl
    | some o =>
      obtain ⟨⟨oc, vs, t, g1, g2, _⟩, _⟩ := e0.hok d _ z
      obtain ⟨v, g3⟩ := gr.dat d o l
      rw [mS d o l] at g1
      cases g1
      rw [g2] at g3
      cases g3
  have r0 : RepS ⟨X.K, ct0⟩ ⟨offT ct0.T (offM H M), offM G M, fun _ => none⟩ (offM G M) σ (offM H M) e := by
    have gl : Same (offM G M) (offM H M) := fun b u z => by
      obtain ⟨z1, z2⟩ := offM_some z
      rw [offM_out z1]; exact gh _ _ z2
    have mg : Same Gm (offM G M) := fun b u z => by
      cases l : M.lookup b with
      | none => rw [offM_out l]; exact sg _ _ (gr.le _ _ z)
      | some o => rw [(gr.m b o l).2] at z; cases z
    refine ⟨Same.refl _, gl, offT_same, fun b h1 _ => .inl h1, fun p hp => ?_, hel, fun i x hx => ?_, fun i1 j1 a x y hx hy wx wy _ _ => ?_, fun i a h => by cases h⟩
    · refine ⟨?_, offT_in hp, by rw [offM_out (tM p hp)]; exact (tb p hp).2.2⟩
      obtain ⟨ps, a1, a2, a3⟩ := (tb p hp).1
      refine ⟨ps, by rw [offM_out (tM p hp)]; exact a1, a2, fun pos cv hc => ?_⟩
      obtain ⟨d, d1, d2⟩ := a3 pos cv hc
      exact ⟨d, d1, by rw [offM_out (cM d2)]; exact d2⟩
    · obtain ⟨d, v, rfl, h1, h2⟩ := he i x hx
      exact ⟨v, h1, Rp.mono mg h2⟩
    · obtain ⟨d, v, rfl, _⟩ := he i1 x hx
      cases wx
  have aftOf : ∀ {G' H' : Hp} {e' : Env}, (∀ b o, M.lookup b = some o → H' b = none) → Same (offM G M) G' → RepS ⟨X.K, ct0⟩ ⟨offT ct0.T (offM H M), offM G M, fun _ => none⟩ G' σ H' e' → Aft ⟨X.K, ct0.wth t g n⟩ [] [] G H (addM G' M) (addM H' M) [] := fun {G' H' e'} hno s' r' => by
    refine ⟨fun b u z => ?_, fun b u z => ?_, fun b u z _ nt => ?_, fun p hp => ?_, fun b z1 z2 => ?_, fun i a q => ?_⟩
    · cases l : M.lookup b with
      | none => rw [addM_out l]; exact s' b u (by rw [offM_out l]; exact z)
      | some o => rw [addM_in l, ← mG b o l]; exact z
    · rcases addM_some z with ⟨o, l, rfl⟩ | ⟨l, z2⟩
      · exact addM_in l
      · rw [addM_out l]; exact r'.gh _ _ z2
    · cases l : M.lookup b with
      | none =>
        rw [addM_out l]
        refine r'.oh b u ?_
        show offT ct0.T (offM H M) b = some u
        have nt : b ∉ ct0.T.map (·.1) := nt
        rw [offT_out (T := ct0.T) (fun p hp y => nt (List.mem_map.mpr ⟨p, hp, y⟩)), offM_out l]
        exact z
      | some o => rw [addM_in l, ← mH b o l]; exact z
    · exact tabS_add (H := H) ((r'.tb p hp).1) hno
    · cases l : M.lookup b with
      | some o => rw [mG b o l] at z2; cases z2
      | none =>
        rw [addM_out l] at z1
        by_cases ht : ∃ p ∈ ct0.T, p.1 = b
        · obtain ⟨p, hp, y⟩ := ht
          exact absurd (y ▸ (r'.tb p hp).2.2) z1
        · have q : offT ct0.T (offM H M) b = H b := by rw [offT_out (fun p hp y => ht ⟨p, hp, y⟩), offM_out l]
          cases w : H b with
          | none => exact .inl rfl
          | some u =>
            rcases r'.fr b z1 (by show offT ct0.T (offM H M) b ≠ none; rw [q, w]; exact fun y => by cases y) with y | ⟨φ, y⟩
            · exact absurd (show offM G M b = none by rw [offM_out l]; exact z2) y
            · exact .inr ⟨φ, by rw [addM_out l]; exact y⟩
    · obtain ⟨⟨x, z⟩, _⟩ := pinA_ok q
      simp at z
  have upG : ∀ {G' H' : Hp}, Same G' H' → (∀ b o, M.lookup b = some o → H' b = none) → Same G' (addM G' M) := fun {G' H'} g hno b u z => by
    cases l : M.lookup b with
    | none => rw [addM_out l]; exact z
    | some o =>
      have y := hno b o l
      rw [g b u z] at y
      cases y
  have ht : TV ⟨X.K, ct0⟩ (fun cls d _ H => E1 cls d H) fv σ (offM H M) Q1 := by
    refine ⟨_, _, e, r0, ?_⟩
    cases hfv : fv e with
    | stuck => rw [hfv] at hEnd; exact hEnd.elim
    | exc x e' =>
      rw [hfv] at hEnd
      intro G' H' cls dc s' r' hx
      subst hE1
      exact fun hno => hEnd _ _ cls dc (aftOf hno s' r') (by
        have hx2 := RepX.up (t := t) (g := g) (n := n) hn hx
        obtain ⟨q1, q2⟩ := hx2
        refine ⟨q1, ?_⟩
        rcases q2 with q2 | ⟨d, fs, b1, b2, b3, b4⟩
        · exact .inl q2
        · exact .inr ⟨d, fs, b1, upG r'.gh hno _ _ b2, b3, b4.mono (upG r'.gh hno)⟩)
    | ok x e' =>
      rw [hfv] at hEnd
      intro G' H' s' r' v hv
      subst hQ1
      intro hno
      refine hEnd _ _ v (aftOf hno s' r') ?_
      cases x with
      | t _ _ => exact hv.elim
      | p _ => exact hv.elim
      | d d => exact Rp.mono (upG r'.gh hno) (Rp.up (t := t) (g := g) (n := n) hn hv)
      | m x =>
        obtain ⟨a, rfl, ⟨m1, m2, o, m3, m4⟩, l⟩ := hv
        have la : M.lookup a = none := by
          cases l : M.lookup a with
          | none => rfl
          | some o2 => rw [hno a o2 l] at m3; cases m3
        refine ⟨a, o, rfl, by rw [addM_out la]; exact m1, ?_, by rw [addM_out la]; exact m3, (m4.up (t := t) (g := g) (n := n) hn).mono (upG r'.gh hno)⟩
        have m2 : offT ct0.T (offM H M) a = none := m2
        rw [offT_out (fun p hp y => by
          obtain ⟨ps, q, _⟩ := (r'.tb p hp).1
          rw [y, m3] at q
          cases q
          exact m4.noTb (.inl ⟨_, rfl⟩)), offM_out la] at m2
        exact m2
  refine PySem.W.kla_codeExpr (wpAny_mono (hb.run [] _ _ (offM H M) _ J ht) (fun v s' hq => ?_) fun e s' hq => hq)
  obtain ⟨w', H', J', rv, q⟩ := hq
  exact ⟨w', H', J'.os, J'.bare, J'.base, J'.hok, rv, q⟩
end
end MM
end
section
set_option Elab.async false
set_option linter.all false
set_option autoImplicit false
set_option maxRecDepth 100000
set_option maxHeartbeats 4000000
namespace MM
open PySem PySem.Spec L2
open PyProof.Rows (envOfC IntsAre AllBare)
/-! ### a lambda in its maker is data; a call that hands lambdas on -/
section
variable {k : Kc} {c : Fr} {G H : Hp} {σ : L2.St} {e : Env} {a : Addr} {φ : Heap → Prop}
/-- a thing told by its object becomes data (the caller may know it too) -/
theorem RepS.freezeE (r : RepS k c G σ H e) (hH : H a = some (.ext φ)) : RepS k c (upd G a (.ext φ)) σ H e ∧ Same G (upd G a (.ext φ)) := by
  have sG : Same G (upd G a (.ext φ)) := fun b u q => by
    by_cases hb : b = a
    · subst hb
      have z := r.gh _ _ q
      rw [hH] at z
      rw [upd_same, z]
    · rw [upd_ne hb]; exact q
  refine ⟨⟨r.g0.trans sG, fun b u q => ?_, r.oh, fun b g1 g2 => ?_, r.tb.keepT (fun b u q _ => q) (fun b ps q => ⟨id, fun n => ?_⟩), r.len, fun i x hx => ?_, r.dis, r.pin⟩, sG⟩
  · by_cases hb : b = a
    · subst hb; rw [upd_same] at q; rw [hH, ← q]
    · rw [upd_ne hb] at q; exact r.gh _ _ q
  · by_cases hb : b = a
    · subst hb; exact .inr ⟨φ, upd_same⟩
    · rw [upd_ne hb] at g1 ⊢; exact r.fr b g1 g2
  · rw [upd_ne (fun z => by subst z; rw [hH] at q; cases q)]; exact n
  · obtain ⟨v, h1, h2⟩ := r.slot i x hx
    refine ⟨v, h1, ?_⟩
    have own : ∀ {y : MV}, (∃ b, v = .ref b ∧ MAt k c G H b y) → ∃ b, v = .ref b ∧ MAt k c (upd G a (.ext φ)) H b y := fun {y} ⟨b, e1, m⟩ => by
      have na : b ≠ a := fun z => by
        subst z
        obtain ⟨_, _, o, m3, m4⟩ := m
        rw [hH] at m3
        cases m3
        exact m4.noTb (.inr ⟨_, rfl⟩)
      exact ⟨b, e1, m.keep sG (by rw [upd_ne na]; exact m.1) rfl⟩
    cases x with
    | d d => exact Rp.mono sG h2
    | m x => exact own h2
    | p x => exact own h2
    | t _ _ => exact h2.elim
end
section
variable {X : Cx} {ct : Ct} {W : WX} {P d : Addr} {j : Nat} {params : Arguments} {body : Expr} {scope : Scope} {pos : Pos}
/-- what a maker's frame knows of its tables and cells -/
structure LamFr (X : Cx) (ct : Ct) (d P : Addr) : Prop where
  tb : LamX.TabB X.base X.mg d P
  code : X.env.code = .ref d
  cl : ct.cl = X.env.cells
  q : ct.q = X.env.qual ++ "<lambda>"
  mem : (P, ct.q) ∈ ct.T
  one : ∀ p ∈ ct.T, p.1 = P → p.2 = ct.q
theorem e_lam (F : LamFr X ct d P) (hj : j < ct.nl) (hL : ct.L j = ⟨params, body, scope⟩) (L : LamX.LamS X.env.scope scope) (hdef : defaultsOf params X.env = ([], [])) : SE X ct W (.Lambda params body scope pos) (cC (.lam j)) := PEw (pe_lam F.tb F.code L hdef) fun σ H Q q => by
  obtain ⟨c, G, e, r, p⟩ := q
  rw [← F.q, ← F.cl]
  refine ⟨(r.tb _ F.mem).1, fun f c' H1 g n => ?_⟩
  have r1 := r.grow g F.mem F.one
  obtain ⟨r2, s2⟩ := r1.freezeE g.code
  have r3 := r2.lay (o := LamO f ct.q params body scope (cloFrom ct.cl scope.names []) c') n
  have gf : upd G c' (LamX.CodeO c' ct.q) f = none := r2.gh.free n
  refine p _ _ (s2.trans (same_upd gf)) r3 (.ref f) (.lam (d := c') ⟨hj, ?_, ?_⟩)
  · rw [upd_same]
    show some _ = some (LamO f ct.q (ct.L j).params (ct.L j).body (ct.L j).scope (cloFrom ct.cl (ct.L j).scope.names []) c')
    rw [hL]
  · have ne : c' ≠ f := fun z => by have := g.code; rw [z, n] at this; cases this
    rw [upd_ne ne]; exact upd_same
end
theorem Rp.lamI {k : Kc} {G : Hp} {j : Nat} : ∀ {v : V} {d : D}, Rp k G v d → d = .lam j → ∃ f c', v = .ref f ∧ j < k.ct.nl ∧ G f = some (LamO f k.ct.q (k.ct.L j).params (k.ct.L j).body (k.ct.L j).scope (cloFrom k.ct.cl (k.ct.L j).scope.names []) c') ∧ G c' = some (LamX.CodeO c' k.ct.q)
  | _, _, .lam (f := f) (d := c') h, e => by injection e with e; subst e; exact ⟨f, c', rfl, h⟩
  | _, _, .non, e => by cases e
  | _, _, .bl _, e => by cases e
  | _, _, .int _, e => by cases e
  | _, _, .str _, e => by cases e
  | _, _, .lst _ _, e => by cases e
  | _, _, .scr _, e => by cases e
  | _, _, .rng _, e => by cases e
  | _, _, .tup _ _, e => by cases e
  | _, _, .obj _ _ _, e => by cases e
  | _, _, .dic _ _ _, e => by cases e
  | _, _, .thk _, e => by cases e
theorem Rps.byGet {k : Kc} {G : Hp} : ∀ {vs : List V} {ds : List D}, vs.length = ds.length → (∀ (i : Nat) v d, vs[i]? = some v → ds[i]? = some d → Rp k G v d) → Rps k G vs ds
  | [], [], _, _ => .nil
  | v :: vs, d :: ds, h, g => .cons (g 0 v d rfl rfl) (Rps.byGet (by simpa using h) fun i v d h1 h2 => g (i + 1) v d (by simpa using h1) (by simpa using h2))
  | [], _ :: _, h, _ => by simp at h
  | _ :: _, [], h, _ => by simp at h
/-- things that have a property each, told by a list -/
theorem track (p : Addr → Obj → Prop) : ∀ (l : List Addr), (∀ c ∈ l, ∃ o, p c o) → ∃ M : List (Addr × Obj), (∀ b o, M.lookup b = some o → p b o) ∧ ∀ c ∈ l, ∃ o, M.lookup c = some o
  | [], _ => ⟨[], fun b o h => by simp at h, fun c h => by simp at h⟩
  | c :: l, h => by
    obtain ⟨o, ho⟩ := h c List.mem_cons_self
    obtain ⟨M, m1, m2⟩ := track p l fun d hd => h d (List.mem_cons_of_mem _ hd)
    have at_ : ∀ b, ((c, o) :: M).lookup b = if b = c then some o else M.lookup b := fun b => by
      rw [List.lookup_cons]
      by_cases hb : b = c
      · subst hb; simp
      · rw [if_neg hb, beq_false_of_ne hb]
    refine ⟨(c, o) :: M, fun b u hb => ?_, fun d hd => ?_⟩
    · rw [at_] at hb
      split at hb
      · rename_i e; subst e; cases hb; exact ho
      · exact m1 b u hb
    · rw [at_]
      split
      · exact ⟨o, rfl⟩
      · rename_i n
        rcases List.mem_cons.mp hd with e | e
        · exact absurd e n
        · exact m2 d e
/-- the frame's closure cells -/
theorem cells_M {X : Cx} {pins : List (Addr × Obj)} {σ : L2.St} {H : Hp} {s : Shared} (I : Inv X pins σ H s) (hfn : ∀ x, X.fn x = true) : ∃ M : List (Addr × Obj), (∀ b o, M.lookup b = some o → s.heap.get? b = some o ∧ H b = none ∧ b ∉ frs X.stack ∧ X.base.get? b = none ∧ ∃ v, o.data = .cell v) ∧
    ∀ x c, X.env.cells.lookup x = some c → ∃ o, M.lookup c = some o := by
  obtain ⟨M, m1, m2⟩ := track (fun b o => s.heap.get? b = some o ∧ H b = none ∧ b ∉ frs X.stack ∧ X.base.get? b = none ∧ ∃ v, o.data = .cell v) (X.env.cells.filterMap fun p => X.env.cells.lookup p.1) fun c hc => by
    obtain ⟨⟨x, c0⟩, _, h2⟩ := List.mem_filterMap.mp hc
    have h2 : X.env.cells.lookup x = some c := h2
    obtain ⟨v, o, ho, hd⟩ := I.cell x c h2
    have above := I.ok.cab x c (hfn x) h2
    refine ⟨o, ho, I.freeC x c h2, fun z => ?_, ?_, v, hd⟩
    · rcases List.mem_cons.mp (I.stkSub c z) with e | e
      · exact I.cne x c h2 e
      · obtain ⟨_, u, hu, _⟩ := I.ok.funs.mem e
        exact absurd (Nat.lt_of_lt_of_le (Heap.lt_size hu) above) (Nat.lt_irrefl _)
    · cases q : X.base.get? c with
      | none => rfl
      | some u => exact absurd (Nat.lt_of_lt_of_le (Heap.lt_size (I.ok.bs c u q).1) above) (Nat.lt_irrefl _)
  refine ⟨M, m1, fun x c l => m2 c (List.mem_filterMap.mpr ?_)⟩
  have : ∃ p ∈ X.env.cells, p.1 = x := by
    have mem := PySem.mem_of_lookup l
    exact ⟨(x, c), mem, rfl⟩
  obtain ⟨p, hp, e⟩ := this
  exact ⟨p, hp, by rw [e]; exact l⟩
end MM
end
section
set_option Elab.async false
set_option linter.all false
set_option autoImplicit false
set_option maxRecDepth 100000
set_option maxHeartbeats 4000000
namespace MM
open PySem PySem.Spec L2
open PyProof.Rows (envOfC IntsAre AllBare)
/-- a def that gets thunks: th tells what each does -/
structure FnAtL (P : Program) (w : World) (K : PySem.W.Frag) (mg : Str → Option Value) (base : Heap) (ct : Ct) (kt k : Nat) (x : Str) (ps : List Str) (F : (Nat → Out) → List EV → Out) : Prop where
  ex : ∃ f fd, (∀ (t : Nat → Addr) (g : Nat → Hp) (n : Nat) (th : Nat → Out), (∀ j, j < n → Thk P w K mg base kt (ct.wth t g n) j (th j)) → FnG P w K mg base k f fd ps (spM ⟨K, ct.wth t g n⟩ (F th))) ∧ mg x = some (.ref f) ∧ PySem.W.keepIn K (.ref f) = true ∧ Binds K fd ps []
/-- the lambdas of a maker: what each body does -/
structure LamOk (X : Cx) (ct : Ct) (kb : Nat) (lams : Nat → EM EV) : Prop where
  cl : ct.cl = X.env.cells
  q : ct.q = X.env.qual ++ "<lambda>"
  n0 : ct.n = 0
  fn : ∀ x, X.fn x = true
  sc : ∀ j, j < ct.nl → LamX.LamS X.env.scope (ct.L j).scope
  bind : ∀ j, j < ct.nl → ∀ (q : Str) (cl : List (Str × Addr)) (pm cv ctv : Value), bindArgs (PySem.W.kla_fn "<lambda>" q (ct.L j).params (ct.L j).body (ct.L j).scope cl pm cv ctv) ⟨[], []⟩ = pure []
  body : ∀ j, j < ct.nl → ∀ (f c' : Addr) (A : Around) (outer : List PySem.Env) (s : Shared) (H : Hp) (E : XK), A.guards = some [] → Room kb (A.deeper (LamX.lamEnv X (ct.L j).scope s.heap.objs.size f c')) →
    Takes (LamX.lamCx X A outer s H E (ct.L j).scope f c') (fun cls d _ H => E cls d H) → SV (LamX.lamCx X A outer s H E (ct.L j).scope f c') ct (fun cls d _ H => E cls d H) (ct.L j).body (lams j)
def lamsOf : List D → Option (List Nat)
  | [] => some []
  | .lam j :: ds => (lamsOf ds).map (j :: ·)
  | _ => none
/-- the first thing handed on: a lambda, a list of lambdas -/
def thkHd : D → Option (D × List Nat)
  | .lam j => some (.thk 0, [j])
  | .lst ds => (lamsOf ds).map fun js => (.lst ((List.range js.length).map .thk), js)
  | _ => none
def outS : Out → Env → Res EV
  | .ret (.d x) _, e => if x.sc = true then .ok (.d x) e else .stuck
  | .ret (.m (.lst xs)) _, e => if xs.all D.sc = true then .ok (.m (.lst xs)) e else .stuck
  | _, _ => .stuck
def thOf (lams : Nat → EM EV) (e : Env) (js : List Nat) : Nat → Out := fun n => match js[n]? with
  | some j => resO (lams j (dOnly e))
  | none => .stuck
def tailL (F : (Nat → Out) → List EV → Out) (lams : Nat → EM EV) (ts : List Tk) (e1 : Env) : Res EV := match vals ts with
  | some (d :: ds) => (match thkHd d with
    | some (d', js) => outS (F (thOf lams e1 js) (.d d' :: ds.map .d)) e1
    | none => .stuck)
  | _ => .stuck
def vCallL (F : (Nat → Out) → List EV → Out) (lams : Nat → EM EV) (fa : EM (List Tk)) : EM EV := fun e => (fa e).bind (tailL F lams)
theorem lamsOf_map : ∀ {ds : List D} {js : List Nat}, lamsOf ds = some js → ds = js.map .lam
  | [], js, h => by cases h; rfl
  | d :: ds, js, h => by
    cases d with
    | lam j =>
      have h : (lamsOf ds).map (j :: ·) = some js := h
      obtain ⟨js', h1, h2⟩ := Option.map_eq_some_iff.mp h
      subst h2
      rw [List.map_cons, ← lamsOf_map h1]
    | _ => cases h
theorem lams_at {k : Kc} {G : Hp} : ∀ {js : List Nat} {vs : List V}, Rps k G vs (js.map .lam) → ∃ fs : List Addr, vs = fs.map .ref ∧ fs.length = js.length ∧ ∀ (m : Nat) f j, fs[m]? = some f → js[m]? = some j → j < k.ct.nl ∧ ∃ c', G f = some (LamO f k.ct.q (k.ct.L j).params (k.ct.L j).body (k.ct.L j).scope (cloFrom k.ct.cl (k.ct.L j).scope.names []) c') ∧ G c' = some (LamX.CodeO c' k.ct.q)
  | [], vs, h => by cases h; exact ⟨[], rfl, rfl, fun m f j h => by simp at h⟩
  | j :: js, vs, h => by
    cases h with
    | cons a b =>
      obtain ⟨f, c', e, h1, h2, h3⟩ := Rp.lamI a rfl
      obtain ⟨fs, e2, l, g⟩ := lams_at b
      subst e
      subst e2
      refine ⟨f :: fs, rfl, by simp [l], fun m f2 j2 q1 q2 => ?_⟩
      cases m with
      | zero => simp at q1 q2; subst q1; subst q2; exact ⟨h1, c', h2, h3⟩
      | succ m => exact g m f2 j2 (by simpa using q1) (by simpa using q2)
theorem Rp.scK {k k' : Kc} {G G' : Hp} {v : V} {d : D} (h : Rp k G v d) (hd : d.sc = true) : Rp k' G' v d := by
  cases h with
  | non => exact .non
  | bl b => exact .bl b
  | int i => exact .int i
  | str x => exact .str x
  | lst _ _ => cases hd
  | scr _ => cases hd
  | rng _ => cases hd
  | thk _ => cases hd
  | lam _ => cases hd
  | tup _ _ => cases hd
  | obj _ _ _ => cases hd
  | dic _ _ _ => cases hd
theorem Rps.scK {k k' : Kc} {G G' : Hp} : ∀ {vs : List V} {ds : List D}, Rps k G vs ds → ds.all D.sc = true → Rps k' G' vs ds
  | _, _, .nil, _ => .nil
  | _, _, .cons a b, h => by
    rw [List.all_cons, Bool.and_eq_true] at h
    exact .cons (Rp.scK a h.1) (Rps.scK b h.2)
theorem code_ne {h : Heap} {b : Addr} {o : Obj} {v : Option Value} {q : Str} (e : h.get? b = some o) (d : o.data = .cell v) : LamX.CodeO b q ≠ ExO b o := fun z => by
  unfold LamX.CodeO ExO at z
  have z := HO.ext.inj z
  have y := congrFun z h
  have y2 := y.mpr e
  obtain ⟨oc, vs, t, g1, g2, _⟩ := y2
  rw [e] at g1
  cases g1
  rw [d] at g2
  cases g2
section
variable {X : Cx} {ct : Ct} {W : WX} {kb k : Nat} {lams : Nat → EM EV} {x : Str} {ps : List Str} {F : (Nat → Out) → List EV → Out} {p pos : Pos} {a : Expr} {es : List Expr} {fa : EM (List Tk)}
/-- the thunks that a call hands on -/
theorem thunks_ok {pins : List (Addr × Obj)} {σ : L2.St} {H : Hp} {s : Shared} {c : Fr} {G : Hp} {e : Env} (L : LamOk X ct kb lams) (I : Inv X pins σ H s) (r : RepS ⟨X.K, ct⟩ c G σ H e) {M : List (Addr × Obj)}
    (m1 : ∀ b o, M.lookup b = some o → s.heap.get? b = some o ∧ H b = none ∧ b ∉ frs X.stack ∧ X.base.get? b = none ∧ ∃ v, o.data = .cell v) (m2 : ∀ x c, X.env.cells.lookup x = some c → ∃ o, M.lookup c = some o)
    {js : List Nat} {fs : List Addr} (hl : fs.length = js.length)
    (hfs : ∀ (m : Nat) f j, fs[m]? = some f → js[m]? = some j → j < ct.nl ∧ ∃ c', G f = some (LamO f ct.q (ct.L j).params (ct.L j).body (ct.L j).scope (cloFrom ct.cl (ct.L j).scope.names []) c') ∧ G c' = some (LamX.CodeO c' ct.q)) :
    ∀ m, m < js.length → Thk X.prog X.w X.K X.mg X.base (kb + 1) (ct.wth (fun m => (fs[m]?).getD 0) (fun _ => addM G M) js.length) m (thOf lams e js m) := fun m hm => by
  have gM : ∀ b o, M.lookup b = some o → G b = none := fun b o l => r.gh.free (m1 b o l).2.1
  have out : ∀ {b : Addr} {u : HO}, G b = some u → addM G M b = some u := fun {b u} z => by
    cases l : M.lookup b with
    | none => rw [addM_out l]; exact z
    | some o => rw [gM b o l] at z; cases z
  obtain ⟨f, hf⟩ : ∃ f, fs[m]? = some f := ⟨_, List.getElem?_eq_getElem (by omega)⟩
  obtain ⟨j, hj⟩ : ∃ j, js[m]? = some j := ⟨_, List.getElem?_eq_getElem hm⟩
  obtain ⟨jn, c', g1, g2⟩ := hfs m f j hf hj
  rw [L.cl, L.q] at g1
  rw [L.q] at g2
  have gr : ThkGr X σ M G (addM G M) := by
    refine ⟨fun b o l => ⟨addM_in l, gM b o l⟩, fun b u z => out z, fun y d l => ?_, fun b o l => (m1 b o l).2.2.2.2, fun i y v h1 h2 h3 => ?_⟩
    · obtain ⟨o, l2⟩ := m2 y d l
      obtain ⟨v, hv⟩ := (m1 d o l2).2.2.2.2
      exact ⟨o, v, l2, hv⟩
    · obtain ⟨mm, hn, hl⟩ := I.loc
      obtain ⟨u, rv, lk⟩ := hl i y v h1 h2 (.inr h3)
      rcases lk with ⟨k1, _⟩ | ⟨_, d, l, o, ho, hd⟩
      · have k1 : X.env.scope.names.lookup y = some .local := k1
        rcases h3 with h3 | h3 <;> rw [h3] at k1 <;> cases k1
      · obtain ⟨o2, l2⟩ := m2 y d l
        have := (m1 d o2 l2).1
        rw [ho] at this
        cases this
        exact ⟨u, d, o, rv, l, l2, hd⟩
  have ef : (fs[m]?).getD 0 = f := by rw [hf]; rfl
  have eo : thOf lams e js m = resO (lams j (dOnly e)) := by unfold thOf; rw [hj]
  rw [eo]
  refine thk_of (k := kb) (M := M) (Gm := G) (c' := c') (params := (ct.L j).params) (body := (ct.L j).body) (scope := (ct.L j).scope) I.ok I.len (L.sc j jn) (L.bind j jn) L.n0 gr ?_ (out g2) (by unfold dOnly; rw [List.length_map]; exact r.len) (fun i y hy => ?_) ?_
  · show addM G M ((fs[m]?).getD 0) = some (LamO ((fs[m]?).getD 0) _ _ _ _ _ _)
    rw [ef]; exact out g1
  · unfold dOnly at hy
    rw [List.getElem?_map] at hy
    obtain ⟨z, hz, ez⟩ := Option.map_eq_some_iff.mp hy
    cases z with
    | none => cases ez
    | some z =>
      cases z with
      | d d =>
        have ez : some (EV.d d) = some y := ez
        cases ez
        obtain ⟨v, h1, h2⟩ := r.slot i _ hz
        exact ⟨d, v, rfl, h1, h2⟩
      | m _ => cases ez
      | p _ => cases ez
      | t _ _ => cases ez
  · exact fun A outer s H E hg hr tk => L.body j jn _ _ A outer s H E hg hr tk
theorem v_callL (hF : FnAtL X.prog X.w X.K X.mg X.base ct (kb + 1) k x ps F) (L : LamOk X ct kb lams) (hgu : X.A.guards = some []) (hr : Room k X.A) (hg : Gl X x) (ha : SA X ct W (a :: es) fa) (hdb : (x == ("__debug__" : Str)) = false := by decide)
    (he : starEach (a :: es) X.env = (false, eval a X.env) :: starEach es X.env := by rfl) (hpl : (backTo pos (starEach es X.env)).any (·.1) = false := by rfl) : SV X ct W (.Call (.Name x p) (a :: es) [] pos) (vCallL F lams fa) := by
  obtain ⟨f, fd, h1, h2, h3, h4⟩ := hF.ex
  refine ⟨fun pins s σ H Q I h => wpAny_Call_Name_kw (ld_glob I hg h2 (PySem.W.callWith_K (h₀ := X.base) I.ok.mod.kin h3 (thn (ha.run pos pins s σ H (fun vs H1 => ∃ c G e ts, RepS ⟨X.K, ct⟩ c G σ H1 e ∧ RpKs ⟨X.K, ct⟩ G σ vs ts ∧ Post ⟨X.K, ct⟩ W c G σ (fun G' H' e' x => ∀ v, RpV ⟨X.K, ct⟩ c G' σ H' e' v x → Q v H') (tailL F lams ts e)) I ?_) fun us s1 ⟨vs, H1, I1, rr, q⟩ => ⟨I1.kIn, ?_⟩) he hpl) hdb)⟩
  · obtain ⟨c, G, e, r, p⟩ := h
    exact ⟨c, G, e, r, (Post.bind p).imp fun G1 H1 e1 ts s1 r1 p1 vs hvs => ⟨c, G1, e1, ts, r1, hvs, p1⟩⟩
  · obtain ⟨c, G, e, ts, r, hvs, p⟩ := q
    unfold tailL at p
    split at p
    · rename_i d ds hv
      split at p
      · rename_i d' js hd
        have rds := vals_ok hv hvs
        cases rds with
        | cons ra rs =>
          rename_i v0 vs0
          obtain ⟨M, m1, m2⟩ := cells_M I1 L.fn
          have gM : ∀ b o, M.lookup b = some o → G b = none := fun b o l => r.gh.free (m1 b o l).2.1
          have leG : Same G (addM G M) := fun b u z => by
            cases l : M.lookup b with
            | none => rw [addM_out l]; exact z
            | some o => rw [gM b o l] at z; cases z
          have mq : ∀ b o, M.lookup b = some o → s1.heap.get? b = some o ∧ H1 b = none := fun b o l => ⟨(m1 b o l).1, (m1 b o l).2.1⟩
          obtain ⟨fs, hl, hfs, r0⟩ : ∃ fs : List Addr, fs.length = js.length ∧ (∀ (m : Nat) f j, fs[m]? = some f → js[m]? = some j → j < ct.nl ∧ ∃ c', G f = some (LamO f ct.q (ct.L j).params (ct.L j).body (ct.L j).scope (cloFrom ct.cl (ct.L j).scope.names []) c') ∧ G c' = some (LamX.CodeO c' ct.q)) ∧
              Rp ⟨X.K, ct.wth (fun m => (fs[m]?).getD 0) (fun _ => addM G M) js.length⟩ (addM G M) v0 d' := by
            cases d with
            | lam j =>
              have hd : some (D.thk 0, [j]) = some (d', js) := hd
              cases hd
              obtain ⟨f, c', e1, q1, q2, q3⟩ := Rp.lamI ra rfl
              subst e1
              refine ⟨[f], rfl, fun m f2 j2 z1 z2 => ?_, .thk (j := 0) ⟨Nat.lt_succ_self 0, Same.refl _⟩⟩
              cases m with
              | zero => simp at z1 z2; subst z1; subst z2; exact ⟨q1, c', q2, q3⟩
              | succ m => simp at z1
            | lst ds' =>
              have hd : (lamsOf ds').map (fun js => (D.lst ((List.range js.length).map .thk), js)) = some (d', js) := hd
              obtain ⟨js', z1, z2⟩ := Option.map_eq_some_iff.mp hd
              cases z2
              obtain rfl := lamsOf_map z1
              cases ra with
              | lst ga rl =>
                obtain ⟨fs, e1, hl, hfs⟩ := lams_at rl
                subst e1
                refine ⟨fs, hl, hfs, .lst (leG _ _ ga) (Rps.byGet (by simp [hl]) fun i v d q1 q2 => ?_)⟩
                rw [List.getElem?_map] at q1 q2
                obtain ⟨f, y1, y2⟩ := Option.map_eq_some_iff.mp q1
                obtain ⟨n, y3, y4⟩ := Option.map_eq_some_iff.mp q2
                subst y2
                subst y4
                have hi : i < js.length := by
                  have := (List.getElem?_eq_some_iff.mp y3).1
                  simpa using this
                rw [List.getElem?_range hi] at y3
                cases y3
                have := Rp.thk (k := ⟨X.K, ct.wth (fun m => (fs[m]?).getD 0) (fun _ => addM G M) js.length⟩) (G := addM G M) (j := i) ⟨hi, Same.refl _⟩
                rw [show (⟨X.K, ct.wth (fun m => (fs[m]?).getD 0) (fun _ => addM G M) js.length⟩ : Kc).ct.t i = f from by show (fs[i]?).getD 0 = f; rw [y1]; rfl] at this
                exact this
            | _ => cases hd
          have hth := thunks_ok L I1 r m1 m2 hl hfs
          have Fn := h1 _ _ _ _ hth
          generalize hct : ct.wth (fun m => (fs[m]?).getD 0) (fun _ => addM G M) js.length = ct' at r0 Fn
          have eT : ct'.T = ct.T := by rw [← hct]; rfl
          have e0 : Env0 X.prog X.w X.K X.mg X.base X.A X.stack s1 (addM H1 M) := by
            have e := I1.env0
            refine ⟨e.frames, e.mod, fun b o z => ⟨(e.bs b o z).1, ?_⟩, e.bsz, e.funs, fun b z => ?_, hok_add e.hok mq, e.bare⟩
            · cases l : M.lookup b with
              | none => rw [addM_out l]; exact (e.bs b o z).2
              | some o2 => rw [(m1 b o2 l).2.2.2.1] at z; cases z
            · cases l : M.lookup b with
              | none => rw [addM_out l]; exact e.frf b z
              | some o2 => exact absurd z (m1 b o2 l).2.2.1
          have rs' : Rps ⟨X.K, ct'⟩ (addM G M) vs0 ds := by rw [← hct]; exact (rs.up L.n0).mono leG
          have same2 : Same (addM G M) (addM H1 M) := fun b u z => by
            rcases addM_some z with ⟨o, l, rfl⟩ | ⟨l, z2⟩
            · exact addM_in l
            · rw [addM_out l]; exact r.gh _ _ z2
          have tM : ∀ p ∈ ct.T, M.lookup p.1 = none := fun p hp => by
            obtain ⟨ps, z, _⟩ := (r.tb p hp).1
            cases l : M.lookup p.1 with
            | none => rfl
            | some o => have z : H1 p.1 = _ := z; rw [(m1 _ o l).2.1] at z; cases z
          have tb' : Tbs ct'.T (fun _ => none) (addM G M) (addM H1 M) := by
            rw [eT]
            exact fun p hp => ⟨tabS_add (H := H1) (r.tb p hp).1 fun b o l => (m1 b o l).2.1, rfl, by rw [addM_out (tM p hp)]; exact (r.tb p hp).2.2⟩
          have args' : Args ⟨X.K, ct'⟩ (addM G M) (addM H1 M) (v0 :: vs0) (.d d' :: ds.map .d) := by
            refine ⟨by simp [rs.len], fun i y hy => ?_, fun i j b q1 q2 => ?_⟩
            · cases i with
              | zero => simp at hy; subst hy; exact ⟨v0, rfl, r0⟩
              | succ i =>
                have hy : (ds.map EV.d)[i]? = some y := by simpa using hy
                rw [List.getElem?_map] at hy
                obtain ⟨dd, y1, y2⟩ := Option.map_eq_some_iff.mp hy
                subst y2
                obtain ⟨v, y3, y4⟩ := rs'.get y1
                exact ⟨v, by simpa using y3, y4⟩
            · obtain ⟨⟨z, hz⟩, _⟩ := pinA_ok q1
              cases i with
              | zero => simp at hz
              | succ i => simp at hz
          have noPin : ∀ (i : Nat) (b : Addr), pinA (v0 :: vs0) (.d d' :: ds.map .d) i ≠ some b := fun i b q1 => by
            obtain ⟨⟨z, hz⟩, _⟩ := pinA_ok q1
            cases i with
            | zero => simp at hz
            | succ i => simp at hz
          have len1 : us.length = ps.length := by rw [← rr.length]; exact Fn.len (v0 :: vs0) (addM H1 M) (fun _ _ => True) (fun _ _ _ => True) ⟨addM G M, _, same2, ⟨tb', args'⟩, by
            have ns : F (thOf lams e js) (.d d' :: ds.map .d) ≠ .stuck := fun z => by rw [z] at p; exact p
            cases hFo : F (thOf lams e js) (.d d' :: ds.map .d) with
            | ret x ps => exact fun _ _ _ _ _ => trivial
            | exc x ps => exact fun _ _ _ _ _ _ => trivial
            | stuck => exact absurd hFo ns⟩
          have bb := h4 s1 us I1.kIn (by rw [List.append_nil]; exact len1)
          rw [List.append_nil] at bb
          -- what comes back
          have back : ∀ {G' H' : Hp} {qs : List (Option MV)}, Aft ⟨X.K, ct'⟩ (v0 :: vs0) (.d d' :: ds.map .d) (addM G M) (addM H1 M) G' H' qs → (∀ b o, M.lookup b = some o → H' b = some (ExO b o)) ∧ (∀ b o, M.lookup b = some o → G' b = some (ExO b o)) ∧ Aft ⟨X.K, ct⟩ [] [] G H1 (offM G' M) (offM H' M) [] := fun {G' H' qs} af => by
            have hG : ∀ b o, M.lookup b = some o → G' b = some (ExO b o) := fun b o l => af.g _ _ (addM_in l)
            have hH : ∀ b o, M.lookup b = some o → H' b = some (ExO b o) := fun b o l => af.gh _ _ (hG b o l)
            have offH : ∀ {b : Addr} {u : HO}, H' b = some u → (∀ o, M.lookup b = some o → u ≠ ExO b o) → offM H' M b = some u := fun {b u} z n => by
              cases l : M.lookup b with
              | none => rw [offM_out l]; exact z
              | some o => rw [hH b o l] at z; cases z; exact absurd rfl (n o l)
            refine ⟨hH, hG, fun b u z => ?_, fun b u z => ?_, fun b u z _ nt => ?_, fun p hp => ?_, fun b z1 z2 => ?_, fun i b q => ?_⟩
            · have l : M.lookup b = none := by
                cases l : M.lookup b with
                | none => rfl
                | some o => rw [gM b o l] at z; cases z
              rw [offM_out l]; exact af.g _ _ (leG _ _ z)
            · obtain ⟨l, z2⟩ := offM_some z
              rw [offM_out l]; exact af.gh _ _ z2
            · have l : M.lookup b = none := by
                cases l : M.lookup b with
                | none => rfl
                | some o => rw [(m1 b o l).2.1] at z; cases z
              rw [offM_out l]
              exact af.keep b u (by rw [addM_out l]; exact z) (noPin · b) (by rw [show (Kc.mk X.K ct').ct.T = ct.T from eT]; exact nt)
            · obtain ⟨ps, a1, a2, a3⟩ := af.tb p (by rw [show (Kc.mk X.K ct').ct.T = ct.T from eT]; exact hp)
              refine ⟨ps, offH a1 (fun o _ z => by cases z), a2, fun pos cv hc => ?_⟩
              obtain ⟨dd, d1, d2⟩ := a3 pos cv hc
              refine ⟨dd, d1, offH d2 fun o l => ?_⟩
              obtain ⟨v, hv⟩ := (m1 dd o l).2.2.2.2
              exact code_ne (m1 dd o l).1 hv
            · cases l : M.lookup b with
              | some o => rw [offM_in l] at z1; exact absurd rfl z1
              | none =>
                rw [offM_out l] at z1 ⊢
                rcases af.new b z1 (by rw [addM_out l]; exact z2) with y | y
                · exact .inl (addM_none y).2
                · exact .inr y
            · obtain ⟨⟨z, hz⟩, _⟩ := pinA_ok q
              simp at hz
          refine wpAny_call (codeAny_mono (Fn.run X.A X.stack s1 (addM H1 M) ⟨us, []⟩ us (v0 :: vs0) (fun v H' => (∀ b o, M.lookup b = some o → H' b = some (ExO b o)) ∧ Q v (offM H' M)) (fun _ _ _ => False) hgu hr e0 bb rr ⟨addM G M, _, same2, ⟨tb', args'⟩, ?_⟩) fun res s' hq => ?_)
          · have p : Post ⟨X.K, ct⟩ W c G σ (fun G' H' e' x => ∀ v, RpV ⟨X.K, ct⟩ c G' σ H' e' v x → Q v H') (outS (F (thOf lams e js) (.d d' :: ds.map .d)) e) := p
            cases hFo : F (thOf lams e js) (.d d' :: ds.map .d) with
            | stuck => rw [hFo] at p; exact p.elim
            | exc y qs => rw [hFo] at p; exact p.elim
            | ret y qs =>
              rw [hFo] at p
              intro G' H' v af hv
              obtain ⟨hH, hG, af'⟩ := back af
              have r' : RepS ⟨X.K, ct⟩ c (offM G' M) σ (offM H' M) e := r.after (vs := []) (ts := []) (as := []) (ps := []) trivial rfl List.nodup_nil af'
              refine ⟨hH, ?_⟩
              cases y with
              | t _ _ => exact p.elim
              | p _ => exact p.elim
              | d y =>
                have p : Post ⟨X.K, ct⟩ W c G σ (fun G' H' e' x => ∀ v, RpV ⟨X.K, ct⟩ c G' σ H' e' v x → Q v H') (if y.sc = true then .ok (.d y) e else .stuck) := p
                by_cases hy : y.sc = true
                · rw [if_pos hy] at p
                  exact p _ _ af'.g r' v (show Rp _ _ _ _ from Rp.scK hv hy)
                · rw [if_neg hy] at p; exact p.elim
              | m y =>
                cases y with
                | dic _ _ => exact p.elim
                | obj _ _ _ => exact p.elim
                | lst ys =>
                  have p : Post ⟨X.K, ct⟩ W c G σ (fun G' H' e' x => ∀ v, RpV ⟨X.K, ct⟩ c G' σ H' e' v x → Q v H') (if ys.all D.sc = true then .ok (.m (.lst ys)) e else .stuck) := p
                  by_cases hy : ys.all D.sc = true
                  · rw [if_pos hy] at p
                    obtain ⟨b, o, rfl, b1, b2, b3, zs, rfl, b4⟩ := hv
                    have lb : M.lookup b = none := (addM_none b2).1
                    have hb : RRes ⟨X.K, ct⟩ (offM G' M) H1 (offM H' M) (.ref b) (.m (.lst ys)) := ⟨b, _, rfl, by rw [offM_out lb]; exact b1, (addM_none b2).2, by rw [offM_out lb]; exact b3, zs, rfl, Rps.scK b4 hy⟩
                    exact p _ _ af'.g r' _ (RRes.here (x := .m (.lst ys)) (vs := []) (ts := []) (as := []) (ps := []) r r' trivial rfl List.nodup_nil af' hb (fun _ _ z => by cases z))
                  · rw [if_neg hy] at p; exact p.elim
          · have hq' := cr_more (E' := fun _ _ _ => False) (Q' := Q) mq (fun v H' z => z) hq
            cases res with
            | error er =>
              obtain ⟨_, _, _, _, _, _, _, _, _, _, _, _, z⟩ := hq'
              exact z.elim
            | ok fl =>
              cases fl with
              | ret u => exact I1.after hq'
              | next => exact hq'.elim
              | brk => exact hq'.elim
              | cont => exact hq'.elim
      · exact p.elim
    · exact p.elim
end
end MM
end
section
set_option Elab.async false
set_option linter.all false
set_option autoImplicit false
set_option maxRecDepth 100000
set_option maxHeartbeats 4000000
namespace MM
open PySem PySem.Spec L2
open PyProof.Rows (envOfC IntsAre AllBare)
open Classical
/-! ### a def that makes lambdas: its frame's cells are told by ct -/
def scP : Option MV → Bool
  | none => true
  | some (.lst ds) => ds.all D.sc
  | _ => false
def scO : Out → Out
  | .ret (.d x) ps => if (x.sc && ps.all scP) = true then .ret (.d x) ps else .stuck
  | _ => .stuck
@[simp] theorem scO_ev {x : D} {ps : List (Option MV)} : scO (.ret (.d x) ps) = if (x.sc && ps.all scP) = true then .ret (.d x) ps else .stuck := rfl
section
variable {K : PySem.W.Frag} {ct : Ct} {L : Nat → LamC} {nl : Nat} {cl : List (Str × Addr)} {q : Str} {G : Hp}
mutual
theorem Rp.frm (h0 : ct.nl = 0) (n0 : ct.n = 0) : ∀ {v : V} {d : D}, Rp ⟨K, ct⟩ G v d → Rp ⟨K, ct.frm L nl cl q⟩ G v d
  | _, _, .non => .non
  | _, _, .bl b => .bl b
  | _, _, .int i => .int i
  | _, _, .str x => .str x
  | _, _, .lst h r => .lst h (Rps.frm h0 n0 r)
  | _, _, .scr h => .scr h
  | _, _, .rng h => .rng h
  | _, _, .thk h => absurd (show _ < ct.n from h.1) (by rw [n0]; exact Nat.not_lt_zero _)
  | _, _, .lam h => absurd (show _ < ct.nl from h.1) (by rw [h0]; exact Nat.not_lt_zero _)
  | _, _, .tup h r => .tup h (Rps.frm h0 n0 r)
  | _, _, .obj (c := c) h n r => .obj (c := c) h n (Rps.frm h0 n0 r)
  | _, _, .dic h n r => .dic h n (Rps.frm h0 n0 r)
theorem Rps.frm (h0 : ct.nl = 0) (n0 : ct.n = 0) : ∀ {vs : List V} {ds : List D}, Rps ⟨K, ct⟩ G vs ds → Rps ⟨K, ct.frm L nl cl q⟩ G vs ds
  | _, _, .nil => .nil
  | _, _, .cons a b => .cons (Rp.frm h0 n0 a) (Rps.frm h0 n0 b)
end
theorem MRep.frm (h0 : ct.nl = 0) (n0 : ct.n = 0) {o : HO} {x : MV} (h : MRep ⟨K, ct⟩ G o x) : MRep ⟨K, ct.frm L nl cl q⟩ G o x := by
  cases x with
  | lst ds => obtain ⟨vs, e, r⟩ := h; exact ⟨vs, e, r.frm h0 n0⟩
  | dic ks ds => obtain ⟨vs, e, n, r⟩ := h; exact ⟨vs, e, n, r.frm h0 n0⟩
  | obj c ns ds => obtain ⟨dx, fs, e, n, r⟩ := h; exact ⟨dx, fs, e, n, r.frm h0 n0⟩
theorem args_frm (h0 : ct.nl = 0) (n0 : ct.n = 0) {H : Hp} {vs : List V} {as : List EV} (r : Args ⟨K, ct⟩ G H vs as) : Args ⟨K, ct.frm L nl cl q⟩ G H vs as := by
  refine ⟨r.len, fun i x hx => ?_, r.dis⟩
  obtain ⟨v, h1, h2⟩ := r.get i x hx
  refine ⟨v, h1, ?_⟩
  cases x with
  | d d => exact Rp.frm h0 n0 h2
  | p y => obtain ⟨a, o, e, g1, g2, g3⟩ := h2; exact ⟨a, o, e, g1, g2, g3.frm h0 n0⟩
  | m _ => exact h2.elim
  | t _ _ => exact h2.elim
end
/-- the caller's promise, told for the frame -/
theorem spM_frm {K : PySem.W.Frag} {ct : Ct} {L : Nat → LamC} {nl : Nat} {cl : List (Str × Addr)} {qn : Str} {F : List EV → Out} {vs : List V} {H : Hp} {Q : VK} {E : XK} (h0 : ct.nl = 0) (n0 : ct.n = 0) (h : spM ⟨K, ct⟩ (fun as => scO (F as)) vs H Q E) :
    spM ⟨K, ct.frm L nl cl qn⟩ F vs H Q E := by
  obtain ⟨G, as, s, ⟨tb, ar⟩, e⟩ := h
  refine ⟨G, as, s, ⟨tb, args_frm h0 n0 ar⟩, ?_⟩
  have e : EndO ⟨K, ct⟩ vs as G H Q E (scO (F as)) := e
  cases hF : F as with
  | stuck => rw [hF] at e; exact e.elim
  | exc x ps => rw [hF] at e; exact e.elim
  | ret x ps =>
    rw [hF] at e
    cases x with
    | m _ => exact e.elim
    | p _ => exact e.elim
    | t _ _ => exact e.elim
    | d x =>
      rw [scO_ev] at e
      by_cases hs : (x.sc && ps.all scP) = true
      · rw [if_pos hs] at e
        obtain ⟨h1, h2⟩ := Bool.and_eq_true_iff.mp hs
        intro G' H' v af hv
        refine e G' H' v ⟨af.g, af.gh, af.keep, af.tb, af.new, fun i a z => ?_⟩ (Rp.scK hv h1)
        obtain ⟨y, o, q1, q2, q3⟩ := af.pins i a z
        have q4 := List.all_eq_true.mp h2 _ (List.mem_of_getElem? q1)
        cases y with
        | lst ds => obtain ⟨us, e1, r⟩ := q3; exact ⟨_, o, q1, q2, us, e1, Rps.scK r q4⟩
        | dic _ _ => cases q4
        | obj _ _ _ => cases q4
      · rw [if_neg hs] at e; exact e.elim
/-- what a def's body gives, out of what is asked -/
theorem ts_of_sp {K : PySem.W.Frag} {ct : Ct} {N : List Str} {n m : Nat} {fb : SM} {vs : List V} {H : Hp} {Q : VK} {E : XK} (hn : N.length = n) (h : spM ⟨K, ct⟩ (runD n m fb) vs H Q E) : vs.length = m ∧ TS ⟨K, ct⟩ (fun cls d _ H => E cls d H) fb { nx := fun _ H' => Q .non H', rt := Q } (L2.start N vs) H := by
  obtain ⟨G, as, sm, ⟨tb, r⟩, h⟩ := h
  have hl : as.length = m := by
    by_cases q : as.length = m
    · exact q
    · unfold runD at h; rw [if_neg q] at h; exact h.elim
  refine ⟨by rw [r.len, hl], frA ct.T vs as G H, G, as.map some ++ List.replicate (n - m) none, ?_, ?_⟩
  · have e1 : L2.start N vs = vs.map some ++ List.replicate (n - m) none := by unfold L2.start; rw [hn, r.len, hl]
    rw [e1]
    exact repS_start (n := n - m) sm tb r
  · unfold runD at h
    rw [if_pos hl] at h
    cases hfb : fb (as.map some ++ List.replicate (n - m) none) with
    | stuck => rw [hfb] at h; exact h.elim
    | bk e => rw [hfb] at h; exact h.elim
    | ct e => rw [hfb] at h; exact h.elim
    | nx e =>
      rw [hfb] at h
      intro G' σ H' s' r'
      have af := aft_of r r'
      rw [hl] at af
      exact h G' H' .non af .non
    | exc y e =>
      rw [hfb] at h
      intro G' σ H' cls dc s' r' hx
      have af := aft_of r r'
      rw [hl] at af
      exact h G' H' cls dc af hx
    | rt y e =>
      rw [hfb] at h
      intro G' σ H' v s' r' hv
      have af := aft_of r r'
      rw [hl] at af
      refine h G' H' v af ?_
      have fresh : ∀ {a : Addr} {o : HO} {z : MV}, (frA ct.T vs as G H).O a = none → H' a = some o → MRep ⟨K, ct⟩ G' o z → (∀ i b, (frA ct.T vs as G H).P i = some b → b ≠ a) → H a = none := fun {a o z} m2 m3 m4 hne => by
        have hO : (frA ct.T vs as G H).O a = if (∃ i, pinA vs as i = some a) ∨ a ∈ ct.T.map (·.1) then none else H a := rfl
        rw [m2] at hO
        split at hO
        · rename_i z
          rcases z with ⟨i, q⟩ | z
          · exact absurd rfl (hne i a q)
          · obtain ⟨p, hp, e⟩ := List.mem_map.mp z
            obtain ⟨ps, q, _⟩ := (r'.tb p hp).1
            rw [e, m3] at q
            cases q
            exact absurd (.inl ⟨_, rfl⟩) m4.noTb
        · exact hO.symm
      cases y with
      | d d => exact hv
      | p z => exact hv.elim
      | m z => obtain ⟨a, rfl, ⟨m1, m2, o, m3, m4⟩, hne⟩ := hv; exact ⟨a, o, rfl, m1, fresh m2 m3 m4 hne, m3, m4⟩
      | t d z => obtain ⟨q, w, a, e1, hs, hw, ⟨m1, m2, o, m3, m4⟩, hne⟩ := hv; exact ⟨q, w, a, o, e1, hs, hw, m1, fresh m2 m3 m4 hne, m3, m4⟩
/-- THE RULE for a maker -/
theorem fn_mirT {P : Program} {w : World} {K : PySem.W.Frag} {mg : Str → Option Value} {base : Heap} {ct : Ct} {x qual : Str} {params : Arguments} {body : List Stmt} {scope : Scope} {dvs : List V} {kws : List (Str × V)} {p : He.Defn} {fd : FuncData} {N ps : List Str} {k n m : Nat} {fb : SM} {L : Nat → LamC} {nl : Nat}
    (F : FunD K x qual params body scope dvs kws (He.fAd K p) fd) (S : FnScope N ps scope) (hm : ps.length = m) (hn : N.length = n) (h0 : ct.nl = 0) (n0 : ct.n = 0) (TB : LamX.TabB base mg (He.codeOf K p) (He.tabOf K (He.codeOf K p)))
    (mem : (He.tabOf K (He.codeOf K p), (qual ++ ".<locals>.") ++ "<lambda>") ∈ ct.T) (one : ∀ z ∈ ct.T, z.1 = He.tabOf K (He.codeOf K p) → z.2 = (qual ++ ".<locals>.") ++ "<lambda>")
    (hb : ∀ (cdv : Value) (A : Around) (outer : List PySem.Env) (s : Shared) (H : Hp) (E : XK), A.guards = some [] → Room k (A.deeper (envOfC qual scope s.heap.objs.size (He.fAd K p) cdv)) → Takes (cxOf (L2.CX P w) P w K mg base N qual scope (He.fAd K p) cdv A outer s H E) (fun cls d _ H => E cls d H) →
      LamFr (cxOf (L2.CX P w) P w K mg base N qual scope (He.fAd K p) cdv A outer s H E) (ct.frm L nl (cellsFrom (s.heap.objs.size + 1) scope.names []) ((qual ++ ".<locals>.") ++ "<lambda>")) (He.codeOf K p) (He.tabOf K (He.codeOf K p)) →
      SSs (cxOf (L2.CX P w) P w K mg base N qual scope (He.fAd K p) cdv A outer s H E) (ct.frm L nl (cellsFrom (s.heap.objs.size + 1) scope.names []) ((qual ++ ".<locals>.") ++ "<lambda>")) (fun cls d _ H => E cls d H) body fb) :
    FnG P w K mg base (k + 1) (He.fAd K p) fd ps (spM ⟨K, ct⟩ (fun as => scO (runD n m fb as))) := by
  have len : ∀ vs H Q E, spM ⟨K, ct⟩ (fun as => scO (runD n m fb as)) vs H Q E → vs.length = ps.length := fun vs H Q E q => by
    rw [hm]; exact (ts_of_sp hn (spM_frm (L := L) (nl := nl) (cl := []) (qn := qual) h0 n0 q)).1
  obtain ⟨oc, od, dV, kV, doc, pm, an, cdv, ctv, osl, hfd, lk, hcd, _, _⟩ := F.ex
  subst hfd
  obtain ⟨c, rfl⟩ := He.codeIn_ref hcd
  have ec := He.codeOf_eq lk (c := c) rfl
  refine ⟨len, fun A outer s H args us vs Q E hg hr e0 hbt r hsp => ?_⟩
  have hl := len _ _ _ _ hsp
  have kept : ∀ b o, base.get? b = some o → s.heap.get? b = some o := fun b o e => (e0.bs b o e).1
  have KX : K.In s.heap := e0.mod.kin.keeps kept
  have kinds : ∀ y ∈ ps.zip us, scope.names.lookup y.1 = some .local ∨ (scope.names.lookup y.1 = some .cell ∧ ((cellsFrom (s.heap.objs.size + 1) scope.names []).lookup y.1).isSome = true) := fun y hy => by
    rcases S.par y.1 (List.of_mem_zip (a := y.1) (b := y.2) hy).1 with q | q
    · exact .inl q
    · exact .inr ⟨q, PySem.W.cellsFrom_some _ _ _ (.inl q)⟩
  refine codeAny_call_function hr.depth (KX _ _ lk) rfl S.co S.gen rfl (PySem.W.codeRec_of KX hcd) (hbt _ _ _ _ (wpAny_newFunctionEnv_cells S.kind kinds fun env he s1 y => ?_))
  subst he
  have lim : s.heap.NoLimit := e0.mod.nolimit.keeps kept
  refine ⟨lim.keeps y.toInCall.keep, codeAny_func ?_⟩
  have I := inv_start (CX := L2.CX P w) (E := E) S hr.hd e0 hl r y
  have lf : LamFr (cxOf (L2.CX P w) P w K mg base N qual scope (He.fAd K p) (.ref c) A outer s H E) (ct.frm L nl (cellsFrom (s.heap.objs.size + 1) scope.names []) ((qual ++ ".<locals>.") ++ "<lambda>")) (He.codeOf K p) (He.tabOf K (He.codeOf K p)) :=
    ⟨TB, by rw [ec]; rfl, rfl, rfl, mem, one⟩
  have ht := hb (.ref c) A outer s H E hg (hr.deeper _) (takes_of rfl rfl rfl rfl) lf
  refine wpAny_mono (ht.run [] s1 (L2.start N vs) H { nx := fun _ H' => Q .non H', rt := Q } I (ts_of_sp hn (spM_frm h0 n0 hsp)).2) (fun fl s' hs => ?_) fun _ _ hs => hs
  cases fl with
  | ret u => obtain ⟨v, σ', H', J, rv, q⟩ := hs; exact (⟨v, H', J.os, J.bare, J.base, J.hok, rv, q⟩ : CE outer P w H s Q u s')
  | next => obtain ⟨σ', H', J, q⟩ := hs; exact (⟨V.non, H', J.os, J.bare, J.base, J.hok, rfl, q⟩ : CE outer P w H s Q Value.none s')
  | brk => obtain ⟨_, _, _, q⟩ := hs; exact q.elim
  | cont => obtain ⟨_, _, _, q⟩ := hs; exact q.elim
end MM
end
section
set_option Elab.async false
set_option linter.all false
set_option autoImplicit false
set_option maxRecDepth 100000
set_option maxHeartbeats 4000000
namespace MM
open PySem PySem.Spec L2
open PyProof.Rows (IntsAre AllBare)
/-! ### the head with tables; the law's end with tables -/
def frN (n : Nat) (g : Addr → Option Obj) : PySem.W.Frag := He.frT g (bmGo g (n * 20000) 0 [mainGlobals] []).reverse
/-- K tells what hookM tells; ex holds; the makers' tables are empty and not in K -/
structure SaysN (fa : List He.Fa) (fn : List He.DefD) (pr : List PrD) (cl : List ClD) (tf : List He.Defn) (ex : PySem.W.Frag → Bool) (h : Heap) (K : PySem.W.Frag) : Prop where
  m : SaysM fa fn pr cl K
  more : ex K = true
  hd : ∀ p ∈ tf, PySem.W.codeHdIn K (He.cT K p).1 (He.cT K p).2 = true
  out : ∀ p ∈ tf, K.lookup (He.cT K p).2 = none
  empty : ∀ p ∈ tf, h.get? (He.cT K p).2 = some { cls := .none, data := .fields #[] }
abbrev AlN : Type := AlM × Bool
def obsN (n : Nat) (fa : List He.Fa) (fn : List He.DefD) (pr : List PrD) (cl : List ClD) (tf : List He.Defn) (ex : PySem.W.Frag → Bool) (g : Addr → Option Obj) : AlN := (obsM fa fn pr cl (frN n g), ex (frN n g) && He.tabsB g tf (frN n g))
def valN (fn : List He.DefD) (pr : List PrD) : AlN := (valM fn pr, true)
theorem saysN_of {n : Nat} {fa : List He.Fa} {fn : List He.DefD} {pr : List PrD} {cl : List ClD} {tf : List He.Defn} {ex : PySem.W.Frag → Bool} {h : Heap} (e : obsN n fa fn pr cl tf ex h.get? = valN fn pr) : SaysN fa fn pr cl tf ex h (frN n h.get?) := by
  generalize hK : frN n h.get? = K
  unfold obsN valN at e
  rw [hK] at e
  have e1 : obsM fa fn pr cl K = valM fn pr := congrArg Prod.fst e
  obtain ⟨h1, h2⟩ := He.ba (show (ex K && He.tabsB h.get? tf K) = true from congrArg Prod.snd e)
  have one : ∀ p ∈ tf, PySem.W.codeHdIn K (He.cT K p).1 (He.cT K p).2 = true ∧ ∃ o, h.get? (He.cT K p).2 = some o ∧ He.emptyTab o = true := fun p hp => by
    obtain ⟨a, b⟩ := He.ba (List.all_eq_true.mp h2 p hp)
    refine ⟨a, ?_⟩
    split at b
    · rename_i o q; exact ⟨o, q, b⟩
    · cases b
  exact { m := e1, more := h1, hd := fun p hp => (one p hp).1, out := fun p hp => by obtain ⟨_, o, q, z⟩ := one p hp; rw [← hK]; rw [← hK] at q; exact He.frT_none q z, empty := fun p hp => by obtain ⟨_, o, q, z⟩ := one p hp; rw [q, He.emptyTab_eq z] }
def hookN (n : Nat) (fa : List He.Fa) (fn : List He.DefD) (pr : List PrD) (cl : List ClD) (tf : List He.Defn) (ex : PySem.W.Frag → Bool) : PySem.W.Hook where
  α := AlN
  obs := fun s => obsN n fa fn pr cl tf ex s.heap.get?
  val := fun _ => valN fn pr
  says := fun _ h => ∃ K : PySem.W.Frag, K.In h ∧ SaysN fa fn pr cl tf ex h K
  of := fun _ _ e => ⟨_, He.frT_in, saysN_of e⟩
  keeps := fun _ _ _ ⟨K, hK, c⟩ k => ⟨K, PySem.W.Frag.In.keeps hK k, { m := c.m, more := c.more, hd := c.hd, out := c.out, empty := fun p hp => k _ _ (c.empty p hp) }⟩
theorem obsN_eq {n : Nat} {fa : List He.Fa} {fn : List He.DefD} {pr : List PrD} {cl : List ClD} {tf : List He.Defn} {ex : PySem.W.Frag → Bool} {g : Addr → Option Obj} {s : Shared} (h : ∀ a, g a = s.heap.get? a) : obsN n fa fn pr cl tf ex g = (hookN n fa fn pr cl tf ex).obs s := by
  obtain rfl : g = s.heap.get? := funext h
  rfl
/-- the law's call, the tables tracked -/
theorem law_callT {P : Program} {w : World} {K : PySem.W.Frag} {mg mb : Str → Option Value} {k : Nat} {fa a : Addr} {cs : List (Addr × Addr)} {fd : FuncData} {x : Str} {sp : Sp} {s₁ : Shared} {vs : List Value} {ns : List Int}
    (KX : K.In s₁.heap) (hns : s₁.heap.Ns mainGlobals mg) (hb : s₁.heap.Ns builtinsNs mb) (hbb : ∀ x : Str, x ≠ "__name__" → mb x = bootBuiltins x) (hlim : s₁.heap.NoLimit) (hg : s₁.gens = #[])
    (hT : ∀ p ∈ cs, s₁.heap.get? p.2 = some { cls := .none, data := .fields #[] }) (nT : ∀ p ∈ cs, K.lookup p.2 = none) (C : ∀ p ∈ cs, PySem.W.CodeHd s₁.heap p.1 p.2) (hbm : ∃ (bm : Addr) (ob : Obj), mg "__builtins__" = some (.ref bm) ∧ bm ≠ builtinsNs ∧ s₁.heap.get? bm = some ob ∧ ob.cls = .type "module" ∧ ob.dict = some builtinsNs ∧ ob.data = .plain)
    (ha : s₁.heap.get? a = some { cls := .type "list", data := .seq vs.toArray }) (hi : IntsAre vs ns) (hl : ns.length ≤ sizeLine) (hr : Room k callerA)
    (F : ∀ base : Heap, K.In base → base.Ns mainGlobals mg → (∀ p ∈ cs, LamX.TabB base mg p.1 p.2) → FnG P w K mg base k fa fd [x] sp) (hbind : ∀ (s : Shared) (u : Value), BindsTo s fd ⟨[u], []⟩ [(x, u)])
    (hsp : ∀ H : Hp, (∀ p ∈ cs, H p.2 = some (.tbl #[])) → SqL K H a (ns.map V.int) → sp [.ref a] H (fun v _ => v = .bl true) fun _ _ _ => False) (hCX : ∀ H e s', L2.CX P w [] H s₁ (fun _ _ _ => False) e s' → False) :
    codeAny (model P w) callerA (.call (.ref fa) ⟨[.ref a], []⟩) (fun r s' => r = .ok (.ret (.bool true)) ∧ OldK s₁.heap s'.heap ∧ s'.os = s₁.os ∧ AllBare s'.gens) s₁ := by
  have lenV := hi.length
  let tabs : List Addr := cs.map (·.2)
  have tabO : ∀ b ∈ tabs, s₁.heap.get? b = some { cls := .none, data := .fields #[] } := fun b hb => by
    obtain ⟨p, hp, rfl⟩ := List.mem_map.mp hb; exact hT p hp
  have na : a ∉ tabs := fun z => by
    have q := tabO a z
    rw [ha] at q
    have q := congrArg Obj.data (Option.some.inj q)
    cases (show Data.seq vs.toArray _ = Data.fields #[] from q)
  -- the script is known (by T) or written
  have core : ∀ T : Hp, (∀ b, T b = none ∨ (b = a ∧ ∃ ob xs, T b = some (.frz ob (.lst xs)))) → (∀ H : Hp, (∀ b, T b ≠ none → H b = T b) → SqL K H a (ns.map V.int)) → HOk P w T s₁.heap → (T a ≠ none → K.lookup a = none) →
      codeAny (model P w) callerA (.call (.ref fa) ⟨[.ref a], []⟩) (fun r s' => r = .ok (.ret (.bool true)) ∧ OldK s₁.heap s'.heap ∧ s'.os = s₁.os ∧ AllBare s'.gens) s₁ := fun T tO tS tok tK => by
    let H : Hp := fun b => if b ∈ tabs then some (.tbl #[]) else T b
    have hin : ∀ b ∈ tabs, H b = some (.tbl #[]) := fun b z => if_pos z
    have hout : ∀ b, b ∉ tabs → H b = T b := fun b z => if_neg z
    have offT : ∀ b ∈ tabs, T b = none := fun b z => by
      rcases tO b with q | ⟨rfl, _⟩
      · exact q
      · exact absurd z na
    have free_ : ∀ {b : Addr} {o : Obj}, s₁.heap.get? b = some o → (∀ us n, o.data ≠ .seq us n) → o.data ≠ .fields #[] → H b = none := fun {b o} e h1 h2 => by
      by_cases z : b ∈ tabs
      · have q := tabO b z
        rw [e] at q
        cases q
        exact absurd rfl h2
      · rw [hout b z]
        rcases tO b with q | ⟨rfl, _⟩
        · exact q
        · rw [ha] at e
          cases e
          exact absurd rfl (h1 _ _)
    have dict_ : ∀ {b : Addr} {o : Obj} {es : Array DictEntry} {ep : Nat}, s₁.heap.get? b = some o → o.data = .dict es ep → H b = none := fun e d => free_ e (fun us n z => by rw [d] at z; cases z) fun z => by rw [d] at z; cases z
    have hk : HOk P w H s₁.heap := fun b u e => by
      by_cases z : b ∈ tabs
      · rw [hin b z] at e
        cases e
        exact tabO b z
      · rw [hout b z] at e
        rcases tO b with q | ⟨rfl, ob, xs, q⟩
        · rw [q] at e; cases e
        · rw [q] at e
          cases e
          have y := tok _ _ q
          exact ⟨y.1, y.2⟩
    have nsH : ∀ {b : Addr} {m : Str → Option Value}, s₁.heap.Ns b m → (hidT s₁.heap H).Ns b m := fun {b m} ⟨o, es, ep, e, d, r⟩ => ⟨o, es, ep, hidT_get e (dict_ e d), d, r⟩
    have kH : K.In (hidT s₁.heap H) := fun b o e => hidT_get (KX b o e) (by
      by_cases z : b ∈ tabs
      · obtain ⟨p, hp, rfl⟩ := List.mem_map.mp z
        rw [nT p hp] at e; cases e
      · rw [hout b z]
        rcases tO b with q | ⟨rfl, ob, xs, q⟩
        · exact q
        · rw [tK (by rw [q]; exact fun z => by cases z)] at e; cases e)
    have mH : Mod K mg (hidT s₁.heap H) := ⟨kH, nsH hns, ⟨mb, nsH hb, hbb⟩, by obtain ⟨mc, h1, h2⟩ := hlim; exact ⟨mc, nsH h1, h2⟩⟩
    have TB : ∀ p ∈ cs, LamX.TabB (hidT s₁.heap H) mg p.1 p.2 := fun p hp => by
      have oP := hT p hp
      constructor
      · obtain ⟨o, us, file, tf, flags, tg, inF, text, tt, e1, r1, r2, r3, r⟩ := C p hp
        refine ⟨o, us, file, tf, flags, tg, inF, text, tt, hidT_get e1 (free_ e1 (fun vs n z => by rw [r2] at z; cases z) fun z => ?_), r1, r2, r3, r⟩
        rw [r2] at z
        cases z
        simp at r3
      · obtain ⟨bm, ob, b1, b2, b3, b4, b5, b6⟩ := hbm
        refine ⟨bm, ob, b1, b2, fun q => ?_, fun q => ?_, hidT_get b3 (free_ b3 (fun vs n z => by rw [b6] at z; cases z) fun z => by rw [b6] at z; cases z), b4, b5, b6⟩
        · obtain ⟨o, es, ep, e, d, _⟩ := hns
          rw [q, e] at b3
          cases b3
          rw [d] at b6
          cases b6
        · rw [q, oP] at b3
          cases b3
          cases b6
      · intro z
        obtain ⟨o, es, ep, e, d, _⟩ := hns
        rw [z, oP] at e
        cases e
        cases d
    have e0 : Env0 P w K mg (hidT s₁.heap H) callerA [] s₁ H := ⟨rfl, mH, fun b o e => of_hidT e, Nat.le_of_eq (hidT_size _ _), trivial, (fun b z => by cases (show b ∈ ([] : List Addr) from z)), hk, .of_eq hg⟩
    have sL : SqL K H a (ns.map V.int) := tS H fun b z => hout b fun y => z (offT b y)
    refine codeAny_mono ((F _ kH (nsH hns) TB).run callerA [] s₁ H ⟨[.ref a], []⟩ [.ref a] [.ref a] _ _ rfl hr e0 (hbind s₁ (.ref a)) (.cons rfl .nil) (hsp H (fun p hp => hin _ (List.mem_map.mpr ⟨p, hp, rfl⟩)) sL)) fun r s' h => ?_
    cases r with
    | error e => exact (hCX H e s' h).elim
    | ok fl =>
      cases fl with
      | ret u =>
        obtain ⟨v, H', os, bare, un, tok', r', q⟩ := h
        obtain rfl : v = .bl true := q
        obtain rfl : u = Value.bool true := r'
        have grown : ∀ b ∈ tabs, ∃ more : Array Value, s'.heap.get? b = some { cls := .none, data := .fields more } := fun b z => by
          obtain ⟨more, y⟩ := un.tbls b #[] (hin b z)
          exact ⟨_, tok' b _ y⟩
        have stay : ∀ b o, b ∉ tabs → s₁.heap.get? b = some o → s'.heap.get? b = some o := fun b o z e => by
          rcases tO b with q | ⟨rfl, ob, xs, q⟩
          · exact un.keep b o e (by rw [hout b z]; exact q) (fun z => by cases (show b ∈ ([] : List Addr) from z)) (fun z => by cases z)
          · have q' : H b = some (.frz ob (.lst xs)) := by rw [hout b z]; exact q
            have y1 := (hk b _ q').1
            have y2 := (tok' b _ (un.frzs b ob _ q')).1
            rw [e] at y1
            rw [Option.some.inj y1]
            exact y2
        refine ⟨rfl, ⟨fun b o e => ?_, fun b o e => ?_⟩, os, bare⟩
        · by_cases z : b ∈ tabs
          · obtain ⟨more, y⟩ := grown b z
            obtain ⟨p, hp, rfl⟩ := List.mem_map.mp z
            rw [hT p hp] at e
            cases e
            exact .inr (.inl ⟨((C p hp).tab (hT p hp)).isCodeTable, rfl, #[], more, rfl, by rw [Array.empty_append]; exact y⟩)
          · exact .inl (stay b o z e)
        · by_cases z : b ∈ tabs
          · obtain ⟨more, y⟩ := grown b z
            exact ⟨_, y⟩
          · exact ⟨o, stay b o z e⟩
      | next => exact h.elim
      | brk => exact h.elim
      | cont => exact h.elim
  have rv := vals_ints hi
  cases hk : K.lookup a with
  | some o =>
    have e := KX a o hk
    rw [ha] at e
    have e := Option.some.inj e
    subst e
    exact core (fun _ => none) (fun _ => .inl rfl) (fun H _ => .inr ⟨_, vs.toArray, _, hk, rfl, rfl, rfl, by rw [List.size_toArray, lenV]; exact hl, by simpa using rv⟩) (fun b u z => by cases (show (none : Option HO) = some u from z)) fun z => absurd rfl z
  | none =>
    let o : HO := .frz { cls := .type "list", data := .seq vs.toArray } (.lst (ns.map V.int))
    refine core (fun b => if b = a then some o else none) (fun b => ?_) (fun H hH => .inl (.inr ⟨_, (hH a (by rw [if_pos rfl]; exact fun z => by cases z)).trans (if_pos rfl)⟩)) (fun b u z => ?_) fun _ => hk
    · by_cases z : b = a
      · exact .inr ⟨z, _, _, if_pos z⟩
      · exact .inl (if_neg z)
    · by_cases hb : b = a
      · have z : (if b = a then some o else none) = some u := z
        rw [if_pos hb] at z
        have z := Option.some.inj z
        subst z
        subst hb
        exact ⟨ha, by rw [List.length_map]; exact hl, vs, _, rv, ha⟩
      · have z : (if b = a then some o else none) = some u := z
        rw [if_neg hb] at z; cases z
theorem walkT {l : PySem.W.OpenLaw} {n k : Nat} {q : Program} {loose : List Str} {XP : (Str → Option Value) → Heap → Prop} {YP : World → Heap → Prop} {d : DefRec} {x : Str} {F : List EV → Out}
    (hn : l.most = some n) (hn2 : n ≤ sizeLine) (hdf : d.params.defaults = []) (hr : Room k callerA)
    (hF : ∀ (w : World) (mg : Str → Option Value) (fa : Addr) (h : Heap), YP w h → h.Ns mainGlobals mg → mg d.name = some (.ref fa) →
      ∃ (K : PySem.W.Frag) (ct : Ct) (fd : FuncData) (cs : List (Addr × Addr)), K.In h ∧ (∀ p ∈ ct.T, ∃ c, (c, p.1) ∈ cs) ∧ (∀ p ∈ cs, h.get? p.2 = some { cls := .none, data := .fields #[] }) ∧ (∀ p ∈ cs, K.lookup p.2 = none) ∧ (∀ p ∈ cs, PySem.W.CodeHd h p.1 p.2) ∧
        (∀ (s : Shared) (u : Value), BindsTo s fd ⟨[u], []⟩ [(x, u)]) ∧ ∀ base : Heap, K.In base → base.Ns mainGlobals mg → (∀ p ∈ cs, LamX.TabB base mg p.1 p.2) → FnG l.prog w K mg base k fa fd [x] (spM ⟨K, ct⟩ F))
    (law : ∀ ns : List Int, ns.length ≤ n → (∀ i ∈ ns, Builtin.Int.intBits i ≤ 1048576) → ∃ ps, F [.d (.scr ns)] = .ret (.d (.bl true)) ps) :
    PySem.W.WalkO q loose XP YP l.row.toRowW d [] (fun f vs => PySem.call f vs) := by
  refine Att.attach_callB hn hdf fun w s₀ s₁ mg mb fa o pm cd doc a vs ns G Y ho hd hcd hmg hobj hints hlen hbits hg => ?_
  obtain ⟨K, ct, fd, cs, KX, hct, hT, nT, C, hb, hF⟩ := hF w mg fa _ Y G.T.g hmg
  refine law_callT KX G.T.g G.T.b G.T.builtins G.T.nolimit hg hT nT C G.T.bmain hobj hints (Nat.le_trans hlen hn2) hr hF hb (fun H hH hS => ?_) fun H e s' h => cx_none h
  obtain ⟨ps, hl⟩ := law ns hlen hbits
  let G0 : Hp := fun b => if b ∈ cs.map (·.2) then none else H b
  have gH : Same G0 H := fun b u z => by
    have z : (if b ∈ cs.map (·.2) then none else H b) = some u := z
    split at z
    · cases z
    · exact z
  have gS : SqL K G0 a (ns.map V.int) := by
    have off : ∀ b u, H b = some u → (∀ ps, u ≠ .tbl ps) → G0 b = some u := fun b u z n => by
      show (if b ∈ cs.map (·.2) then none else H b) = some u
      rw [if_neg fun y => by
        obtain ⟨p, hp, rfl⟩ := List.mem_map.mp y
        rw [hH p hp] at z
        cases z
        exact n _ rfl]
      exact z
    rcases hS with (z | ⟨ob, z⟩) | z
    · exact .inl (.inl (off _ _ z fun ps y => by cases y))
    · exact .inl (.inr ⟨ob, off _ _ z fun ps y => by cases y⟩)
    · exact .inr z
  refine ⟨G0, [.d (.scr ns)], gH, ⟨fun p hp => ?_, rfl, fun i y hy => ?_, fun i j b h _ => ?_⟩, ?_⟩
  · obtain ⟨c, hc⟩ := hct p hp
    have q := hH _ hc
    exact ⟨LamX.TabS.nil q, rfl, if_pos (List.mem_map.mpr ⟨_, hc, rfl⟩)⟩
  · cases i with
    | zero => cases hy; exact ⟨.ref a, rfl, .scr gS⟩
    | succ i => simp at hy
  · obtain ⟨⟨y, hy⟩, _⟩ := pinA_ok h
    cases i with
    | zero => simp at hy
    | succ i => simp at hy
  · rw [hl]
    intro G' H' v _ hv
    have hv : Rp ⟨K, ct⟩ G' v (.bl true) := hv
    cases hv
    rfl
end MM
end
section
set_option Elab.async false
set_option linter.all false
set_option autoImplicit false
set_option maxRecDepth 100000
set_option maxHeartbeats 4000000
namespace MM
open PySem PySem.Spec PyProof.Rows L2
/-! ### try with several clauses `except C as e` -/
def endsA (i : Nat) (D : Ends) : Ends := { nx := fun σ' H' => D.nx (σ'.set i none) H', rt := D.rt, bk := fun σ' H' => D.bk (σ'.set i none) H', ct := fun σ' H' => D.ct (σ'.set i none) H' }
def wManyA (K : PySem.W.Frag) (i : Nat) (Wout : WX) (D : Ends) : List (Value × (Addr → Value → Option Addr → L2.TS)) → WX
  | [] => Wout
  | (c, ts) :: r => fun cls d σ H => ∃ b, PySem.W.exmOne K cls c = some b ∧ (b = true → ∀ a, H a = none → ts a cls d (endsA i D) (σ.set i (some (.ref a))) H) ∧ (b = false → wManyA K i Wout D r cls d σ H)
inductive HdsAs (X : Cx) (n : Str) : List ExceptHandler → List (Value × (Addr → Value → Option Addr → L2.TS)) → Prop
  | nil : HdsAs X n [] []
  | cons {x : Str} {c : Value} {ts : Addr → Value → Option Addr → L2.TS} {b₀ : Stmt} {suite : List Stmt} {np pos' : Pos} {hds : List ExceptHandler} {l : List (Value × (Addr → Value → Option Addr → L2.TS))} (hc : Names X x c)
      (hu : ∀ (a : Addr) (oe : Obj) (cls : Value) (d : Option Addr) (pn : List (Addr × Obj)), Zc cls d oe → (∃ vs, oe.data = .fields vs) → PSs (X.suite a ((a, oe) :: pn)) (b₀ :: suite) (ts a cls d)) (r : HdsAs X n hds l) :
      HdsAs X n (.ExceptHandler (some (.Name x np)) (some n) (b₀ :: suite) pos' :: hds) ((c, ts) :: l)
section
variable {X : Cx} {n : Str} {i : Nat} {body : List Stmt} {h₀ : ExceptHandler} {hds : List ExceptHandler} {l : List (Value × (Addr → Value → Option Addr → L2.TS))} {pos : Pos} {tb : WX → L2.TS} {Wout : WX}
theorem ps_try_asMany (hs : X.stack = X.env :: X.outer) (hf : X.env.frame = some X.env.locals) (hN : X.N.Nodup) (hi : X.N[i]? = some n) (hln : X.env.kindOf n = some .local) (tk : Takes X Wout)
    (hb : ∀ (W : WX) (pn : List (Addr × Obj)) (xe : Value → Shared → Prop), Takes (X.tr pn xe) W → PSs (X.tr pn xe) body (tb W)) (hh : HdsAs X n (h₀ :: hds) l) : PS X (.Try body (h₀ :: hds) [] [] pos) (fun D σ H => tb (wManyA X.K i Wout D l) D σ H) := by
  refine ⟨fun pins s σ H D I start => ?_⟩
  have oX := I.ok
  have frX : X.A.frames = some (X.env :: X.outer) := by rw [oX.frames, hs]
  refine wpAny_Try_except (wpAny_mono ((hb (wManyA X.K i Wout D l) (X.pn ++ pins) (fun e t1 => wpAny (model X.prog X.w) X.A (noteFrame e X.env) (fun _ t2 => wpAny (model X.prog X.w) X.A (setFlight e none) (fun _ t3 =>
    wpAny (model X.prog X.w) X.A (handleBy e X.env (h₀ :: hds)) (L2.SP X pins D) X.xe t3) X.xe t2) X.xe t1) (fun u s' air => ?_)).run [] s σ H D (I.toTry _) start) (fun fl t1 fin => ?_) (fun e t1 he => he))
  · obtain ⟨a, B, sI, pins', σ', H', cls, d, rfl, Z', nb, up, sk, na, os, ag, wish⟩ := air
    have Z : Inv X pins σ' H' sI := Z'.ofTry oX
    have sk' : Sky B (X.env :: X.outer) a (Zc cls d) X.env.locals s'.heap := by rw [← hs]; exact sk
    show wpAny (model X.prog X.w) X.A (noteFrame (.ref a) X.env) _ _ _
    refine Sky.land Zc.steady frX hf sk' fun g3 f3 u3 => ?_
    have Z3 : Inv X pins σ' H' { s' with heap := g3 } := Z.landed nb f3.1 (up.trans u3) os ag
    obtain ⟨oe3, vs3, at3, zc3, da3⟩ := f3.there
    have off : ∀ {g : Heap} {o : Obj} {vs : Array Value}, g.FunFrames B (X.env :: X.outer) → g.get? a = some o → o.data = .fields vs → a ∉ frs (X.env :: X.outer) := fun {g o vs} ff e dd z => by
      obtain ⟨_, o', e', no⟩ := ff.mem z
      rw [e] at e'
      cases e'
      exact no _ dd
    have off3 := off f3.2.2.1 at3 da3
    have offL : a ≠ X.env.locals := fun z => off3 (List.mem_filterMap.mpr ⟨X.env, List.mem_cons_self, by rw [hf, z]⟩)
    have offF : a ∉ X.fs := fun z => by
      obtain ⟨v, hv, q⟩ := List.mem_filterMap.mp z
      exact off3 (List.mem_filterMap.mpr ⟨v, List.mem_cons_of_mem _ hv, q⟩)
    have T3 := Z3.suite at3 da3 na offL offF
    have turn : ∀ {hs' : List ExceptHandler} {l' : List (Value × (Addr → Value → Option Addr → L2.TS))}, HdsAs X n hs' l' → wManyA X.K i Wout D l' cls d σ' H' →
        wpAny (model X.prog X.w) X.A (handleBy (.ref a) X.env hs') (L2.SP X pins D) X.xe { s' with heap := g3 } := by
      intro hs' l' hk
      induction hk with
      | nil =>
        intro out
        refine wpAny_handleBy_nil ?_
        obtain ⟨_, _, _, oe, vs, T, oT, ts', q1, q2, q3, q4, _⟩ := id f3
        unfold PySem.passOn
        refine wpAny_bind (wpAny_field q1 q3 q4 ?_)
        rw [if_neg (show ¬ ((Value.ref T == Value.none) = true) by simp)]
        have go : wpAny (model X.prog X.w) X.A (setFlight (.ref a) X.env.frame) (fun _ t4 => wpAny (model X.prog X.w) X.A (throw (.ref a) : Sem Flow) (L2.SP X pins D) X.xe t4) X.xe { s' with heap := g3 } := by
          rw [hf]
          exact HandSPX.setFlight_upZ f3 fun g4 sk4 u4 => wpAny_throw (tk _ _ ⟨a, B, sI, pins, σ', H', cls, d, rfl, Z, nb, (up.trans u3).trans u4, .inr (.inr (by rw [hs]; exact sk4)), na, os, ag, out⟩)
        first
          | exact wpAny_bind (wpAny_pure (wpAny_bind go))
          | exact wpAny_bind go
      | @cons x c ts b₀ suite np pos' hds2 l2 hc hu r ih =>
        intro out
        obtain ⟨b, is, yes, no⟩ := out
        refine wpAny_handleBy_cons (codeAny_handlers_test ?_) (by intro q; cases q)
        have ty3 : PySem.W.Looks (model X.prog X.w) g3 (typeOf (.ref a)) cls := fun A Q E s k q => wpAny_typeOf_ref (k _ _ at3) (by rw [zc3.1]; exact q)
        have asks := PySem.W.exm_one (M := model X.prog X.w) Z3.kIn ty3 is
        have name_ : ∀ {Q : Value → Shared → Prop} {E : Value → Shared → Prop}, Q c { s' with heap := g3 } → wpAny (model X.prog X.w) (X.A.mark (some (.ref a))) (eval (.Name x np) X.env) Q E { s' with heap := g3 } := fun {Q E} q => by
          obtain ⟨gl, nd, hm | ⟨hm, hv, nn⟩⟩ := hc
          · exact ld_glob (X := X.suite a ((a, oe3) :: (X.pn ++ pins))) T3 gl hm q nd
          · exact ld_blt (X := X.suite a ((a, oe3) :: (X.pn ++ pins))) T3 gl hm hv q nn nd
        refine name_ (asks.here ?_)
        cases b with
        | false =>
          show wpAny _ X.A (handleBy (.ref a) X.env hds2) (L2.SP X pins D) X.xe { s' with heap := g3 }
          exact ih (no rfl)
        | true =>
          refine codeAny_handlers_suite_as (HandSPX.lands_againZ f3 fun g4 f4 u4 => ?_)
          have Z4 : Inv X pins σ' H' { s' with heap := g4 } := Z.landed nb f4.1 ((up.trans u3).trans u4) os ag
          obtain ⟨oe4, vs4, at4, zc4, da4⟩ := f4.there
          refine store_ok (X := X.suite a ((a, oe4) :: (X.pn ++ pins))) (v := .ref a) (Z4.suite at4 da4 na offL offF) hN hi (.inl hln) rfl (fun t5 T5 => ?_) (.inr hln)
          refine wpAny_mono ((hu a oe4 cls d (X.pn ++ pins) zc4 ⟨_, da4⟩).run [] t5 _ H' _ T5 (yes rfl a na)) (fun fl t6 fin => ?_) (fun _ _ z => z.elim)
          have gone : ∀ {τ : L2.St} {J : Hp} {Q : Shared → Prop}, Inv (X.suite a ((a, oe4) :: (X.pn ++ pins))) [] τ J t6 → (∀ t7, Inv X pins (τ.set i none) J t7 → Q t7) →
              wpAny (model X.prog X.w) X.A (do bindName X.env n .none; unbindBehindTheSuite X.env n pos') (fun _ t7 => Q t7) X.xe t6 := fun T6 hq => gone_ok (T6.unsuite oX) hN hi hln hq
          cases fl with
          | next => obtain ⟨τ, J, T6, q6⟩ := fin; exact gone T6 fun t7 Z7 => ⟨_, _, Z7, q6⟩
          | brk => obtain ⟨τ, J, T6, q6⟩ := fin; exact gone T6 fun t7 Z7 => ⟨_, _, Z7, q6⟩
          | cont => obtain ⟨τ, J, T6, q6⟩ := fin; exact gone T6 fun t7 Z7 => ⟨_, _, Z7, q6⟩
          | ret u => obtain ⟨v6, τ, J, T6, r6, q6⟩ := fin; exact gone T6 fun t7 Z7 => ⟨_, _, _, Z7, r6, q6⟩
    exact turn hh wish
  · cases fl with
    | next => obtain ⟨τ, J, Z1, q⟩ := fin; exact wpAny_execs_nil ⟨τ, J, Z1.ofTry oX, q⟩
    | brk => obtain ⟨τ, J, Z1, q⟩ := fin; exact ⟨τ, J, Z1.ofTry oX, q⟩
    | cont => obtain ⟨τ, J, Z1, q⟩ := fin; exact ⟨τ, J, Z1.ofTry oX, q⟩
    | ret u => obtain ⟨v, τ, J, Z1, rv, q⟩ := fin; exact ⟨v, τ, J, Z1.ofTry oX, rv, q⟩
end
end MM
end
section
set_option Elab.async false
set_option linter.all false
set_option autoImplicit false
set_option maxRecDepth 100000
set_option maxHeartbeats 4000000
namespace MM
open PySem PySem.Spec PyProof.Rows L2
/-! ### several handlers: the combinators -/
def sTryM (all : List Nat) (i : Nat) (b : SM) (hs : List (Nat × (Exn → SM))) : SM := fun e => match b e with
  | .exc x e1 => if all.contains x.cls = true then (match hs.lookup x.cls with
    | some h => (match unE i e1 with
      | some e2 => finE i (h x e2)
      | none => .stuck)
    | none => .exc x e1) else .stuck
  | r => r
@[simp] theorem sTryM_ev {all : List Nat} {i : Nat} {b : SM} {hs : List (Nat × (Exn → SM))} {e : Env} : sTryM all i b hs e = (match b e with
  | .exc x e1 => if all.contains x.cls = true then (match hs.lookup x.cls with
    | some h => (match unE i e1 with
      | some e2 => finE i (h x e2)
      | none => .stuck)
    | none => .exc x e1) else .stuck
  | r => r) := rfl
abbrev SHs (Y : Cx) (ct : Ct) (i : Nat) (a : Addr) (cls : Value) (d : Option Addr) (st : List Stmt) (h : Exn → SM) : Prop := PSs Y st (tH ⟨Y.K, ct⟩ i h a cls d)
inductive HdsM (X : Cx) (ct : Ct) (n : Str) (i : Nat) : List ExceptHandler → List (Nat × (Exn → SM)) → Prop
  | nil : HdsM X ct n i [] []
  | cons {x : Str} {cn : Nat} {h : Exn → SM} {b₀ : Stmt} {suite : List Stmt} {np pos' : Pos} {hds : List ExceptHandler} {l : List (Nat × (Exn → SM))} (hg : Gl X x) (hm : X.mg x = some (.ref (ct cn)))
      (hu : ∀ (a : Addr) (oe : Obj) (cls : Value) (d : Option Addr) (pn : List (Addr × Obj)), Zc cls d oe → (∃ vs, oe.data = .fields vs) → SHs (X.suite a ((a, oe) :: pn)) ct i a cls d (b₀ :: suite) h) (r : HdsM X ct n i hds l)
      (hdb : (x == ("__debug__" : Str)) = false := by decide) : HdsM X ct n i (.ExceptHandler (some (.Name x np)) (some n) (b₀ :: suite) pos' :: hds) ((cn, h) :: l)
section
variable {X : Cx} {ct : Ct} {W : WX} {pos : Pos} {n : Str} {body : List Stmt} {b : SM} {i : Nat} {h₀ : ExceptHandler} {hds : List ExceptHandler} {l : List (Nat × (Exn → SM))} {all : List Nat}
def tHs (K : PySem.W.Frag) (ct : Ct) (i : Nat) (l : List (Nat × (Exn → SM))) : List (Value × (Addr → Value → Option Addr → L2.TS)) := l.map fun p => (.ref (ct p.1), tH ⟨K, ct⟩ i p.2)
theorem HdsM.as : ∀ {hs : List ExceptHandler} {l : List (Nat × (Exn → SM))}, HdsM X ct n i hs l → HdsAs X n hs (tHs X.K ct i l)
  | _, _, .nil => .nil
  | _, _, .cons hg hm hu r hdb => .cons ⟨hg, hdb, .inl hm⟩ (fun a oe cls d pn z f => hu a oe cls d pn z f) r.as
theorem s_tryM (hs : X.stack = X.env :: X.outer) (hf : X.env.frame = some X.env.locals) (hN : X.N.Nodup) (hi : X.N[i]? = some n) (hln : X.env.kindOf n = some .local) (tk : Takes X W)
    (hex : ∀ c ∈ all, ∀ p ∈ l, PySem.W.exmOne X.K (.ref (ct c)) (.ref (ct p.1)) = some (c == p.1))
    (hb : ∀ (W' : WX) (pn : List (Addr × Obj)) (xe : Value → Shared → Prop), Takes (X.tr pn xe) W' → SSs (X.tr pn xe) ct W' body b) (hh : HdsM X ct n i (h₀ :: hds) l) : SS X ct W (.Try body (h₀ :: hds) [] [] pos) (sTryM all i b l) :=
  PSw (ps_try_asMany (tb := fun W' => TS ⟨X.K, ct⟩ W' b) hs hf hN hi hln tk (fun W' pn xe tk' => hb W' pn xe tk') hh.as) fun D σ H q => by
    obtain ⟨c, G, e, r, p⟩ := q
    refine ⟨c, G, e, r, ?_⟩
    have p : PostS ⟨X.K, ct⟩ W c G D (match b e with
      | .exc x e1 => if all.contains x.cls = true then (match l.lookup x.cls with
        | some h => (match unE i e1 with
          | some e2 => finE i (h x e2)
          | none => .stuck)
        | none => .exc x e1) else .stuck
      | r => r) := p
    cases hbe : b e with
    | stuck => rw [hbe] at p; exact p.elim
    | nx e1 => rw [hbe] at p; exact p
    | bk e1 => rw [hbe] at p; exact p
    | ct e1 => rw [hbe] at p; exact p
    | rt y e1 => rw [hbe] at p; exact p
    | exc y e1 =>
      rw [hbe] at p
      have p : PostS ⟨X.K, ct⟩ W c G D (if all.contains y.cls = true then (match l.lookup y.cls with
        | some h => (match unE i e1 with
          | some e2 => finE i (h y e2)
          | none => .stuck)
        | none => .exc y e1) else .stuck) := p
      by_cases ha : all.contains y.cls = true
      · rw [if_pos ha] at p
        have ha : y.cls ∈ all := by simpa using ha
        intro G' σ' H' cls dc s' r' hx
        have ecls : cls = .ref (ct y.cls) := hx.1
        have go : ∀ l' : List (Nat × (Exn → SM)), (∀ p ∈ l', PySem.W.exmOne X.K (.ref (ct y.cls)) (.ref (ct p.1)) = some (y.cls == p.1)) → PostS ⟨X.K, ct⟩ W c G D (match l'.lookup y.cls with
            | some h => (match unE i e1 with
              | some e2 => finE i (h y e2)
              | none => .stuck)
            | none => .exc y e1) → wManyA X.K i W D (tHs X.K ct i l') cls dc σ' H' := fun l' => by
          induction l' with
          | nil => exact fun _ p => p G' σ' H' cls dc s' r' hx
          | cons z l' ih =>
            obtain ⟨cn, h⟩ := z
            intro he p
            rw [List.lookup_cons] at p
            refine ⟨y.cls == cn, by rw [ecls]; exact he (cn, h) List.mem_cons_self, fun t => ?_, fun t => ?_⟩
            · rw [t] at p
              have p : PostS ⟨X.K, ct⟩ W c G D (match unE i e1 with
                | some e2 => finE i (h y e2)
                | none => .stuck) := p
              intro a na
              cases hu : unE i e1 with
              | none => rw [hu] at p; exact p.elim
              | some e2 =>
                rw [hu] at p
                obtain ⟨_, hl, _⟩ := unE_ok hu
                exact ⟨by rw [List.getElem?_set_self (by rw [← r'.len]; exact hl)], y, c, G', e2, r'.blank hu _, hx, (finE_ok p).mono s'⟩
            · rw [t] at p
              exact ih (fun p hp => he p (List.mem_cons_of_mem _ hp)) p
        exact go l (fun p hp => hex _ ha p hp) p
      · rw [if_neg ha] at p; exact p.elim
end
/-! ### values in handlers: lists, isinstance -/
def tHV (k : Kc) (i : Nat) (f : Exn → EM EV) : Addr → Value → Option Addr → L2.TE := fun a cls d σ H Q => σ[i]? = some (some (.ref a)) ∧ ∃ x c G e, RepS k c G σ H e ∧ RepX k G H cls d x ∧ Post k W0 c G σ (fun G' H' e' y => ∀ v, RpV k c G' σ H' e' v y → Q v H') (f x e)
abbrev HVx (Y : Cx) (ct : Ct) (i : Nat) (a : Addr) (cls : Value) (d : Option Addr) (ex : Expr) (f : Exn → EM EV) : Prop := PE Y ex (tHV ⟨Y.K, ct⟩ i f a cls d)
def tHA (k : Kc) (i : Nat) (f : Exn → EM (List D)) : Addr → Value → Option Addr → L2.TA := fun a cls d σ H Q => σ[i]? = some (some (.ref a)) ∧ ∃ x c G e, RepS k c G σ H e ∧ RepX k G H cls d x ∧ Post k W0 c G σ (fun G' H' _ ds => ∀ vs, Rps k G' vs ds → Q vs H') (f x e)
abbrev HA (Y : Cx) (ct : Ct) (i : Nat) (a : Addr) (cls : Value) (d : Option Addr) (es : List Expr) (f : Exn → EM (List D)) : Prop := PA Y es (tHA ⟨Y.K, ct⟩ i f a cls d)
def xNil : Exn → EM (List D) := fun _ e => .ok [] e
def xCons (f : Exn → EM D) (g : Exn → EM (List D)) : Exn → EM (List D) := fun x e => (f x e).bind fun d e1 => (g x e1).bind fun ds e2 => .ok (d :: ds) e2
def xLst (f : Exn → EM (List D)) : Exn → EM EV := fun x e => (f x e).bind fun ds e1 => if ds.length ≤ LIM then .ok (.m (.lst ds)) e1 else .stuck
def xIs (cn : Nat) (b : Bool) : Exn → EM D := fun x e => if x.cls = cn then .ok (.bl b) e else .stuck
def xV (f : Exn → EM D) : Exn → EM EV := fun x => vD (f x)
def hSetV (j : Nat) (f : Exn → EM EV) : Exn → SM := fun x => sSet j (f x)
def hRetV (f : Exn → EM EV) : Exn → SM := fun x => sRet (f x)
@[simp] theorem xNil_ev {x : Exn} {e : Env} : xNil x e = .ok [] e := rfl
@[simp] theorem xCons_ev {f : Exn → EM D} {g : Exn → EM (List D)} {x : Exn} {e : Env} : xCons f g x e = (f x e).bind fun d e1 => (g x e1).bind fun ds e2 => .ok (d :: ds) e2 := rfl
@[simp] theorem xLst_ev {f : Exn → EM (List D)} {x : Exn} {e : Env} : xLst f x e = (f x e).bind fun ds e1 => if ds.length ≤ LIM then .ok (.m (.lst ds)) e1 else .stuck := rfl
@[simp] theorem xIs_ev {cn : Nat} {b : Bool} {x : Exn} {e : Env} : xIs cn b x e = if x.cls = cn then .ok (.bl b) e else .stuck := rfl
@[simp] theorem xV_ev {f : Exn → EM D} {x : Exn} : xV f x = vD (f x) := rfl
@[simp] theorem hSetV_ev {j : Nat} {f : Exn → EM EV} {x : Exn} : hSetV j f x = sSet j (f x) := rfl
@[simp] theorem hRetV_ev {f : Exn → EM EV} {x : Exn} : hRetV f x = sRet (f x) := rfl
section
variable {Y : Cx} {ct : Ct} {i j : Nat} {a : Addr} {cls : Value} {d : Option Addr} {ex : Expr} {es : List Expr} {f : Exn → EM D} {fs : Exn → EM (List D)} {fv : Exn → EM EV} {pos p pos' : Pos} {y : Str}
theorem h_nil : HA Y ct i a cls d [] xNil := PAw pa_nil fun σ H Q q => by
  obtain ⟨hs, x, c, G, e, r, hx, p⟩ := q
  exact p.now r [] .nil
theorem h_cons (ha : HE Y ct i a cls d ex f) (hs : HA Y ct i a cls d es fs) (hst : starEach (ex :: es) Y.env = (false, eval ex Y.env) :: starEach es Y.env := by rfl) : HA Y ct i a cls d (ex :: es) (xCons f fs) := PAw (pa_cons ha hs hst) fun σ H Q q => by
  obtain ⟨h, x, c, G, e, r, hx, p⟩ := q
  refine ⟨h, x, c, G, e, r, hx, (Post.bind p).imp fun G1 H1 e1 d1 s1 r1 p1 v hv => ⟨h, x, c, G1, e1, r1, hx.mono s1, (Post.bind p1).imp fun G2 H2 e2 ds s2 r2 p2 vs hvs => ?_⟩⟩
  exact p2.now r2 (v :: vs) (.cons (hv.mono s2) hvs)
theorem h_lst (h : HA Y ct i a cls d es fs) : HVx Y ct i a cls d (.List es pos) (xLst fs) := PEw (pe_lst h) fun σ H Q q => by
  obtain ⟨h, x, c, G, e, r, hx, p⟩ := q
  refine ⟨h, x, c, G, e, r, hx, (Post.bind p).imp fun G1 H1 e1 ds s1 r1 p1 vs hvs => ?_⟩
  by_cases hl : ds.length ≤ LIM
  · rw [if_pos hl] at p1
    refine ⟨by rw [hvs.len]; exact lim_le hl, fun q hq => ?_⟩
    obtain ⟨r2, m2, l2⟩ := r1.newM (x := .lst ds) (o := .lst vs) hq ⟨vs, rfl, hvs⟩
    exact p1 G1 _ (Same.refl _) r2 _ ⟨q, rfl, m2, l2⟩
  · rw [if_neg hl] at p1; exact p1.elim
theorem h_v (h : HE Y ct i a cls d ex f) : HVx Y ct i a cls d ex (xV f) := PEw h fun σ H Q q => by
  obtain ⟨h, x, c, G, e, r, hx, p⟩ := q
  refine ⟨h, x, c, G, e, r, hx, ?_⟩
  have p : Post ⟨Y.K, ct⟩ W0 c G σ (fun G' H' e' y => ∀ v, RpV ⟨Y.K, ct⟩ c G' σ H' e' v y → Q v H') ((f x e).bind fun d e1 => .ok (.d d) e1) := p
  exact (Post.bind p).imp fun G1 H1 e1 d1 s1 r1 p1 v hv => p1.now r1 v hv
end
section
variable {X : Cx} {ct : Ct} {i j cn : Nat} {a : Addr} {oe : Obj} {cls : Value} {d : Option Addr} {pn : List (Addr × Obj)} {n fl y : Str} {pos p p2 pos' : Pos} {ex : Expr} {f : Exn → EM D} {fv : Exn → EM EV} {b₀ : Stmt} {h : Exn → SM}
theorem hs_setV (hN : X.N.Nodup) (hj : X.N[j]? = some y) (hx : Loc X.env.scope y) (hf' : X.fn y = true ∨ X.env.scope.names.lookup y = some .local) (he : HVx (X.suite a ((a, oe) :: pn)) ct i a cls d ex fv) (hs : swapsWith ex (some (.Name y pos')) pos.line X.env = pure false := by rfl) :
    SH (X.suite a ((a, oe) :: pn)) ct i a cls d (.Assign [.Name y pos'] ex pos) (hSetV j fv) := PSw (ps_set hN hj hx he hs hf') fun D σ H q => by
  obtain ⟨h1, x, c, G, e, r, hx', p⟩ := q
  refine ⟨h1, x, c, G, e, r, hx', ?_⟩
  have p : PostS ⟨X.K, ct⟩ W0 c G D ((fv x e).sb fun y e1 => putE j y e1) := p
  exact (PostS.sb p).imp fun G' H' e' y s' r' h v hv => putE_ok r' hv h
theorem hs_retV (he : HVx (X.suite a ((a, oe) :: pn)) ct i a cls d ex fv) : SH (X.suite a ((a, oe) :: pn)) ct i a cls d (.Return (some ex) pos) (hRetV fv) := PSw (ps_ret he) fun D σ H q => by
  obtain ⟨h1, x, c, G, e, r, hx', p⟩ := q
  refine ⟨h1, x, c, G, e, r, hx', ?_⟩
  have p : PostS ⟨X.K, ct⟩ W0 c G D ((fv x e).sb fun y e1 => .rt y e1) := p
  exact (PostS.sb p).imp fun G' H' e' y s' r' h v hv => h G' σ H' v (Same.refl _) r' (hv.ret r')
theorem hs_one (h1 : SH (X.suite a ((a, oe) :: pn)) ct i a cls d b₀ h) : SHs (X.suite a ((a, oe) :: pn)) ct i a cls d [b₀] h := pss_one h1
/-- isinstance(e, C), e the caught one -/
def rIsX (K : PySem.W.Frag) (D a : Addr) (d : Option Addr) : List V → Hp → VK → Prop := fun xs H Q => ∃ (c : V) (cv : Value) (b : Bool), xs = [.ref a, c] ∧ (∀ u, RelV c u → u = cv) ∧ PySem.W.kitOne K (.ref D) cv = some b ∧ (d = none ∨ ∃ dd fs, d = some dd ∧ H dd = some (.xd fs)) ∧ Q (.bl b) H
theorem call_isX {D : Addr} (C : ExcC X.K D) (hz : Zc (.ref D) d oe) (hf : ∃ vs, oe.data = .fields vs) : CallR (X.suite a ((a, oe) :: pn)) (.builtin "isinstance") (rIsX X.K D a d) := by
  intro pins s σ H xs us Q I r h
  obtain ⟨c, cv, b, rfl, hcv, e, hd, q⟩ := h
  obtain ⟨u, w, rfl, ru, rw_⟩ : ∃ u w, us = [u, w] ∧ RelV (.ref a) u ∧ RelV c w := by
    cases r with
    | cons rx rr => cases rr with
      | cons rt rr => cases rr; exact ⟨_, _, rfl, rx, rt⟩
  obtain rfl : u = Value.ref a := ru
  obtain rfl := hcv _ rw_
  obtain ⟨hget, _⟩ := I.pin (a, oe) (List.mem_append.mpr (.inl List.mem_cons_self))
  obtain ⟨vs, hv⟩ := hf
  obtain ⟨od, J⟩ : ∃ od, PySem.W.InstAt s.heap a oe D od := by
    rcases hd with rfl | ⟨dd, fs, rfl, hx⟩
    · exact ⟨none, hget, hz.1, by unfold PySem.W.notCls; rw [hv] <;> rfl, by rw [hz.2]; trivial⟩
    · obtain ⟨mA, ⟨o, es, ep, ho, _⟩, _⟩ := (show ObjOk X.prog X.w H s.heap dd (.xd fs) from I.hok dd _ hx)
      exact ⟨some o, hget, hz.1, by unfold PySem.W.notCls; rw [hv] <;> rfl, by rw [hz.2]; exact ho⟩
  have hcl : (PySem.W.clsIn X.K D).isSome = true := by
    obtain ⟨cd, hc, _⟩ := PySem.W.any_some C.hd
    rw [hc]; rfl
  exact PySem.W.kia_one (PySem.W.kitx_exc hcl C.hg C.hk C.hs C.ha C.hn C.ht C.hm) I.kIn J e (fun z => nomatch z) fun tk => ⟨.bl b, H, I.kept (t' := tk) fun _ _ z => z, rfl, q⟩
theorem h_is {T : Addr} {tn : Str} {p3 : Pos} {b : Bool} (C : ExcC X.K (ct cn)) (hk : PySem.W.kitOne X.K (.ref (ct cn)) (.ref T) = some b) (hz : Zc cls d oe) (hd : ∃ vs, oe.data = .fields vs) (hg : Gl X "isinstance") (hm : X.mg "isinstance" = none) (he : PE (X.suite a ((a, oe) :: pn)) ex (tVar i))
    (gt : Gl X tn) (mt : X.mg tn = some (.ref T)) (hst : starEach [ex, .Name tn p3] X.env = (false, eval ex X.env) :: starEach [.Name tn p3] X.env := by rfl) (hst2 : starEach [.Name tn p3] X.env = (false, eval (.Name tn p3) X.env) :: starEach [] X.env := by rfl)
    (hpl : (backTo pos (starEach [.Name tn p3] X.env)).any (·.1) = false := by rfl) (hdb : (tn == ("__debug__" : Str)) = false := by decide) :
    HE (X.suite a ((a, oe) :: pn)) ct i a cls d (.Call (.Name "isinstance" p) [ex, .Name tn p3] [] pos) (xIs cn b) := by
  refine ⟨fun pins s σ H Q I q => ?_⟩
  obtain ⟨hs, x, c, G, e, r, hx, pp⟩ := id q
  unfold xIs at pp
  by_cases hc : x.cls = cn
  · rw [if_pos hc] at pp
    have ecls : cls = .ref (ct cn) := by rw [hx.1, hc]
    subst ecls
    have dd : d = none ∨ ∃ dd fs, d = some dd ∧ H dd = some (.xd fs) := by
      rcases hx.2 with z | ⟨dd, fs, z1, z2, _⟩
      · exact .inl z.2
      · exact .inr ⟨dd, fs, z1, r.gh _ _ z2⟩
    refine (pe_callB (X := X.suite a ((a, oe) :: pn)) (call_isX C hz hd) hg hm (by decide +kernel) (pa_cons he (pa_cons (pe_glob (v := .ref T) gt mt rfl hdb) pa_nil hst2) hst) (by decide) (by decide) hst hpl).run pins s σ H Q I ?_
    exact ⟨.ref a, hs, .ref T, .ref T, b, rfl, fun u z => z, hk, dd, pp G H (Same.refl _) r _ (.bl _)⟩
  · rw [if_neg hc] at pp; exact pp.elim
end
end MM
end
section
set_option Elab.async false
set_option linter.all false
set_option autoImplicit false
set_option maxRecDepth 100000
set_option maxHeartbeats 4000000
namespace MM
open PySem PySem.Spec L2
/-! ### where a lambda stands in a def's text; tables' names; small helpers of the generator -/
def stB : Stmt → Nat → List Stmt
  | .For _ _ b _ _, 0 => b
  | .For _ _ _ b _, _ => b
  | .If _ b _ _, 0 => b
  | .If _ _ b _, _ => b
  | .While _ b _ _, 0 => b
  | .While _ _ b _, _ => b
  | _, _ => []
def stX : Stmt → Expr
  | .For _ e _ _ _ => e
  | .If e _ _ _ => e
  | .While e _ _ _ => e
  | .Assign _ e _ => e
  | .Expr e _ => e
  | .Return (some e) _ => e
  | _ => .Constant .none 0 ⟨0, 0, 0, 0⟩
def stAt (l : List Stmt) (i : Nat) : Stmt := l.getD i (.Pass ⟨0, 0, 0, 0⟩)
def exAt (l : List Expr) (i : Nat) : Expr := l.getD i (.Constant .none 0 ⟨0, 0, 0, 0⟩)
/-- the i-th part of an expression -/
def exK : Expr → Nat → Expr
  | .BoolOp _ vs _, i => exAt vs i
  | .BinOp a _ b _, i => exAt [a, b] i
  | .UnaryOp _ a _, _ => a
  | .IfExp a b c _, i => exAt [a, b, c] i
  | .Compare a _ bs _, i => exAt (a :: bs) i
  | .Call f as ks _, i => exAt (f :: as ++ ks.map (·.value)) i
  | .List es _, i => exAt es i
  | .Tuple es _ _, i => exAt es i
  | .Attribute a _ _, _ => a
  | .Subscript a b _, i => exAt [a, b] i
  | .ListComp a _ _ _, _ => a
  | e, _ => e
def lamX : Expr → LamC
  | .Lambda p b s _ => ⟨p, b, s⟩
  | e => ⟨⟨[], [], none, [], [], none, []⟩, e, default⟩
/-- what the lambdas of a def are called -/
def lamN (p : He.Defn) : Str := (p.1 ++ ".<locals>.") ++ "<lambda>"
def tabsK (tf : List He.Defn) (K : PySem.W.Frag) : List (Addr × Str) := tf.map fun p => ((He.cT K p).2, lamN p)
theorem tabs_mem {tf : List He.Defn} {K : PySem.W.Frag} {p : He.Defn} (h : p ∈ tf) : (He.tabOf K (He.codeOf K p), lamN p) ∈ tabsK tf K := List.mem_map.mpr ⟨p, h, rfl⟩
theorem tabs_one {K : PySem.W.Frag} {p : He.Defn} : ∀ {tf : List He.Defn}, (tf.map fun p => (He.cT K p).2).Nodup → p ∈ tf → ∀ z ∈ tabsK tf K, z.1 = He.tabOf K (He.codeOf K p) → z.2 = lamN p
  | [], _, h, _, _, _ => by simp at h
  | q :: tf, nd, h, z, hz, e => by
    have nd' := List.nodup_cons.mp nd
    rcases List.mem_cons.mp hz with e1 | hz2
    · subst e1
      rcases List.mem_cons.mp h with e2 | h2
      · rw [e2]
      · exact (nd'.1 (List.mem_map.mpr ⟨p, h2, e.symm⟩)).elim
    · rcases List.mem_cons.mp h with e2 | h2
      · obtain ⟨r, hr, er⟩ := List.mem_map.mp hz2
        subst e2
        rw [← er] at e
        exact (nd'.1 (List.mem_map.mpr ⟨r, hr, e⟩)).elim
      · exact tabs_one nd'.2 h2 z hz2 e
theorem LamFr.ok {X : Cx} {ct : Ct} {d P : Addr} {kb : Nat} {lams : Nat → EM EV} (F : LamFr X ct d P) (n0 : ct.n = 0) (fn : ∀ x, X.fn x = true) (sc : ∀ j, j < ct.nl → LamX.LamS X.env.scope (ct.L j).scope)
    (bind : ∀ j, j < ct.nl → ∀ (q : Str) (cl : List (Str × Addr)) (pm cv ctv : Value), bindArgs (PySem.W.kla_fn "<lambda>" q (ct.L j).params (ct.L j).body (ct.L j).scope cl pm cv ctv) ⟨[], []⟩ = pure [])
    (body : ∀ j, j < ct.nl → ∀ (f c' : Addr) (A : Around) (outer : List PySem.Env) (s : Shared) (H : Hp) (E : XK), A.guards = some [] → Room kb (A.deeper (LamX.lamEnv X (ct.L j).scope s.heap.objs.size f c')) →
      Takes (LamX.lamCx X A outer s H E (ct.L j).scope f c') (fun cls d _ H => E cls d H) → SV (LamX.lamCx X A outer s H E (ct.L j).scope f c') ct (fun cls d _ H => E cls d H) (ct.L j).body (lams j)) : LamOk X ct kb lams := ⟨F.cl, F.q, n0, fn, sc, bind, body⟩
theorem exm_of {K : PySem.W.Frag} {ct : Ct} {l : List (Nat × (Exn → SM))} {all : List Nat} (h : ∀ c ∈ all, ∀ c' ∈ all, PySem.W.exmOne K (.ref (ct c)) (.ref (ct c')) = some (c == c')) (hs : ∀ n ∈ l.map Prod.fst, n ∈ all) : ∀ c ∈ all, ∀ p ∈ l, PySem.W.exmOne K (.ref (ct c)) (.ref (ct p.1)) = some (c == p.1) :=
  fun c hc p hp => h c hc p.1 (hs _ (List.mem_map.mpr ⟨p, hp, rfl⟩))
end MM
end
section
set_option Elab.async false
set_option linter.all false
set_option autoImplicit false
set_option maxRecDepth 100000
set_option maxHeartbeats 4000000
namespace MM
open PySem PySem.Spec L2
open PyProof.Rows (mem_cps_append mem_join int_text_free')
/-! ### plain lemmas: texts of data, == of what is told -/
mutual
/-- the text of d is made of signs -/
def D.tOk : D → Bool
  | .lst xs => D.tOks xs
  | .tup xs => D.tOks xs
  | .str x => PyData.strOk (reprText x)
  | .non => true
  | .bl _ => true
  | .int _ => true
  | .obj _ _ => false
  | .dic _ _ => false
  | .scr _ => false
  | .rng _ _ => false
  | .thk _ => false
  | .lam _ => false
def D.tOks : List D → Bool
  | [] => true
  | x :: xs => x.tOk && D.tOks xs
end
theorem strOk_free {x : Str} (h : ∀ k, 1114112 ≤ k → k ∉ x.cps.toList) : PyData.strOk x = true := by
  unfold PyData.strOk
  rw [Array.all_eq_true']
  intro c hc
  by_cases z : c < 1114112
  · exact decide_eq_true z
  · exact absurd (Array.mem_toList_iff.mpr hc) (h c (by omega))
theorem free_strOk {x : Str} (h : PyData.strOk x = true) : ∀ k, 1114112 ≤ k → k ∉ x.cps.toList := fun k hk hc => by
  unfold PyData.strOk at h
  rw [Array.all_eq_true'] at h
  have := of_decide_eq_true (h k (Array.mem_toList_iff.mp hc))
  omega
theorem join_free {k : Nat} (hk : 1114112 ≤ k) {ts : List Str} (h : ∀ t ∈ ts, k ∉ t.cps.toList) : k ∉ (Str.join ", " ts).cps.toList := fun z => by
  rcases (mem_join ", " k ts).mp z with ⟨t, ht, q⟩ | ⟨_, q⟩
  · exact h t ht q
  · rw [PyProof.Rows.signs_sep] at q
    simp at q
    omega
mutual
theorem D.shown_ok : ∀ d : D, d.tOk = true → ∀ k, 1114112 ≤ k → k ∉ d.py.shown.cps.toList
  | .non, _, k, hk => by
    rw [D.py]
    intro z
    have z := (PyProof.Rows.mem_shown_none k).mp z
    simp at z; omega
  | .bl b, _, k, hk => by
    rw [D.py]
    intro z
    have z := (PyProof.Rows.mem_shown_bool k b).mp z
    cases b <;> simp at z <;> omega
  | .int i, _, k, hk => by
    rw [D.py]
    exact PyProof.Rows.shown_int_free' ⟨by omega, by omega⟩ i
  | .str x, h, k, hk => by
    rw [D.tOk] at h
    rw [D.py, PyData.shown]
    exact free_strOk h k hk
  | .lst xs, h, k, hk => by
    rw [D.tOk] at h
    rw [D.py, PyData.shown_list]
    intro z
    rw [mem_cps_append, mem_cps_append] at z
    rcases z with (z | z) | z
    · rw [PyProof.Rows.signs_lbrack] at z; simp at z; omega
    · exact join_free hk (D.shown_oks xs h k hk) z
    · rw [PyProof.Rows.signs_rbrack] at z; simp at z; omega
  | .tup xs, h, k, hk => by
    rw [D.tOk] at h
    rw [D.py, PyData.shown]
    unfold tupleText
    intro z
    rw [mem_cps_append, mem_cps_append] at z
    rcases z with (z | z) | z
    · rw [PyProof.Rows.signs_lparen] at z; simp at z; omega
    · exact join_free hk (D.shown_oks xs h k hk) z
    · split at z
      · rw [show ((",)" : String) : Str).cps.toList = [44, 41] by decide] at z; simp at z; omega
      · rw [show ((")" : String) : Str).cps.toList = [41] by decide] at z; simp at z; omega
  | .obj _ _, h, _, _ => by rw [D.tOk] at h; cases h
  | .dic _ _, h, _, _ => by rw [D.tOk] at h; cases h
  | .scr _, h, _, _ => by rw [D.tOk] at h; cases h
  | .rng _ _, h, _, _ => by rw [D.tOk] at h; cases h
  | .thk _, h, _, _ => by rw [D.tOk] at h; cases h
  | .lam _, h, _, _ => by rw [D.tOk] at h; cases h
theorem D.shown_oks : ∀ ds : List D, D.tOks ds = true → ∀ k, 1114112 ≤ k → ∀ t ∈ PyData.shownAll (D.pys ds), k ∉ t.cps.toList
  | [], _, _, _, t, ht => by rw [D.pys, PyData.shownAll] at ht; cases ht
  | x :: xs, h, k, hk, t, ht => by
    rw [D.tOks, Bool.and_eq_true] at h
    rw [D.pys, PyData.shownAll] at ht
    rcases List.mem_cons.mp ht with rfl | ht
    · exact D.shown_ok x h.1 k hk
    · exact D.shown_oks xs h.2 k hk t ht
end
/-- what repr tells of a value that may be shown -/
theorem repr_ok {d : D} (h : okR d = true) (t : d.tOk = true) : ∃ x, fReprD d = some (.d (.str x)) ∧ PyData.strOk x = true := by
  refine ⟨d.py.shown, ?_, strOk_free (D.shown_ok d t)⟩
  unfold fReprD
  split
  · unfold okR at h; rw [D.shw] at h; cases h
  · rw [if_pos h]
theorem repr_dic : ∃ x, fReprD (.dic [] []) = some (.d (.str x)) ∧ PyData.strOk x = true := ⟨"{}", rfl, by decide +kernel⟩
@[simp] theorem outOf_exc {m : Nat} {x : Exn} {e : Env} : outOf m (.exc x e) = .exc x ((e.take m).map pinOf) := rfl
@[simp] theorem noT_exc {x : Exn} {ps : List (Option MV)} : (Out.exc x ps).noT = .exc x ps := rfl
@[simp] theorem res_exc_bind {α β : Type} {x : Exn} {e : Env} {f : α → Env → Res β} : (Res.exc x e : Res α).bind f = .exc x e := rfl
@[simp] theorem res_exc_sb {α : Type} {x : Exn} {e : Env} {f : α → Env → SRes} : (Res.exc x e : Res α).sb f = .exc x e := rfl
@[simp] theorem sres_exc_bind {x : Exn} {e : Env} {f : SM} : (SRes.exc x e).bind f = .exc x e := rfl
@[simp] theorem outV_exc {x : Exn} {ps : List (Option MV)} {e : Env} : outV (.exc x ps) e = .exc x e := rfl
@[simp] theorem outV_d {x : D} {ps : List (Option MV)} {e : Env} : outV (.ret (.d x) ps) e = .ok (.d x) e := rfl
@[simp] theorem outV_m {x : MV} {ps : List (Option MV)} {e : Env} : outV (.ret (.m x) ps) e = .ok (.m x) e := rfl
/-- a told row: a word, a text, a truth -/
def toldD (a b : Str) (c : Bool) : D := .lst [.str a, .str b, .bl c]
theorem okD_told {a b : Str} {c : Bool} (ha : PyData.strOk a = true) (hb : PyData.strOk b = true) : (toldD a b c).flat = true ∧ (toldD a b c).py.canLay0 = true ∧ (toldD a b c).py.depth ≤ 1 := by
  unfold toldD
  refine ⟨by simp [D.flat, D.flats], by simp [D.py, D.pys, PyData.canLay0, PyData.canLayAll0, ha, hb], by simp [D.py, D.pys, PyData.depth, PyData.depthAll]⟩
theorem eqv_told {a b : Str} {c : Bool} : PyData.eqv (toldD a b c).py (toldD a b c).py = true := by
  simp [toldD, D.py, D.pys, PyData.eqv, PyData.eqvAll]
theorem rep_told {d : D} (h1 : d.flat = true) (h2 : d.py.canLay0 = true) (h3 : d.py.depth ≤ 1) (h4 : PyData.eqv d.py d.py = true) : ∀ n, D.flats (List.replicate n d) = true ∧ PyData.canLayAll0 (D.pys (List.replicate n d)) = true ∧ PyData.depthAll (D.pys (List.replicate n d)) ≤ 1 ∧ PyData.eqvAll (D.pys (List.replicate n d)) (D.pys (List.replicate n d)) = true
  | 0 => by simp [D.flats, D.pys, PyData.canLayAll0, PyData.depthAll, PyData.eqvAll]
  | n + 1 => by
    obtain ⟨a, b, c, e⟩ := rep_told h1 h2 h3 h4 n
    rw [List.replicate_succ]
    refine ⟨by simp [D.flats, h1, a], by simp [D.pys, PyData.canLayAll0, h2, b], ?_, by simp [D.pys, PyData.eqvAll, h4, e]⟩
    simp only [D.pys, PyData.depthAll]
    omega
theorem gEq_told (n : Nat) {a b : Str} {c : Bool} (ha : PyData.strOk a = true) (hb : PyData.strOk b = true) : gEq (.lst (List.replicate n (toldD a b c))) (.lst (List.replicate n (toldD a b c))) = some true := by
  obtain ⟨h1, h2, h3⟩ := okD_told (c := c) ha hb
  obtain ⟨r1, r2, r3, r4⟩ := rep_told h1 h2 h3 eqv_told n
  have ok : okD (.lst (List.replicate n (toldD a b c))) = true := by
    unfold okD SeqAt.shaped
    simp only [D.flat, D.py, PyData.canLay0, PyData.depth, r1, r2, Bool.true_and]
    exact decide_eq_true (by omega)
  unfold gEq
  rw [if_pos ⟨ok, ok⟩]
  simp only [D.py, PyData.eqv, r4]
end MM
end
section
set_option Elab.async false
set_option linter.all false
set_option autoImplicit false
set_option maxRecDepth 100000
set_option maxHeartbeats 4000000
namespace MM
open PySem PySem.Spec PyProof.Rows L2
/-! ### raise C(): an own exception class without __init__ -/
def sRaise0 (c : Nat) : SM := fun e => .exc ⟨c, []⟩ e
@[simp] theorem sRaise0_ev {c : Nat} {e : Env} : sRaise0 c e = .exc ⟨c, []⟩ e := rfl
section
variable {X : Cx} {C : Addr} {bmB : List Value} {B newId initId : String}
theorem pmk_own0 {x : Str} {p pos : Pos} (F : ExcBaseFacts B newId initId bmB) (q : PySem.W.excIn X.K C bmB newId = true) (gC : X.mg x = some (.ref C)) (kC : PySem.W.keepIn X.K (.ref C) = true) (r : Raises X (.ref C)) (hg : Gl X x)
    (hdb : (x == ("__debug__" : Str)) = false := by decide) : PMk X (.Call (.Name x p) [] [] pos) (fun _ H Q => Q (.ref C) none H) := by
  intro pins s σ H Q I h
  obtain ⟨bm, N, nm, qn, bs, hdct, sn, sub, ab, col, dd, k0, k1, k2, k3, k5, mN, hC, hN, hni, T⟩ := exc_obj I.kIn q
  exact wpAny_Call_Name_kw (ld_glob I hg gC (PySem.W.callWith_K0 I.kIn kC (wpAny_call_exc_subT F T hC hN hni (fun h' e hm => mk_of I hm r h (I.hok.gone hm.new)) (Nat.zero_le _))) hdb)
end
/-- such a class over RuntimeError, all that is asked of it -/
structure Ex0At (K : PySem.W.Frag) (mg : Str → Option Value) (ct : Ct) (cn : Nat) (x : Str) : Prop where
  ex : PySem.W.excIn K (ct cn) [.type "RuntimeError", .type "Exception", .type "BaseException", .type "object"] "RuntimeError.__new__" = true
  kp : PySem.W.keepIn K (.ref (ct cn)) = true
  sub : PySem.W.subIn K (.ref (ct cn)) (.type "BaseException") = some true
  ty : PySem.W.typeIn K (.ref (ct cn)) = some (.type "type")
  mg : mg x = some (.ref (ct cn))
theorem s_raise0 {X : Cx} {ct : Ct} {W : WX} {pos p p2 : Pos} {x : Str} {cn : Nat} (E : Ex0At X.K X.mg ct cn x) (hcalm : X.calm = true) (tk : Takes X W) (hg : Gl X x) (hdb : (x == ("__debug__" : Str)) = false := by decide) :
    SS X ct W (.Raise (some (.Call (.Name x p) [] [] p2)) none pos) (sRaise0 cn) :=
  PSw (ps_raise hcalm tk (pmk_own0 F.excBase_RuntimeError E.ex E.mg E.kp (raises_own E.sub E.ty) hg hdb)) fun Dn σ H q => by
    obtain ⟨c, G, e, r, p⟩ := q
    have p : ∀ G' H' cls dc, Same G G' → RepS ⟨X.K, ct⟩ c G' σ H' e → RepX ⟨X.K, ct⟩ G' H' cls dc ⟨cn, []⟩ → W cls dc σ H' := fun G' H' cls dc s r hx => p G' σ H' cls dc s r hx
    exact p G H (.ref (ct cn)) none (Same.refl _) r ⟨rfl, .inl ⟨rfl, rfl⟩⟩
end MM
end
section
set_option Elab.async false
set_option linter.all false
set_option autoImplicit false
set_option maxRecDepth 100000
set_option maxHeartbeats 4000000
namespace MM
open PySem PySem.Spec PyProof.Rows L2
/-! ### own exceptions over ArithmeticError with two fields -/
abbrev arT : List Value := [.type "ArithmeticError", .type "Exception", .type "BaseException", .type "object"]
structure OexA (K : PySem.W.Frag) (C : Addr) : Prop where
  ini : PySem.W.excInitIn K C arT "ArithmeticError.__new__" = true
  ov : PySem.W.excOver K C arT = true
  hd : PySem.W.hasDictIn K C = true
  sa : PySem.W.findIn K (.ref C) "__setattr__" = some (some (.builtin "object.__setattr__"))
  exC : PySem.W.subIn K (.ref C) (.type "BaseException") = some true
  tyC : PySem.W.typeIn K (.ref C) = some (.type "type")
  kC : PySem.W.keepIn K (.ref C) = true
section
variable {prog : Program} {w : World} {A : Around} {R : Result → Shared → Prop} {hp : Heap} {g : Array GenState} {dr : Drawn} {t : Nat} {os : OsState} {K : PySem.W.Frag} {C x t1 : Addr} {name : Str} {tk : Tok} {v : Value}
/-- the first store: the dict is laid -/
theorem xstore1 (T : OexA K C) (Kn : K.In hp) (hx : hp.get? x = some (PySem.W.excObj C t1 none .none)) (ht : PySem.W.takerIn K C name = some none)
    (hq : ∀ h' tk' dx, (∀ b o, b ≠ x → hp.get? b = some o → h'.get? b = some o) → hp.objs.size ≤ dx → dx ≠ x → h'.get? x = some (PySem.W.excObj C t1 (some dx) .none) → h'.Ns1 dx (fun y => if y = name then some v else none) → R (.ok (.ret .none)) ⟨h', g, dr, tk', os⟩) :
    codeAny (model prog w) A (.call (.builtin "object.__setattr__") ⟨[.ref x, .str name tk, v], []⟩) R ⟨hp, g, dr, t, os⟩ := by
  have hxs : x ≠ hp.objs.size := Nat.ne_of_lt (Heap.lt_size hx)
  refine PySem.W.osa_openX (s := ⟨hp, g, dr, t, os⟩) (od := none) F.store_ArithmeticError Kn ⟨hx, rfl, rfl, trivial⟩ T.ov ht fun b => ?_
  obtain ⟨cd, hc, hd'⟩ := PySem.W.any_some T.hd
  refine wpAny_bind (wpAny_pure (wpAny_bind (PySem.W.instanceDict_exc hx (PySem.W.looks_clsIn Kn hc) hd' ?_)))
  have hx1 : (hp.push (PySem.W.dictOf [] 0)).get? x = some (PySem.W.excObj C t1 none .none) := Heap.get?_push_of_some _ hx
  refine HandSPX.store_in_new (hp := (hp.push (PySem.W.dictOf [] 0)).update x fun o => { o with dict := some hp.objs.size }) ?_ fun h' tk' hn' hs => ?_
  · exact ⟨_, #[], _, (Heap.get?_update_ne _ _ _ _ hxs.symm).trans (Heap.get?_push_at rfl rfl), rfl, fun e he => absurd he (by simp), fun _ => rfl⟩
  · exact hq h' tk' hp.objs.size (fun b o hb ho => (hs.2 b (Nat.ne_of_lt (Heap.lt_size ho))).trans ((Heap.get?_update_ne _ _ _ _ hb).trans (Heap.get?_push_of_some _ ho))) (Nat.le_refl _) hxs.symm
      ((hs.2 x hxs).trans (Heap.get?_update_self _ hx1 rfl)) hn'
/-- a further store -/
theorem xstore2 {dx : Addr} {m0 : Str → Option Value} {nl : List Str} (T : OexA K C) (Kn : K.In hp) (hx : hp.get? x = some (PySem.W.excObj C t1 (some dx) .none)) (hn : hp.Ns1 dx m0) (hw : Within m0 nl) (hz : nl.length ≤ 1000) (ht : PySem.W.takerIn K C name = some none)
    (hq : ∀ h' tk', (∀ b o, b ≠ dx → hp.get? b = some o → h'.get? b = some o) → h'.Ns1 dx (fun y => if y = name then some v else m0 y) → R (.ok (.ret .none)) ⟨h', g, dr, tk', os⟩) :
    codeAny (model prog w) A (.call (.builtin "object.__setattr__") ⟨[.ref x, .str name tk, v], []⟩) R ⟨hp, g, dr, t, os⟩ := by
  obtain ⟨oD, esD, epD, hoD, hdD, _⟩ := hn.count hw
  refine PySem.W.osa_openX (s := ⟨hp, g, dr, t, os⟩) (od := some oD) F.store_ArithmeticError Kn ⟨hx, rfl, rfl, hoD⟩ T.ov ht fun b => ?_
  obtain ⟨cd, hc, hd'⟩ := PySem.W.any_some T.hd
  refine wpAny_bind (wpAny_pure (wpAny_bind (wpAny_bind (wpAny_loadPart hx (wpAny_bind ((PySem.W.looks_clsIn Kn hc).here ?_))))))
  rw [hd']
  refine wpAny_pure (a := some dx) ?_
  exact OEX.store_in_old hn hw hz fun h' tk' hn' hs => hq h' tk' (fun b o hb ho => (hs.2 b hb).trans ho) hn'
end
end MM
namespace MM
open PySem PySem.Spec PyProof.Rows L2
section
variable {X : Cx} {pins : List (Addr × Obj)} {σ : L2.St} {H : Hp} {s : Shared} {a dx : Addr} {φ φ' ψ : Heap → Prop}
theorem ext_own {b : Addr} {φ : Heap → Prop} : HO.ext φ ≠ .own b := fun z => by cases z
theorem ext_tup {xs : List V} {φ : Heap → Prop} : HO.ext φ ≠ .tup xs := fun z => by cases z
theorem ext_frz {o : Obj} {u : HO} {φ : Heap → Prop} : HO.ext φ ≠ .frz o u := fun z => by cases z
theorem ext_tbl {ps : Array Value} {φ : Heap → Prop} : HO.ext φ ≠ .tbl ps := fun z => by cases z
/-- one cell of its own kind is written anew, one is laid -/
theorem Inv.two {h' : Heap} {t' : Nat} (I : Inv X pins σ H s) (ea : H a = some (.ext φ)) (hd : H dx = none) (hdx : s.heap.get? dx = none) (k : ∀ b o, b ≠ a → s.heap.get? b = some o → h'.get? b = some o) (ha : ∃ o, h'.get? a = some o)
    (n1 : ∀ H', ObjOk X.prog X.w H' h' a (.ext φ')) (n2 : ∀ H', ObjOk X.prog X.w H' h' dx (.ext ψ)) : Inv X pins σ (upd (upd H dx (.ext ψ)) a (.ext φ')) { s with heap := h', toks := t' } := by
  have no_a : ∀ {b : Addr}, H b = none → b ≠ a := fun {b} n z => by rw [z, ea] at n; cases n
  have no_d : ∀ {b : Addr} {o : Obj}, s.heap.get? b = some o → b ≠ dx := fun {b o} q z => by rw [z, hdx] at q; cases q
  have old : ∀ {b : Addr} {o : HO}, H b = some o → HO.ext φ ≠ o → upd (upd H dx (.ext ψ)) a (.ext φ') b = some o := fun {b o} q ne => by rw [upd_ne (at_ne ea q ne), upd_ne (ne_of_none q hd)]; exact q
  have U : Un X.fs [] H (upd (upd H dx (.ext ψ)) a (.ext φ')) s.heap h' :=
    { keep := fun b o q n _ _ => k b o (no_a n) q
      slot := fun b o q n _ _ => ⟨o.slots, k b o (no_a n) q⟩
      free := fun b o q n _ => by rw [upd_ne (no_a n), upd_ne (no_d q)]; exact n
      there := fun b o q _ => if hb : b = a then hb ▸ ha else ⟨o, k b o hb q⟩
      tups := fun b xs q => old q ext_tup
      frzs := fun b o v q => old q ext_frz
      tbls := fun b ps q => ⟨#[], by rw [old q ext_tbl]; simp⟩ }
  refine I.un (t' := t') U fun b o q => ?_
  by_cases hb : b = a
  · subst hb
    rw [upd_same] at q
    cases q
    exact n1 _
  rw [upd_ne hb] at q
  by_cases hbd : b = dx
  · subst hbd
    rw [upd_same] at q
    cases q
    exact n2 _
  rw [upd_ne hbd] at q
  exact (I.hok b o q).stay (fun c v hc z => k c v (hc.elim (fun e => e ▸ hb) fun e => at_ne ea e ext_own) z) (fun c hc => old hc ext_own) (fun c xs hc => old hc ext_tup)
variable {C : Addr} {f : Str} {y : V} {u : Value} {fs : List (Str × V)} {Q : Unit → Shared → Prop} {E : Value → Shared → Prop} {A : Around}
theorem xset1 (T : OexA X.K C) (I : Inv X pins σ H s) (e : H a = some (exo a C none)) (ht : PySem.W.takerIn X.K C f = some none) (ry : RelV y u)
    (h : ∀ dx s', H dx = none → dx ≠ a → Inv X pins σ (upd (upd H dx (exd dx [(f, y)])) a (exo a C (some dx))) s' → Q () s') : wpAny (model X.prog X.w) A (setAttr (.ref a) f u) Q E s := by
  obtain ⟨t1, ho⟩ := exo_at I.hok e
  obtain ⟨hp, g, d, t, os⟩ := s
  refine PySem.W.set_plain I.kIn (ox := PySem.W.excObj C t1 none .none) (od := none) ⟨ho, rfl, rfl, trivial⟩ T.sa (xstore1 T I.kIn ho ht fun h' tk' dx k dn dne hx hn => ?_)
  have hnd : hp.get? dx = none := by
    cases q : hp.get? dx with
    | none => rfl
    | some o => exact absurd (Heap.lt_size q) (Nat.not_lt.mpr dn)
  exact h dx _ (I.hok.fresh dn) dne (Inv.two (t' := tk') I e (I.hok.fresh dn) hnd k ⟨_, hx⟩ (fun _ => exo_ok hx) fun _ => exd_ok hn (relO_put (fs := []) ry fun _ => True.intro))
theorem xset2 (T : OexA X.K C) (I : Inv X pins σ H s) (e : H a = some (exo a C (some dx))) (ed : H dx = some (exd dx fs)) (hl : fs.length ≤ 900) (ht : PySem.W.takerIn X.K C f = some none) (ry : RelV y u)
    (h : ∀ s', Inv X pins σ (upd H dx (exd dx ((f, y) :: fs))) s' → Q () s') : wpAny (model X.prog X.w) A (setAttr (.ref a) f u) Q E s := by
  obtain ⟨t1, ho⟩ := exo_at I.hok e
  obtain ⟨mA, hns, rel⟩ := exd_at I.hok ed
  obtain ⟨hp, g, d, t, os⟩ := s
  obtain ⟨oD, _, _, hoD, _, _⟩ := hns.count (within_of rel)
  refine PySem.W.set_plain I.kIn (ox := PySem.W.excObj C t1 (some dx) .none) (od := some oD) ⟨ho, rfl, rfl, hoD⟩ T.sa (xstore2 T I.kIn ho hns (within_of rel) (by rw [List.length_map]; omega) ht fun h' tk' k hn => ?_)
  have hd : ∃ o, h'.get? dx = some o := by
    obtain ⟨o, _, _, e', _⟩ := hn
    exact ⟨o, e'⟩
  exact h _ (I.write (t' := tk') (x := dx) (e := dx) (o := exd dx ((f, y) :: fs)) (by rw [ed]; exact True.intro) (.inl rfl) k hd (exd_ok hn (relO_put ry rel)))
end
end MM
namespace MM
open PySem PySem.Spec PyProof.Rows L2
def tSetX (K : PySem.W.Frag) (f : Str) (to te : L2.TE) : L2.TS := fun D σ H => te σ H fun y H1 => to σ H1 fun x H2 => ∃ a C : Addr, x = .ref a ∧ OexA K C ∧ PySem.W.takerIn K C f = some none ∧
  ((H2 a = some (exo a C none) ∧ ∀ dx, H2 dx = none → dx ≠ a → D.nx σ (upd (upd H2 dx (exd dx [(f, y)])) a (exo a C (some dx)))) ∨
    ∃ (dx : Addr) (fs : List (Str × V)), H2 a = some (exo a C (some dx)) ∧ H2 dx = some (exd dx fs) ∧ fs.length ≤ 900 ∧ D.nx σ (upd H2 dx (exd dx ((f, y) :: fs))))
theorem ps_setX {X : Cx} {o e : Expr} {f : Str} {to te : L2.TE} {p' pos : Pos} (ho : PE X o to) (he : PE X e te) (hs : swapsWith e (some (.Attribute o f p')) pos.line X.env = pure false) : PS X (.Assign [.Attribute o f p'] e pos) (tSetX X.K f to te) := by
  refine ⟨fun pins s σ H D I h => plainObj_wpAny_Assign_Attribute (thn (he.run pins s σ H _ I h) fun v s1 ⟨y, H1, I1, r1, q1⟩ => thn (ho.run pins s1 σ H1 _ I1 q1) fun u s2 ⟨x, H2, I2, r2, a, C, ex, T, ht, q⟩ => ?_) hs⟩
  subst ex
  obtain rfl : u = Value.ref a := r2
  rcases q with ⟨ea, q⟩ | ⟨dx, fs, ea, ed, hl, q⟩
  · exact xset1 T I2 ea ht r1 fun dx s' n ne J => ⟨σ, _, J, q dx n ne⟩
  · exact xset2 T I2 ea ed hl ht r1 fun s' J => ⟨σ, _, J, q⟩
/-- what __init__(self, y, z): self.f = y; self.g = z keeps -/
def spX2 (K : PySem.W.Frag) (f g : Str) : Sp := fun vs H Q _ => ∃ (a C : Addr) (y z : V), vs = [.ref a, y, z] ∧ OexA K C ∧ PySem.W.takerIn K C f = some none ∧ PySem.W.takerIn K C g = some none ∧ H a = some (exo a C none) ∧
  ∀ dx, H dx = none → dx ≠ a → Q .non (upd (upd (upd H dx (exd dx [(f, y)])) a (exo a C (some dx))) dx (exd dx [(g, z), (f, y)]))
theorem fn_exinit2 {P : Program} {w : World} {K : PySem.W.Frag} {mg : Str → Option Value} {base : Heap} {x qual : Str} {params : Arguments} {scope : Scope} {dvs : List V} {kws : List (Str × V)} {fa : Addr} {fd : FuncData} {f g n1 n2 n3 : Str} {p1 p2 p3 p4 p5 p6 p7 p8 : Pos}
    (F : FunD K x qual params [.Assign [.Attribute (.Name n1 p1) f p2] (.Name n2 p3) p4, .Assign [.Attribute (.Name n1 p5) g p6] (.Name n3 p7) p8] scope dvs kws fa fd) (S : FnScope [n1, n2, n3] [n1, n2, n3] scope) (h1 : Vis scope n1) (h2 : Vis scope n2) (h3 : Vis scope n3)
    (d1 : (n1 == ("__debug__" : Str)) = false) (d2 : (n1 == ("__classdict__" : Str)) = false) (d3 : (n2 == ("__debug__" : Str)) = false) (d4 : (n2 == ("__classdict__" : Str)) = false) (d5 : (n3 == ("__debug__" : Str)) = false) (d6 : (n3 == ("__classdict__" : Str)) = false)
    (hs : ∀ env, swapsWith (.Name n2 p3) (some (.Attribute (.Name n1 p1) f p2)) p4.line env = pure false) (hs2 : ∀ env, swapsWith (.Name n3 p7) (some (.Attribute (.Name n1 p5) g p6)) p8.line env = pure false) :
    FnOk P w K mg base (L2.CX P w) 1 fa fd [n1, n2, n3] (spX2 K f g) := by
  refine F.ok S (fun vs H Q E q => ?_) fun cdv A outer s H vs Q E hr q => ?_
  · obtain ⟨a, C, y, z, rfl, _⟩ := q
    rfl
  · obtain ⟨a, C, y, z, rfl, T, hf, hg, ha, hq⟩ := q
    refine ⟨_, pss_cons (ps_setX (pe_var (i := 0) rfl h1 d1 d2) (pe_var (i := 1) rfl h2 d3 d4) (hs _)) (pss_one (ps_setX (pe_var (i := 0) rfl h1 d1 d2) (pe_var (i := 2) rfl h3 d5 d6) (hs2 _))), ?_⟩
    refine ⟨y, rfl, .ref a, rfl, a, C, rfl, T, hf, .inl ⟨ha, fun dx n ne => ?_⟩⟩
    exact ⟨z, rfl, .ref a, rfl, a, C, rfl, T, hg, .inr ⟨dx, [(f, y)], upd_same, by rw [upd_ne ne, upd_same], by simp, hq dx n ne⟩⟩
theorem pmk_oexA {X : Cx} {CX : CXT} {x : Str} {C fI : Addr} {k : Nat} {fd : FuncData} {ps : List Str} {sp : Sp} {e : Expr} {es : List Expr} {ta : L2.TA} {p pos : Pos} (T : OexA X.K C) (iC : PySem.W.findIn X.K (.ref C) "__init__" = some (some (.ref fI))) (tI : PySem.W.typeIn X.K (.ref fI) = some (.type "function"))
    (F1 : FnOk X.prog X.w X.K X.mg X.base CX k fI fd ps sp) (hr : Room (k + 1) X.A) (hb : Binds X.K fd ps []) (hx : Passes CX X (fun _ _ _ => False)) (hg : Gl X x) (hm : X.mg x = some (.ref C)) (ha : PA X (e :: es) ta)
    (hdb : (x == ("__debug__" : Str)) = false := by decide) (he : starEach (e :: es) X.env = (false, eval e X.env) :: starEach es X.env := by rfl) (hpl : (backTo pos (starEach es X.env)).any (·.1) = false := by rfl) :
    PMk X (.Call (.Name x p) (e :: es) [] pos) (tMkO C sp [] ta) := by
  intro pins s σ H Q I h
  refine wpAny_Call_Name_kw (ld_glob I hg hm ?_ hdb)
  refine PySem.W.callWith_K (h₀ := X.base) I.ok.mod.kin T.kC (thn (ha.run pos pins s σ H _ I h) fun us s1 ⟨vs, H1, I1, r1, hz, q1⟩ => ⟨I1.kIn, ?_⟩) he hpl
  show wpAny _ _ (call (.ref C) us) _ _ _
  obtain ⟨hp, g, dr, tk, os⟩ := s1
  obtain ⟨nm, N, qn, bs, bm, hdct, sn, sub, ab, col, dd, k0, k1, k2, k3, k5, hC, hT⟩ := PySem.W.excInit_of I1.kIn T.ini
  have hn : H1 (hp.objs.size + 1) = none := I1.hok.fresh (Nat.le_succ _)
  have hq := q1 (hp.objs.size + 1) hn
  rw [List.append_nil] at hq
  have kk : ∀ b o, hp.get? b = some o → ((hp.push (PySem.W.kdv_tup us)).push (HandSPX.excO C hp.objs.size)).get? b = some o := fun b o e => Heap.get?_push_of_some _ (Heap.get?_push_of_some _ e)
  have hget : ((hp.push (PySem.W.kdv_tup us)).push (HandSPX.excO C hp.objs.size)).get? (hp.objs.size + 1) = some (HandSPX.excO C hp.objs.size) := by heap_get
  have I2 := I1.laid (t' := tk) (a := hp.objs.size + 1) (o := exo (hp.objs.size + 1) C none) kk (Nat.le_succ _) (exo_ok hget)
  have r2 : Vals (V.ref (hp.objs.size + 1) :: vs) (Value.ref (hp.objs.size + 1) :: us) := .cons rfl r1
  have hl : (Value.ref (hp.objs.size + 1) :: us).length = ps.length := by rw [← r2.length, F1.len _ _ _ _ hq]
  have hus : us.length ≤ sizeLine := by rw [← Paired.length r1, sizeLine_eq]; omega
  have hbi := hb _ (Value.ref (hp.objs.size + 1) :: us) I2.kIn (by rw [List.append_nil]; exact hl)
  rw [List.append_nil] at hbi
  refine wpAny_call (HandSPX.call_own F.excBase_ArithmeticError hT hC (PySem.W.looks_findIn I1.kIn iC) (fun self => PySem.W.bind_fn I1.kIn self tI) hus
    (codeAny_mono (F1.run _ X.stack _ _ ⟨Value.ref (hp.objs.size + 1) :: us, []⟩ (Value.ref (hp.objs.size + 1) :: us) _ _ (fun _ _ _ => False) (hr.make C us []) (I2.env0.make C us []) hbi r2 hq) fun r s' hq' => ?_))
  match r, hq' with
  | .error er, hq' => exact hx pins σ _ _ er s' I2 hq'
  | .ok (.ret u), hq' =>
    obtain ⟨v, H2, os2, bare2, un2, hok2, rv, ev, d, fs, ea, ed, hd1, q2⟩ := hq'
    subst ev
    obtain ⟨h2, g2, d2, t2, os'⟩ := s'
    exact ⟨rv, mk_end (raises_own T.exC T.tyC) I1 (Nat.le_succ _) kk un2 hok2 os2 bare2 ea ed hd1 q2⟩
  | .ok .next, hq' => exact False.elim hq'
  | .ok .brk, hq' => exact False.elim hq'
  | .ok .cont, hq' => exact False.elim hq'
/-- raise C(e1, e2) -/
def sRaise2 (c : Nat) (f1 f2 : EM D) : SM := fun e => (f1 e).sb fun d1 e1 => (f2 e1).sb fun d2 e2 => .exc ⟨c, [d2, d1]⟩ e2
@[simp] theorem sRaise2_ev {c : Nat} {f1 f2 : EM D} {e : Env} : sRaise2 c f1 f2 e = (f1 e).sb fun d1 e1 => (f2 e1).sb fun d2 e2 => .exc ⟨c, [d2, d1]⟩ e2 := rfl
structure Ex2At (P : Program) (w : World) (K : PySem.W.Frag) (mg : Str → Option Value) (base : Heap) (ct : Ct) (cn : Nat) (x f g : Str) : Prop where
  ex : ∃ (fI : Addr) (fd : FuncData) (n1 n2 n3 : Str), FnOk P w K mg base (L2.CX P w) 1 fI fd [n1, n2, n3] (spX2 K f g) ∧ Binds K fd [n1, n2, n3] [] ∧ PySem.W.findIn K (.ref (ct cn)) "__init__" = some (some (.ref fI)) ∧ PySem.W.typeIn K (.ref fI) = some (.type "function")
  T : OexA K (ct cn)
  n1 : PySem.W.takerIn K (ct cn) f = some none
  n2 : PySem.W.takerIn K (ct cn) g = some none
  mg : mg x = some (.ref (ct cn))
  nm : clsNames cn = [g, f]
theorem s_raise2 {X : Cx} {ct : Ct} {W : WX} {pos p p2 : Pos} {x f g : Str} {e1 e2 : Expr} {f1 f2 : EM D} {cn : Nat} (E : Ex2At X.prog X.w X.K X.mg X.base ct cn x f g) (hcalm : X.calm = true) (tk : Takes X W) (hr : Room 2 X.A) (hg : Gl X x) (h1 : SE X ct W e1 f1) (h2 : SE X ct W e2 f2)
    (hdb : (x == ("__debug__" : Str)) = false := by decide) (hst : starEach [e1, e2] X.env = (false, eval e1 X.env) :: starEach [e2] X.env := by rfl) (hst2 : starEach [e2] X.env = (false, eval e2 X.env) :: starEach [] X.env := by rfl) (hpl : (backTo p2 (starEach [e2] X.env)).any (·.1) = false := by rfl) :
    SS X ct W (.Raise (some (.Call (.Name x p) [e1, e2] [] p2)) none pos) (sRaise2 cn f1 f2) := by
  obtain ⟨fI, fd, m1, m2, m3, F1, hb, iC, tI⟩ := E.ex
  have hx : Passes (L2.CX X.prog X.w) X (fun _ _ _ => False) := passes_call tk fun _ _ _ _ z => z.elim
  refine PSw (ps_raise hcalm tk (pmk_oexA E.T iC tI F1 hr hb hx hg E.mg (a_cons (k_val h1) (a_cons (k_val h2) a_nil hst2) hst) hdb hst hpl)) fun Dn σ H q => ?_
  obtain ⟨c, G, e, r, p⟩ := q
  refine ⟨c, G, e, r, ?_⟩
  have p : PostS ⟨X.K, ct⟩ W c G Dn ((f1 e).sb fun d1 e1 => (f2 e1).sb fun d2 e2 => .exc ⟨cn, [d2, d1]⟩ e2) := p
  show Post ⟨X.K, ct⟩ W c G σ _ (aCons (kE f1) (aCons (kE f2) aNil) e)
  unfold aCons kE aNil
  cases hf1 : f1 e with
  | stuck => rw [hf1] at p; exact p.elim
  | exc y e1 => rw [hf1] at p; exact fun G' H' cls dc s' r' hx => p G' σ H' cls dc s' r' hx
  | ok d1 e1 =>
    rw [hf1] at p
    have p : PostS ⟨X.K, ct⟩ W c G Dn ((f2 e1).sb fun d2 e2 => .exc ⟨cn, [d2, d1]⟩ e2) := p
    show Post ⟨X.K, ct⟩ W c G σ _ ((((f2 e1).bind fun d e1 => Res.ok (Tk.val d) e1).bind fun t e1 => (Res.ok [] e1).bind fun ts e2 => .ok (t :: ts) e2).bind fun ts e2 => .ok (Tk.val d1 :: ts) e2)
    cases hf2 : f2 e1 with
    | stuck => rw [hf2] at p; exact p.elim
    | exc y e2 => rw [hf2] at p; exact fun G' H' cls dc s' r' hx => p G' σ H' cls dc s' r' hx
    | ok d2 e2 =>
      rw [hf2] at p
      intro G' H' s' r' vs hvs
      match vs, hvs with
      | [v1, v2], hvs =>
        have hv1 : Rp ⟨X.K, ct⟩ G' v1 d1 := hvs.1
        have hv2 : Rp ⟨X.K, ct⟩ G' v2 d2 := hvs.2.1
        refine ⟨by simp, fun a ha => ⟨a, ct cn, v1, v2, rfl, E.T, E.n1, E.n2, upd_same, fun dx hdx hne => ⟨rfl, dx, [(g, v2), (f, v1)], ?_, upd_same, ?_, ?_⟩⟩⟩
        · rw [upd_ne (Ne.symm hne), upd_same]
        · rw [upd_ne hne] at hdx; exact hdx
        · rw [upd_ne hne] at hdx
          have hu : upd (del (upd (upd (upd (upd H' a (exo a (ct cn) none)) dx (exd dx [(f, v1)])) a (exo a (ct cn) (some dx))) dx (exd dx [(g, v2), (f, v1)])) a) dx (.xd [(g, v2), (f, v1)]) = upd H' dx (.xd [(g, v2), (f, v1)]) := by
            funext b
            by_cases h1 : b = dx
            · subst h1; rw [upd_same, upd_same]
            rw [upd_ne h1, upd_ne h1]
            by_cases h2 : b = a
            · subst h2; rw [del_same, ha]
            · rw [del_ne h2, upd_ne h1, upd_ne h2, upd_ne h1, upd_ne h2]
          rw [hu]
          have hg' : G' dx = none := r'.gh.free hdx
          exact p (upd G' dx (.xd [(g, v2), (f, v1)])) σ _ (.ref (ct cn)) (some dx) (s'.trans (same_upd hg')) (r'.lay hdx) ⟨rfl, .inr ⟨dx, [(g, v2), (f, v1)], rfl, upd_same, E.nm.symm, .cons (hv2.mono (same_upd hg')) (.cons (hv1.mono (same_upd hg')) .nil)⟩⟩
      | [], hvs => exact hvs.elim
      | [_], hvs => exact hvs.2.elim
      | _ :: _ :: _ :: _, hvs => exact hvs.2.2.elim
end MM
end
section
set_option Elab.async false
set_option linter.all false
set_option autoImplicit false
set_option maxRecDepth 100000
set_option maxHeartbeats 4000000
namespace MM
open PySem PySem.Spec PyProof.Rows L2
/-! ### what the head asks of these classes; their fields in handlers -/
abbrev rtT : List Value := [.type "RuntimeError", .type "Exception", .type "BaseException", .type "object"]
def ex0B (K : PySem.W.Frag) (x : Str) : Bool := PySem.W.excIn K (He.ga K x) rtT "RuntimeError.__new__" && (PySem.W.keepIn K (.ref (He.ga K x)) && (decide (PySem.W.typeIn K (.ref (He.ga K x)) = some (.type "type")) && xfB K (He.ga K x)))
structure Ex0Ok (K : PySem.W.Frag) (x : Str) : Prop where
  q : PySem.W.excIn K (He.ga K x) rtT "RuntimeError.__new__" = true
  kp : PySem.W.keepIn K (.ref (He.ga K x)) = true
  ty : PySem.W.typeIn K (.ref (He.ga K x)) = some (.type "type")
  X : XfC K (He.ga K x)
theorem ex0B_ok {K : PySem.W.Frag} {x : Str} (h : ex0B K x = true) : Ex0Ok K x := by
  obtain ⟨h1, h⟩ := He.ba h
  obtain ⟨h2, h⟩ := He.ba h
  obtain ⟨h3, h4⟩ := He.ba h
  exact ⟨h1, h2, of_decide_eq_true h3, xfB_ok h4⟩
theorem Ex0Ok.at {K : PySem.W.Frag} {mg : Str → Option Value} {ct : Ct} {cn : Nat} {x : Str} (h : Ex0Ok K x) (hc : ct cn = He.ga K x) (hm : mg x = some (.ref (He.ga K x))) : Ex0At K mg ct cn x :=
  ⟨by rw [hc]; exact h.q, by rw [hc]; exact h.kp, by rw [hc]; exact h.X.exC, by rw [hc]; exact h.ty, by rw [hc]; exact hm⟩
def ex2B (K : PySem.W.Frag) (x f g : Str) : Bool := PySem.W.excInitIn K (He.ga K x) arT "ArithmeticError.__new__" && (PySem.W.excOver K (He.ga K x) arT && (He.eqO (PySem.W.findIn K (.ref (He.ga K x)) "__setattr__") (some (some (.builtin "object.__setattr__"))) &&
  (PySem.W.keepIn K (.ref (He.ga K x)) && (decide (PySem.W.typeIn K (.ref (He.ga K x)) = some (.type "type")) && (xfB K (He.ga K x) &&
  (He.eqO (PySem.W.findIn K (.ref (He.ga K x)) "__init__") (some (some (.ref (He.ma K (He.ga K x) "__init__")))) && (decide (PySem.W.typeIn K (.ref (He.ma K (He.ga K x) "__init__")) = some (.type "function")) && (He.eqO (PySem.W.findIn K (.ref (He.ga K x)) f) (some none) && He.eqO (PySem.W.findIn K (.ref (He.ga K x)) g) (some none)))))))))
structure Ex2Ok (K : PySem.W.Frag) (x f g : Str) : Prop where
  T : OexA K (He.ga K x)
  X : XfC K (He.ga K x)
  init : PySem.W.findIn K (.ref (He.ga K x)) "__init__" = some (some (.ref (He.ma K (He.ga K x) "__init__")))
  tI : PySem.W.typeIn K (.ref (He.ma K (He.ga K x) "__init__")) = some (.type "function")
  n1 : PySem.W.findIn K (.ref (He.ga K x)) f = some none
  n2 : PySem.W.findIn K (.ref (He.ga K x)) g = some none
theorem ex2B_ok {K : PySem.W.Frag} {x f g : Str} (h : ex2B K x f g = true) : Ex2Ok K x f g := by
  obtain ⟨h1, h⟩ := He.ba h
  obtain ⟨h2, h⟩ := He.ba h
  obtain ⟨h3, h⟩ := He.ba h
  obtain ⟨h4, h⟩ := He.ba h
  obtain ⟨h5, h⟩ := He.ba h
  obtain ⟨h6, h⟩ := He.ba h
  obtain ⟨h7, h⟩ := He.ba h
  obtain ⟨h8, h⟩ := He.ba h
  obtain ⟨h9, h10⟩ := He.ba h
  have X := xfB_ok h6
  exact ⟨⟨h1, h2, X.hdC, He.eqO_ok h3, X.exC, of_decide_eq_true h5, h4⟩, X, He.eqO_ok h7, of_decide_eq_true h8, He.eqO_ok h9, He.eqO_ok h10⟩
theorem taker_no {K : PySem.W.Frag} {C : Addr} {f : Str} (h : PySem.W.findIn K (.ref C) f = some none) : PySem.W.takerIn K C f = some none := by unfold PySem.W.takerIn; rw [h]; rfl
def xFld2 (cn : Nat) (b : Bool) : Exn → EM D := fun x e => if x.cls = cn then (match x.fs with
  | [d0, d1] => .ok (if b then d1 else d0) e
  | _ => .stuck) else .stuck
@[simp] theorem xFld2_ev {cn : Nat} {b : Bool} {x : Exn} {e : Env} : xFld2 cn b x e = if x.cls = cn then (match x.fs with
  | [d0, d1] => .ok (if b then d1 else d0) e
  | _ => .stuck) else .stuck := rfl
section
variable {X : Cx} {ct : Ct} {i j cn : Nat} {a : Addr} {oe : Obj} {cls : Value} {d : Option Addr} {pn : List (Addr × Obj)} {n f0 f1 y : Str} {pos p pos' : Pos} {ex : Expr}
theorem h_fld2 (b : Bool) (T : XfC X.K (ct cn)) (hno : PySem.W.findIn X.K (.ref (ct cn)) (if b then f1 else f0) = some none) (hf : clsNames cn = [f0, f1]) (hne : f0 ≠ f1) (hz : Zc cls d oe) (hd : ∃ vs, oe.data = .fields vs) (he : PE (X.suite a ((a, oe) :: pn)) ex (tVar i))
    (hb : attributeBase ex (if b then f1 else f0) X.env (eval ex X.env) = eval ex X.env) :
    HE (X.suite a ((a, oe) :: pn)) ct i a cls d (.Attribute ex (if b then f1 else f0) pos) (xFld2 cn b) := PEw (pe_xf T hno hz hd he hb) fun σ H Q q => by
  obtain ⟨hs, x, c, G, e, r, hx, p⟩ := q
  unfold xFld2 at p
  by_cases hc : x.cls = cn
  · rw [if_pos hc] at p
    obtain ⟨h1, h2⟩ := hx
    split at p
    · rename_i y0 y1 hy
      rcases h2 with h2 | ⟨dd, fs, e1, e2, e3, e4⟩
      · rw [hy] at h2; cases h2.1
      · rw [hc, hf] at e3
        rw [hy] at e4
        match fs, e3, e4 with
        | [q0, q1], e3, e4 =>
          obtain ⟨hq0, hq1⟩ : q0.1 = f0 ∧ q1.1 = f1 := by simpa using e3
          cases e4 with
          | cons h3 e5 =>
            cases e5 with
            | cons h4 _ =>
              cases b with
              | true =>
                have hl : (f1 == q0.1) = false := by rw [hq0]; simpa using Ne.symm hne
                exact ⟨.ref a, hs, rfl, by rw [h1, hc], dd, [q0, q1], q1.2, e1, r.gh _ _ e2, by show List.lookup f1 [q0, q1] = some q1.2; rw [List.lookup_cons, hl, ← hq1]; simp [List.lookup], p G H (Same.refl _) r _ h4⟩
              | false => exact ⟨.ref a, hs, rfl, by rw [h1, hc], dd, [q0, q1], q0.2, e1, r.gh _ _ e2, by show List.lookup f0 [q0, q1] = some q0.2; rw [← hq0]; simp [List.lookup], p G H (Same.refl _) r _ h3⟩
        | [], e3, _ => simp at e3
        | [_], e3, _ => simp at e3
        | _ :: _ :: _ :: _, e3, _ => simp at e3
    · exact p.elim
  · rw [if_neg hc] at p; exact p.elim
end
end MM
end
section
set_option Elab.async false
set_option linter.all false
set_option autoImplicit false
set_option maxRecDepth 100000
set_option maxHeartbeats 4000000
namespace MM
open PySem PySem.Spec PyProof.Rows L2
/-! ### more in handlers: operators, == of data, str of a truth -/
def xBin (g : D → D → Option EV) (f1 f2 : Exn → EM D) : Exn → EM D := fun x e => (f1 x e).bind fun a e1 => (f2 x e1).bind fun b e2 => match g a b with
  | some (.d z) => .ok z e2
  | _ => .stuck
def xCmp (g : D → D → Option Bool) (f1 f2 : Exn → EM D) : Exn → EM D := fun x e => (f1 x e).bind fun a e1 => (f2 x e1).bind fun b e2 => match g a b with
  | some z => .ok (.bl z) e2
  | _ => .stuck
def xStrB (f : Exn → EM D) : Exn → EM D := fun x e => (f x e).bind fun d e1 => match d with
  | .bl b => .ok (.str (if b then "True" else "False")) e1
  | _ => .stuck
def xTup (f : Exn → EM (List D)) : Exn → EM D := fun x e => (f x e).bind fun ds e1 => if ds.length ≤ LIM then .ok (.tup ds) e1 else .stuck
@[simp] theorem xBin_ev {g : D → D → Option EV} {f1 f2 : Exn → EM D} {x : Exn} {e : Env} : xBin g f1 f2 x e = (f1 x e).bind fun a e1 => (f2 x e1).bind fun b e2 => match g a b with
  | some (.d z) => .ok z e2
  | _ => .stuck := rfl
@[simp] theorem xCmp_ev {g : D → D → Option Bool} {f1 f2 : Exn → EM D} {x : Exn} {e : Env} : xCmp g f1 f2 x e = (f1 x e).bind fun a e1 => (f2 x e1).bind fun b e2 => match g a b with
  | some z => .ok (.bl z) e2
  | _ => .stuck := rfl
section
variable {Y : Cx} {ct : Ct} {i j : Nat} {a : Addr} {cls : Value} {d : Option Addr} {ex ex1 ex2 : Expr} {f f1 f2 : Exn → EM D} {pos p pos' : Pos} {y : Str} {r : R2}
theorem h_bin {op : Operator} {g : D → D → Option EV} (ho : OpR Y (binaryOp op) r) (hg : OpG ⟨Y.K, ct⟩ r g) (ha : HE Y ct i a cls d ex1 f1) (hb : HE Y ct i a cls d ex2 f2) : HE Y ct i a cls d (.BinOp ex1 op ex2 pos) (xBin g f1 f2) := PEw (pe_op ho ha hb) fun σ H Q q => by
  obtain ⟨hs, x, c, G, e, re, hx, p⟩ := q
  refine ⟨hs, x, c, G, e, re, hx, (Post.bind p).imp fun G1 H1 e1 d1 s1 r1 p1 v hv => ⟨hs, x, c, G1, e1, r1, hx.mono s1, (Post.bind p1).imp fun G2 H2 e2 d2 s2 r2 p2 w hw => ?_⟩⟩
  cases hz : g d1 d2 with
  | none => rw [hz] at p2; exact p2.elim
  | some z =>
    rw [hz] at p2
    cases z with
    | d z => exact hg c G2 H2 σ e2 v w d1 d2 (.d z) Q r2 (.inl (hv.mono s2)) (.inl hw) hz fun G' H' u s' r' hu => p2 G' H' s' r' u hu
    | _ => exact p2.elim
theorem h_cmp {op : CmpOp} {g : D → D → Option Bool} (ho : OpR Y (compareOp op) r) (hg : OpB ⟨Y.K, ct⟩ r g) (ha : HE Y ct i a cls d ex1 f1) (hb : HE Y ct i a cls d ex2 f2) (hm : behindInMarks op ex2 = false) : HE Y ct i a cls d (.Compare ex1 [op] [ex2] pos) (xCmp g f1 f2) := PEw (pe_cmpR ho ha hb hm) fun σ H Q q => by
  obtain ⟨hs, x, c, G, e, re, hx, p⟩ := q
  refine ⟨hs, x, c, G, e, re, hx, (Post.bind p).imp fun G1 H1 e1 d1 s1 r1 p1 v hv => ⟨hs, x, c, G1, e1, r1, hx.mono s1, (Post.bind p1).imp fun G2 H2 e2 d2 s2 r2 p2 w hw => ?_⟩⟩
  cases hz : g d1 d2 with
  | none => rw [hz] at p2; exact p2.elim
  | some z =>
    rw [hz] at p2
    exact hg G2 H2 v w d1 d2 z Q r2.gh (.inl (hv.mono s2)) (.inl hw) hz (p2.now r2 _ (.bl z))
theorem h_eqD (hu : Y.A.units + 200 < cLine) (ha : HE Y ct i a cls d ex1 f1) (hb : HE Y ct i a cls d ex2 f2) (hm : behindInMarks .Eq ex2 = false) : HE Y ct i a cls d (.Compare ex1 [.Eq] [ex2] pos) (xCmp gEq f1 f2) :=
  h_cmp (op_eqD (by omega)) (opB_eq (k := ⟨Y.K, ct⟩)) ha hb hm
theorem h_add (ha : HE Y ct i a cls d ex1 f1) (hb : HE Y ct i a cls d ex2 f2) : HE Y ct i a cls d (.BinOp ex1 .Add ex2 pos) (xBin gAdd f1 f2) := h_bin (op_add.or (op_add_str.or (op_cat.or op_catA))) opG_add ha hb
theorem cr_strB {X : Cx} : CallR X (.type "str") (fun xs H Q => ∃ b : Bool, xs = [.bl b] ∧ Q (.str (if b then "True" else "False")) H) := by
  intro pins s σ H xs us Q I r h
  obtain ⟨b, rfl, q⟩ := h
  obtain ⟨u, rfl, rv⟩ := vals1 r
  cases rv
  exact PySem.P.str_of_bool ⟨.str _, H, I.tok _, ⟨_, rfl⟩, q⟩
theorem h_strB (hg : Gl Y "str") (hm : Y.mg "str" = none) (hv : bootBuiltins "str" = some (.type "str")) (ha : HE Y ct i a cls d ex f)
    (he : starEach [ex] Y.env = (false, eval ex Y.env) :: starEach [] Y.env := by rfl) (hpl : (backTo pos (starEach [] Y.env)).any (·.1) = false := by rfl) : HE Y ct i a cls d (.Call (.Name "str" p) [ex] [] pos) (xStrB f) :=
  PEw (pe_callTy cr_strB hg hm hv (pa_cons ha pa_nil he) (by decide) (by decide) he hpl) fun σ H Q q => by
    obtain ⟨hs, x, c, G, e, r, hx, p⟩ := q
    refine ⟨hs, x, c, G, e, r, hx, (Post.bind p).imp fun G1 H1 e1 d1 s1 r1 p1 v hv => ?_⟩
    cases d1 with
    | bl b => cases hv; exact ⟨b, rfl, p1.now r1 _ (.str _)⟩
    | _ => exact p1.elim
theorem h_tupD {es : List Expr} {fs : Exn → EM (List D)} {n : Nat} (h : HA Y ct i a cls d es fs) : HE Y ct i a cls d (.Tuple es n pos) (xTup fs) := PEw (pe_tup h) fun σ H Q q => by
  obtain ⟨h, x, c, G, e, r, hx, p⟩ := q
  refine ⟨h, x, c, G, e, r, hx, (Post.bind p).imp fun G1 H1 e1 ds s1 r1 p1 vs hvs => ?_⟩
  by_cases hl : ds.length ≤ LIM
  · rw [if_pos hl] at p1
    exact ⟨by rw [hvs.len]; exact lim_le hl, fin_tup r1 hvs fun G' H' v s' r' hv => p1 G' H' s' r' v hv⟩
  · rw [if_neg hl] at p1; exact p1.elim
end
/-! ### math.gcd -/
def fGcd : D → D → Option EV
  | .int i, .int j => some (.d (.int ((Nat.gcd i.natAbs j.natAbs : Nat) : Int)))
  | _, _ => none
section
variable {X : Cx} {ct : Ct} {W : WX} {a : Expr} {es : List Expr} {fs : EM (List Tk)} {p pos : Pos}
theorem g_gcd : CallG ⟨X.K, ct⟩ rGcd (gF2 fGcd) := callG2 fun c G H σ e v v' d d' z Q re rb rb' hz q => by
  cases d with
  | int i => cases d' with
    | int j => cases hz; rw [rb.int, rb'.int]; exact ⟨i, j, rfl, q G H _ (Same.refl _) re (.int _)⟩
    | _ => cases hz
  | _ => cases hz
theorem v_gcd (hm : X.mg "gcd" = some (.builtin "math.gcd")) (hg : Gl X "gcd") (ha : SA X ct W (a :: es) fs)
    (he : starEach (a :: es) X.env = (false, eval a X.env) :: starEach es X.env := by rfl) (hpl : (backTo pos (starEach es X.env)).any (·.1) = false := by rfl) : SV X ct W (.Call (.Name "gcd" p) (a :: es) [] pos) (vCallB (gF2 fGcd) fs) :=
  PEw (pe_callBfun cr_gcd hg hm ha (by decide) he hpl) fun σ H Q q => callG_ok g_gcd σ H q
end
end MM
end
section
set_option Elab.async false
set_option linter.all false
set_option autoImplicit false
set_option maxRecDepth 100000
set_option maxHeartbeats 4000000
namespace MM
open PySem PySem.Spec PyProof.Rows L2
/-! ### sorted(list of pairs of a number and a tuple of numbers) -/
def itD (p : IL) : D := .tup [.int p.1, .tup (p.2.map D.int)]
def it? : D → Option IL
  | .tup [.int i, .tup xs] => (ints? xs).map fun ns => (i, ns)
  | _ => none
theorem it?_eq {d : D} {p : IL} (h : it? d = some p) : d = itD p := by
  unfold it? at h
  split at h
  · rename_i i xs
    cases hi : ints? xs with
    | none => rw [hi] at h; cases h
    | some ns =>
      rw [hi] at h
      cases h
      rw [ints?_eq hi]
      rfl
  · cases h
def its? : List D → Option (List IL)
  | [] => some []
  | d :: ds => match it? d, its? ds with
    | some p, some ps => some (p :: ps)
    | _, _ => none
theorem its?_eq : ∀ {ds : List D} {ps : List IL}, its? ds = some ps → ds = ps.map itD
  | [], ps, h => by cases h; rfl
  | d :: ds, ps, h => by
    rw [its?] at h
    split at h
    · rename_i p ps' h1 h2
      cases h
      rw [it?_eq h1, its?_eq h2, List.map_cons]
    · cases h
theorem its?_map : ∀ ps : List IL, its? (ps.map itD) = some ps
  | [] => rfl
  | p :: ps => by
    rw [List.map_cons, its?]
    have h1 : it? (itD p) = some p := by
      show (ints? (p.2.map D.int)).map _ = _
      rw [ints?_map]; rfl
    rw [h1, its?_map ps]
def fSortedQ : D → Option EV
  | .lst ds => (its? ds).map fun ps => .m (.lst ((sortIL ps).map itD))
  | _ => none
@[simp] theorem fSortedQ_map {ps : List IL} : fSortedQ (.lst (ps.map itD)) = some (.m (.lst ((sortIL ps).map itD))) := by
  show (its? _).map _ = _
  rw [its?_map]; rfl
theorem itD_py (p : IL) : (itD p).py = .tuple [.int p.1, .tuple (p.2.map PyData.int)] := by
  unfold itD
  rw [D.py, D.pys, D.pys, D.pys, D.py, D.py, pys_ints]
theorem itD_flat (p : IL) : (itD p).flat = true := by
  unfold itD
  rw [D.flat, D.flats, D.flats, D.flats]
  simp [D.flat, flats_ints]
theorem dataLt_it (p q : IL) : PySem.W.dataLt (itD p).py (itD q).py = ltIL p q := by
  rw [itD_py, itD_py, PySem.W.dataLt_pair (by simp [PySem.W.alike]) (by simp [PySem.W.alike, PySem.W.alike_ints]), PySem.W.dataLt_int]
  have e1 : PySem.W.dataLt (.tuple (p.2.map PyData.int)) (.tuple (q.2.map PyData.int)) = ltL p.2 q.2 := by
    rw [PySem.W.dataLt_tuple, ltL_iff]
    exact PySem.W.dataLt_ints _ _
  rw [e1]
  unfold ltIL
  simp only [PyData.eqv, beq_iff_eq, eqv_ints_il]
  by_cases h : p.1 = q.1
  · rw [if_pos h, if_pos h]
    by_cases h2 : p.2 = q.2
    · rw [if_pos (by simpa using h2), h2, ltL_iff]
      simp
    · rw [if_neg (by simpa using h2)]
  · rw [if_neg h, if_neg h]
theorem dataLe_it : PySem.W.dataLe false (fun z : V × IL => (itD z.2).py) = fun a b => leIL a.2 b.2 := by
  funext a b
  show (!PySem.W.dataLt (itD b.2).py (itD a.2).py) = _
  rw [dataLt_it]
  rfl
def rSortedQ (K : PySem.W.Frag) : List V → Hp → VK → Prop := fun xs H Q => ∃ (a : Addr) (zs : List (V × IL)), xs = [.ref a] ∧ SqL K H a (zs.map (·.1)) ∧ (∀ z ∈ zs, Dp K H z.1 (itD z.2).py) ∧
  ∀ p, H p = none → Q (.ref p) (upd H p (.lst ((zs.mergeSort (fun a b => leIL a.2 b.2)).map (·.1))))
section
variable {X : Cx} {ct : Ct} {kk : Nat}
theorem vals_eachT {pins : List (Addr × Obj)} {σ : L2.St} {H : Hp} {s : Shared} (I : Inv X pins σ H s) : ∀ {zs : List (V × IL)} {us : List Value}, Vals (zs.map (·.1)) us → (∀ z ∈ zs, Dp X.K H z.1 (itD z.2).py) →
    PySem.W.EachIs (fun v (z : V × IL) => RelV z.1 v) us zs ∧ PySem.W.EachIs (fun v (z : V × IL) => ∃ as, Reads s.heap v (itD z.2).py as) us zs
  | [], _, r, _ => by cases r; exact ⟨.nil, .nil⟩
  | z :: zs, _, r, h => by
    cases r with
    | cons r1 r2 =>
      obtain ⟨a, b⟩ := vals_eachT I r2 fun z hz => h z (List.mem_cons_of_mem _ hz)
      exact ⟨.cons r1 a, .cons (Dp.reads I _ _ _ (h z List.mem_cons_self) r1) b⟩
theorem each_valsT : ∀ {zs : List (V × IL)} {us : List Value}, PySem.W.EachIs (fun v (z : V × IL) => RelV z.1 v) us zs → Vals (zs.map (·.1)) us
  | _, _, .nil => .nil
  | _, _, .cons a b => .cons a (each_valsT b)
theorem cr_sortedQ' (hr : Room kk X.A) : CallR X (.builtin "sorted") (rSortedQ X.K) := by
  intro pins s σ H vs us Q I r h
  obtain ⟨a, zs, rfl, hs, hd, q⟩ := h
  obtain ⟨its, rv, hl, hz⟩ := I.list hs
  rw [List.length_map] at hz
  rw [Vals.ref1 r]
  obtain ⟨e1, e2⟩ := vals_eachT I rv hd
  have hun := hr.un
  refine PySem.W.sorted_data (enc := fun z : V × IL => (itD z.2).py) hl.isList e1 e2 (PySem.W.AllAlike.of fun b b' => ?_) (PySem.W.Sortable.tuples fun b => ⟨_, _, itD_py b.2⟩) hz (fun b _ => ?_) fun out hlen he => ?_
  · rw [itD_py, itD_py]
    simp [PySem.W.alike, PySem.W.alikeAll, PySem.W.alike_ints]
  · rw [itD_py]
    simp only [PyData.depth, PyData.depthAll, PySem.W.depth_ints]
    omega
  rw [dataLe_it] at he
  have hv := each_valsT he
  obtain ⟨ep, he'⟩ := PyProof.Rows.sortedAll_at s.heap its out.toArray
  exact ⟨.ref _, upd H (s.heap.objs.size + 1) (.lst ((zs.mergeSort (fun a b => leIL a.2 b.2)).map (·.1))), I.laid (t' := s.toks) (fun _ _ => PyProof.Rows.sortedAll_old) (Nat.le_succ _) ⟨by rw [List.length_map, List.length_mergeSort]; exact hz, out, ep, hv, he'⟩, rfl, q _ (I.hok.fresh (Nat.le_succ _))⟩
theorem Rps.zipIT {k : Kc} {G : Hp} : ∀ {vs : List V} {ps : List IL}, Rps k G vs (ps.map itD) → ∃ zs : List (V × IL), vs = zs.map (·.1) ∧ ps = zs.map (·.2) ∧ ∀ z ∈ zs, Rp k G z.1 (itD z.2)
  | [], [], _ => ⟨[], rfl, rfl, fun z hz => by cases hz⟩
  | [], _ :: _, h => by cases h
  | _ :: _, [], h => by cases h
  | v :: vs, p :: ps, h => by
    cases h with
    | cons h1 h2 =>
      obtain ⟨zs, e1, e2, h3⟩ := Rps.zipIT h2
      refine ⟨(v, p) :: zs, by rw [e1]; rfl, by rw [e2]; rfl, fun z hz => ?_⟩
      rcases List.mem_cons.mp hz with rfl | hz
      · exact h1
      · exact h3 z hz
theorem Rps.ofIT {k : Kc} {G : Hp} : ∀ {zs : List (V × IL)}, (∀ z ∈ zs, Rp k G z.1 (itD z.2)) → Rps k G (zs.map (·.1)) ((zs.map (·.2)).map itD)
  | [], _ => .nil
  | z :: zs, h => .cons (h z List.mem_cons_self) (Rps.ofIT fun z hz => h z (List.mem_cons_of_mem _ hz))
theorem sort_zipT (zs : List (V × IL)) : (zs.mergeSort (fun a b => leIL a.2 b.2)).map (·.2) = sortIL (zs.map (·.2)) := by
  have h1 : ((zs.mergeSort (fun a b => leIL a.2 b.2)).map (·.2)).Perm (sortIL (zs.map (·.2))) := ((List.mergeSort_perm zs _).map _).trans (sortIL_perm _).symm
  refine h1.eq_of_pairwise (le := fun a b => leIL a b = true) (fun a b _ _ => leIL_anti a b) ?_ (sortIL_sorted _)
  refine List.pairwise_map.mpr ?_
  exact List.pairwise_mergeSort (le := fun (a b : V × IL) => leIL a.2 b.2) (fun a b c => leIL_trans a.2 b.2 c.2) (fun a b => leIL_total a.2 b.2) zs
theorem g_sortedQ : CallG ⟨X.K, ct⟩ (rSortedQ X.K) (gF1 fSortedQ) := callG1 fun c G H σ e v d z Q re rb hz q => by
  unfold fSortedQ at hz
  split at hz
  · rename_i ds
    cases hp : its? ds with
    | none => rw [hp] at hz; cases hz
    | some ps =>
      rw [hp] at hz
      cases hz
      rw [its?_eq hp] at rb
      obtain ⟨a, vs, rfl, h1, rr⟩ := rb.lst re.gh
      obtain ⟨zs, rfl, rfl, hz⟩ := rr.zipIT
      have hr : ∀ z ∈ zs.mergeSort (fun a b => leIL a.2 b.2), Rp ⟨X.K, ct⟩ G z.1 (itD z.2) := fun z h => hz z ((List.mergeSort_perm zs _).mem_iff.mp h)
      have rp := Rps.ofIT hr
      rw [sort_zipT] at rp
      exact ⟨a, zs, rfl, SqL.of h1, fun z hz' => dp_mono re.gh ((hz z hz').dp (itD_flat z.2)), fin_lst re rp fun G' H' v s' r' hv => q G' H' v s' r' hv⟩
  · cases hz
end
end MM
end
section
set_option Elab.async false
set_option linter.all false
set_option autoImplicit false
set_option maxRecDepth 100000
set_option maxHeartbeats 4000000
namespace MM
open PySem PySem.Spec PyProof.Rows L2
/-! ### calls without arguments; a while that is run for evaluation -/
section
variable {X : Cx} {ct : Ct} {W : WX} {k : Nat} {x : Str} {ps : List Str} {F : List EV → Out} {p pos : Pos}
theorem v_call0 (hF : FnAt X.prog X.w X.K X.mg X.base ct k x ps F) (hr : Room k X.A) (hg : Gl X x) (tk : Takes X W) (hdb : (x == ("__debug__" : Str)) = false := by decide) : SV X ct W (.Call (.Name x p) [] [] pos) (vCall F aNil) := by
  obtain ⟨f, fd, h1, h2, h3, h4⟩ := hF.ex
  have hp : PE X (.Call (.Name x p) [] [] pos) (tCallS (spM ⟨X.K, ct⟩ F) (WE W) tNil) :=
    ⟨fun pins s σ H Q I h => wpAny_Call_Name_kw (ld_glob I hg h2 (PySem.W.callWith_K0 I.kIn h3 (run_fnS (us := []) h1 hr h4 (passAt tk σ) I .nil h)) hdb)⟩
  refine PEw hp fun σ H Q q => ?_
  obtain ⟨c, G, e, r, p⟩ := q
  exact post_call r (vs := []) (ts := []) True.intro p
theorem v_callG0 (hF : FnAtG X.prog X.w X.K X.mg X.base ct k x ps F) (hgu : X.A.guards = some []) (hr : Room k X.A) (hg : Gl X x) (tk : Takes X W) (hdb : (x == ("__debug__" : Str)) = false := by decide) : SV X ct W (.Call (.Name x p) [] [] pos) (vCall F aNil) := by
  obtain ⟨f, fd, h1, h2, h3, h4⟩ := hF.ex
  have hp : PE X (.Call (.Name x p) [] [] pos) (tCallS (spM ⟨X.K, ct⟩ F) (WE W) tNil) :=
    ⟨fun pins s σ H Q I h => wpAny_Call_Name_kw (ld_glob I hg h2 (PySem.W.callWith_K0 I.kIn h3 (by
      have b := h4 s [] I.kIn (by rw [List.append_nil]; exact h1.len _ _ _ _ h)
      rw [List.append_nil] at b
      refine wpAny_call (codeAny_mono (h1.run X.A X.stack s H ⟨[], []⟩ [] [] Q (WE W σ) hgu hr I.env0 b .nil h) fun res s' hq => ?_)
      rcases res with e | fl
      · exact passAt tk σ pins H s e s' I hq
      · cases fl with
        | ret u => exact I.after hq
        | _ => exact hq.elim)) hdb)⟩
  refine PEw hp fun σ H Q q => ?_
  obtain ⟨c, G, e, r, p⟩ := q
  exact post_call r (vs := []) (ts := []) True.intro p
def sWhileC (t : EM Bool) (b : SM) : SM := whileGo t b 1000000
theorem s_whileC {st : Stmt} {t : EM Bool} {b : SM} (h : SS X ct W st (sWhile t b)) : SS X ct W st (sWhileC t b) := PSw h fun D σ H q => by
  obtain ⟨c, G, e, r, p⟩ := q
  refine ⟨c, G, e, r, ?_⟩
  have hs : sWhileC t b e ≠ .stuck := fun z => by rw [z] at p; exact p
  rw [sWhile_eq rfl hs]
  exact p
end
end MM
end
section
set_option Elab.async false
set_option linter.all false
set_option maxRecDepth 100000
set_option maxHeartbeats 0
namespace K40
open PySem PySem.Spec L2 MM
def top (i : Nat) : Stmt := PySem.Challenge.pw_flippedpoints_k40_cuts_refused.main.body.getD i (.Pass ⟨0, 0, 0, 0⟩)
def dfn : List He.DefD := [⟨("InvalidLot", some "__init__"), "__init__", "TrackError.__init__", defArgs (inClass (top 1) 0), defBody (inClass (top 1) 0), defScope (inClass (top 1) 0), [], []⟩, ⟨("InvalidNet", some "__init__"), "__init__", "TrackError.__init__", defArgs (inClass (top 1) 0), defBody (inClass (top 1) 0), defScope (inClass (top 1) 0), [], []⟩, ⟨("_law_heard", none), "_law_heard", "_law_heard", defArgs (top 52), defBody (top 52), defScope (top 52), [], []⟩, ⟨("_law_all", none), "_law_all", "_law_all", defArgs (top 53), defBody (top 53), defScope (top 53), [], []⟩, ⟨("_law_draw", none), "_law_draw", "_law_draw", defArgs (top 51), defBody (top 51), defScope (top 51), [], []⟩, ⟨("point_by", none), "point_by", "point_by", defArgs (top 28), defBody (top 28), defScope (top 28), [], []⟩, ⟨("tracks_between", none), "tracks_between", "tracks_between", defArgs (top 31), defBody (top 31), defScope (top 31), [], []⟩, ⟨("sequence_by", none), "sequence_by", "sequence_by", defArgs (top 32), defBody (top 32), defScope (top 32), [], []⟩, ⟨("is_cut_lot", none), "is_cut_lot", "is_cut_lot", defArgs (top 33), defBody (top 33), defScope (top 33), [], []⟩, ⟨("is_integer", none), "is_integer", "is_integer", defArgs (top 11), defBody (top 11), defScope (top 11), [], []⟩, ⟨("is_count", none), "is_count", "is_count", defArgs (top 12), defBody (top 12), defScope (top 12), [], []⟩, ⟨("is_list", none), "is_list", "is_list", defArgs (top 13), defBody (top 13), defScope (top 13), [], []⟩, ⟨("is_lot_value", none), "is_lot_value", "is_lot_value", defArgs (top 42), defBody (top 42), defScope (top 42), [], []⟩, ⟨("want_net", none), "want_net", "want_net", defArgs (top 25), defBody (top 25), defScope (top 25), [], []⟩, ⟨("is_cut", none), "is_cut", "is_cut", defArgs (top 43), defBody (top 43), defScope (top 43), [], []⟩, ⟨("is_closed_row", none), "is_closed_row", "is_closed_row", defArgs (top 41), defBody (top 41), defScope (top 41), [], []⟩, ⟨("is_rising", none), "is_rising", "is_rising", defArgs (top 14), defBody (top 14), defScope (top 14), [], []⟩, ⟨("is_lot_of", none), "is_lot_of", "is_lot_of", defArgs (top 26), defBody (top 26), defScope (top 26), [], []⟩, ⟨("want_lot", none), "want_lot", "want_lot", defArgs (top 27), defBody (top 27), defScope (top 27), [], []⟩, ⟨("is_ring_without", none), "is_ring_without", "is_ring_without", defArgs (top 45), defBody (top 45), defScope (top 45), [], []⟩, ⟨("kept_by_rings", none), "kept_by_rings", "kept_by_rings", defArgs (top 34), defBody (top 34), defScope (top 34), [], []⟩, ⟨("ring_of_tracks", none), "ring_of_tracks", "ring_of_tracks", defArgs (top 35), defBody (top 35), defScope (top 35), [], []⟩, ⟨("ring_without", none), "ring_without", "ring_without", defArgs (top 44), defBody (top 44), defScope (top 44), [], []⟩, ⟨("sequence_without", none), "sequence_without", "sequence_without", defArgs (top 46), defBody (top 46), defScope (top 46), [], []⟩, ⟨("is_target_of", none), "is_target_of", "is_target_of", defArgs (top 21), defBody (top 21), defScope (top 21), [], []⟩, ⟨("is_exits_row", none), "is_exits_row", "is_exits_row", defArgs (top 22), defBody (top 22), defScope (top 22), [], []⟩, ⟨("want_at_most", none), "want_at_most", "want_at_most", defArgs (top 15), defBody (top 15), defScope (top 15), [], []⟩, ⟨("want_exits", none), "want_exits", "want_exits", defArgs (top 23), defBody (top 23), defScope (top 23), [], []⟩, ⟨("Net", some "lay"), "lay", "Net.lay", defArgs (inClass (top 24) 1), defBody (inClass (top 24) 1), defScope (inClass (top 24) 1), [], []⟩, ⟨("Net", some "__init__"), "__init__", "Net.__init__", defArgs (inClass (top 24) 0), defBody (inClass (top 24) 0), defScope (inClass (top 24) 0), [], []⟩, ⟨("_law_lots_right", none), "_law_lots_right", "_law_lots_right", defArgs (top 55), defBody (top 55), defScope (top 55), [], []⟩, ⟨("next_lot", none), "next_lot", "next_lot", defArgs (top 39), defBody (top 39), defScope (top 39), [], []⟩, ⟨("fewest_cut_of", none), "fewest_cut_of", "fewest_cut_of", defArgs (top 40), defBody (top 40), defScope (top 40), [], []⟩, ⟨("fewest_cut", none), "fewest_cut", "fewest_cut", defArgs (top 48), defBody (top 48), defScope (top 48), [], []⟩, ⟨("busiest_of", none), "busiest_of", "busiest_of", defArgs (top 36), defBody (top 36), defScope (top 36), [], []⟩, ⟨("needless_in", none), "needless_in", "needless_in", defArgs (top 37), defBody (top 37), defScope (top 37), [], []⟩, ⟨("good_cut_of", none), "good_cut_of", "good_cut_of", defArgs (top 38), defBody (top 38), defScope (top 38), [], []⟩, ⟨("good_cut", none), "good_cut", "good_cut", defArgs (top 47), defBody (top 47), defScope (top 47), [], []⟩, ⟨("_law_many_right", none), "_law_many_right", "_law_many_right", defArgs (top 57), defBody (top 57), defScope (top 57), [], []⟩, ⟨("_law_nets_right", none), "_law_nets_right", "_law_nets_right", defArgs (top 54), defBody (top 54), defScope (top 54), [], []⟩, ⟨("_law_pot", none), "_law_pot", "_law_pot", defArgs (top 50), defBody (top 50), defScope (top 50), [], []⟩, ⟨("_law_rings_right", none), "_law_rings_right", "_law_rings_right", defArgs (top 56), defBody (top 56), defScope (top 56), [], []⟩, ⟨("law", none), "law", "law", defArgs (top 58), defBody (top 58), defScope (top 58), [], []⟩]
def pr : List PrD := []
def cd0 : ClD := ⟨0, "Net", ["__init__", "lay"], true, [], [], [("InvalidNet", "value"), ("InvalidLot", "value")]⟩
def cl : List ClD := [cd0]
def fa : List He.Fa := [.glo "_law_heard", .glo "_law_all", .glo "_law_draw", .glo "point_by", .glo "tracks_between", .glo "sequence_by", .glo "is_cut_lot", .glo "is_integer", .glo "is_count", .glo "is_list", .glo "is_lot_value", .glo "want_net", .glo "is_cut", .glo "is_closed_row", .glo "is_rising", .glo "is_lot_of", .glo "want_lot", .glo "is_ring_without", .glo "kept_by_rings", .glo "ring_of_tracks", .glo "ring_without", .glo "sequence_without", .glo "is_target_of", .glo "is_exits_row", .glo "want_at_most", .glo "want_exits", .glo "_law_lots_right", .glo "next_lot", .glo "fewest_cut_of", .glo "fewest_cut", .glo "busiest_of", .glo "needless_in", .glo "good_cut_of", .glo "good_cut", .glo "_law_many_right", .glo "_law_nets_right", .glo "_law_pot", .glo "_law_rings_right", .glo "law", .glo "StateError", .glo "Net", .glo "InvalidNet", .glo "InvalidLot", .glo "NotCut", .free "repr", .free "len", .free "range", .free "zip", .free "enumerate", .free "isinstance", .free "int", .free "bool", .free "list", .free "tuple", .free "sorted", .free "set", .free "sum", .free "any", .free "all", .free "max", .free "min", .free "abs", .free "divmod", .free "dict", .free "str", .int "MOST_ENDS" 6, .int "MOST_POINTS" 24, .int "MOST_EXITS" 6, .int "MOST_TRACKS" 60, .int "MOST_TRIES" 20000]
abbrev R : PySem.W.OpenRow := PySem.W.OpenLaw.row PySem.Challenge.rw_flippedpoints_k40_cuts_refused
def tf : List He.Defn := [("_law_lots_right", none), ("_law_nets_right", none)]
def ctF (K : PySem.W.Frag) : Nat → Addr
  | 0 => He.ga K "Net"
  | 101 => He.ga K "InvalidNet"
  | 109 => He.ga K "InvalidLot"
  | 303 => He.ga K "NotCut"
  | _ => 0
def exn : List Nat := [101, 109, 303]
def isl : List (Nat × Str × Bool) := [(303, "StateError", true)]
def exq1 (K : PySem.W.Frag) : Bool := exn.all fun c => exn.all fun c' => decide (PySem.W.exmOne K (.ref (ctF K c)) (.ref (ctF K c')) = some (c == c'))
def exq2 (K : PySem.W.Frag) : Bool := isl.all fun z => He.eqO (PySem.W.findIn K (.ref (ctF K z.1)) "__class__") (some (some (.builtin "object.__class__"))) && (decide (PySem.W.mroIn K (ctF K z.1) (.type "object") = some true) && decide (PySem.W.kitOne K (.ref (ctF K z.1)) (.ref (He.ga K z.2.1)) = some z.2.2))
def exq3 (K : PySem.W.Frag) : Bool := decide ((tf.map fun p => (He.cT K p).2).Nodup)
def exz : List PySem.Str := ["NotCut"]
def exw : List (PySem.Str × PySem.Str × PySem.Str) := []
def exq4 (K : PySem.W.Frag) : Bool := (exz.all fun x => ex0B K x) && (exw.all fun z => ex2B K z.1 z.2.1 z.2.2)
def exq5 (K : PySem.W.Frag) : Bool := true
def exq (K : PySem.W.Frag) : Bool := exq1 K && (exq2 K && (exq3 K && (exq4 K && exq5 K)))
abbrev hk : PySem.W.Hook := hookN 7 fa dfn pr cl tf exq
def ob (s : PySem.W.SharedT) : AlN := obsN 7 fa dfn pr cl tf exq (HandSHeadRun.getT s)
theorem ob_eq (s : PySem.W.SharedT) : ob s = hk.obs s.abs := obsN_eq (HandSHeadRun.getT_eq s)
def loose : List PySem.Str := (["is_integer", "is_count", "is_list", "is_rising", "want_at_most", "is_target_of", "is_exits_row", "want_exits", "want_net", "is_lot_of", "want_lot", "point_by", "tracks_between", "sequence_by", "is_cut_lot", "kept_by_rings", "ring_of_tracks", "busiest_of", "needless_in", "good_cut_of"] : List PySem.Str) ++ (["next_lot", "fewest_cut_of", "is_closed_row", "is_lot_value", "is_cut", "ring_without", "is_ring_without", "sequence_without", "good_cut", "fewest_cut", "_law_pot", "_law_draw", "_law_heard", "_law_all", "_law_nets_right", "_law_lots_right", "_law_rings_right", "_law_many_right", "TrackError", "StateError"] : List PySem.Str) ++ (["LimitError", "InvalidNet", "InvalidLot", "InvalidEnds", "InvalidExits", "NotCut", "TooMany", "Net", "MOST_ENDS", "MOST_POINTS", "MOST_EXITS", "MOST_TRACKS", "MOST_TRIES"] : List PySem.Str)
theorem run (w : World) : HandSHeadRun.RunEq R (PySem.W.view R.prog [58]) hk ob 8000 loose w := by
  intro os
  kernel_rfl
end K40
end
section
set_option Elab.async false
set_option linter.all false
set_option maxRecDepth 100000
set_option maxHeartbeats 0
set_option autoImplicit false
namespace K40
open PySem PySem.Spec L2 MM
noncomputable def fb__law_heard (th : Nat → Out) : SM := (sSeq (sSet 1 (vD (cC (.str "let"))))
    (sSeq (sTryM [101, 109, 303] 2 (sDrop (vThk th 0)) [(101, (hSetV 1 (xV (xBin gAdd (xE (cC (.str "net "))) (xRepr (xFld 101)))))), (109, (hSetV 1 (xV (xBin gAdd (xE (cC (.str "lot "))) (xRepr (xFld 109)))))), (303, (hSetV 1 (xV (xBin gAdd (xE (cC (.str "cut "))) (xStrB (xIs 303 true))))))])
    (sRetV 1)))
noncomputable def F__law_heard (th : Nat → Out) : List EV → Out := runD 3 1 (fb__law_heard th)
noncomputable def cf__law_all_1 (th : Nat → Out) : EM Bool := (tCmpF gNe (kE (cF (vCall (F__law_heard th) (aCons (kE (cN 2)) aNil)))) (kN 1))
noncomputable def ce__law_all_1 (th : Nat → Out) : EM D := (cN 2)
noncomputable def fb__law_all (th : Nat → Out) : SM := (sRet (vD (cB (tCmpF gEq (kE (cF (lcF [2] (iSeq (cN 0)) (gSet 2) (cf__law_all_1 th) (ce__law_all_1 th)))) (kE (cF (vLst aNil)))))))
noncomputable def F__law_all (th : Nat → Out) : List EV → Out := runD 3 2 (fb__law_all th)
noncomputable def fb__law_draw : SM := (sSeq (sIf (tCmpF gGt (kE (cBin gIxA (kN 0) (kE (cC (.int 0))))) (kE (cC (.int 0)))) (sSeq (sAsgT (cF (vCallB (gF2 fDivmod) (aCons (kE (cBin gIxA (kN 0) (kE (cC (.int 0))))) (aCons (kN 1) aNil)))) (gTupF 2 (gCon (gStore 0 (kE (cC (.int 0)))) (gCon (gSet 2) gNone))))
    (sRetV 2)) sNext)
    (sSeq (sAsgT (cF (vBin gMod (kE (cF (vCallB (gF1 fInt) (aCons (kE (cF (vBin gAdd (kE (cF (vBin gMul (kE (cBin gIxA (kN 0) (kE (cC (.int 1))))) (kE (cC (.int 48271)))))) (kE (cC (.int 19013)))))) aNil)))) (kE (cC (.int 2147483587))))) (gStore 0 (kE (cC (.int 1)))))
    (sRet (vBin gMod (kE (cF (vCallB (gF1 fInt) (aCons (kE (cF (vBin gDiv (kE (cF (vBin gMod (kE (cF (vCallB (gF1 fInt) (aCons (kE (cF (vBin gMul (kE (cBin gIxA (kN 0) (kE (cC (.int 1))))) (kE (cBin gIxA (kN 0) (kE (cC (.int 1)))))))) aNil)))) (kE (cC (.int 2147483549)))))) (kE (cC (.int 13)))))) aNil)))) (kN 1)))))
noncomputable def F__law_draw : List EV → Out := runD 3 2 fb__law_draw
noncomputable def cf_point_by_1 : EM Bool := (tCmpF gLe (kN 2) (kN 1))
noncomputable def ce_point_by_1 : EM D := (cN 2)
noncomputable def fb_point_by : SM := (sRet (vBin gSub (kE (cF (vCallB (gF1 fLen) (aCons (kE (cF (lcF [2] (iSeq (cUn (gFld 0 3) (kN 0))) (gSet 2) cf_point_by_1 ce_point_by_1))) aNil)))) (kE (cC (.int 1)))))
noncomputable def F_point_by : List EV → Out := runD 3 2 fb_point_by
noncomputable def ce_tracks_between_1 : EM D := (cTup (aCons (kE (cN 6)) (aCons (kE (cC (.bl true))) aNil)))
noncomputable def lb_tracks_between_1 : SM := (sIf (tAndF (tCmpF gInK (kN 5) (kN 2)) (tCmpF gInK (kE (cF (vCall F_point_by (aCons (kN 0) (aCons (kE (cN 4)) aNil))))) (kN 2))) (sDrop (vD (cMut "list" 3 gAppend (aCons (kE (cN 4)) aNil)))) sNext)
noncomputable def fb_tracks_between : SM := (sSeq (sPar2 2 3 (vCallB (gF1 fDict) (aCons (kE (cF (lcF [6] (iSeq (cN 1)) (gSet 6) tYesF ce_tracks_between_1))) aNil)) (vLst aNil))
    (sSeq (sFor (iEnum (aCons (kE (cUn (gFld 0 2) (kN 0))) aNil)) (gUnp [4, 5]) lb_tracks_between_1)
    (sRetV 3)))
noncomputable def F_tracks_between : List EV → Out := runD 7 2 fb_tracks_between
noncomputable def cf_sequence_by_1 : EM Bool := (tCmpF gNotIn (kN 6) (kN 1))
noncomputable def ce_sequence_by_1 : EM D := (cN 6)
noncomputable def ce_sequence_by_2 : EM D := (cBin gIxA (kE (cUn (gFld 0 2) (kN 0))) (kN 7))
noncomputable def cf_sequence_by_2 : EM Bool := (tCmpF gNotIn (kN 6) (kN 4))
noncomputable def ce_sequence_by_3 : EM D := (cN 6)
noncomputable def cf_sequence_by_3 : EM Bool := (tCmpF gNe (kN 6) (kE (cBin gIxA (kN 5) (kE (cC (.int 0))))))
noncomputable def ce_sequence_by_4 : EM D := (cN 6)
noncomputable def wt_sequence_by_1 : EM Bool := (tCmpF gNe (kN 2) (kE (cF (vLst aNil))))
noncomputable def wb_sequence_by_1 : SM := (sSeq (sSet 4 (lcF [7] (iSeq (cF (vCall F_tracks_between (aCons (kN 0) (aCons (kE (cN 2)) aNil))))) (gSet 7) tYesF ce_sequence_by_2))
    (sSeq (sSet 5 (lcF [6] (iSeq (cN 2)) (gSet 6) cf_sequence_by_2 ce_sequence_by_3))
    (sSeq (sIf (tCmpF gEq (kN 5) (kE (cF (vLst aNil)))) (sRet (vD (cC .non))) sNext)
    (sSeq (sDrop (vD (cMut "list" 3 gAppend (aCons (kE (cBin gIxA (kN 5) (kE (cC (.int 0))))) aNil))))
    (sSet 2 (lcF [6] (iSeq (cN 2)) (gSet 6) cf_sequence_by_3 ce_sequence_by_4))))))
noncomputable def fb_sequence_by : SM := (sSeq (sPar2 2 3 (lcF [6] (iRng1 (aCons (kE (cF (vCallB (gF1 fLen) (aCons (kE (cUn (gFld 0 1) (kN 0))) aNil)))) aNil)) (gSet 6) cf_sequence_by_1 ce_sequence_by_1) (vLst aNil))
    (sSeq (sWhileC wt_sequence_by_1 wb_sequence_by_1)
    (sRetV 3)))
noncomputable def F_sequence_by : List EV → Out := runD 8 2 fb_sequence_by
noncomputable def fb_is_cut_lot : SM := (sRet (vD (cB (tCmpF gNotN (kE (cF (vCall F_sequence_by (aCons (kN 0) (aCons (kN 1) aNil))))) (kE (cC .non))))))
noncomputable def F_is_cut_lot : List EV → Out := runD 2 2 fb_is_cut_lot
noncomputable def fb_is_integer : SM := (sRet (vD (cIf (tVal (cIsi 1 (isB "int") (kN 0))) (cB (tNotF (tVal (cIsi 1 (isB "bool") (kN 0))))) (cC (.bl false)))))
noncomputable def F_is_integer : List EV → Out := runD 1 1 fb_is_integer
noncomputable def fb_is_count : SM := (sRet (vD (cIf (tVal (cF (vCall F_is_integer (aCons (kN 0) aNil)))) (cB (tCmpF gGe (kN 0) (kE (cC (.int 0))))) (cC (.bl false)))))
noncomputable def F_is_count : List EV → Out := runD 1 1 fb_is_count
noncomputable def fb_is_list : SM := (sRet (vD (cIsi 1 (fun t => isB "list" t || isB "tuple" t) (kN 0))))
noncomputable def F_is_list : List EV → Out := runD 1 1 fb_is_list
noncomputable def ce_is_lot_value_1 : EM D := (cIf (tVal (cF (vCall F_is_count (aCons (kE (cN 4)) aNil)))) (cB (tCmpF gLt (kN 4) (kE (cF (vCallB (gF1 fLen) (aCons (kE (cUn (gFld 0 1) (kN 0))) aNil)))))) (cC (.bl false)))
noncomputable def ce_is_lot_value_2 : EM D := (cB (tCmpF gLt (kN 2) (kN 3)))
noncomputable def fb_is_lot_value : SM := (sSeq (sIf (tOrF (tNotF (tVal (cF (vCall F_is_list (aCons (kN 1) aNil))))) (tNotF (tVal (cF (vCallB (gF1 fAll) (aCons (kE (cF (lcF [4] (iSeq (cN 1)) (gSet 4) tYesF ce_is_lot_value_1))) aNil)))))) (sRet (vD (cC (.bl false)))) sNext)
    (sRet (vCallB (gF1 fAll) (aCons (kE (cF (lcF [2, 3] (iZip2 (aCons (kE (cN 1)) (aCons (kE (cF (vSl (kN 1) (oSome (kE (cC (.int 1)))) oNone))) aNil))) (gUnp [2, 3]) tYesF ce_is_lot_value_2))) aNil))))
noncomputable def F_is_lot_value : List EV → Out := runD 5 2 fb_is_lot_value
noncomputable def fb_want_net : SM := (sSeq (sIf (tNotF (tVal (cIsi 1 (isO 0) (kN 0)))) (sRaise 101 (cN 0)) sNext)
    (sRetV 0))
noncomputable def F_want_net : List EV → Out := runD 1 1 fb_want_net
noncomputable def fb_is_cut : SM := (sSeq (sSet 2 (vCall F_want_net (aCons (kN 0) aNil)))
    (sRet (vD (cIf (tVal (cF (vCall F_is_lot_value (aCons (kE (cN 2)) (aCons (kN 1) aNil))))) (cF (vCall F_is_cut_lot (aCons (kE (cN 2)) (aCons (kE (cF (vCallB (gF1 fList) (aCons (kN 1) aNil)))) aNil)))) (cC (.bl false))))))
noncomputable def F_is_cut : List EV → Out := runD 3 2 fb_is_cut
noncomputable def lb_is_closed_row_1 : SM := (sIf (tCmpF gNe (kE (cBin gIxA (kE (cUn (gFld 0 2) (kN 0))) (kN 2))) (kE (cF (vCall F_point_by (aCons (kN 0) (aCons (kE (cN 3)) aNil)))))) (sRet (vD (cC (.bl false)))) sNext)
noncomputable def fb_is_closed_row : SM := (sSeq (sFor (iZip2 (aCons (kE (cN 1)) (aCons (kE (cF (vBin gAdd (kE (cF (vSl (kN 1) (oSome (kE (cC (.int 1)))) oNone))) (kE (cF (vSl (kN 1) oNone (oSome (kE (cC (.int 1)))))))))) aNil))) (gUnp [2, 3]) lb_is_closed_row_1)
    (sRet (vD (cC (.bl true)))))
noncomputable def F_is_closed_row : List EV → Out := runD 4 2 fb_is_closed_row
noncomputable def ce_is_rising_1 : EM D := (cB (tCmpF gLt (kN 1) (kN 2)))
noncomputable def fb_is_rising : SM := (sRet (vCallB (gF1 fAll) (aCons (kE (cF (lcF [1, 2] (iZip2 (aCons (kE (cN 0)) (aCons (kE (cF (vSl (kN 0) (oSome (kE (cC (.int 1)))) oNone))) aNil))) (gUnp [1, 2]) tYesF ce_is_rising_1))) aNil)))
noncomputable def F_is_rising : List EV → Out := runD 3 1 fb_is_rising
noncomputable def ce_is_lot_of_1 : EM D := (cIf (tVal (cF (vCall F_is_count (aCons (kE (cN 2)) aNil)))) (cB (tCmpF gLt (kN 2) (kE (cF (vCallB (gF1 fLen) (aCons (kE (cUn (gFld 0 1) (kN 0))) aNil)))))) (cC (.bl false)))
noncomputable def fb_is_lot_of : SM := (sSeq (sIf (tOrF (tNotF (tVal (cF (vCall F_is_list (aCons (kN 1) aNil))))) (tNotF (tVal (cF (vCallB (gF1 fAll) (aCons (kE (cF (lcF [2] (iSeq (cN 1)) (gSet 2) tYesF ce_is_lot_of_1))) aNil)))))) (sRet (vD (cC (.bl false)))) sNext)
    (sRet (vCall F_is_rising (aCons (kN 1) aNil))))
noncomputable def F_is_lot_of : List EV → Out := runD 3 2 fb_is_lot_of
noncomputable def fb_want_lot : SM := (sSeq (sIf (tNotF (tVal (cF (vCall F_is_lot_of (aCons (kN 0) (aCons (kN 1) aNil)))))) (sRaise 109 (cN 1)) sNext)
    (sRet (vCallB (gF1 fList) (aCons (kN 1) aNil))))
noncomputable def F_want_lot : List EV → Out := runD 2 2 fb_want_lot
noncomputable def ce_is_ring_without_1 : EM D := (cIf (tVal (cF (vCall F_is_count (aCons (kE (cN 5)) aNil)))) (cB (tCmpF gLt (kN 5) (kE (cF (vCallB (gF1 fLen) (aCons (kE (cUn (gFld 0 2) (kN 3))) aNil)))))) (cC (.bl false)))
noncomputable def ce_is_ring_without_2 : EM D := (cB (tCmpF gIn (kE (cF (vCall F_point_by (aCons (kE (cN 3)) (aCons (kE (cN 5)) aNil))))) (kN 4)))
noncomputable def fb_is_ring_without : SM := (sSeq (sSet 3 (vCall F_want_net (aCons (kN 0) aNil)))
    (sSeq (sSet 4 (vCall F_want_lot (aCons (kE (cN 3)) (aCons (kN 1) aNil))))
    (sSeq (sIf (tOrF (tNotF (tVal (cF (vCall F_is_list (aCons (kN 2) aNil))))) (tCmpF gEq (kE (cF (vCallB (gF1 fLen) (aCons (kN 2) aNil)))) (kE (cC (.int 0))))) (sRet (vD (cC (.bl false)))) sNext)
    (sSeq (sIf (tNotF (tVal (cF (vCallB (gF1 fAll) (aCons (kE (cF (lcF [5] (iSeq (cN 2)) (gSet 5) tYesF ce_is_ring_without_1))) aNil))))) (sRet (vD (cC (.bl false)))) sNext)
    (sSeq (sIf (tVal (cF (vCallB (gF1 fAny) (aCons (kE (cF (lcF [5] (iSeq (cN 2)) (gSet 5) tYesF ce_is_ring_without_2))) aNil)))) (sRet (vD (cC (.bl false)))) sNext)
    (sRet (vCall F_is_closed_row (aCons (kE (cN 3)) (aCons (kE (cF (vCallB (gF1 fList) (aCons (kN 2) aNil)))) aNil)))))))))
noncomputable def F_is_ring_without : List EV → Out := runD 6 3 fb_is_ring_without
noncomputable def cf_kept_by_rings_1 : EM Bool := (tCmpF gNotIn (kN 5) (kN 1))
noncomputable def ce_kept_by_rings_1 : EM D := (cN 5)
noncomputable def ce_kept_by_rings_2 : EM D := (cBin gIxA (kE (cUn (gFld 0 2) (kN 0))) (kN 6))
noncomputable def cf_kept_by_rings_2 : EM Bool := (tCmpF gIn (kN 5) (kN 3))
noncomputable def ce_kept_by_rings_3 : EM D := (cN 5)
noncomputable def ce_kept_by_rings_4 : EM D := (cBin gIxA (kE (cUn (gFld 0 2) (kN 0))) (kN 6))
noncomputable def cf_kept_by_rings_3 : EM Bool := (tCmpF gIn (kN 5) (kN 3))
noncomputable def ce_kept_by_rings_5 : EM D := (cN 5)
noncomputable def wt_kept_by_rings_1 : EM Bool := (tCmpF gLt (kE (cF (vCallB (gF1 fLen) (aCons (kN 4) aNil)))) (kE (cF (vCallB (gF1 fLen) (aCons (kN 2) aNil)))))
noncomputable def wb_kept_by_rings_1 : SM := (sSeq (sSet 2 (vD (cN 4)))
    (sSeq (sSet 3 (lcF [6] (iSeq (cF (vCall F_tracks_between (aCons (kN 0) (aCons (kE (cN 2)) aNil))))) (gSet 6) tYesF ce_kept_by_rings_4))
    (sSet 4 (lcF [5] (iSeq (cN 2)) (gSet 5) cf_kept_by_rings_3 ce_kept_by_rings_5))))
noncomputable def fb_kept_by_rings : SM := (sSeq (sSet 2 (lcF [5] (iRng1 (aCons (kE (cF (vCallB (gF1 fLen) (aCons (kE (cUn (gFld 0 1) (kN 0))) aNil)))) aNil)) (gSet 5) cf_kept_by_rings_1 ce_kept_by_rings_1))
    (sSeq (sSet 3 (lcF [6] (iSeq (cF (vCall F_tracks_between (aCons (kN 0) (aCons (kE (cN 2)) aNil))))) (gSet 6) tYesF ce_kept_by_rings_2))
    (sSeq (sSet 4 (lcF [5] (iSeq (cN 2)) (gSet 5) cf_kept_by_rings_2 ce_kept_by_rings_3))
    (sSeq (sWhileC wt_kept_by_rings_1 wb_kept_by_rings_1)
    (sRetV 2)))))
noncomputable def F_kept_by_rings : List EV → Out := runD 7 2 fb_kept_by_rings
noncomputable def lb_ring_of_tracks_1 : SM := (sAsgT (cN 4) (gStoreK 3 (kE (cBin gIxA (kE (cUn (gFld 0 2) (kN 0))) (kN 4)))))
noncomputable def wt_ring_of_tracks_1 : EM Bool := (tCmpF gNotInK (kN 7) (kN 5))
noncomputable def wb_ring_of_tracks_1 : SM := (sSeq (sAsgT (cF (vCallB (gF1 fLen) (aCons (kN 6) aNil))) (gStoreK 5 (kN 7)))
    (sSeq (sDrop (vD (cMut "list" 6 gAppend (aCons (kE (cBin gIxA (kN 3) (kN 7))) aNil))))
    (sSet 7 (vCall F_point_by (aCons (kN 0) (aCons (kE (cBin gIxA (kN 3) (kN 7))) aNil))))))
noncomputable def fb_ring_of_tracks : SM := (sSeq (sSet 2 (vCall F_kept_by_rings (aCons (kN 0) (aCons (kN 1) aNil))))
    (sSeq (sIf (tCmpF gEq (kN 2) (kE (cF (vLst aNil)))) (sRet (vD (cC .non))) sNext)
    (sSeq (sSet 3 vDic0)
    (sSeq (sFor (iSeq (cF (vCall F_tracks_between (aCons (kN 0) (aCons (kE (cN 2)) aNil))))) (gSet 4) lb_ring_of_tracks_1)
    (sSeq (sPar3 5 6 7 vDic0 (vLst aNil) (vD (cBin gIxA (kN 2) (kE (cC (.int 0))))))
    (sSeq (sWhileC wt_ring_of_tracks_1 wb_ring_of_tracks_1)
    (sRet (vRev (kE (cF (vSl (kN 6) (oSome (kE (cBin gIxA (kN 5) (kN 7)))) oNone)))))))))))
noncomputable def F_ring_of_tracks : List EV → Out := runD 8 2 fb_ring_of_tracks
noncomputable def fb_ring_without : SM := (sSeq (sSet 2 (vCall F_want_net (aCons (kN 0) aNil)))
    (sRet (vCall F_ring_of_tracks (aCons (kE (cN 2)) (aCons (kE (cF (vCall F_want_lot (aCons (kE (cN 2)) (aCons (kN 1) aNil))))) aNil)))))
noncomputable def F_ring_without : List EV → Out := runD 3 2 fb_ring_without
noncomputable def fb_sequence_without : SM := (sSeq (sSet 2 (vCall F_want_net (aCons (kN 0) aNil)))
    (sSeq (sSet 3 (vCall F_sequence_by (aCons (kE (cN 2)) (aCons (kE (cF (vCall F_want_lot (aCons (kE (cN 2)) (aCons (kN 1) aNil))))) aNil))))
    (sSeq (sIf (tCmpF gIsN (kN 3) (kE (cC .non))) (sRaise0 303) sNext)
    (sRetV 3))))
noncomputable def F_sequence_without : List EV → Out := runD 4 2 fb_sequence_without
noncomputable def fb_is_target_of : SM := (sRet (vD (cIf (tVal (cF (vCall F_is_integer (aCons (kN 2) aNil)))) (cB (tChain gLe gLt (kE (cUn gNeg (kN 0))) (kN 2) (kN 1))) (cC (.bl false)))))
noncomputable def F_is_target_of : List EV → Out := runD 3 3 fb_is_target_of
noncomputable def ce_is_exits_row_1 : EM D := (cF (vCall F_is_target_of (aCons (kN 0) (aCons (kN 1) (aCons (kE (cN 3)) aNil)))))
noncomputable def fb_is_exits_row : SM := (sSeq (sIf (tOrF (tNotF (tVal (cF (vCall F_is_list (aCons (kN 2) aNil))))) (tNotF (tChain gLe gLe (kE (cC (.int 1))) (kE (cF (vCallB (gF1 fLen) (aCons (kN 2) aNil)))) (kE (cC (.int 6)))))) (sRet (vD (cC (.bl false)))) sNext)
    (sRet (vCallB (gF1 fAll) (aCons (kE (cF (lcF [3] (iSeq (cN 2)) (gSet 3) tYesF ce_is_exits_row_1))) aNil))))
noncomputable def F_is_exits_row : List EV → Out := runD 4 3 fb_is_exits_row
noncomputable def fb_want_at_most : SM := (sIf (tCmpF gGt (kN 2) (kN 1)) (fun _ => .stuck) sNext)
noncomputable def F_want_at_most : List EV → Out := runD 3 3 fb_want_at_most
noncomputable def ce_want_exits_1 : EM D := (cF (vCall F_is_exits_row (aCons (kN 0) (aCons (kE (cF (vCallB (gF1 fLen) (aCons (kN 1) aNil)))) (aCons (kE (cN 2)) aNil)))))
noncomputable def ce_want_exits_2 : EM D := (cF (vCallB (gF1 fLen) (aCons (kN 2) aNil)))
noncomputable def ce_want_exits_3 : EM D := (cF (vCallB (gF1 fTuple) (aCons (kN 2) aNil)))
noncomputable def fb_want_exits : SM := (sSeq (sIf (tOrF (tNotF (tVal (cF (vCall F_is_list (aCons (kN 1) aNil))))) (tNotF (tChain gLe gLe (kE (cC (.int 1))) (kE (cF (vCallB (gF1 fLen) (aCons (kN 1) aNil)))) (kE (cC (.int 24)))))) (fun _ => .stuck) sNext)
    (sSeq (sIf (tNotF (tVal (cF (vCallB (gF1 fAll) (aCons (kE (cF (lcF [2] (iSeq (cN 1)) (gSet 2) tYesF ce_want_exits_1))) aNil))))) (fun _ => .stuck) sNext)
    (sSeq (sDrop (vCall F_want_at_most (aCons (kE (cC (.str "tracks"))) (aCons (kE (cC (.int 60))) (aCons (kE (cF (vCallB (gF1 fSum) (aCons (kE (cF (lcF [2] (iSeq (cN 1)) (gSet 2) tYesF ce_want_exits_2))) aNil)))) aNil)))))
    (sRet (vCallB (gF1 fTuple) (aCons (kE (cF (lcF [2] (iSeq (cN 1)) (gSet 2) tYesF ce_want_exits_3))) aNil))))))
noncomputable def F_want_exits : List EV → Out := runD 3 2 fb_want_exits
noncomputable def lb_Net_lay_1 : SM := (sSeq (sDrop (vD (cMut "list" 5 gAppend (aCons (kE (cF (vCallB (gF1 fLen) (aCons (kN 4) aNil)))) aNil))))
    (sDrop (vD (cMut "list" 4 gExtend (aCons (kE (cN 3)) aNil)))))
noncomputable def fb_Net_lay : SM := (sSeq (sPar2 4 5 (vLst aNil) (vLst aNil))
    (sSeq (sFor (iSeq (cN 2)) (gSet 3) lb_Net_lay_1)
    (sSeq (sFldO 0 0 "own_ends" (cN 1))
    (sSeq (sFldO 0 0 "own_exits" (cN 2))
    (sSeq (sFldO 0 0 "own_targets" (cF (vCallB (gF1 fTuple) (aCons (kN 4) aNil))))
    (sFldO 0 0 "own_firsts" (cF (vCallB (gF1 fTuple) (aCons (kN 5) aNil)))))))))
noncomputable def F_Net_lay : List EV → Out := runD 6 3 fb_Net_lay
noncomputable def fb_Net___init__ : SM := (sSeq (sIf (tOrF (tNotF (tVal (cF (vCall F_is_count (aCons (kN 1) aNil))))) (tCmpF gGt (kN 1) (kE (cC (.int 6))))) (fun _ => .stuck) sNext)
    (sDrop (vMeth 0 "lay" F_Net_lay (kN 0) (aCons (kN 1) (aCons (kE (cF (vCall F_want_exits (aCons (kN 1) (aCons (kN 2) aNil))))) aNil)))))
noncomputable def F_Net___init__ : List EV → Out := runD 3 3 fb_Net___init__
noncomputable def lv__law_lots_right_0 : EM EV := (vCall F_ring_without (aCons (kE (cN 1)) (aCons (kE (cN 3)) aNil)))
noncomputable def lv__law_lots_right_1 : EM EV := (vCallK 0 3 [0, 1, 2] F_is_ring_without aNil (aCons (kE (cN 1)) (aCons (kE (cN 3)) (aCons (kE (cC .non)) aNil))))
noncomputable def lv__law_lots_right_2 : EM EV := (vCall F_sequence_without (aCons (kE (cN 1)) (aCons (kE (cN 3)) aNil)))
noncomputable def lv__law_lots_right_3 : EM EV := (vCallK 0 2 [0, 1] F_sequence_without aNil (aCons (kE (cN 1)) (aCons (kE (cN 3)) aNil)))
noncomputable def lams__law_lots_right : Nat → EM EV
  | 0 => lv__law_lots_right_0
  | 1 => lv__law_lots_right_1
  | 2 => lv__law_lots_right_2
  | 3 => lv__law_lots_right_3
  | _ => fun _ => .stuck
noncomputable def lb__law_lots_right_1 : SM := (sSeq (sSet 5 (vLst (aCons (kE (cC (.lam 0))) aNil)))
    (sSeq (sDrop (vD (cMut "list" 5 gAppend (aCons (kE (cC (.lam 1))) aNil))))
    (sSeq (sDrop (vD (cMut "list" 5 gAppend (aCons (kE (cC (.lam 2))) aNil))))
    (sIf (tOrF (tNotF (tVal (cF (vCallL F__law_all lams__law_lots_right (aCons (kE (cN 5)) (aCons (kE (cF (vBin gAdd (kE (cC (.str "lot "))) (kE (cF (vCallB (gF1 fReprD) (aCons (kN 3) aNil))))))) aNil)))))) (tCmpF gNotB (kE (cF (vCall F_is_cut (aCons (kE (cN 1)) (aCons (kE (cN 3)) aNil))))) (kE (cC (.bl false))))) (sRet (vD (cC (.bl false)))) sNext))))
noncomputable def lb__law_lots_right_2 : SM := (sIf (tOrF (tCmpF gNe (kE (cF (vCallL F__law_heard lams__law_lots_right (aCons (kE (cC (.lam 3))) aNil)))) (kE (cC (.str "cut True")))) (tCmpF gNotB (kE (cF (vCall F_is_cut (aCons (kE (cN 1)) (aCons (kE (cN 3)) aNil))))) (kE (cC (.bl false))))) (sRet (vD (cC (.bl false)))) sNext)
noncomputable def ce__law_lots_right_1 : EM D := (cF (vCall F_is_cut (aCons (kE (cN 1)) (aCons (kE (cN 3)) aNil))))
noncomputable def fb__law_lots_right : SM := (sSeq (sSet 1 (vD (cF (vMake 0 F_Net___init__ (aCons (kE (cC (.int 1))) (aCons (kE (cF (vLst (aCons (kE (cF (vLst (aCons (kE (cC (.int 0))) (aCons (kE (cC (.int 1))) aNil))))) (aCons (kE (cF (vLst (aCons (kE (cC (.int 0))) (aCons (kE (cUn gNeg (kE (cC (.int 1))))) aNil))))) (aCons (kE (cF (vLst (aCons (kE (cC (.int 1))) aNil)))) aNil)))))) aNil))))))
    (sSeq (sSet 2 (vLst (aCons (kE (cC .non)) (aCons (kE (cC (.int 5))) (aCons (kE (cC (.bl true))) (aCons (kE (cC (.str "0"))) (aCons (kE (cF vDic0)) (aCons (kE (cF (vLst (aCons (kE (cC (.bl true))) aNil)))) (aCons (kE (cF (vLst (aCons (kE (cC .non)) aNil)))) (aCons (kE (cF (vLst (aCons (kE (cC (.str "0"))) aNil)))) (aCons (kE (cF (vLst (aCons (kE (cUn gNeg (kE (cC (.int 1))))) aNil)))) (aCons (kE (cF (vLst (aCons (kE (cC (.int 3))) aNil)))) (aCons (kE (cF (vLst (aCons (kE (cC (.int 1))) (aCons (kE (cC (.int 0))) aNil))))) (aCons (kE (cF (vLst (aCons (kE (cC (.int 0))) (aCons (kE (cC (.int 0))) aNil))))) (aCons (kE (cF (vLst (aCons (kE (cF (vLst (aCons (kE (cC (.int 0))) aNil)))) aNil)))) (aCons (kE (cF (vLst (aCons (kE (cC (.int 0))) (aCons (kE (cC (.int 3))) aNil))))) aNil))))))))))))))))
    (sSeq (sFor (iSeq (cF (vSlK (kN 2) (oSome (kE (cF (vCall F__law_draw (aCons (kN 0) (aCons (kE (cC (.int 2))) aNil)))))) 2))) (gSet 3) lb__law_lots_right_1)
    (sSeq (sFor (iSeq (cF (vLst (aCons (kE (cF (vLst aNil))) (aCons (kE (cTup aNil)) (aCons (kE (cF (vLst (aCons (kE (cC (.int 1))) aNil)))) (aCons (kE (cF (vLst (aCons (kE (cC (.int 2))) aNil)))) (aCons (kE (cTup (aCons (kE (cC (.int 1))) (aCons (kE (cC (.int 2))) aNil)))) aNil)))))))) (gSet 3) lb__law_lots_right_2)
    (sSeq (sSet 4 (lcF [3] (iSeq (cF (vLst (aCons (kE (cF (vLst (aCons (kE (cC (.int 0))) aNil)))) (aCons (kE (cTup (aCons (kE (cC (.int 0))) aNil))) (aCons (kE (cF (vLst (aCons (kE (cC (.int 0))) (aCons (kE (cC (.int 1))) aNil))))) (aCons (kE (cF (vLst (aCons (kE (cC (.int 0))) (aCons (kE (cC (.int 2))) aNil))))) (aCons (kE (cF (vLst (aCons (kE (cC (.int 0))) (aCons (kE (cC (.int 1))) (aCons (kE (cC (.int 2))) aNil)))))) aNil)))))))) (gSet 3) tYesF ce__law_lots_right_1))
    (sRet (vD (cIf (tVal (cB (tCmpF gEqT (kE (cF (vCallB (gF1 fReprD) (aCons (kN 4) aNil)))) (kE (cF (vCallB (gF1 fReprD) (aCons (kE (cF (vBin gMul (kE (cF (vLst (aCons (kE (cC (.bl true))) aNil)))) (kE (cC (.int 5)))))) aNil))))))) (cB (tCmpF gIsN (kE (cF (vCallK 0 2 [0, 1] F_ring_without aNil (aCons (kE (cN 1)) (aCons (kE (cTup (aCons (kE (cC (.int 0))) aNil))) aNil))))) (kE (cC .non)))) (cC (.bl false))))))))))
noncomputable def F__law_lots_right : List EV → Out := fun as => scO (runD 6 1 fb__law_lots_right as)
noncomputable def ce_next_lot_1 : EM D := (cF (vBin gAdd (kN 3) (kN 4)))
noncomputable def lb_next_lot_1 : SM := (sIf (tCmpF gLt (kE (cBin gIxA (kN 0) (kN 2))) (kE (cF (vBin gAdd (kE (cF (vBin gSub (kN 1) (kE (cF (vCallB (gF1 fLen) (aCons (kN 0) aNil))))))) (kN 2))))) (sSeq (sSet 3 (vBin gAdd (kE (cBin gIxA (kN 0) (kN 2))) (kE (cC (.int 1)))))
    (sRet (vBin gAdd (kE (cF (vSl (kN 0) oNone (oSome (kN 2))))) (kE (cF (lcF [4] (iRng1 (aCons (kE (cF (vBin gSub (kE (cF (vCallB (gF1 fLen) (aCons (kN 0) aNil)))) (kN 2)))) aNil)) (gSet 4) tYesF ce_next_lot_1)))))) sNext)
noncomputable def fb_next_lot : SM := (sSeq (sFor (iRng3 (aCons (kE (cF (vBin gSub (kE (cF (vCallB (gF1 fLen) (aCons (kN 0) aNil)))) (kE (cC (.int 1)))))) (aCons (kE (cUn gNeg (kE (cC (.int 1))))) (aCons (kE (cUn gNeg (kE (cC (.int 1))))) aNil)))) (gSet 2) lb_next_lot_1)
    (sRet (vD (cC .non))))
noncomputable def F_next_lot : List EV → Out := runD 5 2 fb_next_lot
noncomputable def lb_fewest_cut_of_1 : SM := (sSeq (sIf (tVal (cF (vCall F_is_cut_lot (aCons (kN 0) (aCons (kE (cN 4)) aNil))))) (sRetV 4) sNext)
    (sSeq (sSet 5 (vCallB (gF1 fLen) (aCons (kN 4) aNil)))
    (sSeq (sSet 4 (vCall F_next_lot (aCons (kE (cN 4)) (aCons (kE (cN 3)) aNil))))
    (sIf (tCmpF gIsN (kN 4) (kE (cC .non))) (sSet 4 (vLstR (aCons (kE (cF (vBin gAdd (kN 5) (kE (cC (.int 1)))))) aNil))) sNext))))
noncomputable def fb_fewest_cut_of : SM := (sSeq (sPar2 3 4 (vCallB (gF1 fLen) (aCons (kE (cUn (gFld 0 1) (kN 0))) aNil)) (vLst aNil))
    (sSeq (sFor (iRng1 (aCons (kN 1) aNil)) (gSet 2) lb_fewest_cut_of_1)
    (sRet (vD (cC .non)))))
noncomputable def F_fewest_cut_of : List EV → Out := runD 6 2 fb_fewest_cut_of
noncomputable def fb_fewest_cut : SM := (sSeq (sSet 1 (vCall F_fewest_cut_of (aCons (kE (cF (vCall F_want_net (aCons (kN 0) aNil)))) (aCons (kE (cC (.int 20000))) aNil))))
    (sSeq (sIf (tCmpF gIsN (kN 1) (kE (cC .non))) (fun _ => .stuck) sNext)
    (sRetV 1)))
noncomputable def F_fewest_cut : List EV → Out := runD 2 1 fb_fewest_cut
noncomputable def cf_busiest_of_1 : EM Bool := (tCmpF gIn (kN 2) (kE (cTup (aCons (kE (cF (vCall F_point_by (aCons (kN 0) (aCons (kE (cN 7)) aNil))))) (aCons (kE (cBin gIxA (kE (cUn (gFld 0 2) (kN 0))) (kN 7))) aNil)))))
noncomputable def ce_busiest_of_1 : EM D := (cC (.int 1))
noncomputable def lb_busiest_of_1 : SM := (sSeq (sSet 6 (vCallB (gF1 fLen) (aCons (kE (cF (lcF [7] (iSeq (cN 3)) (gSet 7) cf_busiest_of_1 ce_busiest_of_1))) aNil)))
    (sIf (tCmpF gGt (kN 6) (kN 5)) (sPar2 4 5 (vD (cN 2)) (vD (cN 6))) sNext))
noncomputable def fb_busiest_of : SM := (sSeq (sPar3 3 4 5 (vCall F_tracks_between (aCons (kN 0) (aCons (kN 1) aNil))) (vD (cC .non)) (vD (cUn gNeg (kE (cC (.int 1))))))
    (sSeq (sFor (iSeq (cN 1)) (gSet 2) lb_busiest_of_1)
    (sRetV 4)))
noncomputable def F_busiest_of : List EV → Out := runD 8 2 fb_busiest_of
noncomputable def cf_needless_in_1 : EM Bool := (tCmpF gNe (kN 3) (kN 2))
noncomputable def ce_needless_in_1 : EM D := (cN 3)
noncomputable def lb_needless_in_1 : SM := (sIf (tVal (cF (vCall F_is_cut_lot (aCons (kN 0) (aCons (kE (cF (lcF [3] (iSeq (cN 1)) (gSet 3) cf_needless_in_1 ce_needless_in_1))) aNil))))) (sRetV 2) sNext)
noncomputable def fb_needless_in : SM := (sSeq (sFor (iSeq (cN 1)) (gSet 2) lb_needless_in_1)
    (sRet (vD (cC .non))))
noncomputable def F_needless_in : List EV → Out := runD 4 2 fb_needless_in
noncomputable def wt_good_cut_of_1 : EM Bool := (tNotF (tVal (cF (vCall F_is_cut_lot (aCons (kN 0) (aCons (kE (cN 1)) aNil))))))
noncomputable def wb_good_cut_of_1 : SM := (sSet 1 (vBin gAdd (kN 1) (kE (cF (vLst (aCons (kE (cF (vCall F_busiest_of (aCons (kN 0) (aCons (kE (cF (vCall F_kept_by_rings (aCons (kN 0) (aCons (kE (cN 1)) aNil))))) aNil))))) aNil))))))
noncomputable def cf_good_cut_of_1 : EM Bool := (tCmpF gNe (kN 3) (kN 2))
noncomputable def ce_good_cut_of_1 : EM D := (cN 3)
noncomputable def wt_good_cut_of_2 : EM Bool := (tCmpF gNotN (kN 2) (kE (cC .non)))
noncomputable def wb_good_cut_of_2 : SM := (sSeq (sSet 1 (lcF [3] (iSeq (cN 1)) (gSet 3) cf_good_cut_of_1 ce_good_cut_of_1))
    (sSet 2 (vCall F_needless_in (aCons (kN 0) (aCons (kE (cN 1)) aNil)))))
noncomputable def fb_good_cut_of : SM := (sSeq (sSet 1 (vLst aNil))
    (sSeq (sWhileC wt_good_cut_of_1 wb_good_cut_of_1)
    (sSeq (sSet 2 (vCall F_needless_in (aCons (kN 0) (aCons (kE (cN 1)) aNil))))
    (sSeq (sWhileC wt_good_cut_of_2 wb_good_cut_of_2)
    (sRet (vCallB (gF1 fSortedA) (aCons (kN 1) aNil)))))))
noncomputable def F_good_cut_of : List EV → Out := runD 4 1 fb_good_cut_of
noncomputable def fb_good_cut : SM := (sRet (vCall F_good_cut_of (aCons (kE (cF (vCall F_want_net (aCons (kN 0) aNil)))) aNil)))
noncomputable def F_good_cut : List EV → Out := runD 1 1 fb_good_cut
noncomputable def ce__law_many_right_1 : EM D := (cF (vLst (aCons (kE (cN 1)) (aCons (kE (cF (vBin gMod (kE (cF (vBin gAdd (kN 1) (kE (cC (.int 1)))))) (kE (cC (.int 12)))))) aNil))))
noncomputable def fb__law_many_right : SM := (sSeq (sSet 0 (vMake 0 F_Net___init__ (aCons (kE (cC (.int 0))) (aCons (kE (cF (lcF [1] (iRng1 (aCons (kE (cC (.int 12))) aNil)) (gSet 1) tYesF ce__law_many_right_1))) aNil))))
    (sSeq (sIf (tOrF (tCmpF gNe (kE (cF (vCall F_good_cut (aCons (kE (cN 0)) aNil)))) (kE (cF (vLstR (aCons (kE (cC (.int 12))) aNil))))) (tCmpF gNotB (kE (cF (vCall F_is_cut (aCons (kE (cN 0)) (aCons (kE (cF (vBin gRg (kE (cC (.int 1))) (kE (cC (.int 12)))))) aNil))))) (kE (cC (.bl false))))) (sRet (vD (cC (.bl false)))) sNext)
    (sRet (vD (cIf (tVal (cB (tCmpF gEq (kE (cF (vCall F_sequence_without (aCons (kE (cN 0)) (aCons (kE (cF (vLstR (aCons (kE (cC (.int 12))) aNil)))) aNil))))) (kE (cF (vLst aNil)))))) (cB (tCmpF gEq (kE (cF (vCall F_fewest_cut (aCons (kE (cF (vMake 0 F_Net___init__ (aCons (kE (cC (.int 0))) (aCons (kE (cF (vLst (aCons (kE (cF (vLst (aCons (kE (cC (.int 0))) aNil)))) (aCons (kE (cF (vLst (aCons (kE (cC (.int 0))) aNil)))) aNil))))) aNil))))) aNil)))) (kE (cF (vLst (aCons (kE (cC (.int 0))) aNil)))))) (cC (.bl false)))))))
noncomputable def F__law_many_right : List EV → Out := runD 2 0 fb__law_many_right
noncomputable def lv__law_nets_right_0 : EM EV := (vCall F_is_cut (aCons (kE (cN 0)) (aCons (kE (cC .non)) aNil)))
noncomputable def lv__law_nets_right_1 : EM EV := (vCall F_ring_without (aCons (kE (cN 0)) (aCons (kE (cC .non)) aNil)))
noncomputable def lv__law_nets_right_2 : EM EV := (vCall F_is_ring_without (aCons (kE (cN 0)) (aCons (kE (cC .non)) (aCons (kE (cC .non)) aNil))))
noncomputable def lv__law_nets_right_3 : EM EV := (vCall F_sequence_without (aCons (kE (cN 0)) (aCons (kE (cC .non)) aNil)))
noncomputable def lv__law_nets_right_4 : EM EV := (vCallK 0 1 [0] F_good_cut aNil (aCons (kE (cN 0)) aNil))
noncomputable def lv__law_nets_right_5 : EM EV := (vCall F_fewest_cut (aCons (kE (cN 0)) aNil))
noncomputable def lams__law_nets_right : Nat → EM EV
  | 0 => lv__law_nets_right_0
  | 1 => lv__law_nets_right_1
  | 2 => lv__law_nets_right_2
  | 3 => lv__law_nets_right_3
  | 4 => lv__law_nets_right_4
  | 5 => lv__law_nets_right_5
  | _ => fun _ => .stuck
noncomputable def lb__law_nets_right_1 : SM := (sSeq (sSet 1 (vLst (aCons (kE (cC (.lam 0))) aNil)))
    (sSeq (sDrop (vD (cMut "list" 1 gAppend (aCons (kE (cC (.lam 1))) aNil))))
    (sSeq (sDrop (vD (cMut "list" 1 gAppend (aCons (kE (cC (.lam 2))) aNil))))
    (sSeq (sDrop (vD (cMut "list" 1 gAppend (aCons (kE (cC (.lam 3))) aNil))))
    (sSeq (sDrop (vD (cMut "list" 1 gAppend (aCons (kE (cC (.lam 4))) aNil))))
    (sSeq (sDrop (vD (cMut "list" 1 gAppend (aCons (kE (cC (.lam 5))) aNil))))
    (sIf (tNotF (tVal (cF (vCallL F__law_all lams__law_nets_right (aCons (kE (cN 1)) (aCons (kE (cF (vBin gAdd (kE (cC (.str "net "))) (kE (cF (vCallB (gF1 fReprD) (aCons (kN 0) aNil))))))) aNil)))))) (sRet (vD (cC (.bl false)))) sNext)))))))
noncomputable def fb__law_nets_right : SM := (sSeq (sFor (iSeq (cF (vLst (aCons (kE (cC .non)) (aCons (kE (cC (.int 5))) (aCons (kE (cC (.bl true))) (aCons (kE (cC (.str "net"))) (aCons (kE (cF (vLst aNil))) (aCons (kE (cTup (aCons (kE (cC (.int 1))) (aCons (kE (cF (vLst (aCons (kE (cF (vLst (aCons (kE (cC (.int 0))) aNil)))) aNil)))) aNil)))) (aCons (kE (cF vDic0)) aNil)))))))))) (gSet 0) lb__law_nets_right_1)
    (sRet (vD (cC (.bl true)))))
noncomputable def F__law_nets_right : List EV → Out := fun as => scO (runD 2 0 fb__law_nets_right as)
noncomputable def fb__law_pot : SM := (sSeq (sSet 2 (vBin gAdd (kE (cF (vBin gMul (kE (cC (.int 1117))) (kN 1)))) (kE (cC (.int 829)))))
    (sSeq (sIf (tCmpF gLt (kN 1) (kE (cF (vCallB (gF1 fLen) (aCons (kN 0) aNil))))) (sSet 2 (vCallB (gF1 fAbs) (aCons (kE (cBin gIxA (kN 0) (kN 1))) aNil))) sNext)
    (sRet (vLst (aCons (kE (cF (vCallB (gF2 fMax2) (aCons (kE (cC (.int 0))) (aCons (kE (cF (vBin gSub (kN 2) (kE (cF (vBin gPow (kE (cC (.int 10))) (kE (cC (.int 18))))))))) aNil))))) (aCons (kE (cF (vBin gAdd (kE (cF (vBin gMod (kE (cF (vCallB (gF1 fInt) (aCons (kE (cF (vBin gAdd (kE (cF (vBin gMul (kE (cF (vBin gMod (kE (cF (vCallB (gF1 fInt) (aCons (kN 2) aNil)))) (kE (cC (.int 2147483549)))))) (kE (cF (vBin gAdd (kE (cF (vBin gMul (kE (cC (.int 2))) (kN 1)))) (kE (cC (.int 769))))))))) (kE (cC (.int 1567)))))) aNil)))) (kE (cC (.int 2147483543)))))) (kE (cC (.int 1)))))) aNil))))))
noncomputable def F__law_pot : List EV → Out := runD 3 2 fb__law_pot
noncomputable def cf__law_rings_right_1 : EM Bool := (tCmpF gNe (kN 8) (kE (cC (.int 0))))
noncomputable def ce__law_rings_right_1 : EM D := (cN 8)
noncomputable def ce__law_rings_right_2 : EM D := (cF (vCall F_is_ring_without (aCons (kE (cN 1)) (aCons (kE (cN 7)) (aCons (kE (cN 4)) aNil)))))
noncomputable def lb__law_rings_right_1 : SM := (sSeq (sSet 5 (vD (cB (tCmpF gEq (kE (cF (lcF [8] (iSeq (cN 4)) (gSet 8) cf__law_rings_right_1 ce__law_rings_right_1))) (kE (cF (vLst aNil)))))))
    (sSeq (sSet 6 (lcF [7] (iSeq (cF (vLst (aCons (kE (cF (vLst aNil))) (aCons (kE (cTup (aCons (kE (cC (.int 0))) aNil))) (aCons (kE (cF (vLst (aCons (kE (cC (.int 1))) aNil)))) (aCons (kE (cF (vLst (aCons (kE (cC (.int 2))) aNil)))) (aCons (kE (cF (vLst (aCons (kE (cC (.int 1))) (aCons (kE (cC (.int 2))) aNil))))) aNil)))))))) (gSet 7) tYesF ce__law_rings_right_2))
    (sIf (tCmpF gNeT (kE (cF (vCallB (gF1 fReprD) (aCons (kN 6) aNil)))) (kE (cF (vCallB (gF1 fReprD) (aCons (kE (cF (vLst (aCons (kE (cC (.bl true))) (aCons (kE (cC (.bl false))) (aCons (kE (cN 5)) (aCons (kE (cC (.bl true))) (aCons (kE (cN 5)) aNil)))))))) aNil))))) (sRet (vD (cC (.bl false)))) sNext)))
noncomputable def lb__law_rings_right_2 : SM := (sIf (tCmpF gNotB (kE (cF (vCall F_is_ring_without (aCons (kE (cN 1)) (aCons (kE (cF (vLst aNil))) (aCons (kE (cN 4)) aNil)))))) (kE (cC (.bl false)))) (sRet (vD (cC (.bl false)))) sNext)
noncomputable def fb__law_rings_right : SM := (sSeq (sSet 1 (vMake 0 F_Net___init__ (aCons (kE (cC (.int 1))) (aCons (kE (cF (vLst (aCons (kE (cF (vLst (aCons (kE (cC (.int 0))) (aCons (kE (cC (.int 1))) aNil))))) (aCons (kE (cF (vLst (aCons (kE (cC (.int 0))) (aCons (kE (cUn gNeg (kE (cC (.int 1))))) aNil))))) (aCons (kE (cF (vLst (aCons (kE (cC (.int 1))) aNil)))) aNil)))))) aNil))))
    (sSeq (sSet 2 (vLst (aCons (kE (cF (vLst (aCons (kE (cC (.int 0))) aNil)))) (aCons (kE (cF (vLst (aCons (kE (cC (.int 1))) (aCons (kE (cC (.int 2))) aNil))))) (aCons (kE (cTup (aCons (kE (cC (.int 2))) (aCons (kE (cC (.int 1))) aNil)))) (aCons (kE (cF (vLst (aCons (kE (cC (.int 0))) (aCons (kE (cC (.int 0))) aNil))))) (aCons (kE (cF (vLst (aCons (kE (cC (.int 0))) (aCons (kE (cC (.int 1))) (aCons (kE (cC (.int 2))) aNil)))))) (aCons (kE (cF (vLst (aCons (kE (cC (.int 1))) (aCons (kE (cC (.int 2))) (aCons (kE (cC (.int 0))) (aCons (kE (cC (.int 0))) aNil))))))) (aCons (kE (cF (vBin gMul (kE (cF (vLst (aCons (kE (cC (.int 1))) (aCons (kE (cC (.int 2))) aNil))))) (kE (cC (.int 200)))))) aNil)))))))))
    (sSeq (sSet 3 (vLst (aCons (kE (cC .non)) (aCons (kE (cC (.int 5))) (aCons (kE (cC (.bl true))) (aCons (kE (cC (.str ""))) (aCons (kE (cF (vLst aNil))) (aCons (kE (cTup aNil)) (aCons (kE (cF vDic0)) (aCons (kE (cF (vLst (aCons (kE (cC (.int 1))) aNil)))) (aCons (kE (cF (vLst (aCons (kE (cC (.int 2))) aNil)))) (aCons (kE (cF (vLst (aCons (kE (cC (.int 3))) aNil)))) (aCons (kE (cF (vLst (aCons (kE (cC (.int 4))) aNil)))) (aCons (kE (cF (vLst (aCons (kE (cC (.int 1))) (aCons (kE (cC (.int 0))) aNil))))) (aCons (kE (cF (vLst (aCons (kE (cC (.int 4))) (aCons (kE (cC (.int 2))) aNil))))) (aCons (kE (cF (vLst (aCons (kE (cC (.bl true))) aNil)))) (aCons (kE (cF (vLst (aCons (kE (cC (.int 0))) (aCons (kE (cC .non)) aNil))))) (aCons (kE (cF (vLst (aCons (kE (cUn gNeg (kE (cC (.int 1))))) aNil)))) (aCons (kE (cF (vLst (aCons (kE (cC (.int 5))) aNil)))) (aCons (kE (cF (vLst (aCons (kE (cC (.str "0"))) aNil)))) (aCons (kE (cF (vLst (aCons (kE (cF (vLst (aCons (kE (cC (.int 0))) aNil)))) aNil)))) aNil)))))))))))))))))))))
    (sSeq (sFor (iSeq (cN 2)) (gSet 4) lb__law_rings_right_1)
    (sSeq (sFor (iSeq (cN 3)) (gSet 4) lb__law_rings_right_2)
    (sRet (vD (cB (tCmpF gIsB (kE (cF (vCall F_is_ring_without (aCons (kE (cN 1)) (aCons (kE (cF (vLst (aCons (kE (cC (.int 1))) aNil)))) (aCons (kE (cF (vLst (aCons (kE (cC (.int 0))) (aCons (kE (cC (.int 0))) aNil))))) aNil)))))) (kE (cC (.bl true))))))))))))
noncomputable def F__law_rings_right : List EV → Out := runD 9 1 fb__law_rings_right
noncomputable def fb_law : SM := (sSeq (sSet 1 (vCall F__law_pot (aCons (kN 0) (aCons (kE (cC (.int 0))) aNil))))
    (sSeq (sIf (tOrF (tNotF (tVal (cF (vCall F__law_nets_right aNil)))) (tOrF (tNotF (tVal (cF (vCall F__law_lots_right (aCons (kN 1) aNil))))) (tNotF (tVal (cF (vCall F__law_rings_right (aCons (kE (cN 1)) aNil))))))) (sRet (vD (cC (.bl false)))) sNext)
    (sRet (vCall F__law_many_right aNil))))
noncomputable def F_law : List EV → Out := runD 2 1 fb_law
end K40
end
section
set_option Elab.async false
set_option linter.all false
set_option maxRecDepth 100000
set_option maxHeartbeats 0
namespace K40
open PySem PySem.Spec L2 MM
def ctM (K : PySem.W.Frag) : Ct := ⟨ctF K, tabsK tf K, fun _ => lamX (.Constant .none 0 ⟨0, 0, 0, 0⟩), 0, [], "", fun _ => 0, fun _ _ => none, 0⟩
structure Wd (K : PySem.W.Frag) (mg : Str → Option Value) : Prop where
  ex : ∃ h : Heap, K.In h ∧ h.Ns mainGlobals mg
  c : SaysM fa dfn pr cl K
  x : exq K = true
namespace Wd
variable {K : PySem.W.Frag} {mg : Str → Option Value} (Z : Wd K mg)
include Z
theorem glo__law_heard : mg "_law_heard" = some (.ref (He.ga K "_law_heard")) := by
  obtain ⟨h, X, G⟩ := Z.ex
  exact He.glo_ok X G (Z.c.d.fact 0)
theorem glo__law_all : mg "_law_all" = some (.ref (He.ga K "_law_all")) := by
  obtain ⟨h, X, G⟩ := Z.ex
  exact He.glo_ok X G (Z.c.d.fact 1)
theorem glo__law_draw : mg "_law_draw" = some (.ref (He.ga K "_law_draw")) := by
  obtain ⟨h, X, G⟩ := Z.ex
  exact He.glo_ok X G (Z.c.d.fact 2)
theorem glo_point_by : mg "point_by" = some (.ref (He.ga K "point_by")) := by
  obtain ⟨h, X, G⟩ := Z.ex
  exact He.glo_ok X G (Z.c.d.fact 3)
theorem glo_tracks_between : mg "tracks_between" = some (.ref (He.ga K "tracks_between")) := by
  obtain ⟨h, X, G⟩ := Z.ex
  exact He.glo_ok X G (Z.c.d.fact 4)
theorem glo_sequence_by : mg "sequence_by" = some (.ref (He.ga K "sequence_by")) := by
  obtain ⟨h, X, G⟩ := Z.ex
  exact He.glo_ok X G (Z.c.d.fact 5)
theorem glo_is_cut_lot : mg "is_cut_lot" = some (.ref (He.ga K "is_cut_lot")) := by
  obtain ⟨h, X, G⟩ := Z.ex
  exact He.glo_ok X G (Z.c.d.fact 6)
theorem glo_is_integer : mg "is_integer" = some (.ref (He.ga K "is_integer")) := by
  obtain ⟨h, X, G⟩ := Z.ex
  exact He.glo_ok X G (Z.c.d.fact 7)
theorem glo_is_count : mg "is_count" = some (.ref (He.ga K "is_count")) := by
  obtain ⟨h, X, G⟩ := Z.ex
  exact He.glo_ok X G (Z.c.d.fact 8)
theorem glo_is_list : mg "is_list" = some (.ref (He.ga K "is_list")) := by
  obtain ⟨h, X, G⟩ := Z.ex
  exact He.glo_ok X G (Z.c.d.fact 9)
theorem glo_is_lot_value : mg "is_lot_value" = some (.ref (He.ga K "is_lot_value")) := by
  obtain ⟨h, X, G⟩ := Z.ex
  exact He.glo_ok X G (Z.c.d.fact 10)
theorem glo_want_net : mg "want_net" = some (.ref (He.ga K "want_net")) := by
  obtain ⟨h, X, G⟩ := Z.ex
  exact He.glo_ok X G (Z.c.d.fact 11)
theorem glo_is_cut : mg "is_cut" = some (.ref (He.ga K "is_cut")) := by
  obtain ⟨h, X, G⟩ := Z.ex
  exact He.glo_ok X G (Z.c.d.fact 12)
theorem glo_is_closed_row : mg "is_closed_row" = some (.ref (He.ga K "is_closed_row")) := by
  obtain ⟨h, X, G⟩ := Z.ex
  exact He.glo_ok X G (Z.c.d.fact 13)
theorem glo_is_rising : mg "is_rising" = some (.ref (He.ga K "is_rising")) := by
  obtain ⟨h, X, G⟩ := Z.ex
  exact He.glo_ok X G (Z.c.d.fact 14)
theorem glo_is_lot_of : mg "is_lot_of" = some (.ref (He.ga K "is_lot_of")) := by
  obtain ⟨h, X, G⟩ := Z.ex
  exact He.glo_ok X G (Z.c.d.fact 15)
theorem glo_want_lot : mg "want_lot" = some (.ref (He.ga K "want_lot")) := by
  obtain ⟨h, X, G⟩ := Z.ex
  exact He.glo_ok X G (Z.c.d.fact 16)
theorem glo_is_ring_without : mg "is_ring_without" = some (.ref (He.ga K "is_ring_without")) := by
  obtain ⟨h, X, G⟩ := Z.ex
  exact He.glo_ok X G (Z.c.d.fact 17)
theorem glo_kept_by_rings : mg "kept_by_rings" = some (.ref (He.ga K "kept_by_rings")) := by
  obtain ⟨h, X, G⟩ := Z.ex
  exact He.glo_ok X G (Z.c.d.fact 18)
theorem glo_ring_of_tracks : mg "ring_of_tracks" = some (.ref (He.ga K "ring_of_tracks")) := by
  obtain ⟨h, X, G⟩ := Z.ex
  exact He.glo_ok X G (Z.c.d.fact 19)
theorem glo_ring_without : mg "ring_without" = some (.ref (He.ga K "ring_without")) := by
  obtain ⟨h, X, G⟩ := Z.ex
  exact He.glo_ok X G (Z.c.d.fact 20)
theorem glo_sequence_without : mg "sequence_without" = some (.ref (He.ga K "sequence_without")) := by
  obtain ⟨h, X, G⟩ := Z.ex
  exact He.glo_ok X G (Z.c.d.fact 21)
theorem glo_is_target_of : mg "is_target_of" = some (.ref (He.ga K "is_target_of")) := by
  obtain ⟨h, X, G⟩ := Z.ex
  exact He.glo_ok X G (Z.c.d.fact 22)
theorem glo_is_exits_row : mg "is_exits_row" = some (.ref (He.ga K "is_exits_row")) := by
  obtain ⟨h, X, G⟩ := Z.ex
  exact He.glo_ok X G (Z.c.d.fact 23)
theorem glo_want_at_most : mg "want_at_most" = some (.ref (He.ga K "want_at_most")) := by
  obtain ⟨h, X, G⟩ := Z.ex
  exact He.glo_ok X G (Z.c.d.fact 24)
theorem glo_want_exits : mg "want_exits" = some (.ref (He.ga K "want_exits")) := by
  obtain ⟨h, X, G⟩ := Z.ex
  exact He.glo_ok X G (Z.c.d.fact 25)
theorem glo__law_lots_right : mg "_law_lots_right" = some (.ref (He.ga K "_law_lots_right")) := by
  obtain ⟨h, X, G⟩ := Z.ex
  exact He.glo_ok X G (Z.c.d.fact 26)
theorem glo_next_lot : mg "next_lot" = some (.ref (He.ga K "next_lot")) := by
  obtain ⟨h, X, G⟩ := Z.ex
  exact He.glo_ok X G (Z.c.d.fact 27)
theorem glo_fewest_cut_of : mg "fewest_cut_of" = some (.ref (He.ga K "fewest_cut_of")) := by
  obtain ⟨h, X, G⟩ := Z.ex
  exact He.glo_ok X G (Z.c.d.fact 28)
theorem glo_fewest_cut : mg "fewest_cut" = some (.ref (He.ga K "fewest_cut")) := by
  obtain ⟨h, X, G⟩ := Z.ex
  exact He.glo_ok X G (Z.c.d.fact 29)
theorem glo_busiest_of : mg "busiest_of" = some (.ref (He.ga K "busiest_of")) := by
  obtain ⟨h, X, G⟩ := Z.ex
  exact He.glo_ok X G (Z.c.d.fact 30)
theorem glo_needless_in : mg "needless_in" = some (.ref (He.ga K "needless_in")) := by
  obtain ⟨h, X, G⟩ := Z.ex
  exact He.glo_ok X G (Z.c.d.fact 31)
theorem glo_good_cut_of : mg "good_cut_of" = some (.ref (He.ga K "good_cut_of")) := by
  obtain ⟨h, X, G⟩ := Z.ex
  exact He.glo_ok X G (Z.c.d.fact 32)
theorem glo_good_cut : mg "good_cut" = some (.ref (He.ga K "good_cut")) := by
  obtain ⟨h, X, G⟩ := Z.ex
  exact He.glo_ok X G (Z.c.d.fact 33)
theorem glo__law_many_right : mg "_law_many_right" = some (.ref (He.ga K "_law_many_right")) := by
  obtain ⟨h, X, G⟩ := Z.ex
  exact He.glo_ok X G (Z.c.d.fact 34)
theorem glo__law_nets_right : mg "_law_nets_right" = some (.ref (He.ga K "_law_nets_right")) := by
  obtain ⟨h, X, G⟩ := Z.ex
  exact He.glo_ok X G (Z.c.d.fact 35)
theorem glo__law_pot : mg "_law_pot" = some (.ref (He.ga K "_law_pot")) := by
  obtain ⟨h, X, G⟩ := Z.ex
  exact He.glo_ok X G (Z.c.d.fact 36)
theorem glo__law_rings_right : mg "_law_rings_right" = some (.ref (He.ga K "_law_rings_right")) := by
  obtain ⟨h, X, G⟩ := Z.ex
  exact He.glo_ok X G (Z.c.d.fact 37)
theorem glo_law : mg "law" = some (.ref (He.ga K "law")) := by
  obtain ⟨h, X, G⟩ := Z.ex
  exact He.glo_ok X G (Z.c.d.fact 38)
theorem glo_StateError : mg "StateError" = some (.ref (He.ga K "StateError")) := by
  obtain ⟨h, X, G⟩ := Z.ex
  exact He.glo_ok X G (Z.c.d.fact 39)
theorem glo_Net : mg "Net" = some (.ref (He.ga K "Net")) := by
  obtain ⟨h, X, G⟩ := Z.ex
  exact He.glo_ok X G (Z.c.d.fact 40)
theorem glo_InvalidNet : mg "InvalidNet" = some (.ref (He.ga K "InvalidNet")) := by
  obtain ⟨h, X, G⟩ := Z.ex
  exact He.glo_ok X G (Z.c.d.fact 41)
theorem glo_InvalidLot : mg "InvalidLot" = some (.ref (He.ga K "InvalidLot")) := by
  obtain ⟨h, X, G⟩ := Z.ex
  exact He.glo_ok X G (Z.c.d.fact 42)
theorem glo_NotCut : mg "NotCut" = some (.ref (He.ga K "NotCut")) := by
  obtain ⟨h, X, G⟩ := Z.ex
  exact He.glo_ok X G (Z.c.d.fact 43)
theorem free_repr : mg "repr" = none := by
  obtain ⟨h, X, G⟩ := Z.ex
  exact He.free_ok X G (Z.c.d.fact 44)
theorem free_len : mg "len" = none := by
  obtain ⟨h, X, G⟩ := Z.ex
  exact He.free_ok X G (Z.c.d.fact 45)
theorem free_range : mg "range" = none := by
  obtain ⟨h, X, G⟩ := Z.ex
  exact He.free_ok X G (Z.c.d.fact 46)
theorem free_zip : mg "zip" = none := by
  obtain ⟨h, X, G⟩ := Z.ex
  exact He.free_ok X G (Z.c.d.fact 47)
theorem free_enumerate : mg "enumerate" = none := by
  obtain ⟨h, X, G⟩ := Z.ex
  exact He.free_ok X G (Z.c.d.fact 48)
theorem free_isinstance : mg "isinstance" = none := by
  obtain ⟨h, X, G⟩ := Z.ex
  exact He.free_ok X G (Z.c.d.fact 49)
theorem free_int : mg "int" = none := by
  obtain ⟨h, X, G⟩ := Z.ex
  exact He.free_ok X G (Z.c.d.fact 50)
theorem free_bool : mg "bool" = none := by
  obtain ⟨h, X, G⟩ := Z.ex
  exact He.free_ok X G (Z.c.d.fact 51)
theorem free_list : mg "list" = none := by
  obtain ⟨h, X, G⟩ := Z.ex
  exact He.free_ok X G (Z.c.d.fact 52)
theorem free_tuple : mg "tuple" = none := by
  obtain ⟨h, X, G⟩ := Z.ex
  exact He.free_ok X G (Z.c.d.fact 53)
theorem free_sorted : mg "sorted" = none := by
  obtain ⟨h, X, G⟩ := Z.ex
  exact He.free_ok X G (Z.c.d.fact 54)
theorem free_set : mg "set" = none := by
  obtain ⟨h, X, G⟩ := Z.ex
  exact He.free_ok X G (Z.c.d.fact 55)
theorem free_sum : mg "sum" = none := by
  obtain ⟨h, X, G⟩ := Z.ex
  exact He.free_ok X G (Z.c.d.fact 56)
theorem free_any : mg "any" = none := by
  obtain ⟨h, X, G⟩ := Z.ex
  exact He.free_ok X G (Z.c.d.fact 57)
theorem free_all : mg "all" = none := by
  obtain ⟨h, X, G⟩ := Z.ex
  exact He.free_ok X G (Z.c.d.fact 58)
theorem free_max : mg "max" = none := by
  obtain ⟨h, X, G⟩ := Z.ex
  exact He.free_ok X G (Z.c.d.fact 59)
theorem free_min : mg "min" = none := by
  obtain ⟨h, X, G⟩ := Z.ex
  exact He.free_ok X G (Z.c.d.fact 60)
theorem free_abs : mg "abs" = none := by
  obtain ⟨h, X, G⟩ := Z.ex
  exact He.free_ok X G (Z.c.d.fact 61)
theorem free_divmod : mg "divmod" = none := by
  obtain ⟨h, X, G⟩ := Z.ex
  exact He.free_ok X G (Z.c.d.fact 62)
theorem free_dict : mg "dict" = none := by
  obtain ⟨h, X, G⟩ := Z.ex
  exact He.free_ok X G (Z.c.d.fact 63)
theorem free_str : mg "str" = none := by
  obtain ⟨h, X, G⟩ := Z.ex
  exact He.free_ok X G (Z.c.d.fact 64)
theorem int_MOST_ENDS : ∃ t, mg "MOST_ENDS" = some (.int 6 t) := by
  obtain ⟨h, X, G⟩ := Z.ex
  exact He.int_ok X G (Z.c.d.fact 65)
theorem int_MOST_POINTS : ∃ t, mg "MOST_POINTS" = some (.int 24 t) := by
  obtain ⟨h, X, G⟩ := Z.ex
  exact He.int_ok X G (Z.c.d.fact 66)
theorem int_MOST_EXITS : ∃ t, mg "MOST_EXITS" = some (.int 6 t) := by
  obtain ⟨h, X, G⟩ := Z.ex
  exact He.int_ok X G (Z.c.d.fact 67)
theorem int_MOST_TRACKS : ∃ t, mg "MOST_TRACKS" = some (.int 60 t) := by
  obtain ⟨h, X, G⟩ := Z.ex
  exact He.int_ok X G (Z.c.d.fact 68)
theorem int_MOST_TRIES : ∃ t, mg "MOST_TRIES" = some (.int 20000 t) := by
  obtain ⟨h, X, G⟩ := Z.ex
  exact He.int_ok X G (Z.c.d.fact 69)
theorem cls_Net : ClsOk K 0 "Net" ["__init__", "lay"] [] := (Z.c.cls 0).1
theorem eq_Net : eqOwn K (He.ga K "Net") (He.ma K (He.ga K "Net") "__eq__") = true := (Z.c.cls 0).2 rfl
theorem exc_NotCut : Ex0Ok K "NotCut" := ex0B_ok (List.all_eq_true.mp (He.ba (He.ba (He.ba (He.ba (He.ba Z.x).2).2).2).1).1 "NotCut" (List.Mem.head _))
theorem exc_InvalidNet : ExOk K "InvalidNet" "value" := Z.c.exc 0 (d := cd0) (x := "InvalidNet") (f := "value") (List.Mem.head _) rfl
theorem exc_InvalidLot : ExOk K "InvalidLot" "value" := Z.c.exc 0 (d := cd0) (x := "InvalidLot") (f := "value") (.tail _ (List.Mem.head _)) rfl
theorem objs : ∀ c, c < 1 → ObjC K (ctF K c)
  | 0, _ => Z.cls_Net.obj
  | n + 1, h => absurd h (by omega)
theorem ask_int : ∀ c, c < 1 → PySem.W.kitOne K (.ref (ctF K c)) (.type "int") = some false
  | 0, _ => Z.cls_Net.ask "int" (by decide)
  | n + 1, h => absurd h (by omega)
theorem ask_bool : ∀ c, c < 1 → PySem.W.kitOne K (.ref (ctF K c)) (.type "bool") = some false
  | 0, _ => Z.cls_Net.ask "bool" (by decide)
  | n + 1, h => absurd h (by omega)
theorem ask_str : ∀ c, c < 1 → PySem.W.kitOne K (.ref (ctF K c)) (.type "str") = some false
  | 0, _ => Z.cls_Net.ask "str" (by decide)
  | n + 1, h => absurd h (by omega)
theorem ask_list : ∀ c, c < 1 → PySem.W.kitOne K (.ref (ctF K c)) (.type "list") = some false
  | 0, _ => Z.cls_Net.ask "list" (by decide)
  | n + 1, h => absurd h (by omega)
theorem ask_tuple : ∀ c, c < 1 → PySem.W.kitOne K (.ref (ctF K c)) (.type "tuple") = some false
  | 0, _ => Z.cls_Net.ask "tuple" (by decide)
  | n + 1, h => absurd h (by omega)
theorem ask_dict : ∀ c, c < 1 → PySem.W.kitOne K (.ref (ctF K c)) (.type "dict") = some false
  | 0, _ => Z.cls_Net.ask "dict" (by decide)
  | n + 1, h => absurd h (by omega)
theorem kit_Net {ct : Ct} (hc : ct.f = ctF K) : ∀ d t, tyD 1 d = some t → PySem.W.kitOne K (tyV' ct t) (.ref (He.ga K "Net")) = some (isO 0 t) := by
  obtain ⟨f0, T0, L0, m0, c0, q0, t0, g0, n0⟩ := ct
  obtain rfl : f0 = ctF K := hc
  exact kit_o (ct := ⟨ctF K, T0, L0, m0, c0, q0, t0, g0, n0⟩) (c := 0) Z.cls_Net.all (fun c' h1 h2 => match c', h1, h2 with
  | 0, _, h2 => absurd rfl h2
  | n + 1, h1, _ => absurd h1 (by omega))
theorem exm : ∀ c ∈ exn, ∀ c' ∈ exn, PySem.W.exmOne K (.ref (ctF K c)) (.ref (ctF K c')) = some (c == c') := fun c h1 c' h2 => of_decide_eq_true (List.all_eq_true.mp (List.all_eq_true.mp (He.ba Z.x).1 c h1) c' h2)
theorem tabs : (tf.map fun p => (He.cT K p).2).Nodup := of_decide_eq_true (He.ba (He.ba (He.ba Z.x).2).2).1
theorem isx (z : Nat × Str × Bool) (h : z ∈ isl) : PySem.W.findIn K (.ref (ctF K z.1)) "__class__" = some (some (.builtin "object.__class__")) ∧ PySem.W.mroIn K (ctF K z.1) (.type "object") = some true ∧ PySem.W.kitOne K (.ref (ctF K z.1)) (.ref (He.ga K z.2.1)) = some z.2.2 := by
  obtain ⟨h1, h2⟩ := He.ba (List.all_eq_true.mp (He.ba (He.ba Z.x).2).1 z h)
  obtain ⟨h2, h3⟩ := He.ba h2
  exact ⟨He.eqO_ok h1, of_decide_eq_true h2, of_decide_eq_true h3⟩
theorem cla : clAll K = true := (He.ba (show (clAll K && (cl.all (fun d => d.ok K) && pr.all (fun d => d.ok K))) = true from congrArg (fun z : AlM => z.1) Z.c)).1
theorem exi_NotCut : ExcC K (He.ga K "NotCut") := ⟨Z.exc_NotCut.X.ga, Z.exc_NotCut.X.gg, Z.exc_NotCut.X.exC, Z.exc_NotCut.X.hdC, (Z.isx (303, "StateError", true) (List.Mem.head _)).1, He.eqO_ok (He.ba Z.cla).1, of_decide_eq_true (He.ba Z.cla).2, (Z.isx (303, "StateError", true) (List.Mem.head _)).2.1⟩
theorem exk_NotCut_StateError : PySem.W.kitOne K (.ref (He.ga K "NotCut")) (.ref (He.ga K "StateError")) = some true := (Z.isx (303, "StateError", true) (List.Mem.head _)).2.2
end Wd
theorem sx_InvalidLot : FnScope (["self", "value"] : List PySem.Str) (["self", "value"] : List PySem.Str) (defScope (inClass (top 1) 0)) := ⟨rfl, rfl, rfl, by decide +kernel, rfl, by decide +kernel, by decide +kernel⟩
theorem ex_InvalidLot {P : Program} {w : World} {K : PySem.W.Frag} {mg : Str → Option Value} {base : Heap} (Z : Wd K mg) {ct : Ct} (hc : ct.f = ctF K) : ExAt P w K mg base ct 109 "InvalidLot" "value" := by
  obtain ⟨f0, T0, L0, m0, c0, q0, t0, g0, n0⟩ := ct
  obtain rfl : f0 = ctF K := hc
  obtain ⟨fd, D⟩ := Z.c.d.def_ 0
  exact ⟨⟨_, fd, "self", "value", fn_exinit D sx_InvalidLot (by first | exact Or.inl rfl | exact Or.inl (by decide +kernel)) (by first | exact Or.inl rfl | exact Or.inl (by decide +kernel)) (by decide) (by decide) (by decide) (by decide) (fun _ => rfl), D.bindsN fun _ _ _ _ _ _ us hl => match us, hl with | [_, _], _ => rfl, Z.exc_InvalidLot.init, Z.exc_InvalidLot.tI⟩, Z.exc_InvalidLot.T, Z.exc_InvalidLot.X, Z.exc_InvalidLot.no, Z.exc_InvalidLot.em, Z.glo_InvalidLot, rfl⟩
theorem sx_InvalidNet : FnScope (["self", "value"] : List PySem.Str) (["self", "value"] : List PySem.Str) (defScope (inClass (top 1) 0)) := ⟨rfl, rfl, rfl, by decide +kernel, rfl, by decide +kernel, by decide +kernel⟩
theorem ex_InvalidNet {P : Program} {w : World} {K : PySem.W.Frag} {mg : Str → Option Value} {base : Heap} (Z : Wd K mg) {ct : Ct} (hc : ct.f = ctF K) : ExAt P w K mg base ct 101 "InvalidNet" "value" := by
  obtain ⟨f0, T0, L0, m0, c0, q0, t0, g0, n0⟩ := ct
  obtain rfl : f0 = ctF K := hc
  obtain ⟨fd, D⟩ := Z.c.d.def_ 1
  exact ⟨⟨_, fd, "self", "value", fn_exinit D sx_InvalidNet (by first | exact Or.inl rfl | exact Or.inl (by decide +kernel)) (by first | exact Or.inl rfl | exact Or.inl (by decide +kernel)) (by decide) (by decide) (by decide) (by decide) (fun _ => rfl), D.bindsN fun _ _ _ _ _ _ us hl => match us, hl with | [_, _], _ => rfl, Z.exc_InvalidNet.init, Z.exc_InvalidNet.tI⟩, Z.exc_InvalidNet.T, Z.exc_InvalidNet.X, Z.exc_InvalidNet.no, Z.exc_InvalidNet.em, Z.glo_InvalidNet, rfl⟩
theorem sc__law_heard : FnScope (["_law_call", "_law_told", "e"] : List PySem.Str) (["_law_call"] : List PySem.Str) (defScope (top 52)) := ⟨rfl, rfl, rfl, by decide +kernel, rfl, by decide +kernel, by decide +kernel⟩
theorem ok__law_heard {P : Program} {w : World} {K : PySem.W.Frag} {mg : Str → Option Value} {base : Heap} (Z : Wd K mg) {ct : Ct} (hc : ct.f = ctF K) {th : Nat → Out} (hth : ∀ j, j < ct.n → Thk P w K mg base 8 ct j (th j)) {x qual : Str} {params : Arguments} {f : Addr} {fd : FuncData} (D : FunD K x qual params (defBody (top 52)) (defScope (top 52)) [] [] f fd) : FnG P w K mg base 9 f fd (["_law_call"] : List PySem.Str) (spM ⟨K, ct⟩ (F__law_heard th)) := by
  obtain ⟨f0, T0, L0, m0, c0, q0, t0, g0, n0⟩ := ct
  obtain rfl : f0 = ctF K := hc
  refine fn_mirG (k := 8) (ct := ⟨ctF K, T0, L0, m0, c0, q0, t0, g0, n0⟩) (fb := fb__law_heard th) D sc__law_heard rfl rfl (fun cdv A outer s H E hgu hr tk => ?_)
  exact (ss_cons (s_set sc__law_heard.nd rfl (by first | exact Or.inl rfl | exact Or.inr rfl) (v_val e_str))
    (ss_cons (s_tryM rfl rfl sc__law_heard.nd rfl rfl tk (exm_of Z.exm (by decide)) (fun W' pn xe tk => (ss_one (s_expr (v_thk hth hgu (hr.mono (by decide)) tk rfl (by first | exact Or.inl rfl | exact Or.inr (Or.inl rfl) | exact Or.inr (Or.inr rfl)))))) (.cons rfl Z.glo_InvalidNet (fun a oe cls d pn hz hd => hs_one (hs_setV sc__law_heard.nd rfl (by first | exact Or.inl rfl | exact Or.inr rfl) (by first | exact Or.inl rfl | exact Or.inr rfl) (h_v (h_add (h_e e_str) (h_repr hgu (have z := hu200 hr; z) rfl Z.free_repr (by decide +kernel) (h_fld Z.exc_InvalidNet.X Z.exc_InvalidNet.no rfl hz hd (pv 2))))))) (.cons rfl Z.glo_InvalidLot (fun a oe cls d pn hz hd => hs_one (hs_setV sc__law_heard.nd rfl (by first | exact Or.inl rfl | exact Or.inr rfl) (by first | exact Or.inl rfl | exact Or.inr rfl) (h_v (h_add (h_e e_str) (h_repr hgu (have z := hu200 hr; z) rfl Z.free_repr (by decide +kernel) (h_fld Z.exc_InvalidLot.X Z.exc_InvalidLot.no rfl hz hd (pv 2))))))) (.cons rfl Z.glo_NotCut (fun a oe cls d pn hz hd => hs_one (hs_setV sc__law_heard.nd rfl (by first | exact Or.inl rfl | exact Or.inr rfl) (by first | exact Or.inl rfl | exact Or.inr rfl) (h_v (h_add (h_e e_str) (h_strB rfl Z.free_str (by decide +kernel) (h_is Z.exi_NotCut Z.exk_NotCut_StateError hz hd rfl Z.free_isinstance (pv 2) rfl Z.glo_StateError)))))) .nil))))
    (ss_one (s_retV (pv 1)))))
theorem at__law_heard {P : Program} {w : World} {K : PySem.W.Frag} {mg : Str → Option Value} {base : Heap} (Z : Wd K mg) {ct : Ct} (hc : ct.f = ctF K) {th : Nat → Out} (hth : ∀ j, j < ct.n → Thk P w K mg base 8 ct j (th j)) : FnAtG P w K mg base ct 9 "_law_heard" (["_law_call"] : List PySem.Str) (F__law_heard th) := by
  obtain ⟨fd, D⟩ := Z.c.d.def_ 2
  exact ⟨⟨_, fd, ok__law_heard Z hc hth D, Z.glo__law_heard, D.kp, D.bindsN fun _ _ _ _ _ _ us hl => match us, hl with | [_], _ => rfl⟩⟩
theorem atL__law_heard {P : Program} {w : World} {K : PySem.W.Frag} {mg : Str → Option Value} {base : Heap} (Z : Wd K mg) {ct : Ct} (hc : ct.f = ctF K) : FnAtL P w K mg base ct 8 9 "_law_heard" (["_law_call"] : List PySem.Str) F__law_heard := by
  obtain ⟨fd, D⟩ := Z.c.d.def_ 2
  exact ⟨⟨_, fd, fun t g n th hth => ok__law_heard (ct := ct.wth t g n) Z hc hth D, Z.glo__law_heard, D.kp, D.bindsN fun _ _ _ _ _ _ us hl => match us, hl with | [_], _ => rfl⟩⟩
theorem sc__law_all : FnScope (["_law_calls", "_law_due", "_law_call"] : List PySem.Str) (["_law_calls", "_law_due"] : List PySem.Str) (defScope (top 53)) := ⟨rfl, rfl, rfl, by decide +kernel, rfl, by decide +kernel, by decide +kernel⟩
theorem ok__law_all {P : Program} {w : World} {K : PySem.W.Frag} {mg : Str → Option Value} {base : Heap} (Z : Wd K mg) {ct : Ct} (hc : ct.f = ctF K) {th : Nat → Out} (hth : ∀ j, j < ct.n → Thk P w K mg base 8 ct j (th j)) {x qual : Str} {params : Arguments} {f : Addr} {fd : FuncData} (D : FunD K x qual params (defBody (top 53)) (defScope (top 53)) [] [] f fd) : FnG P w K mg base 10 f fd (["_law_calls", "_law_due"] : List PySem.Str) (spM ⟨K, ct⟩ (F__law_all th)) := by
  obtain ⟨f0, T0, L0, m0, c0, q0, t0, g0, n0⟩ := ct
  obtain rfl : f0 = ctF K := hc
  refine fn_mirG (k := 9) (ct := ⟨ctF K, T0, L0, m0, c0, q0, t0, g0, n0⟩) (fb := fb__law_all th) D sc__law_all rfl rfl (fun cdv A outer s H E hgu hr tk => ?_)
  exact (ss_one (s_ret (v_val (e_cp (x_eq hr) (k_val (e_frz (v_lc (own := [("_law_call", 2)]) rfl sc__law_all.nd (i_seq (e_name (pv 0))) (blkOk_by (by kernel_rfl)) (by decide) (fun _ _ _ _ _ => (g_name (pg_nm 2 sc__law_all.nd))) (fun _ _ _ _ _ => (pts_one (t_cp (x_ne hr) (k_val (e_frz (v_callG (at__law_heard Z rfl hth) hgu (hr.mono (by decide)) rfl takes0 (a_cons (k_val (e_name (pv 2))) a_nil)))) (k_name (pv 1)) (nomark _)))) (fun _ _ _ _ _ => (e_name (pv 2)))))) (k_val (e_frz (v_lst a_nil))) (nomark _)))))
theorem at__law_all {P : Program} {w : World} {K : PySem.W.Frag} {mg : Str → Option Value} {base : Heap} (Z : Wd K mg) {ct : Ct} (hc : ct.f = ctF K) {th : Nat → Out} (hth : ∀ j, j < ct.n → Thk P w K mg base 8 ct j (th j)) : FnAtG P w K mg base ct 10 "_law_all" (["_law_calls", "_law_due"] : List PySem.Str) (F__law_all th) := by
  obtain ⟨fd, D⟩ := Z.c.d.def_ 3
  exact ⟨⟨_, fd, ok__law_all Z hc hth D, Z.glo__law_all, D.kp, D.bindsN fun _ _ _ _ _ _ us hl => match us, hl with | [_, _], _ => rfl⟩⟩
theorem atL__law_all {P : Program} {w : World} {K : PySem.W.Frag} {mg : Str → Option Value} {base : Heap} (Z : Wd K mg) {ct : Ct} (hc : ct.f = ctF K) : FnAtL P w K mg base ct 8 10 "_law_all" (["_law_calls", "_law_due"] : List PySem.Str) F__law_all := by
  obtain ⟨fd, D⟩ := Z.c.d.def_ 3
  exact ⟨⟨_, fd, fun t g n th hth => ok__law_all (ct := ct.wth t g n) Z hc hth D, Z.glo__law_all, D.kp, D.bindsN fun _ _ _ _ _ _ us hl => match us, hl with | [_, _], _ => rfl⟩⟩
theorem sc__law_draw : FnScope (["_law_pot_here", "_law_size", "_law_digit"] : List PySem.Str) (["_law_pot_here", "_law_size"] : List PySem.Str) (defScope (top 51)) := ⟨rfl, rfl, rfl, by decide +kernel, rfl, by decide +kernel, by decide +kernel⟩
theorem ok__law_draw {P : Program} {w : World} {K : PySem.W.Frag} {mg : Str → Option Value} {base : Heap} (Z : Wd K mg) {ct : Ct} (hc : ct.f = ctF K) {x qual : Str} {params : Arguments} {f : Addr} {fd : FuncData} (D : FunD K x qual params (defBody (top 51)) (defScope (top 51)) [] [] f fd) : FnOk P w K mg base (L2.CX P w) 1 f fd (["_law_pot_here", "_law_size"] : List PySem.Str) (spM ⟨K, ct⟩ F__law_draw) := by
  obtain ⟨f0, T0, L0, m0, c0, q0, t0, g0, n0⟩ := ct
  obtain rfl : f0 = ctF K := hc
  refine fn_mir (k := 0) (ct := ⟨ctF K, T0, L0, m0, c0, q0, t0, g0, n0⟩) (fb := fb__law_draw) D sc__law_draw rfl rfl (fun cdv A outer s H E hr tk => ?_)
  exact (ss_cons (s_if (t_cp x_gt (k_val (e_ixA (hu1 hr) (k_name (pv 0)) (k_val e_int))) (k_val e_int) (nomark _)) (ss_cons (s_asgT (e_frz (v_callB call_divmod g_divmod rfl Z.free_divmod (by decide +kernel) (a_cons (k_val (e_ixA (hu1 hr) (k_name (pv 0)) (k_val e_int))) (a_cons (k_name (pv 1)) a_nil)))) (h_tup rfl (hs_cons (h_store (pv 0) (k_val e_int)) (hs_cons (h_name (pg_nm 2 sc__law_draw.nd)) hs_nil))))
    (ss_one (s_retV (pv 2)))) ss_nil)
    (ss_cons (s_asgT (e_frz (v_mod (k_val (e_frz (v_callTy call_int1 g_int rfl Z.free_int (by decide +kernel) (a_cons (k_val (e_frz (v_add (k_val (e_frz (v_mul (k_val (e_ixA (hu1 hr) (k_name (pv 0)) (k_val e_int))) (k_val e_int)))) (k_val e_int)))) a_nil)))) (k_val e_int))) (h_store (pv 0) (k_val e_int)))
    (ss_one (s_ret (v_mod (k_val (e_frz (v_callTy call_int1 g_int rfl Z.free_int (by decide +kernel) (a_cons (k_val (e_frz (v_div (k_val (e_frz (v_mod (k_val (e_frz (v_callTy call_int1 g_int rfl Z.free_int (by decide +kernel) (a_cons (k_val (e_frz (v_mul (k_val (e_ixA (hu1 hr) (k_name (pv 0)) (k_val e_int))) (k_val (e_ixA (hu1 hr) (k_name (pv 0)) (k_val e_int)))))) a_nil)))) (k_val e_int)))) (k_val e_int)))) a_nil)))) (k_name (pv 1)))))))
theorem at__law_draw {P : Program} {w : World} {K : PySem.W.Frag} {mg : Str → Option Value} {base : Heap} (Z : Wd K mg) {ct : Ct} (hc : ct.f = ctF K) : FnAt P w K mg base ct 1 "_law_draw" (["_law_pot_here", "_law_size"] : List PySem.Str) F__law_draw := by
  obtain ⟨fd, D⟩ := Z.c.d.def_ 4
  exact ⟨⟨_, fd, ok__law_draw Z hc D, Z.glo__law_draw, D.kp, D.bindsN fun _ _ _ _ _ _ us hl => match us, hl with | [_, _], _ => rfl⟩⟩
theorem sc_point_by : FnScope (["net", "track", "first"] : List PySem.Str) (["net", "track"] : List PySem.Str) (defScope (top 28)) := ⟨rfl, rfl, rfl, by decide +kernel, rfl, by decide +kernel, by decide +kernel⟩
theorem ok_point_by {P : Program} {w : World} {K : PySem.W.Frag} {mg : Str → Option Value} {base : Heap} (Z : Wd K mg) {ct : Ct} (hc : ct.f = ctF K) {x qual : Str} {params : Arguments} {f : Addr} {fd : FuncData} (D : FunD K x qual params (defBody (top 28)) (defScope (top 28)) [] [] f fd) : FnOk P w K mg base (L2.CX P w) 1 f fd (["net", "track"] : List PySem.Str) (spM ⟨K, ct⟩ F_point_by) := by
  obtain ⟨f0, T0, L0, m0, c0, q0, t0, g0, n0⟩ := ct
  obtain rfl : f0 = ctF K := hc
  refine fn_mir (k := 0) (ct := ⟨ctF K, T0, L0, m0, c0, q0, t0, g0, n0⟩) (fb := fb_point_by) D sc_point_by rfl rfl (fun cdv A outer s H E hr tk => ?_)
  exact (ss_one (s_ret (v_sub (k_val (e_frz (v_callB cr_len g_len rfl Z.free_len (by decide +kernel) (a_cons (k_val (e_frz (v_lc (own := [("first", 2)]) rfl sc_point_by.nd (i_seq (e_fld 0 3 (k_name (pv 0)) rfl Z.cls_Net.obj.cls (Z.cls_Net.noat "own_firsts" (by decide)))) (blkOk_by (by kernel_rfl)) (by decide) (fun _ _ _ _ _ => (g_name (pg_nm 2 sc_point_by.nd))) (fun _ _ _ _ _ => (pts_one (t_cp x_le (k_name (pv 2)) (k_name (pv 1)) (nomark _)))) (fun _ _ _ _ _ => (e_name (pv 2)))))) a_nil)))) (k_val e_int))))
theorem at_point_by {P : Program} {w : World} {K : PySem.W.Frag} {mg : Str → Option Value} {base : Heap} (Z : Wd K mg) {ct : Ct} (hc : ct.f = ctF K) : FnAt P w K mg base ct 1 "point_by" (["net", "track"] : List PySem.Str) F_point_by := by
  obtain ⟨fd, D⟩ := Z.c.d.def_ 5
  exact ⟨⟨_, fd, ok_point_by Z hc D, Z.glo_point_by, D.kp, D.bindsN fun _ _ _ _ _ _ us hl => match us, hl with | [_, _], _ => rfl⟩⟩
theorem sc_tracks_between : FnScope (["net", "points", "there", "found", "track", "target", "point"] : List PySem.Str) (["net", "points"] : List PySem.Str) (defScope (top 31)) := ⟨rfl, rfl, rfl, by decide +kernel, rfl, by decide +kernel, by decide +kernel⟩
theorem ok_tracks_between {P : Program} {w : World} {K : PySem.W.Frag} {mg : Str → Option Value} {base : Heap} (Z : Wd K mg) {ct : Ct} (hc : ct.f = ctF K) {x qual : Str} {params : Arguments} {f : Addr} {fd : FuncData} (D : FunD K x qual params (defBody (top 31)) (defScope (top 31)) [] [] f fd) : FnOk P w K mg base (L2.CX P w) 2 f fd (["net", "points"] : List PySem.Str) (spM ⟨K, ct⟩ F_tracks_between) := by
  obtain ⟨f0, T0, L0, m0, c0, q0, t0, g0, n0⟩ := ct
  obtain rfl : f0 = ctF K := hc
  refine fn_mir (k := 1) (ct := ⟨ctF K, T0, L0, m0, c0, q0, t0, g0, n0⟩) (fb := fb_tracks_between) D sc_tracks_between rfl rfl (fun cdv A outer s H E hr tk => ?_)
  exact (ss_cons (s_par2 rfl sc_tracks_between.nd rfl rfl (by decide) rfl rfl (v_callTy (call_dictP rfl) g_dict rfl Z.free_dict (by decide +kernel) (a_cons (k_val (e_frz (v_lc (own := [("point", 6)]) rfl sc_tracks_between.nd (i_seq (e_name (pv 1))) (blkOk_by (by kernel_rfl)) (by decide) (fun _ _ _ _ _ => (g_name (pg_nm 6 sc_tracks_between.nd))) (fun _ _ _ _ _ => pts_yes) (fun _ _ _ _ _ => (e_tup (a_cons (k_val (e_name (pv 6))) (a_cons (k_val e_bl) a_nil))))))) a_nil)) (v_lst a_nil) rfl)
    (ss_cons (s_for (passes_of rfl) rfl (i_enum rfl Z.free_enumerate (a_cons (k_val (e_fld 0 2 (k_name (pv 0)) rfl Z.cls_Net.obj.cls (Z.cls_Net.noat "own_targets" (by decide)))) a_nil)) (g_tup (is := [4, 5]) rfl (pgs_cons (pg_nm 4 sc_tracks_between.nd) (pgs_cons (pg_nm 5 sc_tracks_between.nd) pgs_nil))) (ss_one (s_if (t_w (w_and (t_cp (x_inK hr) (k_name (pv 5)) (k_name (pv 2)) (by with_unfolding_all rfl)) (w_and1 (t_cp (x_inK hr) (k_val (e_frz (v_call (at_point_by Z rfl) (hr.mono (by decide)) rfl tk (a_cons (k_name (pv 0)) (a_cons (k_val (e_name (pv 4))) a_nil))))) (k_name (pv 2)) (by with_unfolding_all rfl))))) (ss_one (s_expr (v_val (e_mut PySem.F.plainAttrs_list PySem.F.slot_list_append PySem.F.type_list_append mt_append mutG_append (pv 3) (a_cons (k_val (e_name (pv 4))) a_nil))))) ss_nil)))
    (ss_one (s_retV (pv 3)))))
theorem at_tracks_between {P : Program} {w : World} {K : PySem.W.Frag} {mg : Str → Option Value} {base : Heap} (Z : Wd K mg) {ct : Ct} (hc : ct.f = ctF K) : FnAt P w K mg base ct 2 "tracks_between" (["net", "points"] : List PySem.Str) F_tracks_between := by
  obtain ⟨fd, D⟩ := Z.c.d.def_ 6
  exact ⟨⟨_, fd, ok_tracks_between Z hc D, Z.glo_tracks_between, D.kp, D.bindsN fun _ _ _ _ _ _ us hl => match us, hl with | [_, _], _ => rfl⟩⟩
theorem sc_sequence_by : FnScope (["net", "lot", "left", "found", "led_to", "free", "point", "track"] : List PySem.Str) (["net", "lot"] : List PySem.Str) (defScope (top 32)) := ⟨rfl, rfl, rfl, by decide +kernel, rfl, by decide +kernel, by decide +kernel⟩
theorem ok_sequence_by {P : Program} {w : World} {K : PySem.W.Frag} {mg : Str → Option Value} {base : Heap} (Z : Wd K mg) {ct : Ct} (hc : ct.f = ctF K) {x qual : Str} {params : Arguments} {f : Addr} {fd : FuncData} (D : FunD K x qual params (defBody (top 32)) (defScope (top 32)) [] [] f fd) : FnOk P w K mg base (L2.CX P w) 3 f fd (["net", "lot"] : List PySem.Str) (spM ⟨K, ct⟩ F_sequence_by) := by
  obtain ⟨f0, T0, L0, m0, c0, q0, t0, g0, n0⟩ := ct
  obtain rfl : f0 = ctF K := hc
  refine fn_mir (k := 2) (ct := ⟨ctF K, T0, L0, m0, c0, q0, t0, g0, n0⟩) (fb := fb_sequence_by) D sc_sequence_by rfl rfl (fun cdv A outer s H E hr tk => ?_)
  exact (ss_cons (s_par2 rfl sc_sequence_by.nd rfl rfl (by decide) rfl rfl (v_lc (own := [("point", 6)]) rfl sc_sequence_by.nd (i_range1 rfl Z.free_range (a_cons (k_val (e_frz (v_callB cr_len g_len rfl Z.free_len (by decide +kernel) (a_cons (k_val (e_fld 0 1 (k_name (pv 0)) rfl Z.cls_Net.obj.cls (Z.cls_Net.noat "own_exits" (by decide)))) a_nil)))) a_nil)) (blkOk_by (by kernel_rfl)) (by decide) (fun _ _ _ _ _ => (g_name (pg_nm 6 sc_sequence_by.nd))) (fun _ _ _ _ _ => (pts_one (t_cp (x_notIn hr) (k_name (pv 6)) (k_name (pv 1)) (by with_unfolding_all rfl)))) (fun _ _ _ _ _ => (e_name (pv 6)))) (v_lst a_nil) rfl)
    (ss_cons (s_whileC (s_while (passes_of rfl) (t_cp (x_ne hr) (k_name (pv 2)) (k_val (e_frz (v_lst a_nil))) (nomark _)) (ss_cons (s_set sc_sequence_by.nd rfl (by first | exact Or.inl rfl | exact Or.inr rfl) (v_lc (own := [("track", 7)]) rfl sc_sequence_by.nd (i_seq (e_frz (v_call (at_tracks_between Z rfl) (hr.mono (by decide)) rfl tk (a_cons (k_name (pv 0)) (a_cons (k_val (e_name (pv 2))) a_nil))))) (blkOk_by (by kernel_rfl)) (by decide) (fun _ _ _ _ _ => (g_name (pg_nm 7 sc_sequence_by.nd))) (fun _ _ _ _ _ => pts_yes) (fun _ _ _ _ _ => (e_ixA (hu1 hr) (k_val (e_fld 0 2 (k_name (pv 0)) rfl Z.cls_Net.obj.cls (Z.cls_Net.noat "own_targets" (by decide)))) (k_name (pv 7))))))
    (ss_cons (s_set sc_sequence_by.nd rfl (by first | exact Or.inl rfl | exact Or.inr rfl) (v_lc (own := [("point", 6)]) rfl sc_sequence_by.nd (i_seq (e_name (pv 2))) (blkOk_by (by kernel_rfl)) (by decide) (fun _ _ _ _ _ => (g_name (pg_nm 6 sc_sequence_by.nd))) (fun _ _ _ _ _ => (pts_one (t_cp (x_notIn hr) (k_name (pv 6)) (k_name (pv 4)) (by with_unfolding_all rfl)))) (fun _ _ _ _ _ => (e_name (pv 6)))))
    (ss_cons (s_if (t_cp (x_eq hr) (k_name (pv 5)) (k_val (e_frz (v_lst a_nil))) (nomark _)) (ss_one (s_ret (v_val e_non))) ss_nil)
    (ss_cons (s_expr (v_val (e_mut PySem.F.plainAttrs_list PySem.F.slot_list_append PySem.F.type_list_append mt_append mutG_append (pv 3) (a_cons (k_val (e_ixA (hu1 hr) (k_name (pv 5)) (k_val e_int))) a_nil))))
    (ss_one (s_setLc (own := [("point", 6)]) rfl sc_sequence_by.nd rfl rfl (sw_true rfl rfl rfl (by kernel_rfl)) (i_seq (e_name (pv 2))) (blkOk_by (by kernel_rfl)) (by decide) (fun _ _ _ _ _ => (g_name (pg_nm 6 sc_sequence_by.nd))) (fun _ _ _ _ _ => (pts_one (t_cp (x_ne hr) (k_name (pv 6)) (k_val (e_ixA (hu1 hr) (k_name (pv 5)) (k_val e_int))) (nomark _)))) (fun _ _ _ _ _ => (e_name (pv 6)))))))))))
    (ss_one (s_retV (pv 3)))))
theorem at_sequence_by {P : Program} {w : World} {K : PySem.W.Frag} {mg : Str → Option Value} {base : Heap} (Z : Wd K mg) {ct : Ct} (hc : ct.f = ctF K) : FnAt P w K mg base ct 3 "sequence_by" (["net", "lot"] : List PySem.Str) F_sequence_by := by
  obtain ⟨fd, D⟩ := Z.c.d.def_ 7
  exact ⟨⟨_, fd, ok_sequence_by Z hc D, Z.glo_sequence_by, D.kp, D.bindsN fun _ _ _ _ _ _ us hl => match us, hl with | [_, _], _ => rfl⟩⟩
theorem sc_is_cut_lot : FnScope (["net", "lot"] : List PySem.Str) (["net", "lot"] : List PySem.Str) (defScope (top 33)) := ⟨rfl, rfl, rfl, by decide +kernel, rfl, by decide +kernel, by decide +kernel⟩
theorem ok_is_cut_lot {P : Program} {w : World} {K : PySem.W.Frag} {mg : Str → Option Value} {base : Heap} (Z : Wd K mg) {ct : Ct} (hc : ct.f = ctF K) {x qual : Str} {params : Arguments} {f : Addr} {fd : FuncData} (D : FunD K x qual params (defBody (top 33)) (defScope (top 33)) [] [] f fd) : FnOk P w K mg base (L2.CX P w) 4 f fd (["net", "lot"] : List PySem.Str) (spM ⟨K, ct⟩ F_is_cut_lot) := by
  obtain ⟨f0, T0, L0, m0, c0, q0, t0, g0, n0⟩ := ct
  obtain rfl : f0 = ctF K := hc
  refine fn_mir (k := 3) (ct := ⟨ctF K, T0, L0, m0, c0, q0, t0, g0, n0⟩) (fb := fb_is_cut_lot) D sc_is_cut_lot rfl rfl (fun cdv A outer s H E hr tk => ?_)
  exact (ss_one (s_ret (v_val (e_cp x_notN (k_val (e_frz (v_call (at_sequence_by Z rfl) (hr.mono (by decide)) rfl tk (a_cons (k_name (pv 0)) (a_cons (k_name (pv 1)) a_nil))))) (k_val e_non) (nomark _)))))
theorem at_is_cut_lot {P : Program} {w : World} {K : PySem.W.Frag} {mg : Str → Option Value} {base : Heap} (Z : Wd K mg) {ct : Ct} (hc : ct.f = ctF K) : FnAt P w K mg base ct 4 "is_cut_lot" (["net", "lot"] : List PySem.Str) F_is_cut_lot := by
  obtain ⟨fd, D⟩ := Z.c.d.def_ 8
  exact ⟨⟨_, fd, ok_is_cut_lot Z hc D, Z.glo_is_cut_lot, D.kp, D.bindsN fun _ _ _ _ _ _ us hl => match us, hl with | [_, _], _ => rfl⟩⟩
theorem sc_is_integer : FnScope (["value"] : List PySem.Str) (["value"] : List PySem.Str) (defScope (top 11)) := ⟨rfl, rfl, rfl, by decide +kernel, rfl, by decide +kernel, by decide +kernel⟩
theorem ok_is_integer {P : Program} {w : World} {K : PySem.W.Frag} {mg : Str → Option Value} {base : Heap} (Z : Wd K mg) {ct : Ct} (hc : ct.f = ctF K) {x qual : Str} {params : Arguments} {f : Addr} {fd : FuncData} (D : FunD K x qual params (defBody (top 11)) (defScope (top 11)) [] [] f fd) : FnOk P w K mg base (L2.CX P w) 1 f fd (["value"] : List PySem.Str) (spM ⟨K, ct⟩ F_is_integer) := by
  obtain ⟨f0, T0, L0, m0, c0, q0, t0, g0, n0⟩ := ct
  obtain rfl : f0 = ctF K := hc
  refine fn_mir (k := 0) (ct := ⟨ctF K, T0, L0, m0, c0, q0, t0, g0, n0⟩) (fb := fb_is_integer) D sc_is_integer rfl rfl (fun cdv A outer s H E hr tk => ?_)
  exact (ss_one (s_ret (v_val (e_and (e_isi Z.objs rfl Z.free_isinstance (pe_bltn (v := .ty "int") (u := .type "int") rfl Z.free_int (by decide +kernel) rfl) (.ty "int") (kit_b (by decide) Z.ask_int) (k_name (pv 0))) (e_one (e_not (e_isi Z.objs rfl Z.free_isinstance (pe_bltn (v := .ty "bool") (u := .type "bool") rfl Z.free_bool (by decide +kernel) rfl) (.ty "bool") (kit_b (by decide) Z.ask_bool) (k_name (pv 0)))))))))
theorem at_is_integer {P : Program} {w : World} {K : PySem.W.Frag} {mg : Str → Option Value} {base : Heap} (Z : Wd K mg) {ct : Ct} (hc : ct.f = ctF K) : FnAt P w K mg base ct 1 "is_integer" (["value"] : List PySem.Str) F_is_integer := by
  obtain ⟨fd, D⟩ := Z.c.d.def_ 9
  exact ⟨⟨_, fd, ok_is_integer Z hc D, Z.glo_is_integer, D.kp, D.bindsN fun _ _ _ _ _ _ us hl => match us, hl with | [_], _ => rfl⟩⟩
theorem sc_is_count : FnScope (["value"] : List PySem.Str) (["value"] : List PySem.Str) (defScope (top 12)) := ⟨rfl, rfl, rfl, by decide +kernel, rfl, by decide +kernel, by decide +kernel⟩
theorem ok_is_count {P : Program} {w : World} {K : PySem.W.Frag} {mg : Str → Option Value} {base : Heap} (Z : Wd K mg) {ct : Ct} (hc : ct.f = ctF K) {x qual : Str} {params : Arguments} {f : Addr} {fd : FuncData} (D : FunD K x qual params (defBody (top 12)) (defScope (top 12)) [] [] f fd) : FnOk P w K mg base (L2.CX P w) 2 f fd (["value"] : List PySem.Str) (spM ⟨K, ct⟩ F_is_count) := by
  obtain ⟨f0, T0, L0, m0, c0, q0, t0, g0, n0⟩ := ct
  obtain rfl : f0 = ctF K := hc
  refine fn_mir (k := 1) (ct := ⟨ctF K, T0, L0, m0, c0, q0, t0, g0, n0⟩) (fb := fb_is_count) D sc_is_count rfl rfl (fun cdv A outer s H E hr tk => ?_)
  exact (ss_one (s_ret (v_val (e_and (e_frz (v_call (at_is_integer Z rfl) (hr.mono (by decide)) rfl tk (a_cons (k_name (pv 0)) a_nil))) (e_one (e_cp x_ge (k_name (pv 0)) (k_val e_int) (nomark _)))))))
theorem at_is_count {P : Program} {w : World} {K : PySem.W.Frag} {mg : Str → Option Value} {base : Heap} (Z : Wd K mg) {ct : Ct} (hc : ct.f = ctF K) : FnAt P w K mg base ct 2 "is_count" (["value"] : List PySem.Str) F_is_count := by
  obtain ⟨fd, D⟩ := Z.c.d.def_ 10
  exact ⟨⟨_, fd, ok_is_count Z hc D, Z.glo_is_count, D.kp, D.bindsN fun _ _ _ _ _ _ us hl => match us, hl with | [_], _ => rfl⟩⟩
theorem sc_is_list : FnScope (["value"] : List PySem.Str) (["value"] : List PySem.Str) (defScope (top 13)) := ⟨rfl, rfl, rfl, by decide +kernel, rfl, by decide +kernel, by decide +kernel⟩
theorem ok_is_list {P : Program} {w : World} {K : PySem.W.Frag} {mg : Str → Option Value} {base : Heap} (Z : Wd K mg) {ct : Ct} (hc : ct.f = ctF K) {x qual : Str} {params : Arguments} {f : Addr} {fd : FuncData} (D : FunD K x qual params (defBody (top 13)) (defScope (top 13)) [] [] f fd) : FnOk P w K mg base (L2.CX P w) 1 f fd (["value"] : List PySem.Str) (spM ⟨K, ct⟩ F_is_list) := by
  obtain ⟨f0, T0, L0, m0, c0, q0, t0, g0, n0⟩ := ct
  obtain rfl : f0 = ctF K := hc
  refine fn_mir (k := 0) (ct := ⟨ctF K, T0, L0, m0, c0, q0, t0, g0, n0⟩) (fb := fb_is_list) D sc_is_list rfl rfl (fun cdv A outer s H E hr tk => ?_)
  exact (ss_one (s_ret (v_val (e_isiT Z.objs rfl Z.free_isinstance (pa_cls2 (pe_bltn (v := .ty "list") (u := .type "list") rfl Z.free_list (by decide +kernel) rfl) (pe_bltn (v := .ty "tuple") (u := .type "tuple") rfl Z.free_tuple (by decide +kernel) rfl)) (by decide) (.cons (.ty "list") (.cons (.ty "tuple") .nil)) (fun d t h => kit_2 ((kit_b (by decide) Z.ask_list) d t h) ((kit_b (by decide) Z.ask_tuple) d t h)) (k_name (pv 0))))))
theorem at_is_list {P : Program} {w : World} {K : PySem.W.Frag} {mg : Str → Option Value} {base : Heap} (Z : Wd K mg) {ct : Ct} (hc : ct.f = ctF K) : FnAt P w K mg base ct 1 "is_list" (["value"] : List PySem.Str) F_is_list := by
  obtain ⟨fd, D⟩ := Z.c.d.def_ 11
  exact ⟨⟨_, fd, ok_is_list Z hc D, Z.glo_is_list, D.kp, D.bindsN fun _ _ _ _ _ _ us hl => match us, hl with | [_], _ => rfl⟩⟩
theorem sc_is_lot_value : FnScope (["net", "value", "near", "far", "one"] : List PySem.Str) (["net", "value"] : List PySem.Str) (defScope (top 42)) := ⟨rfl, rfl, rfl, by decide +kernel, rfl, by decide +kernel, by decide +kernel⟩
theorem ok_is_lot_value {P : Program} {w : World} {K : PySem.W.Frag} {mg : Str → Option Value} {base : Heap} (Z : Wd K mg) {ct : Ct} (hc : ct.f = ctF K) {x qual : Str} {params : Arguments} {f : Addr} {fd : FuncData} (D : FunD K x qual params (defBody (top 42)) (defScope (top 42)) [] [] f fd) : FnOk P w K mg base (L2.CX P w) 3 f fd (["net", "value"] : List PySem.Str) (spM ⟨K, ct⟩ F_is_lot_value) := by
  obtain ⟨f0, T0, L0, m0, c0, q0, t0, g0, n0⟩ := ct
  obtain rfl : f0 = ctF K := hc
  refine fn_mir (k := 2) (ct := ⟨ctF K, T0, L0, m0, c0, q0, t0, g0, n0⟩) (fb := fb_is_lot_value) D sc_is_lot_value rfl rfl (fun cdv A outer s H E hr tk => ?_)
  exact (ss_cons (s_if (t_w (w_or (t_not (t_val (e_frz (v_call (at_is_list Z rfl) (hr.mono (by decide)) rfl tk (a_cons (k_name (pv 1)) a_nil))))) (w_or1 (t_not (t_val (e_frz (v_callB (cr_all rfl) g_all rfl Z.free_all (by decide +kernel) (a_cons (k_val (e_frz (v_lc (own := [("one", 4)]) rfl sc_is_lot_value.nd (i_seq (e_name (pv 1))) (blkOk_by (by kernel_rfl)) (by decide) (fun _ _ _ _ _ => (g_name (pg_nm 4 sc_is_lot_value.nd))) (fun _ _ _ _ _ => pts_yes) (fun _ _ _ _ _ => (e_and (e_frz (v_call (at_is_count Z rfl) (hr.mono (by decide)) rfl takes0 (a_cons (k_val (e_name (pv 4))) a_nil))) (e_one (e_cp x_lt (k_name (pv 4)) (k_val (e_frz (v_callB cr_len g_len rfl Z.free_len (by decide +kernel) (a_cons (k_val (e_fld 0 1 (k_name (pv 0)) rfl Z.cls_Net.obj.cls (Z.cls_Net.noat "own_exits" (by decide)))) a_nil)))) (nomark _)))))))) a_nil)))))))) (ss_one (s_ret (v_val e_bl))) ss_nil)
    (ss_one (s_ret (v_callB (cr_all rfl) g_all rfl Z.free_all (by decide +kernel) (a_cons (k_val (e_frz (v_lc (own := [("near", 2), ("far", 3)]) rfl sc_is_lot_value.nd (i_zip2 rfl Z.free_zip (a_cons (k_val (e_name (pv 1))) (a_cons (k_val (e_frz (v_slice (k_name (pv 1)) (o_some (k_val e_int)) o_none))) a_nil))) (blkOk_by (by kernel_rfl)) (by decide) (fun _ _ _ _ _ => (g_tup (is := [2, 3]) rfl (pgs_cons (pg_nm 2 sc_is_lot_value.nd) (pgs_cons (pg_nm 3 sc_is_lot_value.nd) pgs_nil)))) (fun _ _ _ _ _ => pts_yes) (fun _ _ _ _ _ => (e_cp x_lt (k_name (pv 2)) (k_name (pv 3)) (nomark _)))))) a_nil)))))
theorem at_is_lot_value {P : Program} {w : World} {K : PySem.W.Frag} {mg : Str → Option Value} {base : Heap} (Z : Wd K mg) {ct : Ct} (hc : ct.f = ctF K) : FnAt P w K mg base ct 3 "is_lot_value" (["net", "value"] : List PySem.Str) F_is_lot_value := by
  obtain ⟨fd, D⟩ := Z.c.d.def_ 12
  exact ⟨⟨_, fd, ok_is_lot_value Z hc D, Z.glo_is_lot_value, D.kp, D.bindsN fun _ _ _ _ _ _ us hl => match us, hl with | [_, _], _ => rfl⟩⟩
theorem sc_want_net : FnScope (["value"] : List PySem.Str) (["value"] : List PySem.Str) (defScope (top 25)) := ⟨rfl, rfl, rfl, by decide +kernel, rfl, by decide +kernel, by decide +kernel⟩
theorem ok_want_net {P : Program} {w : World} {K : PySem.W.Frag} {mg : Str → Option Value} {base : Heap} (Z : Wd K mg) {ct : Ct} (hc : ct.f = ctF K) {x qual : Str} {params : Arguments} {f : Addr} {fd : FuncData} (D : FunD K x qual params (defBody (top 25)) (defScope (top 25)) [] [] f fd) : FnOk P w K mg base (L2.CX P w) 3 f fd (["value"] : List PySem.Str) (spM ⟨K, ct⟩ F_want_net) := by
  obtain ⟨f0, T0, L0, m0, c0, q0, t0, g0, n0⟩ := ct
  obtain rfl : f0 = ctF K := hc
  refine fn_mir (k := 2) (ct := ⟨ctF K, T0, L0, m0, c0, q0, t0, g0, n0⟩) (fb := fb_want_net) D sc_want_net rfl rfl (fun cdv A outer s H E hr tk => ?_)
  exact (ss_cons (s_if (t_not (t_val (e_isi Z.objs rfl Z.free_isinstance (pe_glob (v := .ref _) rfl Z.glo_Net rfl) (.own _) (Z.kit_Net rfl) (k_name (pv 0))))) (ss_one (s_raiseA (ex_InvalidNet Z rfl) rfl tk (hr.mono (by decide)) rfl (e_name (pv 0)))) ss_nil)
    (ss_one (s_retV (pv 0))))
theorem at_want_net {P : Program} {w : World} {K : PySem.W.Frag} {mg : Str → Option Value} {base : Heap} (Z : Wd K mg) {ct : Ct} (hc : ct.f = ctF K) : FnAt P w K mg base ct 3 "want_net" (["value"] : List PySem.Str) F_want_net := by
  obtain ⟨fd, D⟩ := Z.c.d.def_ 13
  exact ⟨⟨_, fd, ok_want_net Z hc D, Z.glo_want_net, D.kp, D.bindsN fun _ _ _ _ _ _ us hl => match us, hl with | [_], _ => rfl⟩⟩
theorem sc_is_cut : FnScope (["net", "value", "told"] : List PySem.Str) (["net", "value"] : List PySem.Str) (defScope (top 43)) := ⟨rfl, rfl, rfl, by decide +kernel, rfl, by decide +kernel, by decide +kernel⟩
theorem ok_is_cut {P : Program} {w : World} {K : PySem.W.Frag} {mg : Str → Option Value} {base : Heap} (Z : Wd K mg) {ct : Ct} (hc : ct.f = ctF K) {x qual : Str} {params : Arguments} {f : Addr} {fd : FuncData} (D : FunD K x qual params (defBody (top 43)) (defScope (top 43)) [] [] f fd) : FnOk P w K mg base (L2.CX P w) 5 f fd (["net", "value"] : List PySem.Str) (spM ⟨K, ct⟩ F_is_cut) := by
  obtain ⟨f0, T0, L0, m0, c0, q0, t0, g0, n0⟩ := ct
  obtain rfl : f0 = ctF K := hc
  refine fn_mir (k := 4) (ct := ⟨ctF K, T0, L0, m0, c0, q0, t0, g0, n0⟩) (fb := fb_is_cut) D sc_is_cut rfl rfl (fun cdv A outer s H E hr tk => ?_)
  exact (ss_cons (s_set sc_is_cut.nd rfl (by first | exact Or.inl rfl | exact Or.inr rfl) (v_call (at_want_net Z rfl) (hr.mono (by decide)) rfl tk (a_cons (k_name (pv 0)) a_nil)))
    (ss_one (s_ret (v_val (e_and (e_frz (v_call (at_is_lot_value Z rfl) (hr.mono (by decide)) rfl tk (a_cons (k_val (e_name (pv 2))) (a_cons (k_name (pv 1)) a_nil)))) (e_one (e_frz (v_call (at_is_cut_lot Z rfl) (hr.mono (by decide)) rfl tk (a_cons (k_val (e_name (pv 2))) (a_cons (k_val (e_frz (v_callTy call_list_of g_list rfl Z.free_list (by decide +kernel) (a_cons (k_name (pv 1)) a_nil)))) a_nil))))))))))
theorem at_is_cut {P : Program} {w : World} {K : PySem.W.Frag} {mg : Str → Option Value} {base : Heap} (Z : Wd K mg) {ct : Ct} (hc : ct.f = ctF K) : FnAt P w K mg base ct 5 "is_cut" (["net", "value"] : List PySem.Str) F_is_cut := by
  obtain ⟨fd, D⟩ := Z.c.d.def_ 14
  exact ⟨⟨_, fd, ok_is_cut Z hc D, Z.glo_is_cut, D.kp, D.bindsN fun _ _ _ _ _ _ us hl => match us, hl with | [_, _], _ => rfl⟩⟩
theorem sc_is_closed_row : FnScope (["net", "value", "track", "onward"] : List PySem.Str) (["net", "value"] : List PySem.Str) (defScope (top 41)) := ⟨rfl, rfl, rfl, by decide +kernel, rfl, by decide +kernel, by decide +kernel⟩
theorem ok_is_closed_row {P : Program} {w : World} {K : PySem.W.Frag} {mg : Str → Option Value} {base : Heap} (Z : Wd K mg) {ct : Ct} (hc : ct.f = ctF K) {x qual : Str} {params : Arguments} {f : Addr} {fd : FuncData} (D : FunD K x qual params (defBody (top 41)) (defScope (top 41)) [] [] f fd) : FnOk P w K mg base (L2.CX P w) 2 f fd (["net", "value"] : List PySem.Str) (spM ⟨K, ct⟩ F_is_closed_row) := by
  obtain ⟨f0, T0, L0, m0, c0, q0, t0, g0, n0⟩ := ct
  obtain rfl : f0 = ctF K := hc
  refine fn_mir (k := 1) (ct := ⟨ctF K, T0, L0, m0, c0, q0, t0, g0, n0⟩) (fb := fb_is_closed_row) D sc_is_closed_row rfl rfl (fun cdv A outer s H E hr tk => ?_)
  exact (ss_cons (s_for (passes_of rfl) rfl (i_zip2 rfl Z.free_zip (a_cons (k_val (e_name (pv 1))) (a_cons (k_val (e_frz (v_add (k_val (e_frz (v_slice (k_name (pv 1)) (o_some (k_val e_int)) o_none))) (k_val (e_frz (v_slice (k_name (pv 1)) o_none (o_some (k_val e_int)))))))) a_nil))) (g_tup (is := [2, 3]) rfl (pgs_cons (pg_nm 2 sc_is_closed_row.nd) (pgs_cons (pg_nm 3 sc_is_closed_row.nd) pgs_nil))) (ss_one (s_if (t_cp (x_ne hr) (k_val (e_ixA (hu1 hr) (k_val (e_fld 0 2 (k_name (pv 0)) rfl Z.cls_Net.obj.cls (Z.cls_Net.noat "own_targets" (by decide)))) (k_name (pv 2)))) (k_val (e_frz (v_call (at_point_by Z rfl) (hr.mono (by decide)) rfl tk (a_cons (k_name (pv 0)) (a_cons (k_val (e_name (pv 3))) a_nil))))) (nomark _)) (ss_one (s_ret (v_val e_bl))) ss_nil)))
    (ss_one (s_ret (v_val e_bl))))
theorem at_is_closed_row {P : Program} {w : World} {K : PySem.W.Frag} {mg : Str → Option Value} {base : Heap} (Z : Wd K mg) {ct : Ct} (hc : ct.f = ctF K) : FnAt P w K mg base ct 2 "is_closed_row" (["net", "value"] : List PySem.Str) F_is_closed_row := by
  obtain ⟨fd, D⟩ := Z.c.d.def_ 15
  exact ⟨⟨_, fd, ok_is_closed_row Z hc D, Z.glo_is_closed_row, D.kp, D.bindsN fun _ _ _ _ _ _ us hl => match us, hl with | [_, _], _ => rfl⟩⟩
theorem sc_is_rising : FnScope (["value", "near", "far"] : List PySem.Str) (["value"] : List PySem.Str) (defScope (top 14)) := ⟨rfl, rfl, rfl, by decide +kernel, rfl, by decide +kernel, by decide +kernel⟩
theorem ok_is_rising {P : Program} {w : World} {K : PySem.W.Frag} {mg : Str → Option Value} {base : Heap} (Z : Wd K mg) {ct : Ct} (hc : ct.f = ctF K) {x qual : Str} {params : Arguments} {f : Addr} {fd : FuncData} (D : FunD K x qual params (defBody (top 14)) (defScope (top 14)) [] [] f fd) : FnOk P w K mg base (L2.CX P w) 1 f fd (["value"] : List PySem.Str) (spM ⟨K, ct⟩ F_is_rising) := by
  obtain ⟨f0, T0, L0, m0, c0, q0, t0, g0, n0⟩ := ct
  obtain rfl : f0 = ctF K := hc
  refine fn_mir (k := 0) (ct := ⟨ctF K, T0, L0, m0, c0, q0, t0, g0, n0⟩) (fb := fb_is_rising) D sc_is_rising rfl rfl (fun cdv A outer s H E hr tk => ?_)
  exact (ss_one (s_ret (v_callB (cr_all rfl) g_all rfl Z.free_all (by decide +kernel) (a_cons (k_val (e_frz (v_lc (own := [("near", 1), ("far", 2)]) rfl sc_is_rising.nd (i_zip2 rfl Z.free_zip (a_cons (k_val (e_name (pv 0))) (a_cons (k_val (e_frz (v_slice (k_name (pv 0)) (o_some (k_val e_int)) o_none))) a_nil))) (blkOk_by (by kernel_rfl)) (by decide) (fun _ _ _ _ _ => (g_tup (is := [1, 2]) rfl (pgs_cons (pg_nm 1 sc_is_rising.nd) (pgs_cons (pg_nm 2 sc_is_rising.nd) pgs_nil)))) (fun _ _ _ _ _ => pts_yes) (fun _ _ _ _ _ => (e_cp x_lt (k_name (pv 1)) (k_name (pv 2)) (nomark _)))))) a_nil))))
theorem at_is_rising {P : Program} {w : World} {K : PySem.W.Frag} {mg : Str → Option Value} {base : Heap} (Z : Wd K mg) {ct : Ct} (hc : ct.f = ctF K) : FnAt P w K mg base ct 1 "is_rising" (["value"] : List PySem.Str) F_is_rising := by
  obtain ⟨fd, D⟩ := Z.c.d.def_ 16
  exact ⟨⟨_, fd, ok_is_rising Z hc D, Z.glo_is_rising, D.kp, D.bindsN fun _ _ _ _ _ _ us hl => match us, hl with | [_], _ => rfl⟩⟩
theorem sc_is_lot_of : FnScope (["net", "value", "point"] : List PySem.Str) (["net", "value"] : List PySem.Str) (defScope (top 26)) := ⟨rfl, rfl, rfl, by decide +kernel, rfl, by decide +kernel, by decide +kernel⟩
theorem ok_is_lot_of {P : Program} {w : World} {K : PySem.W.Frag} {mg : Str → Option Value} {base : Heap} (Z : Wd K mg) {ct : Ct} (hc : ct.f = ctF K) {x qual : Str} {params : Arguments} {f : Addr} {fd : FuncData} (D : FunD K x qual params (defBody (top 26)) (defScope (top 26)) [] [] f fd) : FnOk P w K mg base (L2.CX P w) 3 f fd (["net", "value"] : List PySem.Str) (spM ⟨K, ct⟩ F_is_lot_of) := by
  obtain ⟨f0, T0, L0, m0, c0, q0, t0, g0, n0⟩ := ct
  obtain rfl : f0 = ctF K := hc
  refine fn_mir (k := 2) (ct := ⟨ctF K, T0, L0, m0, c0, q0, t0, g0, n0⟩) (fb := fb_is_lot_of) D sc_is_lot_of rfl rfl (fun cdv A outer s H E hr tk => ?_)
  exact (ss_cons (s_if (t_w (w_or (t_not (t_val (e_frz (v_call (at_is_list Z rfl) (hr.mono (by decide)) rfl tk (a_cons (k_name (pv 1)) a_nil))))) (w_or1 (t_not (t_val (e_frz (v_callB (cr_all rfl) g_all rfl Z.free_all (by decide +kernel) (a_cons (k_val (e_frz (v_lc (own := [("point", 2)]) rfl sc_is_lot_of.nd (i_seq (e_name (pv 1))) (blkOk_by (by kernel_rfl)) (by decide) (fun _ _ _ _ _ => (g_name (pg_nm 2 sc_is_lot_of.nd))) (fun _ _ _ _ _ => pts_yes) (fun _ _ _ _ _ => (e_and (e_frz (v_call (at_is_count Z rfl) (hr.mono (by decide)) rfl takes0 (a_cons (k_val (e_name (pv 2))) a_nil))) (e_one (e_cp x_lt (k_name (pv 2)) (k_val (e_frz (v_callB cr_len g_len rfl Z.free_len (by decide +kernel) (a_cons (k_val (e_fld 0 1 (k_name (pv 0)) rfl Z.cls_Net.obj.cls (Z.cls_Net.noat "own_exits" (by decide)))) a_nil)))) (nomark _)))))))) a_nil)))))))) (ss_one (s_ret (v_val e_bl))) ss_nil)
    (ss_one (s_ret (v_call (at_is_rising Z rfl) (hr.mono (by decide)) rfl tk (a_cons (k_name (pv 1)) a_nil)))))
theorem at_is_lot_of {P : Program} {w : World} {K : PySem.W.Frag} {mg : Str → Option Value} {base : Heap} (Z : Wd K mg) {ct : Ct} (hc : ct.f = ctF K) : FnAt P w K mg base ct 3 "is_lot_of" (["net", "value"] : List PySem.Str) F_is_lot_of := by
  obtain ⟨fd, D⟩ := Z.c.d.def_ 17
  exact ⟨⟨_, fd, ok_is_lot_of Z hc D, Z.glo_is_lot_of, D.kp, D.bindsN fun _ _ _ _ _ _ us hl => match us, hl with | [_, _], _ => rfl⟩⟩
theorem sc_want_lot : FnScope (["net", "value"] : List PySem.Str) (["net", "value"] : List PySem.Str) (defScope (top 27)) := ⟨rfl, rfl, rfl, by decide +kernel, rfl, by decide +kernel, by decide +kernel⟩
theorem ok_want_lot {P : Program} {w : World} {K : PySem.W.Frag} {mg : Str → Option Value} {base : Heap} (Z : Wd K mg) {ct : Ct} (hc : ct.f = ctF K) {x qual : Str} {params : Arguments} {f : Addr} {fd : FuncData} (D : FunD K x qual params (defBody (top 27)) (defScope (top 27)) [] [] f fd) : FnOk P w K mg base (L2.CX P w) 4 f fd (["net", "value"] : List PySem.Str) (spM ⟨K, ct⟩ F_want_lot) := by
  obtain ⟨f0, T0, L0, m0, c0, q0, t0, g0, n0⟩ := ct
  obtain rfl : f0 = ctF K := hc
  refine fn_mir (k := 3) (ct := ⟨ctF K, T0, L0, m0, c0, q0, t0, g0, n0⟩) (fb := fb_want_lot) D sc_want_lot rfl rfl (fun cdv A outer s H E hr tk => ?_)
  exact (ss_cons (s_if (t_not (t_val (e_frz (v_call (at_is_lot_of Z rfl) (hr.mono (by decide)) rfl tk (a_cons (k_name (pv 0)) (a_cons (k_name (pv 1)) a_nil)))))) (ss_one (s_raiseA (ex_InvalidLot Z rfl) rfl tk (hr.mono (by decide)) rfl (e_name (pv 1)))) ss_nil)
    (ss_one (s_ret (v_callTy call_list_of g_list rfl Z.free_list (by decide +kernel) (a_cons (k_name (pv 1)) a_nil)))))
theorem at_want_lot {P : Program} {w : World} {K : PySem.W.Frag} {mg : Str → Option Value} {base : Heap} (Z : Wd K mg) {ct : Ct} (hc : ct.f = ctF K) : FnAt P w K mg base ct 4 "want_lot" (["net", "value"] : List PySem.Str) F_want_lot := by
  obtain ⟨fd, D⟩ := Z.c.d.def_ 18
  exact ⟨⟨_, fd, ok_want_lot Z hc D, Z.glo_want_lot, D.kp, D.bindsN fun _ _ _ _ _ _ us hl => match us, hl with | [_, _], _ => rfl⟩⟩
theorem sc_is_ring_without : FnScope (["net", "lot", "value", "told", "barred", "track"] : List PySem.Str) (["net", "lot", "value"] : List PySem.Str) (defScope (top 45)) := ⟨rfl, rfl, rfl, by decide +kernel, rfl, by decide +kernel, by decide +kernel⟩
theorem ok_is_ring_without {P : Program} {w : World} {K : PySem.W.Frag} {mg : Str → Option Value} {base : Heap} (Z : Wd K mg) {ct : Ct} (hc : ct.f = ctF K) {x qual : Str} {params : Arguments} {f : Addr} {fd : FuncData} (D : FunD K x qual params (defBody (top 45)) (defScope (top 45)) [] [] f fd) : FnOk P w K mg base (L2.CX P w) 5 f fd (["net", "lot", "value"] : List PySem.Str) (spM ⟨K, ct⟩ F_is_ring_without) := by
  obtain ⟨f0, T0, L0, m0, c0, q0, t0, g0, n0⟩ := ct
  obtain rfl : f0 = ctF K := hc
  refine fn_mir (k := 4) (ct := ⟨ctF K, T0, L0, m0, c0, q0, t0, g0, n0⟩) (fb := fb_is_ring_without) D sc_is_ring_without rfl rfl (fun cdv A outer s H E hr tk => ?_)
  exact (ss_cons (s_set sc_is_ring_without.nd rfl (by first | exact Or.inl rfl | exact Or.inr rfl) (v_call (at_want_net Z rfl) (hr.mono (by decide)) rfl tk (a_cons (k_name (pv 0)) a_nil)))
    (ss_cons (s_set sc_is_ring_without.nd rfl (by first | exact Or.inl rfl | exact Or.inr rfl) (v_call (at_want_lot Z rfl) (hr.mono (by decide)) rfl tk (a_cons (k_val (e_name (pv 3))) (a_cons (k_name (pv 1)) a_nil))))
    (ss_cons (s_if (t_w (w_or (t_not (t_val (e_frz (v_call (at_is_list Z rfl) (hr.mono (by decide)) rfl tk (a_cons (k_name (pv 2)) a_nil))))) (w_or1 (t_cp (x_eq hr) (k_val (e_frz (v_callB cr_len g_len rfl Z.free_len (by decide +kernel) (a_cons (k_name (pv 2)) a_nil)))) (k_val e_int) (nomark _))))) (ss_one (s_ret (v_val e_bl))) ss_nil)
    (ss_cons (s_if (t_not (t_val (e_frz (v_callB (cr_all rfl) g_all rfl Z.free_all (by decide +kernel) (a_cons (k_val (e_frz (v_lc (own := [("track", 5)]) rfl sc_is_ring_without.nd (i_seq (e_name (pv 2))) (blkOk_by (by kernel_rfl)) (by decide) (fun _ _ _ _ _ => (g_name (pg_nm 5 sc_is_ring_without.nd))) (fun _ _ _ _ _ => pts_yes) (fun _ _ _ _ _ => (e_and (e_frz (v_call (at_is_count Z rfl) (hr.mono (by decide)) rfl takes0 (a_cons (k_val (e_name (pv 5))) a_nil))) (e_one (e_cp x_lt (k_name (pv 5)) (k_val (e_frz (v_callB cr_len g_len rfl Z.free_len (by decide +kernel) (a_cons (k_val (e_fld 0 2 (k_name (pv 3)) rfl Z.cls_Net.obj.cls (Z.cls_Net.noat "own_targets" (by decide)))) a_nil)))) (nomark _)))))))) a_nil))))) (ss_one (s_ret (v_val e_bl))) ss_nil)
    (ss_cons (s_if (t_val (e_frz (v_callB (cr_any rfl) g_any rfl Z.free_any (by decide +kernel) (a_cons (k_val (e_frz (v_lc (own := [("track", 5)]) rfl sc_is_ring_without.nd (i_seq (e_name (pv 2))) (blkOk_by (by kernel_rfl)) (by decide) (fun _ _ _ _ _ => (g_name (pg_nm 5 sc_is_ring_without.nd))) (fun _ _ _ _ _ => pts_yes) (fun _ _ _ _ _ => (e_cp (x_in hr) (k_val (e_frz (v_call (at_point_by Z rfl) (hr.mono (by decide)) rfl takes0 (a_cons (k_val (e_name (pv 3))) (a_cons (k_val (e_name (pv 5))) a_nil))))) (k_name (pv 4)) (by with_unfolding_all rfl)))))) a_nil)))) (ss_one (s_ret (v_val e_bl))) ss_nil)
    (ss_one (s_ret (v_call (at_is_closed_row Z rfl) (hr.mono (by decide)) rfl tk (a_cons (k_val (e_name (pv 3))) (a_cons (k_val (e_frz (v_callTy call_list_of g_list rfl Z.free_list (by decide +kernel) (a_cons (k_name (pv 2)) a_nil)))) a_nil))))))))))
theorem at_is_ring_without {P : Program} {w : World} {K : PySem.W.Frag} {mg : Str → Option Value} {base : Heap} (Z : Wd K mg) {ct : Ct} (hc : ct.f = ctF K) : FnAt P w K mg base ct 5 "is_ring_without" (["net", "lot", "value"] : List PySem.Str) F_is_ring_without := by
  obtain ⟨fd, D⟩ := Z.c.d.def_ 19
  exact ⟨⟨_, fd, ok_is_ring_without Z hc D, Z.glo_is_ring_without, D.kp, D.bindsN fun _ _ _ _ _ _ us hl => match us, hl with | [_, _, _], _ => rfl⟩⟩
theorem kw_is_ring_without_0_net_lot_value {P : Program} {w : World} {K : PySem.W.Frag} {mg : Str → Option Value} {base : Heap} (Z : Wd K mg) {ct : Ct} (hc : ct.f = ctF K) : FnKw P w K mg base ct 5 "is_ring_without" (["net", "lot", "value"] : List PySem.Str) 0 (["net", "lot", "value"] : List PySem.Str) [0, 1, 2] F_is_ring_without := by
  obtain ⟨f0, T0, L0, m0, c0, q0, t0, g0, n0⟩ := ct
  obtain rfl : f0 = ctF K := hc
  obtain ⟨fd, D⟩ := Z.c.d.def_ 19
  exact ⟨⟨_, fd, ok_is_ring_without Z rfl D, Z.glo_is_ring_without, D.kp, kbn_of D fun _ _ _ _ _ _ us ws h1 h2 => match us, ws, h1, h2 with | [], [_, _, _], _, _ => rfl⟩⟩
theorem sc_kept_by_rings : FnScope (["net", "lot", "left", "led_to", "late", "point", "track"] : List PySem.Str) (["net", "lot"] : List PySem.Str) (defScope (top 34)) := ⟨rfl, rfl, rfl, by decide +kernel, rfl, by decide +kernel, by decide +kernel⟩
theorem ok_kept_by_rings {P : Program} {w : World} {K : PySem.W.Frag} {mg : Str → Option Value} {base : Heap} (Z : Wd K mg) {ct : Ct} (hc : ct.f = ctF K) {x qual : Str} {params : Arguments} {f : Addr} {fd : FuncData} (D : FunD K x qual params (defBody (top 34)) (defScope (top 34)) [] [] f fd) : FnOk P w K mg base (L2.CX P w) 3 f fd (["net", "lot"] : List PySem.Str) (spM ⟨K, ct⟩ F_kept_by_rings) := by
  obtain ⟨f0, T0, L0, m0, c0, q0, t0, g0, n0⟩ := ct
  obtain rfl : f0 = ctF K := hc
  refine fn_mir (k := 2) (ct := ⟨ctF K, T0, L0, m0, c0, q0, t0, g0, n0⟩) (fb := fb_kept_by_rings) D sc_kept_by_rings rfl rfl (fun cdv A outer s H E hr tk => ?_)
  exact (ss_cons (s_setLc (own := [("point", 5)]) rfl sc_kept_by_rings.nd rfl rfl (sw_true rfl rfl rfl (by kernel_rfl)) (i_range1 rfl Z.free_range (a_cons (k_val (e_frz (v_callB cr_len g_len rfl Z.free_len (by decide +kernel) (a_cons (k_val (e_fld 0 1 (k_name (pv 0)) rfl Z.cls_Net.obj.cls (Z.cls_Net.noat "own_exits" (by decide)))) a_nil)))) a_nil)) (blkOk_by (by kernel_rfl)) (by decide) (fun _ _ _ _ _ => (g_name (pg_nm 5 sc_kept_by_rings.nd))) (fun _ _ _ _ _ => (pts_one (t_cp (x_notIn hr) (k_name (pv 5)) (k_name (pv 1)) (by with_unfolding_all rfl)))) (fun _ _ _ _ _ => (e_name (pv 5))))
    (ss_cons (s_set sc_kept_by_rings.nd rfl (by first | exact Or.inl rfl | exact Or.inr rfl) (v_lc (own := [("track", 6)]) rfl sc_kept_by_rings.nd (i_seq (e_frz (v_call (at_tracks_between Z rfl) (hr.mono (by decide)) rfl tk (a_cons (k_name (pv 0)) (a_cons (k_val (e_name (pv 2))) a_nil))))) (blkOk_by (by kernel_rfl)) (by decide) (fun _ _ _ _ _ => (g_name (pg_nm 6 sc_kept_by_rings.nd))) (fun _ _ _ _ _ => pts_yes) (fun _ _ _ _ _ => (e_ixA (hu1 hr) (k_val (e_fld 0 2 (k_name (pv 0)) rfl Z.cls_Net.obj.cls (Z.cls_Net.noat "own_targets" (by decide)))) (k_name (pv 6))))))
    (ss_cons (s_setLc (own := [("point", 5)]) rfl sc_kept_by_rings.nd rfl rfl (sw_true rfl rfl rfl (by kernel_rfl)) (i_seq (e_name (pv 2))) (blkOk_by (by kernel_rfl)) (by decide) (fun _ _ _ _ _ => (g_name (pg_nm 5 sc_kept_by_rings.nd))) (fun _ _ _ _ _ => (pts_one (t_cp (x_in hr) (k_name (pv 5)) (k_name (pv 3)) (by with_unfolding_all rfl)))) (fun _ _ _ _ _ => (e_name (pv 5))))
    (ss_cons (s_whileC (s_while (passes_of rfl) (t_cp x_lt (k_val (e_frz (v_callB cr_len g_len rfl Z.free_len (by decide +kernel) (a_cons (k_name (pv 4)) a_nil)))) (k_val (e_frz (v_callB cr_len g_len rfl Z.free_len (by decide +kernel) (a_cons (k_name (pv 2)) a_nil)))) (nomark _)) (ss_cons (s_set sc_kept_by_rings.nd rfl (by first | exact Or.inl rfl | exact Or.inr rfl) (v_val (e_name (pv 4))))
    (ss_cons (s_set sc_kept_by_rings.nd rfl (by first | exact Or.inl rfl | exact Or.inr rfl) (v_lc (own := [("track", 6)]) rfl sc_kept_by_rings.nd (i_seq (e_frz (v_call (at_tracks_between Z rfl) (hr.mono (by decide)) rfl tk (a_cons (k_name (pv 0)) (a_cons (k_val (e_name (pv 2))) a_nil))))) (blkOk_by (by kernel_rfl)) (by decide) (fun _ _ _ _ _ => (g_name (pg_nm 6 sc_kept_by_rings.nd))) (fun _ _ _ _ _ => pts_yes) (fun _ _ _ _ _ => (e_ixA (hu1 hr) (k_val (e_fld 0 2 (k_name (pv 0)) rfl Z.cls_Net.obj.cls (Z.cls_Net.noat "own_targets" (by decide)))) (k_name (pv 6))))))
    (ss_one (s_setLc (own := [("point", 5)]) rfl sc_kept_by_rings.nd rfl rfl (sw_true rfl rfl rfl (by kernel_rfl)) (i_seq (e_name (pv 2))) (blkOk_by (by kernel_rfl)) (by decide) (fun _ _ _ _ _ => (g_name (pg_nm 5 sc_kept_by_rings.nd))) (fun _ _ _ _ _ => (pts_one (t_cp (x_in hr) (k_name (pv 5)) (k_name (pv 3)) (by with_unfolding_all rfl)))) (fun _ _ _ _ _ => (e_name (pv 5)))))))))
    (ss_one (s_retV (pv 2)))))))
theorem at_kept_by_rings {P : Program} {w : World} {K : PySem.W.Frag} {mg : Str → Option Value} {base : Heap} (Z : Wd K mg) {ct : Ct} (hc : ct.f = ctF K) : FnAt P w K mg base ct 3 "kept_by_rings" (["net", "lot"] : List PySem.Str) F_kept_by_rings := by
  obtain ⟨fd, D⟩ := Z.c.d.def_ 20
  exact ⟨⟨_, fd, ok_kept_by_rings Z hc D, Z.glo_kept_by_rings, D.kp, D.bindsN fun _ _ _ _ _ _ us hl => match us, hl with | [_, _], _ => rfl⟩⟩
theorem sc_ring_of_tracks : FnScope (["net", "lot", "left", "into", "track", "met", "back", "here"] : List PySem.Str) (["net", "lot"] : List PySem.Str) (defScope (top 35)) := ⟨rfl, rfl, rfl, by decide +kernel, rfl, by decide +kernel, by decide +kernel⟩
theorem ok_ring_of_tracks {P : Program} {w : World} {K : PySem.W.Frag} {mg : Str → Option Value} {base : Heap} (Z : Wd K mg) {ct : Ct} (hc : ct.f = ctF K) {x qual : Str} {params : Arguments} {f : Addr} {fd : FuncData} (D : FunD K x qual params (defBody (top 35)) (defScope (top 35)) [] [] f fd) : FnOk P w K mg base (L2.CX P w) 4 f fd (["net", "lot"] : List PySem.Str) (spM ⟨K, ct⟩ F_ring_of_tracks) := by
  obtain ⟨f0, T0, L0, m0, c0, q0, t0, g0, n0⟩ := ct
  obtain rfl : f0 = ctF K := hc
  refine fn_mir (k := 3) (ct := ⟨ctF K, T0, L0, m0, c0, q0, t0, g0, n0⟩) (fb := fb_ring_of_tracks) D sc_ring_of_tracks rfl rfl (fun cdv A outer s H E hr tk => ?_)
  exact (ss_cons (s_set sc_ring_of_tracks.nd rfl (by first | exact Or.inl rfl | exact Or.inr rfl) (v_call (at_kept_by_rings Z rfl) (hr.mono (by decide)) rfl tk (a_cons (k_name (pv 0)) (a_cons (k_name (pv 1)) a_nil))))
    (ss_cons (s_if (t_cp (x_eq hr) (k_name (pv 2)) (k_val (e_frz (v_lst a_nil))) (nomark _)) (ss_one (s_ret (v_val e_non))) ss_nil)
    (ss_cons (s_set sc_ring_of_tracks.nd rfl (by first | exact Or.inl rfl | exact Or.inr rfl) v_dic0)
    (ss_cons (s_for (passes_of rfl) rfl (i_seq (e_frz (v_call (at_tracks_between Z rfl) (hr.mono (by decide)) rfl tk (a_cons (k_name (pv 0)) (a_cons (k_val (e_name (pv 2))) a_nil))))) (g_name (pg_nm 4 sc_ring_of_tracks.nd)) (ss_one (s_asgT (e_name (pv 4)) (h_storeK (hu1 hr) (pv 3) (k_val (e_ixA (hu1 hr) (k_val (e_fld 0 2 (k_name (pv 0)) rfl Z.cls_Net.obj.cls (Z.cls_Net.noat "own_targets" (by decide)))) (k_name (pv 4))))))))
    (ss_cons (s_par3 rfl sc_ring_of_tracks.nd rfl rfl rfl (by decide) (by decide) (by decide) rfl rfl rfl v_dic0 (v_lst a_nil) (v_val (e_ixA (hu1 hr) (k_name (pv 2)) (k_val e_int))) rfl)
    (ss_cons (s_whileC (s_while (passes_of rfl) (t_cp (x_notInK hr) (k_name (pv 7)) (k_name (pv 5)) (by with_unfolding_all rfl)) (ss_cons (s_asgT (e_frz (v_callB cr_len g_len rfl Z.free_len (by decide +kernel) (a_cons (k_name (pv 6)) a_nil))) (h_storeK (hu1 hr) (pv 5) (k_name (pv 7))))
    (ss_cons (s_expr (v_val (e_mut PySem.F.plainAttrs_list PySem.F.slot_list_append PySem.F.type_list_append mt_append mutG_append (pv 6) (a_cons (k_val (e_ixA (hu1 hr) (k_name (pv 3)) (k_name (pv 7)))) a_nil))))
    (ss_one (s_set sc_ring_of_tracks.nd rfl (by first | exact Or.inl rfl | exact Or.inr rfl) (v_call (at_point_by Z rfl) (hr.mono (by decide)) rfl tk (a_cons (k_name (pv 0)) (a_cons (k_val (e_ixA (hu1 hr) (k_name (pv 3)) (k_name (pv 7)))) a_nil)))))))))
    (ss_one (s_ret (v_rev (k_val (e_frz (v_slice (k_name (pv 6)) (o_some (k_val (e_ixA (hu1 hr) (k_name (pv 5)) (k_name (pv 7))))) o_none))))))))))))
theorem at_ring_of_tracks {P : Program} {w : World} {K : PySem.W.Frag} {mg : Str → Option Value} {base : Heap} (Z : Wd K mg) {ct : Ct} (hc : ct.f = ctF K) : FnAt P w K mg base ct 4 "ring_of_tracks" (["net", "lot"] : List PySem.Str) F_ring_of_tracks := by
  obtain ⟨fd, D⟩ := Z.c.d.def_ 21
  exact ⟨⟨_, fd, ok_ring_of_tracks Z hc D, Z.glo_ring_of_tracks, D.kp, D.bindsN fun _ _ _ _ _ _ us hl => match us, hl with | [_, _], _ => rfl⟩⟩
theorem sc_ring_without : FnScope (["net", "lot", "told"] : List PySem.Str) (["net", "lot"] : List PySem.Str) (defScope (top 44)) := ⟨rfl, rfl, rfl, by decide +kernel, rfl, by decide +kernel, by decide +kernel⟩
theorem ok_ring_without {P : Program} {w : World} {K : PySem.W.Frag} {mg : Str → Option Value} {base : Heap} (Z : Wd K mg) {ct : Ct} (hc : ct.f = ctF K) {x qual : Str} {params : Arguments} {f : Addr} {fd : FuncData} (D : FunD K x qual params (defBody (top 44)) (defScope (top 44)) [] [] f fd) : FnOk P w K mg base (L2.CX P w) 5 f fd (["net", "lot"] : List PySem.Str) (spM ⟨K, ct⟩ F_ring_without) := by
  obtain ⟨f0, T0, L0, m0, c0, q0, t0, g0, n0⟩ := ct
  obtain rfl : f0 = ctF K := hc
  refine fn_mir (k := 4) (ct := ⟨ctF K, T0, L0, m0, c0, q0, t0, g0, n0⟩) (fb := fb_ring_without) D sc_ring_without rfl rfl (fun cdv A outer s H E hr tk => ?_)
  exact (ss_cons (s_set sc_ring_without.nd rfl (by first | exact Or.inl rfl | exact Or.inr rfl) (v_call (at_want_net Z rfl) (hr.mono (by decide)) rfl tk (a_cons (k_name (pv 0)) a_nil)))
    (ss_one (s_ret (v_call (at_ring_of_tracks Z rfl) (hr.mono (by decide)) rfl tk (a_cons (k_val (e_name (pv 2))) (a_cons (k_val (e_frz (v_call (at_want_lot Z rfl) (hr.mono (by decide)) rfl tk (a_cons (k_val (e_name (pv 2))) (a_cons (k_name (pv 1)) a_nil))))) a_nil))))))
theorem at_ring_without {P : Program} {w : World} {K : PySem.W.Frag} {mg : Str → Option Value} {base : Heap} (Z : Wd K mg) {ct : Ct} (hc : ct.f = ctF K) : FnAt P w K mg base ct 5 "ring_without" (["net", "lot"] : List PySem.Str) F_ring_without := by
  obtain ⟨fd, D⟩ := Z.c.d.def_ 22
  exact ⟨⟨_, fd, ok_ring_without Z hc D, Z.glo_ring_without, D.kp, D.bindsN fun _ _ _ _ _ _ us hl => match us, hl with | [_, _], _ => rfl⟩⟩
theorem kw_ring_without_0_net_lot {P : Program} {w : World} {K : PySem.W.Frag} {mg : Str → Option Value} {base : Heap} (Z : Wd K mg) {ct : Ct} (hc : ct.f = ctF K) : FnKw P w K mg base ct 5 "ring_without" (["net", "lot"] : List PySem.Str) 0 (["net", "lot"] : List PySem.Str) [0, 1] F_ring_without := by
  obtain ⟨f0, T0, L0, m0, c0, q0, t0, g0, n0⟩ := ct
  obtain rfl : f0 = ctF K := hc
  obtain ⟨fd, D⟩ := Z.c.d.def_ 22
  exact ⟨⟨_, fd, ok_ring_without Z rfl D, Z.glo_ring_without, D.kp, kbn_of D fun _ _ _ _ _ _ us ws h1 h2 => match us, ws, h1, h2 with | [], [_, _], _, _ => rfl⟩⟩
theorem sc_sequence_without : FnScope (["net", "lot", "told", "found"] : List PySem.Str) (["net", "lot"] : List PySem.Str) (defScope (top 46)) := ⟨rfl, rfl, rfl, by decide +kernel, rfl, by decide +kernel, by decide +kernel⟩
theorem ok_sequence_without {P : Program} {w : World} {K : PySem.W.Frag} {mg : Str → Option Value} {base : Heap} (Z : Wd K mg) {ct : Ct} (hc : ct.f = ctF K) {x qual : Str} {params : Arguments} {f : Addr} {fd : FuncData} (D : FunD K x qual params (defBody (top 46)) (defScope (top 46)) [] [] f fd) : FnOk P w K mg base (L2.CX P w) 5 f fd (["net", "lot"] : List PySem.Str) (spM ⟨K, ct⟩ F_sequence_without) := by
  obtain ⟨f0, T0, L0, m0, c0, q0, t0, g0, n0⟩ := ct
  obtain rfl : f0 = ctF K := hc
  refine fn_mir (k := 4) (ct := ⟨ctF K, T0, L0, m0, c0, q0, t0, g0, n0⟩) (fb := fb_sequence_without) D sc_sequence_without rfl rfl (fun cdv A outer s H E hr tk => ?_)
  exact (ss_cons (s_set sc_sequence_without.nd rfl (by first | exact Or.inl rfl | exact Or.inr rfl) (v_call (at_want_net Z rfl) (hr.mono (by decide)) rfl tk (a_cons (k_name (pv 0)) a_nil)))
    (ss_cons (s_set sc_sequence_without.nd rfl (by first | exact Or.inl rfl | exact Or.inr rfl) (v_call (at_sequence_by Z rfl) (hr.mono (by decide)) rfl tk (a_cons (k_val (e_name (pv 2))) (a_cons (k_val (e_frz (v_call (at_want_lot Z rfl) (hr.mono (by decide)) rfl tk (a_cons (k_val (e_name (pv 2))) (a_cons (k_name (pv 1)) a_nil))))) a_nil))))
    (ss_cons (s_if (t_cp x_isN (k_name (pv 3)) (k_val e_non) (nomark _)) (ss_one (s_raise0 (Ex0Ok.at Z.exc_NotCut rfl Z.glo_NotCut) rfl tk rfl)) ss_nil)
    (ss_one (s_retV (pv 3))))))
theorem at_sequence_without {P : Program} {w : World} {K : PySem.W.Frag} {mg : Str → Option Value} {base : Heap} (Z : Wd K mg) {ct : Ct} (hc : ct.f = ctF K) : FnAt P w K mg base ct 5 "sequence_without" (["net", "lot"] : List PySem.Str) F_sequence_without := by
  obtain ⟨fd, D⟩ := Z.c.d.def_ 23
  exact ⟨⟨_, fd, ok_sequence_without Z hc D, Z.glo_sequence_without, D.kp, D.bindsN fun _ _ _ _ _ _ us hl => match us, hl with | [_, _], _ => rfl⟩⟩
theorem kw_sequence_without_0_net_lot {P : Program} {w : World} {K : PySem.W.Frag} {mg : Str → Option Value} {base : Heap} (Z : Wd K mg) {ct : Ct} (hc : ct.f = ctF K) : FnKw P w K mg base ct 5 "sequence_without" (["net", "lot"] : List PySem.Str) 0 (["net", "lot"] : List PySem.Str) [0, 1] F_sequence_without := by
  obtain ⟨f0, T0, L0, m0, c0, q0, t0, g0, n0⟩ := ct
  obtain rfl : f0 = ctF K := hc
  obtain ⟨fd, D⟩ := Z.c.d.def_ 23
  exact ⟨⟨_, fd, ok_sequence_without Z rfl D, Z.glo_sequence_without, D.kp, kbn_of D fun _ _ _ _ _ _ us ws h1 h2 => match us, ws, h1, h2 with | [], [_, _], _, _ => rfl⟩⟩
theorem sc_is_target_of : FnScope (["ends", "points", "value"] : List PySem.Str) (["ends", "points", "value"] : List PySem.Str) (defScope (top 21)) := ⟨rfl, rfl, rfl, by decide +kernel, rfl, by decide +kernel, by decide +kernel⟩
theorem ok_is_target_of {P : Program} {w : World} {K : PySem.W.Frag} {mg : Str → Option Value} {base : Heap} (Z : Wd K mg) {ct : Ct} (hc : ct.f = ctF K) {x qual : Str} {params : Arguments} {f : Addr} {fd : FuncData} (D : FunD K x qual params (defBody (top 21)) (defScope (top 21)) [] [] f fd) : FnOk P w K mg base (L2.CX P w) 2 f fd (["ends", "points", "value"] : List PySem.Str) (spM ⟨K, ct⟩ F_is_target_of) := by
  obtain ⟨f0, T0, L0, m0, c0, q0, t0, g0, n0⟩ := ct
  obtain rfl : f0 = ctF K := hc
  refine fn_mir (k := 1) (ct := ⟨ctF K, T0, L0, m0, c0, q0, t0, g0, n0⟩) (fb := fb_is_target_of) D sc_is_target_of rfl rfl (fun cdv A outer s H E hr tk => ?_)
  exact (ss_one (s_ret (v_val (e_and (e_frz (v_call (at_is_integer Z rfl) (hr.mono (by decide)) rfl tk (a_cons (k_name (pv 2)) a_nil))) (e_one (e_chain x_le x_lt (k_val (e_neg (k_name (pv 0)))) (k_name (pv 2)) (k_name (pv 1))))))))
theorem at_is_target_of {P : Program} {w : World} {K : PySem.W.Frag} {mg : Str → Option Value} {base : Heap} (Z : Wd K mg) {ct : Ct} (hc : ct.f = ctF K) : FnAt P w K mg base ct 2 "is_target_of" (["ends", "points", "value"] : List PySem.Str) F_is_target_of := by
  obtain ⟨fd, D⟩ := Z.c.d.def_ 24
  exact ⟨⟨_, fd, ok_is_target_of Z hc D, Z.glo_is_target_of, D.kp, D.bindsN fun _ _ _ _ _ _ us hl => match us, hl with | [_, _, _], _ => rfl⟩⟩
theorem sc_is_exits_row : FnScope (["ends", "points", "value", "target"] : List PySem.Str) (["ends", "points", "value"] : List PySem.Str) (defScope (top 22)) := ⟨rfl, rfl, rfl, by decide +kernel, rfl, by decide +kernel, by decide +kernel⟩
theorem ok_is_exits_row {P : Program} {w : World} {K : PySem.W.Frag} {mg : Str → Option Value} {base : Heap} (Z : Wd K mg) {ct : Ct} (hc : ct.f = ctF K) {x qual : Str} {params : Arguments} {f : Addr} {fd : FuncData} (D : FunD K x qual params (defBody (top 22)) (defScope (top 22)) [] [] f fd) : FnOk P w K mg base (L2.CX P w) 3 f fd (["ends", "points", "value"] : List PySem.Str) (spM ⟨K, ct⟩ F_is_exits_row) := by
  obtain ⟨f0, T0, L0, m0, c0, q0, t0, g0, n0⟩ := ct
  obtain rfl : f0 = ctF K := hc
  obtain ⟨_, h_MOST_EXITS⟩ := Z.int_MOST_EXITS
  refine fn_mir (k := 2) (ct := ⟨ctF K, T0, L0, m0, c0, q0, t0, g0, n0⟩) (fb := fb_is_exits_row) D sc_is_exits_row rfl rfl (fun cdv A outer s H E hr tk => ?_)
  exact (ss_cons (s_if (t_w (w_or (t_not (t_val (e_frz (v_call (at_is_list Z rfl) (hr.mono (by decide)) rfl tk (a_cons (k_name (pv 2)) a_nil))))) (w_or1 (t_not (t_chain x_le x_le (k_val e_int) (k_val (e_frz (v_callB cr_len g_len rfl Z.free_len (by decide +kernel) (a_cons (k_name (pv 2)) a_nil)))) (k_val (e_gint rfl h_MOST_EXITS))))))) (ss_one (s_ret (v_val e_bl))) ss_nil)
    (ss_one (s_ret (v_callB (cr_all rfl) g_all rfl Z.free_all (by decide +kernel) (a_cons (k_val (e_frz (v_lc (own := [("target", 3)]) rfl sc_is_exits_row.nd (i_seq (e_name (pv 2))) (blkOk_by (by kernel_rfl)) (by decide) (fun _ _ _ _ _ => (g_name (pg_nm 3 sc_is_exits_row.nd))) (fun _ _ _ _ _ => pts_yes) (fun _ _ _ _ _ => (e_frz (v_call (at_is_target_of Z rfl) (hr.mono (by decide)) rfl takes0 (a_cons (k_name (pv 0)) (a_cons (k_name (pv 1)) (a_cons (k_val (e_name (pv 3))) a_nil))))))))) a_nil)))))
theorem at_is_exits_row {P : Program} {w : World} {K : PySem.W.Frag} {mg : Str → Option Value} {base : Heap} (Z : Wd K mg) {ct : Ct} (hc : ct.f = ctF K) : FnAt P w K mg base ct 3 "is_exits_row" (["ends", "points", "value"] : List PySem.Str) F_is_exits_row := by
  obtain ⟨fd, D⟩ := Z.c.d.def_ 25
  exact ⟨⟨_, fd, ok_is_exits_row Z hc D, Z.glo_is_exits_row, D.kp, D.bindsN fun _ _ _ _ _ _ us hl => match us, hl with | [_, _, _], _ => rfl⟩⟩
theorem sc_want_at_most : FnScope (["what", "limit", "number"] : List PySem.Str) (["what", "limit", "number"] : List PySem.Str) (defScope (top 15)) := ⟨rfl, rfl, rfl, by decide +kernel, rfl, by decide +kernel, by decide +kernel⟩
theorem ok_want_at_most {P : Program} {w : World} {K : PySem.W.Frag} {mg : Str → Option Value} {base : Heap} (Z : Wd K mg) {ct : Ct} (hc : ct.f = ctF K) {x qual : Str} {params : Arguments} {f : Addr} {fd : FuncData} (D : FunD K x qual params (defBody (top 15)) (defScope (top 15)) [] [] f fd) : FnOk P w K mg base (L2.CX P w) 1 f fd (["what", "limit", "number"] : List PySem.Str) (spM ⟨K, ct⟩ F_want_at_most) := by
  obtain ⟨f0, T0, L0, m0, c0, q0, t0, g0, n0⟩ := ct
  obtain rfl : f0 = ctF K := hc
  refine fn_mir (k := 0) (ct := ⟨ctF K, T0, L0, m0, c0, q0, t0, g0, n0⟩) (fb := fb_want_at_most) D sc_want_at_most rfl rfl (fun cdv A outer s H E hr tk => ?_)
  exact (ss_one (s_if (t_cp x_gt (k_name (pv 2)) (k_name (pv 1)) (nomark _)) (ss_one s_never) ss_nil))
theorem at_want_at_most {P : Program} {w : World} {K : PySem.W.Frag} {mg : Str → Option Value} {base : Heap} (Z : Wd K mg) {ct : Ct} (hc : ct.f = ctF K) : FnAt P w K mg base ct 1 "want_at_most" (["what", "limit", "number"] : List PySem.Str) F_want_at_most := by
  obtain ⟨fd, D⟩ := Z.c.d.def_ 26
  exact ⟨⟨_, fd, ok_want_at_most Z hc D, Z.glo_want_at_most, D.kp, D.bindsN fun _ _ _ _ _ _ us hl => match us, hl with | [_, _, _], _ => rfl⟩⟩
theorem sc_want_exits : FnScope (["ends", "value", "exits"] : List PySem.Str) (["ends", "value"] : List PySem.Str) (defScope (top 23)) := ⟨rfl, rfl, rfl, by decide +kernel, rfl, by decide +kernel, by decide +kernel⟩
theorem ok_want_exits {P : Program} {w : World} {K : PySem.W.Frag} {mg : Str → Option Value} {base : Heap} (Z : Wd K mg) {ct : Ct} (hc : ct.f = ctF K) {x qual : Str} {params : Arguments} {f : Addr} {fd : FuncData} (D : FunD K x qual params (defBody (top 23)) (defScope (top 23)) [] [] f fd) : FnOk P w K mg base (L2.CX P w) 4 f fd (["ends", "value"] : List PySem.Str) (spM ⟨K, ct⟩ F_want_exits) := by
  obtain ⟨f0, T0, L0, m0, c0, q0, t0, g0, n0⟩ := ct
  obtain rfl : f0 = ctF K := hc
  obtain ⟨_, h_MOST_POINTS⟩ := Z.int_MOST_POINTS
  obtain ⟨_, h_MOST_TRACKS⟩ := Z.int_MOST_TRACKS
  refine fn_mir (k := 3) (ct := ⟨ctF K, T0, L0, m0, c0, q0, t0, g0, n0⟩) (fb := fb_want_exits) D sc_want_exits rfl rfl (fun cdv A outer s H E hr tk => ?_)
  exact (ss_cons (s_if (t_w (w_or (t_not (t_val (e_frz (v_call (at_is_list Z rfl) (hr.mono (by decide)) rfl tk (a_cons (k_name (pv 1)) a_nil))))) (w_or1 (t_not (t_chain x_le x_le (k_val e_int) (k_val (e_frz (v_callB cr_len g_len rfl Z.free_len (by decide +kernel) (a_cons (k_name (pv 1)) a_nil)))) (k_val (e_gint rfl h_MOST_POINTS))))))) (ss_one s_never) ss_nil)
    (ss_cons (s_if (t_not (t_val (e_frz (v_callB (cr_all rfl) g_all rfl Z.free_all (by decide +kernel) (a_cons (k_val (e_frz (v_lc (own := [("exits", 2)]) rfl sc_want_exits.nd (i_seq (e_name (pv 1))) (blkOk_by (by kernel_rfl)) (by decide) (fun _ _ _ _ _ => (g_name (pg_nm 2 sc_want_exits.nd))) (fun _ _ _ _ _ => pts_yes) (fun _ _ _ _ _ => (e_frz (v_call (at_is_exits_row Z rfl) (hr.mono (by decide)) rfl takes0 (a_cons (k_name (pv 0)) (a_cons (k_val (e_frz (v_callB cr_len g_len rfl Z.free_len (by decide +kernel) (a_cons (k_name (pv 1)) a_nil)))) (a_cons (k_val (e_name (pv 2))) a_nil))))))))) a_nil))))) (ss_one s_never) ss_nil)
    (ss_cons (s_expr (v_call (at_want_at_most Z rfl) (hr.mono (by decide)) rfl tk (a_cons (k_val e_str) (a_cons (k_val (e_gint rfl h_MOST_TRACKS)) (a_cons (k_val (e_frz (v_callB (cr_sum rfl) g_sum rfl Z.free_sum (by decide +kernel) (a_cons (k_val (e_frz (v_lc (own := [("exits", 2)]) rfl sc_want_exits.nd (i_seq (e_name (pv 1))) (blkOk_by (by kernel_rfl)) (by decide) (fun _ _ _ _ _ => (g_name (pg_nm 2 sc_want_exits.nd))) (fun _ _ _ _ _ => pts_yes) (fun _ _ _ _ _ => (e_frz (v_callB cr_len g_len rfl Z.free_len (by decide +kernel) (a_cons (k_name (pv 2)) a_nil))))))) a_nil)))) a_nil)))))
    (ss_one (s_ret (v_callTy call_tuple_of g_tuple rfl Z.free_tuple (by decide +kernel) (a_cons (k_val (e_frz (v_lc (own := [("exits", 2)]) rfl sc_want_exits.nd (i_seq (e_name (pv 1))) (blkOk_by (by kernel_rfl)) (by decide) (fun _ _ _ _ _ => (g_name (pg_nm 2 sc_want_exits.nd))) (fun _ _ _ _ _ => pts_yes) (fun _ _ _ _ _ => (e_frz (v_callTy call_tuple_of g_tuple rfl Z.free_tuple (by decide +kernel) (a_cons (k_name (pv 2)) a_nil))))))) a_nil)))))))
theorem at_want_exits {P : Program} {w : World} {K : PySem.W.Frag} {mg : Str → Option Value} {base : Heap} (Z : Wd K mg) {ct : Ct} (hc : ct.f = ctF K) : FnAt P w K mg base ct 4 "want_exits" (["ends", "value"] : List PySem.Str) F_want_exits := by
  obtain ⟨fd, D⟩ := Z.c.d.def_ 27
  exact ⟨⟨_, fd, ok_want_exits Z hc D, Z.glo_want_exits, D.kp, D.bindsN fun _ _ _ _ _ _ us hl => match us, hl with | [_, _], _ => rfl⟩⟩
theorem sc_Net_lay : FnScope (["self", "ends", "rows", "exits", "targets", "firsts"] : List PySem.Str) (["self", "ends", "rows"] : List PySem.Str) (defScope (inClass (top 24) 1)) := ⟨rfl, rfl, rfl, by decide +kernel, rfl, by decide +kernel, by decide +kernel⟩
theorem ok_Net_lay {P : Program} {w : World} {K : PySem.W.Frag} {mg : Str → Option Value} {base : Heap} (Z : Wd K mg) {ct : Ct} (hc : ct.f = ctF K) {x qual : Str} {params : Arguments} {f : Addr} {fd : FuncData} (D : FunD K x qual params (defBody (inClass (top 24) 1)) (defScope (inClass (top 24) 1)) [] [] f fd) : FnOk P w K mg base (L2.CX P w) 1 f fd (["self", "ends", "rows"] : List PySem.Str) (spM ⟨K, ct⟩ F_Net_lay) := by
  obtain ⟨f0, T0, L0, m0, c0, q0, t0, g0, n0⟩ := ct
  obtain rfl : f0 = ctF K := hc
  refine fn_mir (k := 0) (ct := ⟨ctF K, T0, L0, m0, c0, q0, t0, g0, n0⟩) (fb := fb_Net_lay) D sc_Net_lay rfl rfl (fun cdv A outer s H E hr tk => ?_)
  exact (ss_cons (s_par2 rfl sc_Net_lay.nd rfl rfl (by decide) rfl rfl (v_lst a_nil) (v_lst a_nil) rfl)
    (ss_cons (s_for (passes_of rfl) rfl (i_seq (e_name (pv 2))) (g_name (pg_nm 3 sc_Net_lay.nd)) (ss_cons (s_expr (v_val (e_mut PySem.F.plainAttrs_list PySem.F.slot_list_append PySem.F.type_list_append mt_append mutG_append (pv 5) (a_cons (k_val (e_frz (v_callB cr_len g_len rfl Z.free_len (by decide +kernel) (a_cons (k_name (pv 4)) a_nil)))) a_nil))))
    (ss_one (s_expr (v_val (e_mut PySem.F.plainAttrs_list PySem.F.slot_list_extend PySem.F.type_list_extend (MtM.or mt_extend mt_extendT) mutG_extend (pv 4) (a_cons (k_val (e_name (pv 3))) a_nil)))))))
    (ss_cons (s_fld (pv 0) (e_name (pv 1)) Z.cls_Net.obj.cls (Z.cls_Net.noat "own_ends" (by decide)))
    (ss_cons (s_fld (pv 0) (e_name (pv 2)) Z.cls_Net.obj.cls (Z.cls_Net.noat "own_exits" (by decide)))
    (ss_cons (s_fld (pv 0) (e_frz (v_callTy call_tuple_of g_tuple rfl Z.free_tuple (by decide +kernel) (a_cons (k_name (pv 4)) a_nil))) Z.cls_Net.obj.cls (Z.cls_Net.noat "own_targets" (by decide)))
    (ss_one (s_fld (pv 0) (e_frz (v_callTy call_tuple_of g_tuple rfl Z.free_tuple (by decide +kernel) (a_cons (k_name (pv 5)) a_nil))) Z.cls_Net.obj.cls (Z.cls_Net.noat "own_firsts" (by decide)))))))))
theorem meth_Net_lay {P : Program} {w : World} {K : PySem.W.Frag} {mg : Str → Option Value} {base : Heap} (Z : Wd K mg) {ct : Ct} (hc : ct.f = ctF K) : MethAt P w K mg base ct 1 0 "lay" (["self", "ends", "rows"] : List PySem.Str) F_Net_lay := by
  obtain ⟨f0, T0, L0, m0, c0, q0, t0, g0, n0⟩ := ct
  obtain rfl : f0 = ctF K := hc
  obtain ⟨fd, D⟩ := Z.c.d.def_ 28
  exact ⟨⟨_, fd, ok_Net_lay Z rfl D, Z.cls_Net.obj.cls, Z.cls_Net.meth "lay" (by decide), D.bindsN fun _ _ _ _ _ _ us hl => match us, hl with | [_, _, _], _ => rfl⟩⟩
theorem sc_Net___init__ : FnScope (["self", "ends", "exits"] : List PySem.Str) (["self", "ends", "exits"] : List PySem.Str) (defScope (inClass (top 24) 0)) := ⟨rfl, rfl, rfl, by decide +kernel, rfl, by decide +kernel, by decide +kernel⟩
theorem ok_Net___init__ {P : Program} {w : World} {K : PySem.W.Frag} {mg : Str → Option Value} {base : Heap} (Z : Wd K mg) {ct : Ct} (hc : ct.f = ctF K) {x qual : Str} {params : Arguments} {f : Addr} {fd : FuncData} (D : FunD K x qual params (defBody (inClass (top 24) 0)) (defScope (inClass (top 24) 0)) [] [] f fd) : FnOk P w K mg base (L2.CX P w) 5 f fd (["self", "ends", "exits"] : List PySem.Str) (spM ⟨K, ct⟩ F_Net___init__) := by
  obtain ⟨f0, T0, L0, m0, c0, q0, t0, g0, n0⟩ := ct
  obtain rfl : f0 = ctF K := hc
  obtain ⟨_, h_MOST_ENDS⟩ := Z.int_MOST_ENDS
  refine fn_mir (k := 4) (ct := ⟨ctF K, T0, L0, m0, c0, q0, t0, g0, n0⟩) (fb := fb_Net___init__) D sc_Net___init__ rfl rfl (fun cdv A outer s H E hr tk => ?_)
  exact (ss_cons (s_if (t_w (w_or (t_not (t_val (e_frz (v_call (at_is_count Z rfl) (hr.mono (by decide)) rfl tk (a_cons (k_name (pv 1)) a_nil))))) (w_or1 (t_cp x_gt (k_name (pv 1)) (k_val (e_gint rfl h_MOST_ENDS)) (nomark _))))) (ss_one s_never) ss_nil)
    (ss_one (s_expr (v_meth (meth_Net_lay Z rfl) (hr.mono (by decide)) (xok_def tk) (k_name (pv 0)) (a_cons (k_name (pv 1)) (a_cons (k_val (e_frz (v_call (at_want_exits Z rfl) (hr.mono (by decide)) rfl tk (a_cons (k_name (pv 1)) (a_cons (k_name (pv 2)) a_nil))))) a_nil))))))
theorem make_Net {P : Program} {w : World} {K : PySem.W.Frag} {mg : Str → Option Value} {base : Heap} (Z : Wd K mg) {ct : Ct} (hc : ct.f = ctF K) : MakeAt P w K mg base ct 5 "Net" 0 (["self", "ends", "exits"] : List PySem.Str) F_Net___init__ := by
  obtain ⟨f0, T0, L0, m0, c0, q0, t0, g0, n0⟩ := ct
  obtain rfl : f0 = ctF K := hc
  obtain ⟨fd, D⟩ := Z.c.d.def_ 29
  exact ⟨⟨_, fd, ok_Net___init__ Z rfl D, Z.cls_Net.mkr, Z.glo_Net, D.bindsN fun _ _ _ _ _ _ us hl => match us, hl with | [_, _, _], _ => rfl⟩⟩
theorem sc__law_lots_right : FnScope (["_law_pot_here", "_law_net", "_law_odds", "_law_value", "_law_told", "_law_calls"] : List PySem.Str) (["_law_pot_here"] : List PySem.Str) (defScope (top 55)) := ⟨rfl, rfl, rfl, by decide +kernel, rfl, by decide +kernel, by decide +kernel⟩
def lamC__law_lots_right : Nat → LamC
  | 0 => lamX (exK (stX (stAt (stB (stAt (defBody (top 55)) 2) 0) 0)) 0)
  | 1 => lamX (exK (stX (stAt (stB (stAt (defBody (top 55)) 2) 0) 1)) 1)
  | 2 => lamX (exK (stX (stAt (stB (stAt (defBody (top 55)) 2) 0) 2)) 1)
  | 3 => lamX (exK (exK (exK (stX (stAt (stB (stAt (defBody (top 55)) 3) 0) 0)) 0) 0) 1)
  | _ => lamX (.Constant .none 0 ⟨0, 0, 0, 0⟩)
theorem ok__law_lots_right {P : Program} {w : World} {K : PySem.W.Frag} {mg : Str → Option Value} {base : Heap} (Z : Wd K mg) (TB : ∀ p ∈ tf, LamX.TabB base mg (He.cT K p).1 (He.cT K p).2) {fd : FuncData} (D : FunD K "_law_lots_right" "_law_lots_right" (defArgs (top 55)) (defBody (top 55)) (defScope (top 55)) [] [] (He.fAd K ("_law_lots_right", none)) fd) : FnG P w K mg base 11 (He.fAd K ("_law_lots_right", none)) fd (["_law_pot_here"] : List PySem.Str) (spM ⟨K, ctM K⟩ F__law_lots_right) := by
  have hm : (("_law_lots_right", none) : He.Defn) ∈ tf := by simp [tf]
  refine fn_mirT (k := 10) (ct := ctM K) (p := ("_law_lots_right", none)) (L := lamC__law_lots_right) (nl := 4) (fb := fb__law_lots_right) D sc__law_lots_right rfl rfl rfl rfl (TB _ hm) (tabs_mem hm) (tabs_one Z.tabs hm) (fun cdv A outer s H E hgu hr tk fr => ?_)
  have lok := fr.ok (kb := 7) (lams := lams__law_lots_right) rfl (fun _ => rfl) (fun j hj => match j, hj with
  | 0, _ => LamX.lamS_by (by rfl)
  | 1, _ => LamX.lamS_by (by rfl)
  | 2, _ => LamX.lamS_by (by rfl)
  | 3, _ => LamX.lamS_by (by rfl)
  | n + 4, h => absurd (show n + 4 < 4 from h) (by omega)) (fun j hj => match j, hj with
  | 0, _ => fun _ _ _ _ _ => rfl
  | 1, _ => fun _ _ _ _ _ => rfl
  | 2, _ => fun _ _ _ _ _ => rfl
  | 3, _ => fun _ _ _ _ _ => rfl
  | n + 4, h => absurd (show n + 4 < 4 from h) (by omega)) (fun j hj => match j, hj with
  | 0, _ => fun f c' A outer s H E hgu hr tk => (show SV (LamX.lamCx _ A outer s H E (lamC__law_lots_right 0).scope f c') _ _ (lamC__law_lots_right 0).body (vCall F_ring_without (aCons (kE (cN 1)) (aCons (kE (cN 3)) aNil))) from (v_call (at_ring_without Z rfl) (hr.mono (by decide)) rfl tk (a_cons (k_val (e_name (pv 1))) (a_cons (k_val (e_name (pv 3))) a_nil))))
  | 1, _ => fun f c' A outer s H E hgu hr tk => (show SV (LamX.lamCx _ A outer s H E (lamC__law_lots_right 1).scope f c') _ _ (lamC__law_lots_right 1).body (vCallK 0 3 [0, 1, 2] F_is_ring_without aNil (aCons (kE (cN 1)) (aCons (kE (cN 3)) (aCons (kE (cC .non)) aNil)))) from (v_callK0 (ks := (["net", "lot", "value"] : List PySem.Str)) (kw_is_ring_without_0_net_lot_value Z rfl) (hr.mono (by decide)) rfl (xok_def tk) (kw_cons (k_val (e_name (pv 1))) (kw_cons (k_val (e_name (pv 3))) (kw_cons (k_val e_non) kw_nil)))))
  | 2, _ => fun f c' A outer s H E hgu hr tk => (show SV (LamX.lamCx _ A outer s H E (lamC__law_lots_right 2).scope f c') _ _ (lamC__law_lots_right 2).body (vCall F_sequence_without (aCons (kE (cN 1)) (aCons (kE (cN 3)) aNil))) from (v_call (at_sequence_without Z rfl) (hr.mono (by decide)) rfl tk (a_cons (k_val (e_name (pv 1))) (a_cons (k_val (e_name (pv 3))) a_nil))))
  | 3, _ => fun f c' A outer s H E hgu hr tk => (show SV (LamX.lamCx _ A outer s H E (lamC__law_lots_right 3).scope f c') _ _ (lamC__law_lots_right 3).body (vCallK 0 2 [0, 1] F_sequence_without aNil (aCons (kE (cN 1)) (aCons (kE (cN 3)) aNil))) from (v_callK0 (ks := (["net", "lot"] : List PySem.Str)) (kw_sequence_without_0_net_lot Z rfl) (hr.mono (by decide)) rfl (xok_def tk) (kw_cons (k_val (e_name (pv 1))) (kw_cons (k_val (e_name (pv 3))) kw_nil))))
  | n + 4, h => absurd (show n + 4 < 4 from h) (by omega))
  exact (ss_cons (s_set sc__law_lots_right.nd rfl (by first | exact Or.inl rfl | exact Or.inr rfl) (v_val (e_frz (v_make (make_Net Z rfl) (hr.mono (by decide)) rfl (xok_def tk) (a_cons (k_val e_int) (a_cons (k_val (e_frz (v_lst (a_cons (k_val (e_frz (v_lst (a_cons (k_val e_int) (a_cons (k_val e_int) a_nil))))) (a_cons (k_val (e_frz (v_lst (a_cons (k_val e_int) (a_cons (k_val (e_neg (k_val e_int))) a_nil))))) (a_cons (k_val (e_frz (v_lst (a_cons (k_val e_int) a_nil)))) a_nil)))))) a_nil))))))
    (ss_cons (s_set sc__law_lots_right.nd rfl (by first | exact Or.inl rfl | exact Or.inr rfl) (v_lst (a_cons (k_val e_non) (a_cons (k_val e_int) (a_cons (k_val e_bl) (a_cons (k_val e_str) (a_cons (k_val (e_frz v_dic0)) (a_cons (k_val (e_frz (v_lst (a_cons (k_val e_bl) a_nil)))) (a_cons (k_val (e_frz (v_lst (a_cons (k_val e_non) a_nil)))) (a_cons (k_val (e_frz (v_lst (a_cons (k_val e_str) a_nil)))) (a_cons (k_val (e_frz (v_lst (a_cons (k_val (e_neg (k_val e_int))) a_nil)))) (a_cons (k_val (e_frz (v_lst (a_cons (k_val e_int) a_nil)))) (a_cons (k_val (e_frz (v_lst (a_cons (k_val e_int) (a_cons (k_val e_int) a_nil))))) (a_cons (k_val (e_frz (v_lst (a_cons (k_val e_int) (a_cons (k_val e_int) a_nil))))) (a_cons (k_val (e_frz (v_lst (a_cons (k_val (e_frz (v_lst (a_cons (k_val e_int) a_nil)))) a_nil)))) (a_cons (k_val (e_frz (v_lst (a_cons (k_val e_int) (a_cons (k_val e_int) a_nil))))) a_nil))))))))))))))))
    (ss_cons (s_for (passes_of rfl) rfl (i_seq (e_frz (v_slK (by decide) (k_name (pv 2)) (o_some (k_val (e_frz (v_call (at__law_draw Z rfl) (hr.mono (by decide)) rfl tk (a_cons (k_name (pv 0)) (a_cons (k_val e_int) a_nil))))))))) (g_name (pg_nm 3 sc__law_lots_right.nd)) (ss_cons (s_set sc__law_lots_right.nd rfl (by first | exact Or.inl rfl | exact Or.inr rfl) (v_lst (a_cons (k_val (e_lam fr (show (0 : Nat) < 4 by decide) rfl (LamX.lamS_by (by rfl)) rfl)) a_nil)))
    (ss_cons (s_expr (v_val (e_mut PySem.F.plainAttrs_list PySem.F.slot_list_append PySem.F.type_list_append mt_append mutG_append (pv 5) (a_cons (k_val (e_lam fr (show (1 : Nat) < 4 by decide) rfl (LamX.lamS_by (by rfl)) rfl)) a_nil))))
    (ss_cons (s_expr (v_val (e_mut PySem.F.plainAttrs_list PySem.F.slot_list_append PySem.F.type_list_append mt_append mutG_append (pv 5) (a_cons (k_val (e_lam fr (show (2 : Nat) < 4 by decide) rfl (LamX.lamS_by (by rfl)) rfl)) a_nil))))
    (ss_one (s_if (t_w (w_or (t_not (t_val (e_frz (v_callL (atL__law_all Z rfl) lok hgu (hr.mono (by decide)) rfl (a_cons (k_val (e_name (pv 5))) (a_cons (k_val (e_frz (v_add (k_val e_str) (k_val (e_frz (v_callB (cr_reprD hgu hr) g_reprD rfl Z.free_repr (by decide +kernel) (a_cons (k_name (pv 3)) a_nil))))))) a_nil)))))) (w_or1 (t_cp x_notB (k_val (e_frz (v_call (at_is_cut Z rfl) (hr.mono (by decide)) rfl tk (a_cons (k_val (e_name (pv 1))) (a_cons (k_val (e_name (pv 3))) a_nil))))) (k_val e_bl) (nomark _))))) (ss_one (s_ret (v_val e_bl))) ss_nil))))))
    (ss_cons (s_for (passes_of rfl) rfl (i_seq (e_frz (v_lst (a_cons (k_val (e_frz (v_lst a_nil))) (a_cons (k_val (e_tup a_nil)) (a_cons (k_val (e_frz (v_lst (a_cons (k_val e_int) a_nil)))) (a_cons (k_val (e_frz (v_lst (a_cons (k_val e_int) a_nil)))) (a_cons (k_val (e_tup (a_cons (k_val e_int) (a_cons (k_val e_int) a_nil)))) a_nil)))))))) (g_name (pg_nm 3 sc__law_lots_right.nd)) (ss_one (s_if (t_w (w_or (t_cp (x_ne hr) (k_val (e_frz (v_callL (atL__law_heard Z rfl) lok hgu (hr.mono (by decide)) rfl (a_cons (k_val (e_lam fr (show (3 : Nat) < 4 by decide) rfl (LamX.lamS_by (by rfl)) rfl)) a_nil)))) (k_val e_str) (nomark _)) (w_or1 (t_cp x_notB (k_val (e_frz (v_call (at_is_cut Z rfl) (hr.mono (by decide)) rfl tk (a_cons (k_val (e_name (pv 1))) (a_cons (k_val (e_name (pv 3))) a_nil))))) (k_val e_bl) (nomark _))))) (ss_one (s_ret (v_val e_bl))) ss_nil)))
    (ss_cons (s_setLc (own := [("_law_value", 3)]) rfl sc__law_lots_right.nd rfl rfl (sw_true rfl rfl rfl (by kernel_rfl)) (i_seq (e_frz (v_lst (a_cons (k_val (e_frz (v_lst (a_cons (k_val e_int) a_nil)))) (a_cons (k_val (e_tup (a_cons (k_val e_int) a_nil))) (a_cons (k_val (e_frz (v_lst (a_cons (k_val e_int) (a_cons (k_val e_int) a_nil))))) (a_cons (k_val (e_frz (v_lst (a_cons (k_val e_int) (a_cons (k_val e_int) a_nil))))) (a_cons (k_val (e_frz (v_lst (a_cons (k_val e_int) (a_cons (k_val e_int) (a_cons (k_val e_int) a_nil)))))) a_nil)))))))) (blkOk_by (by kernel_rfl)) (by decide) (fun _ _ _ _ _ => (g_name (pg_nm 3 sc__law_lots_right.nd))) (fun _ _ _ _ _ => pts_yes) (fun _ _ _ _ _ => (e_frz (v_call (at_is_cut Z rfl) (hr.mono (by decide)) rfl takes0 (a_cons (k_val (e_name (pv 1))) (a_cons (k_val (e_name (pv 3))) a_nil))))))
    (ss_one (s_ret (v_val (e_and (e_cp x_eqT (k_val (e_frz (v_callB (cr_reprD hgu hr) g_reprD rfl Z.free_repr (by decide +kernel) (a_cons (k_name (pv 4)) a_nil)))) (k_val (e_frz (v_callB (cr_reprD hgu hr) g_reprD rfl Z.free_repr (by decide +kernel) (a_cons (k_val (e_frz (v_mul (k_val (e_frz (v_lst (a_cons (k_val e_bl) a_nil)))) (k_val e_int)))) a_nil)))) (nomark _)) (e_one (e_cp x_isN (k_val (e_frz (v_callK0 (ks := (["net", "lot"] : List PySem.Str)) (kw_ring_without_0_net_lot Z rfl) (hr.mono (by decide)) rfl (xok_def tk) (kw_cons (k_val (e_name (pv 1))) (kw_cons (k_val (e_tup (a_cons (k_val e_int) a_nil))) kw_nil))))) (k_val e_non) (nomark _))))))))))))
theorem at__law_lots_right {P : Program} {w : World} {K : PySem.W.Frag} {mg : Str → Option Value} {base : Heap} (Z : Wd K mg) (TB : ∀ p ∈ tf, LamX.TabB base mg (He.cT K p).1 (He.cT K p).2) : FnAtG P w K mg base (ctM K) 11 "_law_lots_right" (["_law_pot_here"] : List PySem.Str) F__law_lots_right := by
  obtain ⟨fd, D⟩ := Z.c.d.def_ 30
  exact ⟨⟨_, fd, ok__law_lots_right Z TB D, Z.glo__law_lots_right, D.kp, D.bindsN fun _ _ _ _ _ _ us hl => match us, hl with | [_], _ => rfl⟩⟩
theorem sc_next_lot : FnScope (["lot", "points", "spot", "first", "step"] : List PySem.Str) (["lot", "points"] : List PySem.Str) (defScope (top 39)) := ⟨rfl, rfl, rfl, by decide +kernel, rfl, by decide +kernel, by decide +kernel⟩
theorem ok_next_lot {P : Program} {w : World} {K : PySem.W.Frag} {mg : Str → Option Value} {base : Heap} (Z : Wd K mg) {ct : Ct} (hc : ct.f = ctF K) {x qual : Str} {params : Arguments} {f : Addr} {fd : FuncData} (D : FunD K x qual params (defBody (top 39)) (defScope (top 39)) [] [] f fd) : FnOk P w K mg base (L2.CX P w) 1 f fd (["lot", "points"] : List PySem.Str) (spM ⟨K, ct⟩ F_next_lot) := by
  obtain ⟨f0, T0, L0, m0, c0, q0, t0, g0, n0⟩ := ct
  obtain rfl : f0 = ctF K := hc
  refine fn_mir (k := 0) (ct := ⟨ctF K, T0, L0, m0, c0, q0, t0, g0, n0⟩) (fb := fb_next_lot) D sc_next_lot rfl rfl (fun cdv A outer s H E hr tk => ?_)
  exact (ss_cons (s_for (passes_of rfl) rfl (i_range3 (pi_range3 rfl Z.free_range (a_cons (k_val (e_frz (v_sub (k_val (e_frz (v_callB cr_len g_len rfl Z.free_len (by decide +kernel) (a_cons (k_name (pv 0)) a_nil)))) (k_val e_int)))) (a_cons (k_val (e_neg (k_val e_int))) (a_cons (k_val (e_neg (k_val e_int))) a_nil))))) (g_name (pg_nm 2 sc_next_lot.nd)) (ss_one (s_if (t_cp x_lt (k_val (e_ixA (hu1 hr) (k_name (pv 0)) (k_name (pv 2)))) (k_val (e_frz (v_add (k_val (e_frz (v_sub (k_name (pv 1)) (k_val (e_frz (v_callB cr_len g_len rfl Z.free_len (by decide +kernel) (a_cons (k_name (pv 0)) a_nil))))))) (k_name (pv 2))))) (nomark _)) (ss_cons (s_set sc_next_lot.nd rfl (by first | exact Or.inl rfl | exact Or.inr rfl) (v_add (k_val (e_ixA (hu1 hr) (k_name (pv 0)) (k_name (pv 2)))) (k_val e_int)))
    (ss_one (s_ret (v_add (k_val (e_frz (v_slice (k_name (pv 0)) o_none (o_some (k_name (pv 2)))))) (k_val (e_frz (v_lc (own := [("step", 4)]) rfl sc_next_lot.nd (i_range1 rfl Z.free_range (a_cons (k_val (e_frz (v_sub (k_val (e_frz (v_callB cr_len g_len rfl Z.free_len (by decide +kernel) (a_cons (k_name (pv 0)) a_nil)))) (k_name (pv 2))))) a_nil)) (blkOk_by (by kernel_rfl)) (by decide) (fun _ _ _ _ _ => (g_name (pg_nm 4 sc_next_lot.nd))) (fun _ _ _ _ _ => pts_yes) (fun _ _ _ _ _ => (e_frz (v_add (k_name (pv 3)) (k_name (pv 4)))))))))))) ss_nil)))
    (ss_one (s_ret (v_val e_non))))
theorem at_next_lot {P : Program} {w : World} {K : PySem.W.Frag} {mg : Str → Option Value} {base : Heap} (Z : Wd K mg) {ct : Ct} (hc : ct.f = ctF K) : FnAt P w K mg base ct 1 "next_lot" (["lot", "points"] : List PySem.Str) F_next_lot := by
  obtain ⟨fd, D⟩ := Z.c.d.def_ 31
  exact ⟨⟨_, fd, ok_next_lot Z hc D, Z.glo_next_lot, D.kp, D.bindsN fun _ _ _ _ _ _ us hl => match us, hl with | [_, _], _ => rfl⟩⟩
theorem sc_fewest_cut_of : FnScope (["net", "most", "turn", "points", "lot", "many"] : List PySem.Str) (["net", "most"] : List PySem.Str) (defScope (top 40)) := ⟨rfl, rfl, rfl, by decide +kernel, rfl, by decide +kernel, by decide +kernel⟩
theorem ok_fewest_cut_of {P : Program} {w : World} {K : PySem.W.Frag} {mg : Str → Option Value} {base : Heap} (Z : Wd K mg) {ct : Ct} (hc : ct.f = ctF K) {x qual : Str} {params : Arguments} {f : Addr} {fd : FuncData} (D : FunD K x qual params (defBody (top 40)) (defScope (top 40)) [] [] f fd) : FnOk P w K mg base (L2.CX P w) 5 f fd (["net", "most"] : List PySem.Str) (spM ⟨K, ct⟩ F_fewest_cut_of) := by
  obtain ⟨f0, T0, L0, m0, c0, q0, t0, g0, n0⟩ := ct
  obtain rfl : f0 = ctF K := hc
  refine fn_mir (k := 4) (ct := ⟨ctF K, T0, L0, m0, c0, q0, t0, g0, n0⟩) (fb := fb_fewest_cut_of) D sc_fewest_cut_of rfl rfl (fun cdv A outer s H E hr tk => ?_)
  exact (ss_cons (s_par2 rfl sc_fewest_cut_of.nd rfl rfl (by decide) rfl rfl (v_callB cr_len g_len rfl Z.free_len (by decide +kernel) (a_cons (k_val (e_fld 0 1 (k_name (pv 0)) rfl Z.cls_Net.obj.cls (Z.cls_Net.noat "own_exits" (by decide)))) a_nil)) (v_lst a_nil) rfl)
    (ss_cons (s_for (passes_of rfl) rfl (i_range1 rfl Z.free_range (a_cons (k_name (pv 1)) a_nil)) (g_name (pg_nm 2 sc_fewest_cut_of.nd)) (ss_cons (s_if (t_val (e_frz (v_call (at_is_cut_lot Z rfl) (hr.mono (by decide)) rfl tk (a_cons (k_name (pv 0)) (a_cons (k_val (e_name (pv 4))) a_nil))))) (ss_one (s_retV (pv 4))) ss_nil)
    (ss_cons (s_set sc_fewest_cut_of.nd rfl (by first | exact Or.inl rfl | exact Or.inr rfl) (v_callB cr_len g_len rfl Z.free_len (by decide +kernel) (a_cons (k_name (pv 4)) a_nil)))
    (ss_cons (s_set sc_fewest_cut_of.nd rfl (by first | exact Or.inl rfl | exact Or.inr rfl) (v_call (at_next_lot Z rfl) (hr.mono (by decide)) rfl tk (a_cons (k_val (e_name (pv 4))) (a_cons (k_val (e_name (pv 3))) a_nil))))
    (ss_one (s_if (t_cp x_isN (k_name (pv 4)) (k_val e_non) (nomark _)) (ss_one (s_set sc_fewest_cut_of.nd rfl (by first | exact Or.inl rfl | exact Or.inr rfl) (v_listR1 rfl rfl Z.free_list rfl Z.free_range (k_val (e_frz (v_add (k_name (pv 5)) (k_val e_int))))))) ss_nil))))))
    (ss_one (s_ret (v_val e_non)))))
theorem at_fewest_cut_of {P : Program} {w : World} {K : PySem.W.Frag} {mg : Str → Option Value} {base : Heap} (Z : Wd K mg) {ct : Ct} (hc : ct.f = ctF K) : FnAt P w K mg base ct 5 "fewest_cut_of" (["net", "most"] : List PySem.Str) F_fewest_cut_of := by
  obtain ⟨fd, D⟩ := Z.c.d.def_ 32
  exact ⟨⟨_, fd, ok_fewest_cut_of Z hc D, Z.glo_fewest_cut_of, D.kp, D.bindsN fun _ _ _ _ _ _ us hl => match us, hl with | [_, _], _ => rfl⟩⟩
theorem sc_fewest_cut : FnScope (["net", "found"] : List PySem.Str) (["net"] : List PySem.Str) (defScope (top 48)) := ⟨rfl, rfl, rfl, by decide +kernel, rfl, by decide +kernel, by decide +kernel⟩
theorem ok_fewest_cut {P : Program} {w : World} {K : PySem.W.Frag} {mg : Str → Option Value} {base : Heap} (Z : Wd K mg) {ct : Ct} (hc : ct.f = ctF K) {x qual : Str} {params : Arguments} {f : Addr} {fd : FuncData} (D : FunD K x qual params (defBody (top 48)) (defScope (top 48)) [] [] f fd) : FnOk P w K mg base (L2.CX P w) 6 f fd (["net"] : List PySem.Str) (spM ⟨K, ct⟩ F_fewest_cut) := by
  obtain ⟨f0, T0, L0, m0, c0, q0, t0, g0, n0⟩ := ct
  obtain rfl : f0 = ctF K := hc
  obtain ⟨_, h_MOST_TRIES⟩ := Z.int_MOST_TRIES
  refine fn_mir (k := 5) (ct := ⟨ctF K, T0, L0, m0, c0, q0, t0, g0, n0⟩) (fb := fb_fewest_cut) D sc_fewest_cut rfl rfl (fun cdv A outer s H E hr tk => ?_)
  exact (ss_cons (s_set sc_fewest_cut.nd rfl (by first | exact Or.inl rfl | exact Or.inr rfl) (v_call (at_fewest_cut_of Z rfl) (hr.mono (by decide)) rfl tk (a_cons (k_val (e_frz (v_call (at_want_net Z rfl) (hr.mono (by decide)) rfl tk (a_cons (k_name (pv 0)) a_nil)))) (a_cons (k_val (e_gint rfl h_MOST_TRIES)) a_nil))))
    (ss_cons (s_if (t_cp x_isN (k_name (pv 1)) (k_val e_non) (nomark _)) (ss_one s_never) ss_nil)
    (ss_one (s_retV (pv 1)))))
theorem at_fewest_cut {P : Program} {w : World} {K : PySem.W.Frag} {mg : Str → Option Value} {base : Heap} (Z : Wd K mg) {ct : Ct} (hc : ct.f = ctF K) : FnAt P w K mg base ct 6 "fewest_cut" (["net"] : List PySem.Str) F_fewest_cut := by
  obtain ⟨fd, D⟩ := Z.c.d.def_ 33
  exact ⟨⟨_, fd, ok_fewest_cut Z hc D, Z.glo_fewest_cut, D.kp, D.bindsN fun _ _ _ _ _ _ us hl => match us, hl with | [_], _ => rfl⟩⟩
theorem sc_busiest_of : FnScope (["net", "points", "point", "between", "best", "most", "many", "track"] : List PySem.Str) (["net", "points"] : List PySem.Str) (defScope (top 36)) := ⟨rfl, rfl, rfl, by decide +kernel, rfl, by decide +kernel, by decide +kernel⟩
theorem ok_busiest_of {P : Program} {w : World} {K : PySem.W.Frag} {mg : Str → Option Value} {base : Heap} (Z : Wd K mg) {ct : Ct} (hc : ct.f = ctF K) {x qual : Str} {params : Arguments} {f : Addr} {fd : FuncData} (D : FunD K x qual params (defBody (top 36)) (defScope (top 36)) [] [] f fd) : FnOk P w K mg base (L2.CX P w) 3 f fd (["net", "points"] : List PySem.Str) (spM ⟨K, ct⟩ F_busiest_of) := by
  obtain ⟨f0, T0, L0, m0, c0, q0, t0, g0, n0⟩ := ct
  obtain rfl : f0 = ctF K := hc
  refine fn_mir (k := 2) (ct := ⟨ctF K, T0, L0, m0, c0, q0, t0, g0, n0⟩) (fb := fb_busiest_of) D sc_busiest_of rfl rfl (fun cdv A outer s H E hr tk => ?_)
  exact (ss_cons (s_par3 rfl sc_busiest_of.nd rfl rfl rfl (by decide) (by decide) (by decide) rfl rfl rfl (v_call (at_tracks_between Z rfl) (hr.mono (by decide)) rfl tk (a_cons (k_name (pv 0)) (a_cons (k_name (pv 1)) a_nil))) (v_val e_non) (v_val (e_neg (k_val e_int))) rfl)
    (ss_cons (s_for (passes_of rfl) rfl (i_seq (e_name (pv 1))) (g_name (pg_nm 2 sc_busiest_of.nd)) (ss_cons (s_set sc_busiest_of.nd rfl (by first | exact Or.inl rfl | exact Or.inr rfl) (v_callB cr_len g_len rfl Z.free_len (by decide +kernel) (a_cons (k_val (e_frz (v_lc (own := [("track", 7)]) rfl sc_busiest_of.nd (i_seq (e_name (pv 3))) (blkOk_by (by kernel_rfl)) (by decide) (fun _ _ _ _ _ => (g_name (pg_nm 7 sc_busiest_of.nd))) (fun _ _ _ _ _ => (pts_one (t_cp (x_in hr) (k_name (pv 2)) (k_val (e_tup (a_cons (k_val (e_frz (v_call (at_point_by Z rfl) (hr.mono (by decide)) rfl takes0 (a_cons (k_name (pv 0)) (a_cons (k_val (e_name (pv 7))) a_nil))))) (a_cons (k_val (e_ixA (hu1 hr) (k_val (e_fld 0 2 (k_name (pv 0)) rfl Z.cls_Net.obj.cls (Z.cls_Net.noat "own_targets" (by decide)))) (k_name (pv 7)))) a_nil)))) (by with_unfolding_all rfl)))) (fun _ _ _ _ _ => e_int)))) a_nil)))
    (ss_one (s_if (t_cp x_gt (k_name (pv 6)) (k_name (pv 5)) (nomark _)) (ss_one (s_par2 rfl sc_busiest_of.nd rfl rfl (by decide) rfl rfl (v_val (e_name (pv 2))) (v_val (e_name (pv 6))) rfl)) ss_nil))))
    (ss_one (s_retV (pv 4)))))
theorem at_busiest_of {P : Program} {w : World} {K : PySem.W.Frag} {mg : Str → Option Value} {base : Heap} (Z : Wd K mg) {ct : Ct} (hc : ct.f = ctF K) : FnAt P w K mg base ct 3 "busiest_of" (["net", "points"] : List PySem.Str) F_busiest_of := by
  obtain ⟨fd, D⟩ := Z.c.d.def_ 34
  exact ⟨⟨_, fd, ok_busiest_of Z hc D, Z.glo_busiest_of, D.kp, D.bindsN fun _ _ _ _ _ _ us hl => match us, hl with | [_, _], _ => rfl⟩⟩
theorem sc_needless_in : FnScope (["net", "lot", "point", "other"] : List PySem.Str) (["net", "lot"] : List PySem.Str) (defScope (top 37)) := ⟨rfl, rfl, rfl, by decide +kernel, rfl, by decide +kernel, by decide +kernel⟩
theorem ok_needless_in {P : Program} {w : World} {K : PySem.W.Frag} {mg : Str → Option Value} {base : Heap} (Z : Wd K mg) {ct : Ct} (hc : ct.f = ctF K) {x qual : Str} {params : Arguments} {f : Addr} {fd : FuncData} (D : FunD K x qual params (defBody (top 37)) (defScope (top 37)) [] [] f fd) : FnOk P w K mg base (L2.CX P w) 5 f fd (["net", "lot"] : List PySem.Str) (spM ⟨K, ct⟩ F_needless_in) := by
  obtain ⟨f0, T0, L0, m0, c0, q0, t0, g0, n0⟩ := ct
  obtain rfl : f0 = ctF K := hc
  refine fn_mir (k := 4) (ct := ⟨ctF K, T0, L0, m0, c0, q0, t0, g0, n0⟩) (fb := fb_needless_in) D sc_needless_in rfl rfl (fun cdv A outer s H E hr tk => ?_)
  exact (ss_cons (s_for (passes_of rfl) rfl (i_seq (e_name (pv 1))) (g_name (pg_nm 2 sc_needless_in.nd)) (ss_one (s_if (t_val (e_frz (v_call (at_is_cut_lot Z rfl) (hr.mono (by decide)) rfl tk (a_cons (k_name (pv 0)) (a_cons (k_val (e_frz (v_lc (own := [("other", 3)]) rfl sc_needless_in.nd (i_seq (e_name (pv 1))) (blkOk_by (by kernel_rfl)) (by decide) (fun _ _ _ _ _ => (g_name (pg_nm 3 sc_needless_in.nd))) (fun _ _ _ _ _ => (pts_one (t_cp (x_ne hr) (k_name (pv 3)) (k_name (pv 2)) (nomark _)))) (fun _ _ _ _ _ => (e_name (pv 3)))))) a_nil))))) (ss_one (s_retV (pv 2))) ss_nil)))
    (ss_one (s_ret (v_val e_non))))
theorem at_needless_in {P : Program} {w : World} {K : PySem.W.Frag} {mg : Str → Option Value} {base : Heap} (Z : Wd K mg) {ct : Ct} (hc : ct.f = ctF K) : FnAt P w K mg base ct 5 "needless_in" (["net", "lot"] : List PySem.Str) F_needless_in := by
  obtain ⟨fd, D⟩ := Z.c.d.def_ 35
  exact ⟨⟨_, fd, ok_needless_in Z hc D, Z.glo_needless_in, D.kp, D.bindsN fun _ _ _ _ _ _ us hl => match us, hl with | [_, _], _ => rfl⟩⟩
theorem sc_good_cut_of : FnScope (["net", "lot", "spare", "point"] : List PySem.Str) (["net"] : List PySem.Str) (defScope (top 38)) := ⟨rfl, rfl, rfl, by decide +kernel, rfl, by decide +kernel, by decide +kernel⟩
theorem ok_good_cut_of {P : Program} {w : World} {K : PySem.W.Frag} {mg : Str → Option Value} {base : Heap} (Z : Wd K mg) {ct : Ct} (hc : ct.f = ctF K) {x qual : Str} {params : Arguments} {f : Addr} {fd : FuncData} (D : FunD K x qual params (defBody (top 38)) (defScope (top 38)) [] [] f fd) : FnOk P w K mg base (L2.CX P w) 6 f fd (["net"] : List PySem.Str) (spM ⟨K, ct⟩ F_good_cut_of) := by
  obtain ⟨f0, T0, L0, m0, c0, q0, t0, g0, n0⟩ := ct
  obtain rfl : f0 = ctF K := hc
  refine fn_mir (k := 5) (ct := ⟨ctF K, T0, L0, m0, c0, q0, t0, g0, n0⟩) (fb := fb_good_cut_of) D sc_good_cut_of rfl rfl (fun cdv A outer s H E hr tk => ?_)
  exact (ss_cons (s_set sc_good_cut_of.nd rfl (by first | exact Or.inl rfl | exact Or.inr rfl) (v_lst a_nil))
    (ss_cons (s_whileC (s_while (passes_of rfl) (t_not (t_val (e_frz (v_call (at_is_cut_lot Z rfl) (hr.mono (by decide)) rfl tk (a_cons (k_name (pv 0)) (a_cons (k_val (e_name (pv 1))) a_nil)))))) (ss_one (s_set sc_good_cut_of.nd rfl (by first | exact Or.inl rfl | exact Or.inr rfl) (v_add (k_name (pv 1)) (k_val (e_frz (v_lst (a_cons (k_val (e_frz (v_call (at_busiest_of Z rfl) (hr.mono (by decide)) rfl tk (a_cons (k_name (pv 0)) (a_cons (k_val (e_frz (v_call (at_kept_by_rings Z rfl) (hr.mono (by decide)) rfl tk (a_cons (k_name (pv 0)) (a_cons (k_val (e_name (pv 1))) a_nil))))) a_nil))))) a_nil)))))))))
    (ss_cons (s_set sc_good_cut_of.nd rfl (by first | exact Or.inl rfl | exact Or.inr rfl) (v_call (at_needless_in Z rfl) (hr.mono (by decide)) rfl tk (a_cons (k_name (pv 0)) (a_cons (k_val (e_name (pv 1))) a_nil))))
    (ss_cons (s_whileC (s_while (passes_of rfl) (t_cp x_notN (k_name (pv 2)) (k_val e_non) (nomark _)) (ss_cons (s_setLc (own := [("point", 3)]) rfl sc_good_cut_of.nd rfl rfl (sw_true rfl rfl rfl (by kernel_rfl)) (i_seq (e_name (pv 1))) (blkOk_by (by kernel_rfl)) (by decide) (fun _ _ _ _ _ => (g_name (pg_nm 3 sc_good_cut_of.nd))) (fun _ _ _ _ _ => (pts_one (t_cp (x_ne hr) (k_name (pv 3)) (k_name (pv 2)) (nomark _)))) (fun _ _ _ _ _ => (e_name (pv 3))))
    (ss_one (s_set sc_good_cut_of.nd rfl (by first | exact Or.inl rfl | exact Or.inr rfl) (v_call (at_needless_in Z rfl) (hr.mono (by decide)) rfl tk (a_cons (k_name (pv 0)) (a_cons (k_val (e_name (pv 1))) a_nil))))))))
    (ss_one (s_ret (v_callB cr_sortedA g_sortedA rfl Z.free_sorted (by decide +kernel) (a_cons (k_name (pv 1)) a_nil))))))))
theorem at_good_cut_of {P : Program} {w : World} {K : PySem.W.Frag} {mg : Str → Option Value} {base : Heap} (Z : Wd K mg) {ct : Ct} (hc : ct.f = ctF K) : FnAt P w K mg base ct 6 "good_cut_of" (["net"] : List PySem.Str) F_good_cut_of := by
  obtain ⟨fd, D⟩ := Z.c.d.def_ 36
  exact ⟨⟨_, fd, ok_good_cut_of Z hc D, Z.glo_good_cut_of, D.kp, D.bindsN fun _ _ _ _ _ _ us hl => match us, hl with | [_], _ => rfl⟩⟩
theorem sc_good_cut : FnScope (["net"] : List PySem.Str) (["net"] : List PySem.Str) (defScope (top 47)) := ⟨rfl, rfl, rfl, by decide +kernel, rfl, by decide +kernel, by decide +kernel⟩
theorem ok_good_cut {P : Program} {w : World} {K : PySem.W.Frag} {mg : Str → Option Value} {base : Heap} (Z : Wd K mg) {ct : Ct} (hc : ct.f = ctF K) {x qual : Str} {params : Arguments} {f : Addr} {fd : FuncData} (D : FunD K x qual params (defBody (top 47)) (defScope (top 47)) [] [] f fd) : FnOk P w K mg base (L2.CX P w) 7 f fd (["net"] : List PySem.Str) (spM ⟨K, ct⟩ F_good_cut) := by
  obtain ⟨f0, T0, L0, m0, c0, q0, t0, g0, n0⟩ := ct
  obtain rfl : f0 = ctF K := hc
  refine fn_mir (k := 6) (ct := ⟨ctF K, T0, L0, m0, c0, q0, t0, g0, n0⟩) (fb := fb_good_cut) D sc_good_cut rfl rfl (fun cdv A outer s H E hr tk => ?_)
  exact (ss_one (s_ret (v_call (at_good_cut_of Z rfl) (hr.mono (by decide)) rfl tk (a_cons (k_val (e_frz (v_call (at_want_net Z rfl) (hr.mono (by decide)) rfl tk (a_cons (k_name (pv 0)) a_nil)))) a_nil))))
theorem at_good_cut {P : Program} {w : World} {K : PySem.W.Frag} {mg : Str → Option Value} {base : Heap} (Z : Wd K mg) {ct : Ct} (hc : ct.f = ctF K) : FnAt P w K mg base ct 7 "good_cut" (["net"] : List PySem.Str) F_good_cut := by
  obtain ⟨fd, D⟩ := Z.c.d.def_ 37
  exact ⟨⟨_, fd, ok_good_cut Z hc D, Z.glo_good_cut, D.kp, D.bindsN fun _ _ _ _ _ _ us hl => match us, hl with | [_], _ => rfl⟩⟩
theorem kw_good_cut_0_net {P : Program} {w : World} {K : PySem.W.Frag} {mg : Str → Option Value} {base : Heap} (Z : Wd K mg) {ct : Ct} (hc : ct.f = ctF K) : FnKw P w K mg base ct 7 "good_cut" (["net"] : List PySem.Str) 0 (["net"] : List PySem.Str) [0] F_good_cut := by
  obtain ⟨f0, T0, L0, m0, c0, q0, t0, g0, n0⟩ := ct
  obtain rfl : f0 = ctF K := hc
  obtain ⟨fd, D⟩ := Z.c.d.def_ 37
  exact ⟨⟨_, fd, ok_good_cut Z rfl D, Z.glo_good_cut, D.kp, kbn_of D fun _ _ _ _ _ _ us ws h1 h2 => match us, ws, h1, h2 with | [], [_], _, _ => rfl⟩⟩
theorem sc__law_many_right : FnScope (["_law_wide", "_law_point"] : List PySem.Str) ([] : List PySem.Str) (defScope (top 57)) := ⟨rfl, rfl, rfl, by decide +kernel, rfl, by decide +kernel, by decide +kernel⟩
theorem ok__law_many_right {P : Program} {w : World} {K : PySem.W.Frag} {mg : Str → Option Value} {base : Heap} (Z : Wd K mg) {ct : Ct} (hc : ct.f = ctF K) {x qual : Str} {params : Arguments} {f : Addr} {fd : FuncData} (D : FunD K x qual params (defBody (top 57)) (defScope (top 57)) [] [] f fd) : FnOk P w K mg base (L2.CX P w) 8 f fd ([] : List PySem.Str) (spM ⟨K, ct⟩ F__law_many_right) := by
  obtain ⟨f0, T0, L0, m0, c0, q0, t0, g0, n0⟩ := ct
  obtain rfl : f0 = ctF K := hc
  refine fn_mir (k := 7) (ct := ⟨ctF K, T0, L0, m0, c0, q0, t0, g0, n0⟩) (fb := fb__law_many_right) D sc__law_many_right rfl rfl (fun cdv A outer s H E hr tk => ?_)
  exact (ss_cons (s_set sc__law_many_right.nd rfl (by first | exact Or.inl rfl | exact Or.inr rfl) (v_make (make_Net Z rfl) (hr.mono (by decide)) rfl (xok_def tk) (a_cons (k_val e_int) (a_cons (k_val (e_frz (v_lc (own := [("_law_point", 1)]) rfl sc__law_many_right.nd (i_range1 rfl Z.free_range (a_cons (k_val e_int) a_nil)) (blkOk_by (by kernel_rfl)) (by decide) (fun _ _ _ _ _ => (g_name (pg_nm 1 sc__law_many_right.nd))) (fun _ _ _ _ _ => pts_yes) (fun _ _ _ _ _ => (e_frz (v_lst (a_cons (k_val (e_name (pv 1))) (a_cons (k_val (e_frz (v_mod (k_val (e_frz (v_add (k_name (pv 1)) (k_val e_int)))) (k_val e_int)))) a_nil)))))))) a_nil))))
    (ss_cons (s_if (t_w (w_or (t_cp (x_ne hr) (k_val (e_frz (v_call (at_good_cut Z rfl) (hr.mono (by decide)) rfl tk (a_cons (k_val (e_name (pv 0))) a_nil)))) (k_val (e_frz (v_listR1 rfl rfl Z.free_list rfl Z.free_range (k_val e_int)))) (nomark _)) (w_or1 (t_cp x_notB (k_val (e_frz (v_call (at_is_cut Z rfl) (hr.mono (by decide)) rfl tk (a_cons (k_val (e_name (pv 0))) (a_cons (k_val (e_frz (v_listR2 rfl rfl Z.free_list rfl Z.free_range (k_val e_int) (k_val e_int)))) a_nil))))) (k_val e_bl) (nomark _))))) (ss_one (s_ret (v_val e_bl))) ss_nil)
    (ss_one (s_ret (v_val (e_and (e_cp (x_eq hr) (k_val (e_frz (v_call (at_sequence_without Z rfl) (hr.mono (by decide)) rfl tk (a_cons (k_val (e_name (pv 0))) (a_cons (k_val (e_frz (v_listR1 rfl rfl Z.free_list rfl Z.free_range (k_val e_int)))) a_nil))))) (k_val (e_frz (v_lst a_nil))) (nomark _)) (e_one (e_cp (x_eq hr) (k_val (e_frz (v_call (at_fewest_cut Z rfl) (hr.mono (by decide)) rfl tk (a_cons (k_val (e_frz (v_make (make_Net Z rfl) (hr.mono (by decide)) rfl (xok_def tk) (a_cons (k_val e_int) (a_cons (k_val (e_frz (v_lst (a_cons (k_val (e_frz (v_lst (a_cons (k_val e_int) a_nil)))) (a_cons (k_val (e_frz (v_lst (a_cons (k_val e_int) a_nil)))) a_nil))))) a_nil))))) a_nil)))) (k_val (e_frz (v_lst (a_cons (k_val e_int) a_nil)))) (nomark _)))))))))
theorem at__law_many_right {P : Program} {w : World} {K : PySem.W.Frag} {mg : Str → Option Value} {base : Heap} (Z : Wd K mg) {ct : Ct} (hc : ct.f = ctF K) : FnAt P w K mg base ct 8 "_law_many_right" ([] : List PySem.Str) F__law_many_right := by
  obtain ⟨fd, D⟩ := Z.c.d.def_ 38
  exact ⟨⟨_, fd, ok__law_many_right Z hc D, Z.glo__law_many_right, D.kp, D.bindsN fun _ _ _ _ _ _ us hl => match us, hl with | [], _ => rfl⟩⟩
theorem sc__law_nets_right : FnScope (["_law_value", "_law_calls"] : List PySem.Str) ([] : List PySem.Str) (defScope (top 54)) := ⟨rfl, rfl, rfl, by decide +kernel, rfl, by decide +kernel, by decide +kernel⟩
def lamC__law_nets_right : Nat → LamC
  | 0 => lamX (exK (stX (stAt (stB (stAt (defBody (top 54)) 0) 0) 0)) 0)
  | 1 => lamX (exK (stX (stAt (stB (stAt (defBody (top 54)) 0) 0) 1)) 1)
  | 2 => lamX (exK (stX (stAt (stB (stAt (defBody (top 54)) 0) 0) 2)) 1)
  | 3 => lamX (exK (stX (stAt (stB (stAt (defBody (top 54)) 0) 0) 3)) 1)
  | 4 => lamX (exK (stX (stAt (stB (stAt (defBody (top 54)) 0) 0) 4)) 1)
  | 5 => lamX (exK (stX (stAt (stB (stAt (defBody (top 54)) 0) 0) 5)) 1)
  | _ => lamX (.Constant .none 0 ⟨0, 0, 0, 0⟩)
theorem ok__law_nets_right {P : Program} {w : World} {K : PySem.W.Frag} {mg : Str → Option Value} {base : Heap} (Z : Wd K mg) (TB : ∀ p ∈ tf, LamX.TabB base mg (He.cT K p).1 (He.cT K p).2) {fd : FuncData} (D : FunD K "_law_nets_right" "_law_nets_right" (defArgs (top 54)) (defBody (top 54)) (defScope (top 54)) [] [] (He.fAd K ("_law_nets_right", none)) fd) : FnG P w K mg base 11 (He.fAd K ("_law_nets_right", none)) fd ([] : List PySem.Str) (spM ⟨K, ctM K⟩ F__law_nets_right) := by
  have hm : (("_law_nets_right", none) : He.Defn) ∈ tf := by simp [tf]
  refine fn_mirT (k := 10) (ct := ctM K) (p := ("_law_nets_right", none)) (L := lamC__law_nets_right) (nl := 6) (fb := fb__law_nets_right) D sc__law_nets_right rfl rfl rfl rfl (TB _ hm) (tabs_mem hm) (tabs_one Z.tabs hm) (fun cdv A outer s H E hgu hr tk fr => ?_)
  have lok := fr.ok (kb := 7) (lams := lams__law_nets_right) rfl (fun _ => rfl) (fun j hj => match j, hj with
  | 0, _ => LamX.lamS_by (by rfl)
  | 1, _ => LamX.lamS_by (by rfl)
  | 2, _ => LamX.lamS_by (by rfl)
  | 3, _ => LamX.lamS_by (by rfl)
  | 4, _ => LamX.lamS_by (by rfl)
  | 5, _ => LamX.lamS_by (by rfl)
  | n + 6, h => absurd (show n + 6 < 6 from h) (by omega)) (fun j hj => match j, hj with
  | 0, _ => fun _ _ _ _ _ => rfl
  | 1, _ => fun _ _ _ _ _ => rfl
  | 2, _ => fun _ _ _ _ _ => rfl
  | 3, _ => fun _ _ _ _ _ => rfl
  | 4, _ => fun _ _ _ _ _ => rfl
  | 5, _ => fun _ _ _ _ _ => rfl
  | n + 6, h => absurd (show n + 6 < 6 from h) (by omega)) (fun j hj => match j, hj with
  | 0, _ => fun f c' A outer s H E hgu hr tk => (show SV (LamX.lamCx _ A outer s H E (lamC__law_nets_right 0).scope f c') _ _ (lamC__law_nets_right 0).body (vCall F_is_cut (aCons (kE (cN 0)) (aCons (kE (cC .non)) aNil))) from (v_call (at_is_cut Z rfl) (hr.mono (by decide)) rfl tk (a_cons (k_val (e_name (pv 0))) (a_cons (k_val e_non) a_nil))))
  | 1, _ => fun f c' A outer s H E hgu hr tk => (show SV (LamX.lamCx _ A outer s H E (lamC__law_nets_right 1).scope f c') _ _ (lamC__law_nets_right 1).body (vCall F_ring_without (aCons (kE (cN 0)) (aCons (kE (cC .non)) aNil))) from (v_call (at_ring_without Z rfl) (hr.mono (by decide)) rfl tk (a_cons (k_val (e_name (pv 0))) (a_cons (k_val e_non) a_nil))))
  | 2, _ => fun f c' A outer s H E hgu hr tk => (show SV (LamX.lamCx _ A outer s H E (lamC__law_nets_right 2).scope f c') _ _ (lamC__law_nets_right 2).body (vCall F_is_ring_without (aCons (kE (cN 0)) (aCons (kE (cC .non)) (aCons (kE (cC .non)) aNil)))) from (v_call (at_is_ring_without Z rfl) (hr.mono (by decide)) rfl tk (a_cons (k_val (e_name (pv 0))) (a_cons (k_val e_non) (a_cons (k_val e_non) a_nil)))))
  | 3, _ => fun f c' A outer s H E hgu hr tk => (show SV (LamX.lamCx _ A outer s H E (lamC__law_nets_right 3).scope f c') _ _ (lamC__law_nets_right 3).body (vCall F_sequence_without (aCons (kE (cN 0)) (aCons (kE (cC .non)) aNil))) from (v_call (at_sequence_without Z rfl) (hr.mono (by decide)) rfl tk (a_cons (k_val (e_name (pv 0))) (a_cons (k_val e_non) a_nil))))
  | 4, _ => fun f c' A outer s H E hgu hr tk => (show SV (LamX.lamCx _ A outer s H E (lamC__law_nets_right 4).scope f c') _ _ (lamC__law_nets_right 4).body (vCallK 0 1 [0] F_good_cut aNil (aCons (kE (cN 0)) aNil)) from (v_callK0 (ks := (["net"] : List PySem.Str)) (kw_good_cut_0_net Z rfl) (hr.mono (by decide)) rfl (xok_def tk) (kw_cons (k_val (e_name (pv 0))) kw_nil)))
  | 5, _ => fun f c' A outer s H E hgu hr tk => (show SV (LamX.lamCx _ A outer s H E (lamC__law_nets_right 5).scope f c') _ _ (lamC__law_nets_right 5).body (vCall F_fewest_cut (aCons (kE (cN 0)) aNil)) from (v_call (at_fewest_cut Z rfl) (hr.mono (by decide)) rfl tk (a_cons (k_val (e_name (pv 0))) a_nil)))
  | n + 6, h => absurd (show n + 6 < 6 from h) (by omega))
  exact (ss_cons (s_for (passes_of rfl) rfl (i_seq (e_frz (v_lst (a_cons (k_val e_non) (a_cons (k_val e_int) (a_cons (k_val e_bl) (a_cons (k_val e_str) (a_cons (k_val (e_frz (v_lst a_nil))) (a_cons (k_val (e_tup (a_cons (k_val e_int) (a_cons (k_val (e_frz (v_lst (a_cons (k_val (e_frz (v_lst (a_cons (k_val e_int) a_nil)))) a_nil)))) a_nil)))) (a_cons (k_val (e_frz v_dic0)) a_nil)))))))))) (g_name (pg_nm 0 sc__law_nets_right.nd)) (ss_cons (s_set sc__law_nets_right.nd rfl (by first | exact Or.inl rfl | exact Or.inr rfl) (v_lst (a_cons (k_val (e_lam fr (show (0 : Nat) < 6 by decide) rfl (LamX.lamS_by (by rfl)) rfl)) a_nil)))
    (ss_cons (s_expr (v_val (e_mut PySem.F.plainAttrs_list PySem.F.slot_list_append PySem.F.type_list_append mt_append mutG_append (pv 1) (a_cons (k_val (e_lam fr (show (1 : Nat) < 6 by decide) rfl (LamX.lamS_by (by rfl)) rfl)) a_nil))))
    (ss_cons (s_expr (v_val (e_mut PySem.F.plainAttrs_list PySem.F.slot_list_append PySem.F.type_list_append mt_append mutG_append (pv 1) (a_cons (k_val (e_lam fr (show (2 : Nat) < 6 by decide) rfl (LamX.lamS_by (by rfl)) rfl)) a_nil))))
    (ss_cons (s_expr (v_val (e_mut PySem.F.plainAttrs_list PySem.F.slot_list_append PySem.F.type_list_append mt_append mutG_append (pv 1) (a_cons (k_val (e_lam fr (show (3 : Nat) < 6 by decide) rfl (LamX.lamS_by (by rfl)) rfl)) a_nil))))
    (ss_cons (s_expr (v_val (e_mut PySem.F.plainAttrs_list PySem.F.slot_list_append PySem.F.type_list_append mt_append mutG_append (pv 1) (a_cons (k_val (e_lam fr (show (4 : Nat) < 6 by decide) rfl (LamX.lamS_by (by rfl)) rfl)) a_nil))))
    (ss_cons (s_expr (v_val (e_mut PySem.F.plainAttrs_list PySem.F.slot_list_append PySem.F.type_list_append mt_append mutG_append (pv 1) (a_cons (k_val (e_lam fr (show (5 : Nat) < 6 by decide) rfl (LamX.lamS_by (by rfl)) rfl)) a_nil))))
    (ss_one (s_if (t_not (t_val (e_frz (v_callL (atL__law_all Z rfl) lok hgu (hr.mono (by decide)) rfl (a_cons (k_val (e_name (pv 1))) (a_cons (k_val (e_frz (v_add (k_val e_str) (k_val (e_frz (v_callB (cr_reprD hgu hr) g_reprD rfl Z.free_repr (by decide +kernel) (a_cons (k_name (pv 0)) a_nil))))))) a_nil)))))) (ss_one (s_ret (v_val e_bl))) ss_nil)))))))))
    (ss_one (s_ret (v_val e_bl))))
theorem at__law_nets_right {P : Program} {w : World} {K : PySem.W.Frag} {mg : Str → Option Value} {base : Heap} (Z : Wd K mg) (TB : ∀ p ∈ tf, LamX.TabB base mg (He.cT K p).1 (He.cT K p).2) : FnAtG P w K mg base (ctM K) 11 "_law_nets_right" ([] : List PySem.Str) F__law_nets_right := by
  obtain ⟨fd, D⟩ := Z.c.d.def_ 39
  exact ⟨⟨_, fd, ok__law_nets_right Z TB D, Z.glo__law_nets_right, D.kp, D.bindsN fun _ _ _ _ _ _ us hl => match us, hl with | [], _ => rfl⟩⟩
theorem sc__law_pot : FnScope (["_law_script", "_law_k", "_law_cell"] : List PySem.Str) (["_law_script", "_law_k"] : List PySem.Str) (defScope (top 50)) := ⟨rfl, rfl, rfl, by decide +kernel, rfl, by decide +kernel, by decide +kernel⟩
theorem ok__law_pot {P : Program} {w : World} {K : PySem.W.Frag} {mg : Str → Option Value} {base : Heap} (Z : Wd K mg) {ct : Ct} (hc : ct.f = ctF K) {x qual : Str} {params : Arguments} {f : Addr} {fd : FuncData} (D : FunD K x qual params (defBody (top 50)) (defScope (top 50)) [] [] f fd) : FnOk P w K mg base (L2.CX P w) 1 f fd (["_law_script", "_law_k"] : List PySem.Str) (spM ⟨K, ct⟩ F__law_pot) := by
  obtain ⟨f0, T0, L0, m0, c0, q0, t0, g0, n0⟩ := ct
  obtain rfl : f0 = ctF K := hc
  refine fn_mir (k := 0) (ct := ⟨ctF K, T0, L0, m0, c0, q0, t0, g0, n0⟩) (fb := fb__law_pot) D sc__law_pot rfl rfl (fun cdv A outer s H E hr tk => ?_)
  exact (ss_cons (s_set sc__law_pot.nd rfl (by first | exact Or.inl rfl | exact Or.inr rfl) (v_add (k_val (e_frz (v_mul (k_val e_int) (k_name (pv 1))))) (k_val e_int)))
    (ss_cons (s_if (t_cp x_lt (k_name (pv 1)) (k_val (e_frz (v_callB cr_len g_len rfl Z.free_len (by decide +kernel) (a_cons (k_name (pv 0)) a_nil)))) (nomark _)) (ss_one (s_set sc__law_pot.nd rfl (by first | exact Or.inl rfl | exact Or.inr rfl) (v_callB call_abs g_abs rfl Z.free_abs (by decide +kernel) (a_cons (k_val (e_ixA (hu1 hr) (k_name (pv 0)) (k_name (pv 1)))) a_nil)))) ss_nil)
    (ss_one (s_ret (v_lst (a_cons (k_val (e_frz (v_callB (call_max2 rfl) g_max2 rfl Z.free_max (by decide +kernel) (a_cons (k_val e_int) (a_cons (k_val (e_frz (v_sub (k_name (pv 2)) (k_val (e_frz (v_pow (k_val e_int) (k_val e_int))))))) a_nil))))) (a_cons (k_val (e_frz (v_add (k_val (e_frz (v_mod (k_val (e_frz (v_callTy call_int1 g_int rfl Z.free_int (by decide +kernel) (a_cons (k_val (e_frz (v_add (k_val (e_frz (v_mul (k_val (e_frz (v_mod (k_val (e_frz (v_callTy call_int1 g_int rfl Z.free_int (by decide +kernel) (a_cons (k_name (pv 2)) a_nil)))) (k_val e_int)))) (k_val (e_frz (v_add (k_val (e_frz (v_mul (k_val e_int) (k_name (pv 1))))) (k_val e_int))))))) (k_val e_int)))) a_nil)))) (k_val e_int)))) (k_val e_int)))) a_nil)))))))
theorem at__law_pot {P : Program} {w : World} {K : PySem.W.Frag} {mg : Str → Option Value} {base : Heap} (Z : Wd K mg) {ct : Ct} (hc : ct.f = ctF K) : FnAt P w K mg base ct 1 "_law_pot" (["_law_script", "_law_k"] : List PySem.Str) F__law_pot := by
  obtain ⟨fd, D⟩ := Z.c.d.def_ 40
  exact ⟨⟨_, fd, ok__law_pot Z hc D, Z.glo__law_pot, D.kp, D.bindsN fun _ _ _ _ _ _ us hl => match us, hl with | [_, _], _ => rfl⟩⟩
theorem sc__law_rings_right : FnScope (["_law_pot_here", "_law_net", "_law_good", "_law_bad", "_law_value", "_law_is_own", "_law_told", "_law_lot", "_law_one"] : List PySem.Str) (["_law_pot_here"] : List PySem.Str) (defScope (top 56)) := ⟨rfl, rfl, rfl, by decide +kernel, rfl, by decide +kernel, by decide +kernel⟩
theorem ok__law_rings_right {P : Program} {w : World} {K : PySem.W.Frag} {mg : Str → Option Value} {base : Heap} (Z : Wd K mg) {ct : Ct} (hc : ct.f = ctF K) {x qual : Str} {params : Arguments} {f : Addr} {fd : FuncData} (D : FunD K x qual params (defBody (top 56)) (defScope (top 56)) [] [] f fd) : FnG P w K mg base 7 f fd (["_law_pot_here"] : List PySem.Str) (spM ⟨K, ct⟩ F__law_rings_right) := by
  obtain ⟨f0, T0, L0, m0, c0, q0, t0, g0, n0⟩ := ct
  obtain rfl : f0 = ctF K := hc
  refine fn_mirG (k := 6) (ct := ⟨ctF K, T0, L0, m0, c0, q0, t0, g0, n0⟩) (fb := fb__law_rings_right) D sc__law_rings_right rfl rfl (fun cdv A outer s H E hgu hr tk => ?_)
  exact (ss_cons (s_set sc__law_rings_right.nd rfl (by first | exact Or.inl rfl | exact Or.inr rfl) (v_make (make_Net Z rfl) (hr.mono (by decide)) rfl (xok_def tk) (a_cons (k_val e_int) (a_cons (k_val (e_frz (v_lst (a_cons (k_val (e_frz (v_lst (a_cons (k_val e_int) (a_cons (k_val e_int) a_nil))))) (a_cons (k_val (e_frz (v_lst (a_cons (k_val e_int) (a_cons (k_val (e_neg (k_val e_int))) a_nil))))) (a_cons (k_val (e_frz (v_lst (a_cons (k_val e_int) a_nil)))) a_nil)))))) a_nil))))
    (ss_cons (s_set sc__law_rings_right.nd rfl (by first | exact Or.inl rfl | exact Or.inr rfl) (v_lst (a_cons (k_val (e_frz (v_lst (a_cons (k_val e_int) a_nil)))) (a_cons (k_val (e_frz (v_lst (a_cons (k_val e_int) (a_cons (k_val e_int) a_nil))))) (a_cons (k_val (e_tup (a_cons (k_val e_int) (a_cons (k_val e_int) a_nil)))) (a_cons (k_val (e_frz (v_lst (a_cons (k_val e_int) (a_cons (k_val e_int) a_nil))))) (a_cons (k_val (e_frz (v_lst (a_cons (k_val e_int) (a_cons (k_val e_int) (a_cons (k_val e_int) a_nil)))))) (a_cons (k_val (e_frz (v_lst (a_cons (k_val e_int) (a_cons (k_val e_int) (a_cons (k_val e_int) (a_cons (k_val e_int) a_nil))))))) (a_cons (k_val (e_frz (v_mul (k_val (e_frz (v_lst (a_cons (k_val e_int) (a_cons (k_val e_int) a_nil))))) (k_val e_int)))) a_nil)))))))))
    (ss_cons (s_set sc__law_rings_right.nd rfl (by first | exact Or.inl rfl | exact Or.inr rfl) (v_lst (a_cons (k_val e_non) (a_cons (k_val e_int) (a_cons (k_val e_bl) (a_cons (k_val e_str) (a_cons (k_val (e_frz (v_lst a_nil))) (a_cons (k_val (e_tup a_nil)) (a_cons (k_val (e_frz v_dic0)) (a_cons (k_val (e_frz (v_lst (a_cons (k_val e_int) a_nil)))) (a_cons (k_val (e_frz (v_lst (a_cons (k_val e_int) a_nil)))) (a_cons (k_val (e_frz (v_lst (a_cons (k_val e_int) a_nil)))) (a_cons (k_val (e_frz (v_lst (a_cons (k_val e_int) a_nil)))) (a_cons (k_val (e_frz (v_lst (a_cons (k_val e_int) (a_cons (k_val e_int) a_nil))))) (a_cons (k_val (e_frz (v_lst (a_cons (k_val e_int) (a_cons (k_val e_int) a_nil))))) (a_cons (k_val (e_frz (v_lst (a_cons (k_val e_bl) a_nil)))) (a_cons (k_val (e_frz (v_lst (a_cons (k_val e_int) (a_cons (k_val e_non) a_nil))))) (a_cons (k_val (e_frz (v_lst (a_cons (k_val (e_neg (k_val e_int))) a_nil)))) (a_cons (k_val (e_frz (v_lst (a_cons (k_val e_int) a_nil)))) (a_cons (k_val (e_frz (v_lst (a_cons (k_val e_str) a_nil)))) (a_cons (k_val (e_frz (v_lst (a_cons (k_val (e_frz (v_lst (a_cons (k_val e_int) a_nil)))) a_nil)))) a_nil)))))))))))))))))))))
    (ss_cons (s_for (passes_of rfl) rfl (i_seq (e_name (pv 2))) (g_name (pg_nm 4 sc__law_rings_right.nd)) (ss_cons (s_set sc__law_rings_right.nd rfl (by first | exact Or.inl rfl | exact Or.inr rfl) (v_val (e_cp (x_eq hr) (k_val (e_frz (v_lc (own := [("_law_one", 8)]) rfl sc__law_rings_right.nd (i_seq (e_name (pv 4))) (blkOk_by (by kernel_rfl)) (by decide) (fun _ _ _ _ _ => (g_name (pg_nm 8 sc__law_rings_right.nd))) (fun _ _ _ _ _ => (pts_one (t_cp (x_ne hr) (k_name (pv 8)) (k_val e_int) (nomark _)))) (fun _ _ _ _ _ => (e_name (pv 8)))))) (k_val (e_frz (v_lst a_nil))) (nomark _))))
    (ss_cons (s_setLc (own := [("_law_lot", 7)]) rfl sc__law_rings_right.nd rfl rfl (sw_true rfl rfl rfl (by kernel_rfl)) (i_seq (e_frz (v_lst (a_cons (k_val (e_frz (v_lst a_nil))) (a_cons (k_val (e_tup (a_cons (k_val e_int) a_nil))) (a_cons (k_val (e_frz (v_lst (a_cons (k_val e_int) a_nil)))) (a_cons (k_val (e_frz (v_lst (a_cons (k_val e_int) a_nil)))) (a_cons (k_val (e_frz (v_lst (a_cons (k_val e_int) (a_cons (k_val e_int) a_nil))))) a_nil)))))))) (blkOk_by (by kernel_rfl)) (by decide) (fun _ _ _ _ _ => (g_name (pg_nm 7 sc__law_rings_right.nd))) (fun _ _ _ _ _ => pts_yes) (fun _ _ _ _ _ => (e_frz (v_call (at_is_ring_without Z rfl) (hr.mono (by decide)) rfl takes0 (a_cons (k_val (e_name (pv 1))) (a_cons (k_val (e_name (pv 7))) (a_cons (k_val (e_name (pv 4))) a_nil)))))))
    (ss_one (s_if (t_cp x_neT (k_val (e_frz (v_callB (cr_reprD hgu hr) g_reprD rfl Z.free_repr (by decide +kernel) (a_cons (k_name (pv 6)) a_nil)))) (k_val (e_frz (v_callB (cr_reprD hgu hr) g_reprD rfl Z.free_repr (by decide +kernel) (a_cons (k_val (e_frz (v_lst (a_cons (k_val e_bl) (a_cons (k_val e_bl) (a_cons (k_val (e_name (pv 5))) (a_cons (k_val e_bl) (a_cons (k_val (e_name (pv 5))) a_nil)))))))) a_nil)))) (nomark _)) (ss_one (s_ret (v_val e_bl))) ss_nil)))))
    (ss_cons (s_for (passes_of rfl) rfl (i_seq (e_name (pv 3))) (g_name (pg_nm 4 sc__law_rings_right.nd)) (ss_one (s_if (t_cp x_notB (k_val (e_frz (v_call (at_is_ring_without Z rfl) (hr.mono (by decide)) rfl tk (a_cons (k_val (e_name (pv 1))) (a_cons (k_val (e_frz (v_lst a_nil))) (a_cons (k_val (e_name (pv 4))) a_nil)))))) (k_val e_bl) (nomark _)) (ss_one (s_ret (v_val e_bl))) ss_nil)))
    (ss_one (s_ret (v_val (e_cp x_isB (k_val (e_frz (v_call (at_is_ring_without Z rfl) (hr.mono (by decide)) rfl tk (a_cons (k_val (e_name (pv 1))) (a_cons (k_val (e_frz (v_lst (a_cons (k_val e_int) a_nil)))) (a_cons (k_val (e_frz (v_lst (a_cons (k_val e_int) (a_cons (k_val e_int) a_nil))))) a_nil)))))) (k_val e_bl) (nomark _))))))))))
theorem at__law_rings_right {P : Program} {w : World} {K : PySem.W.Frag} {mg : Str → Option Value} {base : Heap} (Z : Wd K mg) {ct : Ct} (hc : ct.f = ctF K) : FnAtG P w K mg base ct 7 "_law_rings_right" (["_law_pot_here"] : List PySem.Str) F__law_rings_right := by
  obtain ⟨fd, D⟩ := Z.c.d.def_ 41
  exact ⟨⟨_, fd, ok__law_rings_right Z hc D, Z.glo__law_rings_right, D.kp, D.bindsN fun _ _ _ _ _ _ us hl => match us, hl with | [_], _ => rfl⟩⟩
theorem sc_law : FnScope (["_law_script", "_law_pot_here"] : List PySem.Str) (["_law_script"] : List PySem.Str) (defScope (top 58)) := ⟨rfl, rfl, rfl, by decide +kernel, rfl, by decide +kernel, by decide +kernel⟩
theorem ok_law {P : Program} {w : World} {K : PySem.W.Frag} {mg : Str → Option Value} {base : Heap} (Z : Wd K mg) (TB : ∀ p ∈ tf, LamX.TabB base mg (He.cT K p).1 (He.cT K p).2) {x qual : Str} {params : Arguments} {f : Addr} {fd : FuncData} (D : FunD K x qual params (defBody (top 58)) (defScope (top 58)) [] [] f fd) : FnG P w K mg base 12 f fd (["_law_script"] : List PySem.Str) (spM ⟨K, ctM K⟩ F_law) := by
  refine fn_mirG (k := 11) (ct := ctM K) (fb := fb_law) D sc_law rfl rfl (fun cdv A outer s H E hgu hr tk => ?_)
  exact (ss_cons (s_set sc_law.nd rfl (by first | exact Or.inl rfl | exact Or.inr rfl) (v_call (at__law_pot Z rfl) (hr.mono (by decide)) rfl tk (a_cons (k_name (pv 0)) (a_cons (k_val e_int) a_nil))))
    (ss_cons (s_if (t_w (w_or (t_not (t_val (e_frz (v_callG0 (at__law_nets_right Z TB) hgu (hr.mono (by decide)) rfl tk)))) (w_or (t_not (t_val (e_frz (v_callG (at__law_lots_right Z TB) hgu (hr.mono (by decide)) rfl tk (a_cons (k_name (pv 1)) a_nil))))) (w_or1 (t_not (t_val (e_frz (v_callG (at__law_rings_right Z rfl) hgu (hr.mono (by decide)) rfl tk (a_cons (k_val (e_name (pv 1))) a_nil))))))))) (ss_one (s_ret (v_val e_bl))) ss_nil)
    (ss_one (s_ret (v_call0 (at__law_many_right Z rfl) (hr.mono (by decide)) rfl tk)))))
theorem at_law {P : Program} {w : World} {K : PySem.W.Frag} {mg : Str → Option Value} {base : Heap} (Z : Wd K mg) (TB : ∀ p ∈ tf, LamX.TabB base mg (He.cT K p).1 (He.cT K p).2) : FnAtG P w K mg base (ctM K) 12 "law" (["_law_script"] : List PySem.Str) F_law := by
  obtain ⟨fd, D⟩ := Z.c.d.def_ 42
  exact ⟨⟨_, fd, ok_law Z TB D, Z.glo_law, D.kp, D.bindsN fun _ _ _ _ _ _ us hl => match us, hl with | [_], _ => rfl⟩⟩
end K40
end
section
set_option Elab.async false
set_option linter.all false
set_option autoImplicit false
set_option maxRecDepth 100000
set_option maxHeartbeats 4000000
namespace K40
open PySem PySem.Spec L2 MM
/-! ### draws -/
def PotOk (b : Int) : Prop := 0 ≤ b ∧ b ≤ 2147483590
abbrev pot (a b : Int) : MV := .lst [.int a, .int b]
theorem draw (a b n : Int) (hb : PotOk b) (h1 : 1 ≤ n) (h2 : n < 1073741824) : ∃ v a' b', F__law_draw [.p (pot a b), .d (.int n)] = .ret (.d (.int v)) [some (pot a' b'), none] ∧ PotOk b' ∧ 0 ≤ v ∧ v < n := by
  obtain ⟨b1, b2⟩ := hb
  by_cases h : 0 < a
  · refine ⟨a % n, a / n, b, ?_, ⟨b1, b2⟩, Int.emod_nonneg _ (by omega), Int.emod_lt_of_pos _ (by omega)⟩
    rw [F__law_draw, runD_2, fb__law_draw]
    have h3 : 0 < n ∧ n < 1073741824 := ⟨by omega, h2⟩
    simp [pot, h, h3]
  · have c1 : CMulW b 48271 := cmulW (a := 64) (b := 64) (by omega) (by decide)
    refine ⟨(((b * 48271 + 19013) % 2147483587) * ((b * 48271 + 19013) % 2147483587) % 2147483549 / 13) % n, a, (b * 48271 + 19013) % 2147483587, ?_, ⟨Int.emod_nonneg _ (by omega), by have := Int.emod_lt_of_pos (b * 48271 + 19013) (show (0 : Int) < 2147483587 by omega); omega⟩, Int.emod_nonneg _ (by omega : n ≠ 0), Int.emod_lt_of_pos _ (by omega)⟩
    · have q1 := Int.emod_nonneg (b * 48271 + 19013) (show (2147483587 : Int) ≠ 0 by omega)
      have q2 := Int.emod_lt_of_pos (b * 48271 + 19013) (show (0 : Int) < 2147483587 by omega)
      have c2 : CMulW ((b * 48271 + 19013) % 2147483587) ((b * 48271 + 19013) % 2147483587) := cmulW (a := 64) (b := 64) (by omega) (by omega)
      have c3 : CDivW (((b * 48271 + 19013) % 2147483587) * ((b * 48271 + 19013) % 2147483587) % 2147483549) 13 := cdivW (by omega) (by omega)
      have c4 : 0 < n := by omega
      rw [F__law_draw, runD_2, fb__law_draw]
      simp [pot, h, c1, c2, c3, c4]
theorem pot_ok (ns : List Int) : ∃ a b, F__law_pot [.d (.scr ns), .d (.int 0)] = .ret (.m (pot a b)) [none, none] ∧ PotOk b := by
  have hp : CPow 10 18 := by decide
  have m0 : CMulW 1117 0 := by decide
  have m1 : CMulW 2 0 := by decide
  have m2 : CMulW 829 769 := by decide
  have mm : ∀ x : Int, CMulW (x % 2147483549) 769 := fun x => by
    have q1 := Int.emod_nonneg x (show (2147483549 : Int) ≠ 0 by omega)
    have q2 := Int.emod_lt_of_pos x (show (0 : Int) < 2147483549 by omega)
    exact cmulW (a := 64) (b := 64) (by omega) (by decide)
  have ok : ∀ x : Int, PotOk (x % 2147483543 + 1) := fun x => by
    have q1 := Int.emod_nonneg x (show (2147483543 : Int) ≠ 0 by omega)
    have q2 := Int.emod_lt_of_pos x (show (0 : Int) < 2147483543 by omega)
    exact ⟨by omega, by omega⟩
  cases ns with
  | nil =>
    refine ⟨0, _, ?_, ok ((829 % 2147483549) * 769 + 1567)⟩
    rw [F__law_pot, runD_2, fb__law_pot]
    simp [pot, hp, m0, m1, m2, mm]
  | cons n ns =>
    refine ⟨if (if n < 0 then -n else n) - 10 ^ 18 > 0 then (if n < 0 then -n else n) - 10 ^ 18 else 0, _, ?_, ok (((if n < 0 then -n else n) % 2147483549) * 769 + 1567)⟩
    rw [F__law_pot, runD_2, fb__law_pot]
    have hl : (0 : Int) < ((n :: ns).length : Int) := by simp
    simp [pot, hp, m0, m1, mm]
end K40
end
section
set_option Elab.async false
set_option linter.all false
set_option autoImplicit false
set_option maxRecDepth 1000000
set_option maxHeartbeats 0
namespace K40
open PySem PySem.Spec L2 MM
theorem nets_ok : F__law_nets_right [] = .ret (.d (.bl true)) [] := by kernel_rfl
theorem rings_ok (P : D) : F__law_rings_right [.d P] = .ret (.d (.bl true)) [none] := by kernel_rfl
theorem many_ok : F__law_many_right [] = .ret (.d (.bl true)) [] := by kernel_rfl
end K40
end
section
set_option Elab.async false
set_option linter.all false
set_option autoImplicit false
set_option maxRecDepth 1000000
set_option maxHeartbeats 0
namespace K40
open PySem PySem.Spec L2 MM
noncomputable def q0 : SM := (sSet 1 (vD (cF (vMake 0 F_Net___init__ (aCons (kE (cC (.int 1))) (aCons (kE (cF (vLst (aCons (kE (cF (vLst (aCons (kE (cC (.int 0))) (aCons (kE (cC (.int 1))) aNil))))) (aCons (kE (cF (vLst (aCons (kE (cC (.int 0))) (aCons (kE (cUn gNeg (kE (cC (.int 1))))) aNil))))) (aCons (kE (cF (vLst (aCons (kE (cC (.int 1))) aNil)))) aNil)))))) aNil))))))
noncomputable def q1 : SM := (sSet 2 (vLst (aCons (kE (cC .non)) (aCons (kE (cC (.int 5))) (aCons (kE (cC (.bl true))) (aCons (kE (cC (.str "0"))) (aCons (kE (cF vDic0)) (aCons (kE (cF (vLst (aCons (kE (cC (.bl true))) aNil)))) (aCons (kE (cF (vLst (aCons (kE (cC .non)) aNil)))) (aCons (kE (cF (vLst (aCons (kE (cC (.str "0"))) aNil)))) (aCons (kE (cF (vLst (aCons (kE (cUn gNeg (kE (cC (.int 1))))) aNil)))) (aCons (kE (cF (vLst (aCons (kE (cC (.int 3))) aNil)))) (aCons (kE (cF (vLst (aCons (kE (cC (.int 1))) (aCons (kE (cC (.int 0))) aNil))))) (aCons (kE (cF (vLst (aCons (kE (cC (.int 0))) (aCons (kE (cC (.int 0))) aNil))))) (aCons (kE (cF (vLst (aCons (kE (cF (vLst (aCons (kE (cC (.int 0))) aNil)))) aNil)))) (aCons (kE (cF (vLst (aCons (kE (cC (.int 0))) (aCons (kE (cC (.int 3))) aNil))))) aNil))))))))))))))))
noncomputable def q2 : SM := (sFor (iSeq (cF (vSlK (kN 2) (oSome (kE (cF (vCall F__law_draw (aCons (kN 0) (aCons (kE (cC (.int 2))) aNil)))))) 2))) (gSet 3) lb__law_lots_right_1)
noncomputable def q3 : SM := (sFor (iSeq (cF (vLst (aCons (kE (cF (vLst aNil))) (aCons (kE (cTup aNil)) (aCons (kE (cF (vLst (aCons (kE (cC (.int 1))) aNil)))) (aCons (kE (cF (vLst (aCons (kE (cC (.int 2))) aNil)))) (aCons (kE (cTup (aCons (kE (cC (.int 1))) (aCons (kE (cC (.int 2))) aNil)))) aNil)))))))) (gSet 3) lb__law_lots_right_2)
noncomputable def q4 : SM := (sSet 4 (lcF [3] (iSeq (cF (vLst (aCons (kE (cF (vLst (aCons (kE (cC (.int 0))) aNil)))) (aCons (kE (cTup (aCons (kE (cC (.int 0))) aNil))) (aCons (kE (cF (vLst (aCons (kE (cC (.int 0))) (aCons (kE (cC (.int 1))) aNil))))) (aCons (kE (cF (vLst (aCons (kE (cC (.int 0))) (aCons (kE (cC (.int 2))) aNil))))) (aCons (kE (cF (vLst (aCons (kE (cC (.int 0))) (aCons (kE (cC (.int 1))) (aCons (kE (cC (.int 2))) aNil)))))) aNil)))))))) (gSet 3) tYesF ce__law_lots_right_1))
noncomputable def q5 : SM := (sRet (vD (cIf (tVal (cB (tCmpF gEqT (kE (cF (vCallB (gF1 fReprD) (aCons (kN 4) aNil)))) (kE (cF (vCallB (gF1 fReprD) (aCons (kE (cF (vBin gMul (kE (cF (vLst (aCons (kE (cC (.bl true))) aNil)))) (kE (cC (.int 5)))))) aNil))))))) (cB (tCmpF gIsN (kE (cF (vCallK 0 2 [0, 1] F_ring_without aNil (aCons (kE (cN 1)) (aCons (kE (cTup (aCons (kE (cC (.int 0))) aNil))) aNil))))) (kE (cC .non)))) (cC (.bl false)))))
noncomputable def qv (v : Int) : SM := (sFor (iSeq (cF (vSlK (kN 2) (oSome (kE (cC (.int v)))) 2))) (gSet 3) lb__law_lots_right_1)
theorem q_eq : fb__law_lots_right = sSeq q0 (sSeq q1 (sSeq q2 (sSeq q3 (sSeq q4 q5)))) := rfl
def netN : D := .obj 0 [.int 1, .tup [.tup [.int 0, .int 1], .tup [.int 0, .int (-1)], .tup [.int 1]], .tup [.int 0, .int 1, .int 0, .int (-1), .int 1], .tup [.int 0, .int 2, .int 4]]
def oddsN : List D := [.non, .int 5, .bl true, .str "0", .dic [] [], .lst [.bl true], .lst [.non], .lst [.str "0"], .lst [.int (-1)], .lst [.int 3], .lst [.int 1, .int 0], .lst [.int 0, .int 0], .lst [.lst [.int 0]], .lst [.int 0, .int 3]]
theorem h0 (P : MV) : q0 [some (.p P), none, none, none, none, none] = .nx [some (.p P), some (.d netN), none, none, none, none] := by kernel_rfl
theorem h1 (P : MV) : q1 [some (.p P), some (.d netN), none, none, none, none] = .nx [some (.p P), some (.d netN), some (.m (.lst oddsN)), none, none, none] := by kernel_rfl
theorem h2 (a b a' b' v : Int) (h : F__law_draw [.p (pot a b), .d (.int 2)] = .ret (.d (.int v)) [some (pot a' b'), none]) :
    q2 [some (.p (pot a b)), some (.d netN), some (.m (.lst oddsN)), none, none, none] = qv v [some (.p (pot a' b')), some (.d netN), some (.m (.lst oddsN)), none, none, none] := by
  unfold q2 qv
  generalize oddsN = O at *
  generalize netN = N at *
  simp only [pot] at *
  simp [h, vSlK]
theorem fin0 (P : MV) : outOf 1 ((sSeq (qv 0) (sSeq q3 (sSeq q4 q5))) [some (.p P), some (.d netN), some (.m (.lst oddsN)), none, none, none]) = .ret (.d (.bl true)) [some P] := by kernel_rfl
theorem fin1 (P : MV) : outOf 1 ((sSeq (qv 1) (sSeq q3 (sSeq q4 q5))) [some (.p P), some (.d netN), some (.m (.lst oddsN)), none, none, none]) = .ret (.d (.bl true)) [some P] := by kernel_rfl
theorem lots_ok (a b : Int) (hb : PotOk b) : ∃ a' b', F__law_lots_right [.p (pot a b)] = .ret (.d (.bl true)) [some (pot a' b')] := by
  obtain ⟨v, a', b', h, hb', v0, v1⟩ := draw a b 2 hb (by omega) (by omega)
  refine ⟨a', b', ?_⟩
  have hv : v = 0 ∨ v = 1 := by omega
  show scO (outOf 1 (fb__law_lots_right [some (.p (pot a b)), none, none, none, none, none])) = _
  rw [q_eq, sSeq_ev, h0]
  show scO (outOf 1 ((sSeq q1 (sSeq q2 (sSeq q3 (sSeq q4 q5)))) [some (.p (pot a b)), some (.d netN), none, none, none, none])) = _
  rw [sSeq_ev, h1]
  show scO (outOf 1 ((sSeq q2 (sSeq q3 (sSeq q4 q5))) [some (.p (pot a b)), some (.d netN), some (.m (.lst oddsN)), none, none, none])) = _
  rw [sSeq_ev, h2 a b a' b' v h, ← sSeq_ev]
  rcases hv with rfl | rfl
  · rw [fin0]; rfl
  · rw [fin1]; rfl
theorem law {A B : Prop} (ns : List Int) (_ : A) (_ : B) : ∃ ps, F_law [.d (.scr ns)] = .ret (.d (.bl true)) ps := by
  obtain ⟨a, b, h1, hb⟩ := pot_ok ns
  obtain ⟨a', b', h2⟩ := lots_ok a b hb
  have h3 := rings_ok (.lst [.int a', .int b'])
  have h4 := nets_ok
  have h5 := many_ok
  rw [F_law, runD_1, fb_law]
  simp only [pot] at *
  exact ⟨_, by simp [h1, h2, h3, h4, h5]; rfl⟩
end K40
end
section
set_option Elab.async false
set_option linter.all false
set_option maxRecDepth 100000
set_option maxHeartbeats 0
open PySem PySem.W PySem.Calls PyProof.Rows
theorem K40.holds (law : ∀ ns : List Int, ns.length ≤ 63 → (∀ i ∈ ns, Builtin.Int.intBits i ≤ 1048576) → ∃ ps, K40.F_law [.d (.scr ns)] = .ret (.d (.bl true)) ps) : PySem.Challenge.rw_flippedpoints_k40_cuts_refused.Holds := by
  w_on; o_law
  refine HandSHeadRun.head_any (r := OpenLaw.row PySem.Challenge.rw_flippedpoints_k40_cuts_refused) (q := view (OpenLaw.row PySem.Challenge.rw_flippedpoints_k40_cuts_refused).prog [58]) (H := K40.hk) (ob := K40.ob) (M := 8000) (loose := K40.loose) (d := HandSHeadRun.topDef (OpenLaw.row PySem.Challenge.rw_flippedpoints_k40_cuts_refused).prog 58) (kwd := []) K40.ob_eq
    (by kernel_rfl) (fun s => by kernel_rfl) K40.run (by kernel_rfl) (by kernel_rfl) (by kernel_rfl) (by rfl) (by first | assumption | decide +kernel) (by decide +kernel) ⟨rfl, rfl, rfl, rfl, rfl, by decide +kernel⟩ ?hw ?hc
  case hw => w_witness2
  case hc =>
    refine MM.walkT (l := PySem.Challenge.rw_flippedpoints_k40_cuts_refused) (n := 63) (k := 12) (x := "_law_script") (F := K40.F_law) rfl (by decide) (by kernel_rfl) ⟨rfl, by decide, by decide⟩ ?F law
    intro w mg fa h Y G hmg0
    obtain ⟨K, KX, c⟩ := Y
    have hmg : mg ("law" : PySem.Str) = some (.ref fa) := by
      have e : (HandSHeadRun.topDef (OpenLaw.row PySem.Challenge.rw_flippedpoints_k40_cuts_refused).prog 58).name = ("law" : PySem.Str) := by kernel_rfl
      rw [← e]
      exact hmg0
    have Z : K40.Wd K mg := ⟨⟨h, KX, G⟩, c.m, c.more⟩
    have e := hmg.symm.trans Z.glo_law
    cases e
    obtain ⟨fd, D⟩ := Z.c.d.def_ 42
    have b := L2.FunD.bindsA (ps := ["_law_script"]) D fun _ _ _ _ _ _ us hl => match us, hl with | [_], _ => rfl
    refine ⟨K, K40.ctM K, fd, K40.tf.map (He.cT K), KX, fun p hp => ?_, fun p hp => ?_, fun p hp => ?_, fun p hp => ?_, fun s v => b s [v] rfl, fun base _ _ TB => K40.ok_law Z (fun p hp => TB _ (List.mem_map.mpr ⟨p, hp, rfl⟩)) D⟩
    · obtain ⟨q, hq, e⟩ := List.mem_map.mp hp
      exact ⟨(He.cT K q).1, List.mem_map.mpr ⟨q, hq, by rw [← e]⟩⟩
    · obtain ⟨q, hq, rfl⟩ := List.mem_map.mp hp
      exact c.empty q hq
    · obtain ⟨q, hq, rfl⟩ := List.mem_map.mp hp
      exact c.out q hq
    · obtain ⟨q, hq, rfl⟩ := List.mem_map.mp hp
      exact PySem.W.codeHd_of_K KX (c.hd q hq)
end
theorem PySem.Challenge.cw_flippedpoints_k40_cuts_refused_holds : PySem.Challenge.rw_flippedpoints_k40_cuts_refused.Holds := by
  exact K40.holds fun ns h1 h2 => K40.law ns h1 h2
