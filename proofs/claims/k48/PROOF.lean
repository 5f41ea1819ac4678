import PyProof.Rows.All
import Wide.All
import OpenK.AllK
import Wide.FinOn
import HandS.ForMost
import HandS.Wide
import HandS.WideBits
import HandS.Conv
import HandS.Style
import HandS.Zip
import HandS.Property
import HandS.OwnEq
import HandS.Flow
import HandS.Deep
import HandS.SetFor
import HandS.Strs
import HandS.TupLen
import KE.KDictDisplayH
import HandS.Codes
import KE.DataMinMax
import HandS.SortKw
import KE.GoesEnum
import HandS.Star
import HandS.SortInts
import HandS.Ends
import HandS.RaiseMore
import HandS.Nested
import HandS.ExcInit
import HandS.ExcSuper
import KE.KExcSuper
import KE.KExcMake
import HandS.WordsExc
import HandS.ExcOwn
import HandS.Defaults
import HandS.ExcIs
import HandS.ExcField
import KE.KExcIs
import KE.KIsAll
import OpenK.KOps
import HandS.IsInst
import PyProof.ReprLen
import PySem.Challenge.RW_returnrows_k48_small_books
set_option Elab.async false
set_option maxRecDepth 100000
set_option linter.all false
/-! A layer by value over the hand layer: data, the world of what stands still, expressions as functions of data. -/
namespace Vx
open PySem L2

/-- data -/
inductive D where
  | non | bl (b : Bool) | int (i : Int) | str (x : Str) | lst (xs : List D) | tup (xs : List D) | row (r : List (List Nat))

/-- what stands still: lists and tuples (S), rows (R); whose a row's own list is (I); all that is governed (D); the pool of draws (P) -/
structure Wd where
  S : Addr → Option HO
  R : Addr → Option (List (List Nat))
  D : Addr → Prop
  P : Addr
  I : Addr → Option Addr

mutual
def Rep (W : Wd) : D → V → Prop
  | .non, v => v = .non
  | .bl b, v => v = .bl b
  | .int i, v => v = .int i
  | .str x, v => v = .str x
  | .lst xs, v => ∃ a ws, v = .ref a ∧ W.S a = some (.lst ws) ∧ RepL W xs ws
  | .tup xs, v => ∃ a ws, v = .ref a ∧ W.S a = some (.tup ws) ∧ RepL W xs ws
  | .row r, v => ∃ a, v = .ref a ∧ W.R a = some r
def RepL (W : Wd) : List D → List V → Prop
  | [], ws => ws = []
  | d :: ds, ws => ∃ w r, ws = w :: r ∧ Rep W d w ∧ RepL W ds r
end

structure Le (W W' : Wd) : Prop where
  s : ∀ a o, W.S a = some o → W'.S a = some o
  r : ∀ a o, W.R a = some o → W'.R a = some o
  d : ∀ a, W.D a → W'.D a
  p : W'.P = W.P
  i : ∀ a o, W.I a = some o → W'.I a = some o
  s' : ∀ a o, W'.S a = some o → W.S a = some o ∨ ¬ W.D a ∨ ∃ ws, o = .tup ws
  r' : ∀ a o, W'.R a = some o → W.R a = some o ∨ ¬ W.D a
theorem Le.refl (W : Wd) : Le W W := ⟨fun _ _ h => h, fun _ _ h => h, fun _ h => h, rfl, fun _ _ h => h, fun _ _ h => .inl h, fun _ _ h => .inl h⟩
theorem Le.trans {W W1 W2 : Wd} (a : Le W W1) (b : Le W1 W2) : Le W W2 :=
  ⟨fun x o h => b.s x o (a.s x o h), fun x o h => b.r x o (a.r x o h), fun x h => b.d x (a.d x h), b.p.trans a.p, fun x o h => b.i x o (a.i x o h),
    fun x o h => (b.s' x o h).elim (fun q => a.s' x o q) fun q => .inr (q.imp (fun q z => q (a.d x z)) id), fun x o h => (b.r' x o h).elim (fun q => a.r' x o q) fun q => .inr fun z => q (a.d x z)⟩

mutual
theorem Rep.mono {W W' : Wd} (h : Le W W') : ∀ {d : D} {v : V}, Rep W d v → Rep W' d v
  | .non, _, q => q
  | .bl _, _, q => q
  | .int _, _, q => q
  | .str _, _, q => q
  | .lst xs, _, ⟨a, ws, e, hs, r⟩ => ⟨a, ws, e, h.s _ _ hs, RepL.mono h r⟩
  | .tup xs, _, ⟨a, ws, e, hs, r⟩ => ⟨a, ws, e, h.s _ _ hs, RepL.mono h r⟩
  | .row r, _, ⟨a, e, hr⟩ => ⟨a, e, h.r _ _ hr⟩
theorem RepL.mono {W W' : Wd} (h : Le W W') : ∀ {ds : List D} {ws : List V}, RepL W ds ws → RepL W' ds ws
  | [], _, q => q
  | d :: ds, _, ⟨w, r, e, q, t⟩ => ⟨w, r, e, Rep.mono h q, RepL.mono h t⟩
end
theorem RepL.nil {W : Wd} : RepL W [] [] := by unfold RepL; rfl
theorem RepL.cons {W : Wd} {d : D} {ds : List D} {w : V} {ws : List V} (h : Rep W d w) (t : RepL W ds ws) : RepL W (d :: ds) (w :: ws) := by unfold RepL; exact ⟨w, ws, rfl, h, t⟩
theorem RepL.length {W : Wd} : ∀ {ds : List D} {ws : List V}, RepL W ds ws → ws.length = ds.length
  | [], ws, q => by unfold RepL at q; subst q; rfl
  | d :: ds, ws, q => by
    unfold RepL at q
    obtain ⟨w, r, e, _, t⟩ := q
    subst e
    rw [List.length_cons, List.length_cons, RepL.length t]
theorem RepL.get {W : Wd} : ∀ {ds : List D} {ws : List V} {i : Nat} {d : D}, RepL W ds ws → ds[i]? = some d → ∃ w, ws[i]? = some w ∧ Rep W d w
  | [], ws, i, d, q, e => by simp at e
  | x :: ds, ws, 0, d, q, e => by
    unfold RepL at q
    obtain ⟨w, r, e1, h, t⟩ := q
    subst e1
    simp at e
    subst e
    exact ⟨w, rfl, h⟩
  | x :: ds, ws, i + 1, d, q, e => by
    unfold RepL at q
    obtain ⟨w, r, e1, h, t⟩ := q
    subst e1
    simp at e
    obtain ⟨w', e2, h2⟩ := RepL.get t e
    exact ⟨w', by simpa using e2, h2⟩
theorem RepL.get' {W : Wd} : ∀ {ds : List D} {ws : List V} {i : Nat} {w : V}, RepL W ds ws → ws[i]? = some w → ∃ d, ds[i]? = some d ∧ Rep W d w := fun {ds ws i w} q e => by
  have hl := q.length
  have hi : i < ws.length := (List.getElem?_eq_some_iff.mp e).1
  have hd : ds[i]? = some ds[i] := List.getElem?_eq_getElem (by omega)
  obtain ⟨w', e', h⟩ := q.get hd
  rw [e] at e'
  cases e'
  exact ⟨_, hd, h⟩
theorem RepL.append {W : Wd} : ∀ {ds es : List D} {ws us : List V}, RepL W ds ws → RepL W es us → RepL W (ds ++ es) (ws ++ us)
  | [], es, ws, us, q, t => by unfold RepL at q; subst q; exact t
  | d :: ds, es, ws, us, q, t => by
    unfold RepL at q
    obtain ⟨w, r, e, h, q⟩ := q
    subst e
    exact RepL.cons h (RepL.append q t)
theorem RepL.take {W : Wd} : ∀ {ds : List D} {ws : List V} (n : Nat), RepL W ds ws → RepL W (ds.take n) (ws.take n)
  | _, _, 0, _ => by simp [RepL]
  | [], ws, n + 1, q => by unfold RepL at q; subst q; simp [RepL]
  | d :: ds, ws, n + 1, q => by
    unfold RepL at q
    obtain ⟨w, r, e, h, q⟩ := q
    subst e
    exact RepL.cons h (RepL.take n q)
theorem RepL.drop {W : Wd} : ∀ {ds : List D} {ws : List V} (n : Nat), RepL W ds ws → RepL W (ds.drop n) (ws.drop n)
  | _, _, 0, q => q
  | [], ws, n + 1, q => by unfold RepL at q; subst q; simp [RepL]
  | d :: ds, ws, n + 1, q => by
    unfold RepL at q
    obtain ⟨w, r, e, h, q⟩ := q
    subst e
    exact RepL.drop n q
theorem RepL.set {W : Wd} {d : D} {w : V} (h : Rep W d w) : ∀ {ds : List D} {ws : List V} (i : Nat), RepL W ds ws → RepL W (ds.set i d) (ws.set i w)
  | [], ws, i, q => by unfold RepL at q; subst q; simp [RepL]
  | x :: ds, ws, 0, q => by
    unfold RepL at q
    obtain ⟨w', r, e, h', q⟩ := q
    subst e
    exact RepL.cons h q
  | x :: ds, ws, i + 1, q => by
    unfold RepL at q
    obtain ⟨w', r, e, h', q⟩ := q
    subst e
    exact RepL.cons h' (RepL.set h i q)
theorem RepL.eraseIdx {W : Wd} : ∀ {ds : List D} {ws : List V} (i : Nat), RepL W ds ws → RepL W (ds.eraseIdx i) (ws.eraseIdx i)
  | [], ws, i, q => by unfold RepL at q; subst q; simp [RepL]
  | x :: ds, ws, 0, q => by
    unfold RepL at q
    obtain ⟨w', r, e, h', q⟩ := q
    subst e
    exact q
  | x :: ds, ws, i + 1, q => by
    unfold RepL at q
    obtain ⟨w', r, e, h', q⟩ := q
    subst e
    exact RepL.cons h' (RepL.eraseIdx i q)
theorem RepL.reverse {W : Wd} {ds : List D} {ws : List V} (q : RepL W ds ws) : RepL W ds.reverse ws.reverse := by
  induction ds generalizing ws with
  | nil => unfold RepL at q; subst q; exact RepL.nil
  | cons d ds ih =>
    unfold RepL at q
    obtain ⟨w, r, e, h, q⟩ := q
    subst e
    rw [List.reverse_cons, List.reverse_cons]
    exact (ih q).append (RepL.cons h RepL.nil)
theorem RepL.of_get {W : Wd} : ∀ {ds : List D} {ws : List V}, ws.length = ds.length → (∀ (i : Nat) d w, ds[i]? = some d → ws[i]? = some w → Rep W d w) → RepL W ds ws
  | [], ws, e, _ => by
    have : ws = [] := by simpa using e
    subst this
    exact RepL.nil
  | d :: ds, [], e, _ => by simp at e
  | d :: ds, w :: ws, e, h => RepL.cons (h 0 d w rfl rfl) (RepL.of_get (by simpa using e) fun i d' w' h1 h2 => h (i + 1) d' w' (by simpa using h1) (by simpa using h2))
/-- ints -/
def dints (ns : List Int) : List D := ns.map D.int
def dnats (ns : List Nat) : List D := ns.map fun (n : Nat) => D.int (n : Int)
theorem RepL.ints {W : Wd} : ∀ {ns : List Int} {ws : List V}, RepL W (ns.map D.int) ws → ws = ns.map V.int
  | [], ws, q => by simp [RepL] at q; simp [q]
  | n :: ns, ws, q => by
    rw [List.map_cons] at q
    unfold RepL at q
    obtain ⟨w, r, e, h, q⟩ := q
    have := RepL.ints q
    simp [Rep] at h
    subst this
    subst h
    rw [e, List.map_cons]
theorem RepL.of_ints {W : Wd} : ∀ {ns : List Int}, RepL W (ns.map D.int) (ns.map V.int)
  | [] => RepL.nil
  | n :: ns => RepL.cons (by simp [Rep]) RepL.of_ints

/-- what is meant by a row at an address; it leans on what is governed, but for the pool -/
structure Th where
  RowAt : Wd → Hp → Addr → List (List Nat) → Prop
  Adv : Wd → Hp → Hp → Prop
  mono : ∀ (W W' : Wd) (H H' : Hp) (a : Addr) (r : List (List Nat)), Le W W' → (∀ b, W.D b → b ≠ W.P → H' b = H b) → RowAt W H a r → RowAt W' H' a r
  same : ∀ (W : Wd) (H H' : Hp), (∀ a r, W.R a = some r → RowAt W H a r) → (∀ b, W.D b → b ≠ W.P → H' b = H b) → Adv W H H'
  trans : ∀ (W W1 : Wd) (H H1 H2 : Hp), Le W W1 → Adv W H H1 → Adv W1 H1 H2 → Adv W H H2
  /-- how many draws a count stands for, and what else it stands for (what objects that change hold now) -/
  dr : Nat → Nat := id
  Gh : Wd → Hp → Nat → Prop := fun _ _ _ => True
  gmono : ∀ (W W' : Wd) (H H' : Hp) (n : Nat), Le W W' → (∀ b, W.D b → b ≠ W.P → H' b = H b) → Gh W H n → Gh W' H' n := by intros; trivial

/-- the pool: a great number's digits, a mixed number, how many draws (at most n) -/
def PsOk (_a b c : Int) (n : Nat) : Prop := 0 ≤ b ∧ b < 2 ^ 63 ∧ 0 ≤ c ∧ c ≤ n

def PsG (T : Th) (W : Wd) (H : Hp) (a b c : Int) (n : Nat) : Prop := PsOk a b c (T.dr n) ∧ T.Gh W H n
theorem Th.psm (T : Th) {W W' : Wd} {H H' : Hp} {a b c : Int} {n : Nat} (le : Le W W') (e : ∀ b, W.D b → b ≠ W.P → H' b = H b) (h : PsG T W H a b c n) : PsG T W' H' a b c n := ⟨h.1, T.gmono W W' H H' n le e h.2⟩
structure WOk (T : Th) (W : Wd) (H : Hp) (n : Nat) : Prop where
  s : ∀ a o, W.S a = some o → H a = some o ∧ (W.D a ∨ ∃ ws, o = .tup ws) ∧ a ≠ W.P
  r : ∀ a r, W.R a = some r → T.RowAt W H a r ∧ W.D a ∧ a ≠ W.P
  d : ∀ a, W.D a → ∃ o, H a = some o
  pd : W.D W.P
  i : ∀ a b, W.I a = some b → W.D a
  p : ∃ a b c, H W.P = some (.lst [.int a, .int b, .int c]) ∧ PsG T W H a b c n

theorem WOk.adv {T : Th} {W : Wd} {H H' : Hp} {n : Nat} (ok : WOk T W H n) (h : ∀ b, W.D b → b ≠ W.P → H' b = H b) : T.Adv W H H' := T.same W H H' (fun a r e => (ok.r a r e).1) h
theorem WOk.sne {T : Th} {W : Wd} {H : Hp} {n : Nat} (ok : WOk T W H n) {a p : Addr} {o u : HO} (h : W.S a = some o) (hp : H p = some u) (hd : ¬ W.D p) (hu : ∀ ws, u ≠ .tup ws := by intro ws e; cases e) : a ≠ p := fun e => by
  subst e
  obtain ⟨h1, h2, _⟩ := ok.s a o h
  rcases h2 with h2 | ⟨us, h2⟩
  · exact hd h2
  · rw [h1] at hp; exact hu us ((Option.some.inj hp).symm.trans h2)
/-- whose a list is: a name's, or a waiting value's -/
abbrev Ow := Sum Nat Nat
/-- a value as the walk knows it: data that stand still; a list of its own; a list looked at; the pool -/
inductive Lo where
  | sh (d : D) | ow (xs : List D) | bo (xs : List D) | pool | dct (kvs : List (List Int × Int)) | fx (a : Addr) (d : D) | oo (p : Addr) (qs : List Addr) (xss : List (List D))
def dctO (kvs : List (List Int × Int)) : HO := .dT (kvs.map fun kv => (kv.1.map Sum.inl, V.int kv.2))
structure VS where
  env : List (Option Lo)
  n : Nat

/-- lists of one's own within a list of one's own -/
def InnOk (W : Wd) (H H0 : Hp) (O : Addr → Option Ow) (k : Ow) : List Addr → List (List D) → Prop
  | [], [] => True
  | q :: qs, xs :: xss => (∃ ws, O q = some k ∧ ¬ W.D q ∧ H0 q = none ∧ H q = some (.lst ws) ∧ RepL W xs ws) ∧ InnOk W H H0 O k qs xss
  | _, _ => False
theorem InnOk.imp {W W' : Wd} {H H' H0 : Hp} {O O' : Addr → Option Ow} {k k' : Ow} (le : Le W W') : ∀ {qs : List Addr} {xss : List (List D)}, InnOk W H H0 O k qs xss → (∀ q ws, q ∈ qs → O q = some k → ¬ W.D q → H0 q = none → H q = some (.lst ws) → O' q = some k' ∧ ¬ W'.D q ∧ H' q = some (.lst ws)) → InnOk W' H' H0 O' k' qs xss
  | [], [], _, _ => trivial
  | q :: qs, xs :: xss, ⟨⟨ws, ho, hd, h0, hp, r⟩, h⟩, f => by
    obtain ⟨a, b, c⟩ := f q ws (by simp) ho hd h0 hp
    exact ⟨⟨ws, a, b, h0, c, RepL.mono le r⟩, h.imp le fun q ws hq => f q ws (by simp [hq])⟩
  | [], _ :: _, h, _ => h.elim
  | _ :: _, [], h, _ => h.elim
theorem InnOk.length {W : Wd} {H H0 : Hp} {O : Addr → Option Ow} {k : Ow} : ∀ {qs : List Addr} {xss : List (List D)}, InnOk W H H0 O k qs xss → qs.length = xss.length
  | [], [], _ => rfl
  | q :: qs, xs :: xss, ⟨_, h⟩ => by rw [List.length_cons, List.length_cons, h.length]
  | [], _ :: _, h => h.elim
  | _ :: _, [], h => h.elim
theorem InnOk.own {W : Wd} {H H0 : Hp} {O : Addr → Option Ow} {k : Ow} : ∀ {qs : List Addr} {xss : List (List D)}, InnOk W H H0 O k qs xss → ∀ q ∈ qs, O q = some k
  | [], [], _, q, hq => by simp at hq
  | a :: qs, xs :: xss, ⟨⟨ws, ho, _⟩, h⟩, q, hq => by
    rw [List.mem_cons] at hq
    rcases hq with hq | hq
    · exact hq ▸ ho
    · exact h.own q hq
  | [], _ :: _, h, _, _ => h.elim
  | _ :: _, [], h, _, _ => h.elim
def LoOk (W : Wd) (H H0 : Hp) (O : Addr → Option Ow) (k : Ow) (v : V) : Lo → Prop
  | .sh d => Rep W d v
  | .ow xs => ∃ p ws, v = .ref p ∧ O p = some k ∧ ¬ W.D p ∧ H0 p = none ∧ H p = some (.lst ws) ∧ RepL W xs ws
  | .bo xs => ∃ p ws, v = .ref p ∧ H p = some (.lst ws) ∧ RepL W xs ws ∧ ((∃ i, O p = some (.inl i) ∧ ¬ W.D p ∧ H0 p = none) ∨ W.S p = some (.lst ws))
  | .pool => v = .ref W.P
  | .dct kvs => ∃ p, v = .ref p ∧ O p = some k ∧ ¬ W.D p ∧ H0 p = none ∧ H p = some (dctO kvs)
  | .fx a d => v = .ref a ∧ Rep W d v
  | .oo p qs xss => v = .ref p ∧ O p = some k ∧ ¬ W.D p ∧ H0 p = none ∧ H p = some (.lst (qs.map V.ref)) ∧ (p :: qs).Nodup ∧ InnOk W H H0 O k qs xss
def TmOk (W : Wd) (H H0 : Hp) (O : Addr → Option Ow) : List (V × Lo) → Prop
  | [] => True
  | x :: r => LoOk W H H0 O (.inr r.length) x.1 x.2 ∧ TmOk W H H0 O r

structure Rel (T : Th) (W0 : Wd) (H0 : Hp) (W : Wd) (H : Hp) (O : Addr → Option Ow) (vs : VS) (σ : St) (tm : List (V × Lo)) : Prop where
  ok : WOk T W H vs.n
  le : Le W0 W
  frame : ∀ a o, ¬ W0.D a → H0 a = some o → H a = some o
  grow : (∀ a, W.D a → W0.D a ∨ H0 a = none) ∧ T.Adv W0 H0 H
  env : ∀ i lo, vs.env[i]? = some (some lo) → ∃ v, σ[i]? = some (some v) ∧ LoOk W H H0 O (.inl i) v lo
  tms : TmOk W H H0 O tm
  nbe : ∀ (i : Nat) (ys : List D), vs.env[i]? ≠ some (some (Lo.bo ys))
  len : σ.length = vs.env.length

section
variable {T : Th} {W0 W W' : Wd} {H0 H H' : Hp} {O O' : Addr → Option Ow} {vs : VS} {σ : St} {tm : List (V × Lo)}

/-- what a change of the world and the heap must keep so that a value stays -/
structure Keep (W W' : Wd) (H H' H0 : Hp) (O O' : Addr → Option Ow) (ks : Ow → Prop) : Prop where
  le : Le W W'
  own : ∀ p k o, ks k → O p = some k → ¬ W.D p → H0 p = none → H p = some o → O' p = some k ∧ ¬ W'.D p ∧ H' p = some o
  bor : ∀ p i ws, O p = some (.inl i) → ¬ W.D p → H0 p = none → H p = some (.lst ws) → H' p = some (.lst ws) ∧ ((O' p = some (.inl i) ∧ ¬ W'.D p) ∨ W'.S p = some (.lst ws))
  fix : ∀ p ws, W.S p = some (.lst ws) → H p = some (.lst ws) → H' p = some (.lst ws)
theorem LoOk.keep {ks : Ow → Prop} (K : Keep W W' H H' H0 O O' ks) {k : Ow} (hk : ks k) {v : V} : ∀ {lo : Lo}, LoOk W H H0 O k v lo → LoOk W' H' H0 O' k v lo
  | .sh d, h => Rep.mono K.le h
  | .ow xs, ⟨p, ws, e, ho, hd, h0, hp, r⟩ => by
    obtain ⟨a, b, c⟩ := K.own p k _ hk ho hd h0 hp
    exact ⟨p, ws, e, a, b, h0, c, RepL.mono K.le r⟩
  | .bo xs, ⟨p, ws, e, hp, r, h⟩ => by
    rcases h with ⟨i, ho, hd, h0⟩ | h
    · obtain ⟨c, h⟩ := K.bor p i ws ho hd h0 hp
      refine ⟨p, ws, e, c, RepL.mono K.le r, ?_⟩
      rcases h with ⟨a, b⟩ | h
      · exact .inl ⟨i, a, b, h0⟩
      · exact .inr h
    · exact ⟨p, ws, e, K.fix p ws h hp, RepL.mono K.le r, .inr (K.le.s _ _ h)⟩
  | .pool, h => by
    show v = .ref W'.P
    rw [K.le.p]
    exact h
  | .dct kvs, ⟨p, e, ho, hd, h0, hp⟩ => by
    obtain ⟨a, b, c⟩ := K.own p k _ hk ho hd h0 hp
    exact ⟨p, e, a, b, h0, c⟩
  | .fx a d, ⟨e, h⟩ => ⟨e, Rep.mono K.le h⟩
  | .oo p qs xss, ⟨e, ho, hd, h0, hp, nd, I⟩ => by
    obtain ⟨a, b, c⟩ := K.own p k _ hk ho hd h0 hp
    exact ⟨e, a, b, h0, c, nd, I.imp K.le fun q ws _ ho' hd' h0' hq => K.own q k _ hk ho' hd' h0' hq⟩
theorem TmOk.keep {ks : Ow → Prop} (K : Keep W W' H H' H0 O O' ks) : ∀ {tm : List (V × Lo)}, (∀ j, j < tm.length → ks (.inr j)) → TmOk W H H0 O tm → TmOk W' H' H0 O' tm
  | [], _, _ => trivial
  | x :: r, hk, ⟨a, b⟩ => ⟨a.keep K (hk _ (by simp)), TmOk.keep K (fun j hj => hk j (by simp; omega)) b⟩
theorem envKeep {ks : Ow → Prop} (K : Keep W W' H H' H0 O O' ks) (hk : ∀ i, ks (.inl i)) {env : List (Option Lo)}
    (h : ∀ i lo, env[i]? = some (some lo) → ∃ v, σ[i]? = some (some v) ∧ LoOk W H H0 O (.inl i) v lo) : ∀ i lo, env[i]? = some (some lo) → ∃ v, σ[i]? = some (some v) ∧ LoOk W' H' H0 O' (.inl i) v lo := fun i lo e => by
  obtain ⟨v, e1, q⟩ := h i lo e
  exact ⟨v, e1, q.keep K (hk i)⟩

theorem nbeSet {env : List (Option Lo)} (h : ∀ (i : Nat) (ys : List D), env[i]? ≠ some (some (Lo.bo ys))) {i : Nat} {lo : Lo} (hl : ∀ ys, lo ≠ .bo ys) : ∀ (j : Nat) (ys : List D), (env.set i (some lo))[j]? ≠ some (some (Lo.bo ys)) := fun j ys q => by
  by_cases z : i = j
  · subst z
    by_cases hi : i < env.length
    · rw [List.getElem?_set_self hi] at q
      exact hl ys (Option.some.inj (Option.some.inj q))
    · rw [List.getElem?_eq_none (by simpa using hi)] at q; cases q
  · rw [List.getElem?_set_ne z] at q
    exact h j ys q
theorem Rel.Sget (R : Rel T W0 H0 W H O vs σ tm) {a : Addr} {o : HO} (h : W.S a = some o) : H a = some o := (R.ok.s a o h).1

/-- behind a call, or a new object: what is not governed stands -/
theorem Rel.over (R : Rel T W0 H0 W H O vs σ tm) {n' : Nat} (le : Le W W') (ok : WOk T W' H' n') (fr : ∀ a o, ¬ W.D a → H a = some o → H' a = some o) (gr : ∀ a, W'.D a → W.D a ∨ H a = none) (adv : T.Adv W H H') :
    Rel T W0 H0 W' H' O { vs with n := n' } σ tm := by
  have K : Keep W W' H H' H0 O O (fun _ => True) := by
    refine ⟨le, fun p k ws _ ho hd h0 hp => ⟨ho, ?_, fr _ _ hd hp⟩, fun p i ws ho hd h0 hp => ⟨fr _ _ hd hp, .inl ⟨ho, ?_⟩⟩, fun p ws hs _ => (ok.s _ _ (le.s _ _ hs)).1⟩
    · intro q
      rcases gr p q with z | z
      · exact hd z
      · rw [hp] at z; cases z
    · intro q
      rcases gr p q with z | z
      · exact hd z
      · rw [hp] at z; cases z
  refine ⟨ok, R.le.trans le, fun a o h1 h2 => ?_, ⟨fun a h => ?_, T.trans W0 W H0 H H' R.le R.grow.2 adv⟩, envKeep K (fun _ => trivial) R.env, R.tms.keep K fun _ _ => trivial, R.nbe, R.len⟩
  · have h3 := R.frame a o h1 h2
    refine fr a o (fun q => ?_) h3
    rcases R.grow.1 a q with z | z
    · exact h1 z
    · rw [h2] at z; cases z
  · rcases gr a h with z | z
    · exact R.grow.1 a z
    · by_cases q : W0.D a
      · exact .inl q
      · refine .inr ?_
        cases e : H0 a with
        | none => rfl
        | some o =>
          have := R.frame a o q e
          rw [z] at this; cases this
theorem WOk.alloc {n : Nat} (ok : WOk T W H n) {p : Addr} {o : HO} (hp : H p = none) : WOk T W (upd H p o) n := by
  have ne : ∀ a, W.D a → a ≠ p := fun a h e => by
    subst e
    obtain ⟨o', q⟩ := ok.d a h
    rw [hp] at q; cases q
  refine ⟨fun a o' h => ?_, fun a r h => ?_, fun a h => ?_, ok.pd, ok.i, ?_⟩
  · obtain ⟨h1, h2, h3⟩ := ok.s a o' h
    exact ⟨by rw [upd_ne (ne_of_none h1 hp)]; exact h1, h2, h3⟩
  · obtain ⟨h1, h2, h3⟩ := ok.r a r h
    exact ⟨T.mono W W H _ a r (Le.refl W) (fun b hb _ => upd_ne (ne b hb)) h1, h2, h3⟩
  · rw [upd_ne (ne a h)]; exact ok.d a h
  · obtain ⟨a, b, c, h1, h2⟩ := ok.p
    exact ⟨a, b, c, by rw [upd_ne (ne _ ok.pd)]; exact h1, T.psm (Le.refl W) (fun b hb _ => upd_ne (ne b hb)) h2⟩
/-- a new object, not looked at -/
theorem Rel.alloc (R : Rel T W0 H0 W H O vs σ tm) {p : Addr} {o : HO} (hp : H p = none) : Rel T W0 H0 W (upd H p o) O vs σ tm :=
  R.over (Le.refl W) (R.ok.alloc hp) (fun a u _ h => by rw [upd_ne (ne_of_none h hp)]; exact h) (fun a h => .inl h) (R.ok.adv fun b hb _ => by
    obtain ⟨o', e⟩ := R.ok.d b hb
    rw [upd_ne (ne_of_none e hp)])
theorem Rel.noD (R : Rel T W0 H0 W H O vs σ tm) {p : Addr} (hp : H p = none) : ¬ W.D p := fun q => by
  obtain ⟨o, e⟩ := R.ok.d p q
  rw [hp] at e; cases e
theorem Rel.no0 (R : Rel T W0 H0 W H O vs σ tm) {p : Addr} (hp : H p = none) : H0 p = none := by
  cases e : H0 p with
  | none => rfl
  | some o =>
    by_cases q : W0.D p
    · exact absurd (R.le.d p q) (R.noD hp)
    · have := R.frame p o q e
      rw [hp] at this; cases this
/-- a new list, a waiting value -/
theorem Rel.fresh (R : Rel T W0 H0 W H O vs σ tm) {p : Addr} {xs : List D} {ws : List V} (hp : H p = none) (r : RepL W xs ws) :
    Rel T W0 H0 W (upd H p (.lst ws)) (fun a => if a = p then some (.inr tm.length) else O a) vs σ ((.ref p, .ow xs) :: tm) := by
  have R1 := R.alloc (o := .lst ws) hp
  have ne : ∀ q o, H q = some o → q ≠ p := fun q o h => ne_of_none h hp
  have K : Keep W W H (upd H p (.lst ws)) H0 O (fun a => if a = p then some (.inr tm.length) else O a) (fun _ => True) := by
    refine ⟨Le.refl W, fun q k us _ ho hd h0 hq => ⟨?_, hd, ?_⟩, fun q i us ho hd h0 hq => ⟨?_, .inl ⟨?_, hd⟩⟩, fun q us _ h => ?_⟩
    · show (if q = p then _ else O q) = _
      rw [if_neg (ne q _ hq)]; exact ho
    · rw [upd_ne (ne q _ hq)]; exact hq
    · rw [upd_ne (ne q _ hq)]; exact hq
    · show (if q = p then _ else O q) = _
      rw [if_neg (ne q _ hq)]; exact ho
    · rw [upd_ne (ne q _ h)]; exact h
  refine ⟨R1.ok, R1.le, R1.frame, R1.grow, envKeep K (fun _ => trivial) R.env, ⟨?_, R.tms.keep K fun _ _ => trivial⟩, R.nbe, R.len⟩
  exact ⟨p, ws, rfl, if_pos rfl, R.noD hp, R.no0 hp, upd_same, r⟩
theorem Rel.pop {x : V × Lo} (R : Rel T W0 H0 W H O vs σ (x :: tm)) : Rel T W0 H0 W H O vs σ tm := ⟨R.ok, R.le, R.frame, R.grow, R.env, R.tms.2, R.nbe, R.len⟩
theorem Rel.top {x : V × Lo} (R : Rel T W0 H0 W H O vs σ (x :: tm)) : LoOk W H H0 O (.inr tm.length) x.1 x.2 := R.tms.1
/-- data, a waiting value -/
theorem Rel.push (R : Rel T W0 H0 W H O vs σ tm) {d : D} {v : V} (h : Rep W d v) : Rel T W0 H0 W H O vs σ ((v, .sh d) :: tm) := ⟨R.ok, R.le, R.frame, R.grow, R.env, ⟨h, R.tms⟩, R.nbe, R.len⟩
theorem Rel.pushB (R : Rel T W0 H0 W H O vs σ tm) {xs : List D} {v : V} (h : LoOk W H H0 O (.inr tm.length) v (.bo xs)) : Rel T W0 H0 W H O vs σ ((v, .bo xs) :: tm) := ⟨R.ok, R.le, R.frame, R.grow, R.env, ⟨h, R.tms⟩, R.nbe, R.len⟩
theorem Rel.pushP (R : Rel T W0 H0 W H O vs σ tm) : Rel T W0 H0 W H O vs σ ((.ref W.P, .pool) :: tm) := ⟨R.ok, R.le, R.frame, R.grow, R.env, ⟨rfl, R.tms⟩, R.nbe, R.len⟩

/-! ### a list of one's own comes to stand still -/
def Wd.frz (W : Wd) (p : Addr) (ws : List V) : Wd := ⟨fun a => if a = p then some (.lst ws) else W.S a, W.R, fun a => W.D a ∨ a = p, W.P, W.I⟩
theorem frz_s' {W : Wd} {p : Addr} {o0 : HO} (h : ¬ W.D p) : ∀ a o, (if a = p then some o0 else W.S a) = some o → W.S a = some o ∨ ¬ W.D a ∨ ∃ ws, o = .tup ws := fun a o e => by
  by_cases z : a = p
  · exact .inr (.inl (z ▸ h))
  · rw [if_neg z] at e; exact .inl e
theorem Wd.frz_le {p : Addr} {ws : List V} (h : ¬ W.D p) (hp : H p = some (.lst ws)) (ok : WOk T W H vs.n) : Le W (W.frz p ws) :=
  ⟨fun a o e => by
    show (if a = p then some (HO.lst ws) else W.S a) = _
    rw [if_neg (fun (z : a = p) => (ok.sne e hp h) z)]; exact e, fun _ _ e => e, fun _ e => .inl e, rfl, fun _ _ e => e, frz_s' h, fun _ _ e => .inl e⟩
theorem WOk.frz {n : Nat} (ok : WOk T W H n) {p : Addr} {ws : List V} (h : ¬ W.D p) (hp : H p = some (.lst ws)) : WOk T (W.frz p ws) H n := by
  have le : Le W (W.frz p ws) := Wd.frz_le (vs := ⟨[], n⟩) h hp ok
  refine ⟨fun a o e => ?_, fun a r e => ?_, fun a e => ?_, .inl ok.pd, fun a b e => .inl (ok.i a b e), let ⟨a, b, c, h1, h2⟩ := ok.p; ⟨a, b, c, h1, T.psm le (fun _ _ _ => rfl) h2⟩⟩
  · by_cases z : a = p
    · subst z
      have e' : (if a = a then some (HO.lst ws) else W.S a) = some o := e
      rw [if_pos rfl] at e'
      rw [← e']
      exact ⟨hp, .inl (.inr rfl), fun q => h (q ▸ ok.pd)⟩
    · have e' : (if a = p then some (HO.lst ws) else W.S a) = some o := e
      rw [if_neg z] at e'
      obtain ⟨h1, h2, h3⟩ := ok.s a o e'
      exact ⟨h1, h2.imp .inl id, h3⟩
  · obtain ⟨h1, h2, h3⟩ := ok.r a r e
    exact ⟨T.mono W _ H H a r le (fun _ _ _ => rfl) h1, .inl h2, h3⟩
  · rcases e with e | e
    · exact ok.d a e
    · exact ⟨_, e ▸ hp⟩
theorem Rel.frzKeep (ok : WOk T W H vs.n) {p : Addr} {ws : List V} {k0 : Ow} (hd : ¬ W.D p) (h0 : H0 p = none) (ho : O p = some k0) (hp : H p = some (.lst ws)) :
    Keep W (W.frz p ws) H H H0 O O (fun k => k ≠ k0) := by
  refine ⟨Wd.frz_le hd hp ok, fun q k us hk ho' hd' h0' hq => ⟨ho', ?_, hq⟩, fun q i us ho' hd' h0' hq => ⟨hq, ?_⟩, fun _ _ _ h => h⟩
  · rintro (z | z)
    · exact hd' z
    · subst z
      rw [ho] at ho'
      exact hk (Option.some.inj ho').symm
  · by_cases z : q = p
    · subst z
      rw [hp] at hq
      refine .inr ?_
      show (if q = q then some (HO.lst ws) else W.S q) = _
      rw [if_pos rfl]; exact hq
    · refine .inl ⟨ho', ?_⟩
      rintro (y | y)
      · exact hd' y
      · exact z y
theorem Rel.frzTop {xs : List D} {v : V} (R : Rel T W0 H0 W H O vs σ ((v, .ow xs) :: tm)) : ∃ W', Le W W' ∧ Rel T W0 H0 W' H O vs σ ((v, .sh (.lst xs)) :: tm) := by
  obtain ⟨p, ws, e, ho, hd, h0, hp, r⟩ := R.top
  have K := Rel.frzKeep (vs := vs) R.ok hd h0 ho hp
  refine ⟨W.frz p ws, K.le, R.ok.frz hd hp, R.le.trans K.le, R.frame, ⟨fun a h => ?_, R.grow.2⟩, fun i lo q => ?_, ⟨?_, ?_⟩, R.nbe, R.len⟩
  · rcases h with h | h
    · exact R.grow.1 a h
    · exact .inr (h ▸ h0)
  · obtain ⟨u, q1, q2⟩ := R.env i lo q
    exact ⟨u, q1, q2.keep K (by simp)⟩
  · exact ⟨p, ws, e, if_pos rfl, RepL.mono K.le r⟩
  · exact R.tms.2.keep K fun j hj => by
      intro z
      have z' : j = tm.length := by simpa using z
      omega
theorem Rel.frzEnv {xs : List D} {i : Nat} (R : Rel T W0 H0 W H O vs σ tm) (h : vs.env[i]? = some (some (.ow xs))) :
    ∃ W' v, Le W W' ∧ σ[i]? = some (some v) ∧ Rep W' (.lst xs) v ∧ Rel T W0 H0 W' H O { vs with env := vs.env.set i (some (.sh (.lst xs))) } σ tm := by
  obtain ⟨v, hv, p, ws, e, ho, hd, h0, hp, r⟩ := R.env i _ h
  have K := Rel.frzKeep (vs := vs) R.ok hd h0 ho hp
  have rp : Rep (W.frz p ws) (.lst xs) v := ⟨p, ws, e, if_pos rfl, RepL.mono K.le r⟩
  refine ⟨W.frz p ws, v, K.le, hv, rp, R.ok.frz hd hp, R.le.trans K.le, R.frame, ⟨fun a h => ?_, R.grow.2⟩, fun j lo q => ?_, ?_, nbeSet R.nbe (by simp), by simpa using R.len⟩
  · rcases h with h | h
    · exact R.grow.1 a h
    · exact .inr (h ▸ h0)
  · by_cases z : i = j
    · subst z
      have hi : i < vs.env.length := (List.getElem?_eq_some_iff.mp h).1
      rw [List.getElem?_set_self hi] at q
      cases q
      exact ⟨v, hv, rp⟩
    · rw [List.getElem?_set_ne z] at q
      obtain ⟨u, q1, q2⟩ := R.env j lo q
      exact ⟨u, q1, q2.keep K fun y => z (Sum.inl.inj y).symm⟩
  · exact R.tms.keep K fun j _ => by simp
/-- the items of a value that is a list, a tuple -/
@[simp] def Lo.lst? : Lo → Option (List D)
  | .sh (.lst xs) => some xs
  | .ow xs => some xs
  | .bo xs => some xs
  | _ => none
theorem Rel.lst {k : Ow} {v : V} {lo : Lo} {xs : List D} (R : Rel T W0 H0 W H O vs σ tm) (h : LoOk W H H0 O k v lo) (e : lo.lst? = some xs) : ∃ p ws, v = .ref p ∧ H p = some (.lst ws) ∧ RepL W xs ws := by
  cases lo with
  | sh d =>
    cases d with
    | lst ys =>
      cases e
      obtain ⟨a, ws, e1, hs, r⟩ := h
      exact ⟨a, ws, e1, R.Sget hs, r⟩
    | _ => cases e
  | ow ys =>
    cases e
    obtain ⟨p, ws, e1, _, _, _, hp, r⟩ := h
    exact ⟨p, ws, e1, hp, r⟩
  | bo ys =>
    cases e
    obtain ⟨p, ws, e1, hp, r, _⟩ := h
    exact ⟨p, ws, e1, hp, r⟩
  | pool => cases e
  | dct kvs => cases e
  | fx a d => cases e
  | oo p qs xss => cases e
theorem storeKeep {p : Addr} {i m : Nat} {u : HO} (hp : H p = some u) (ho : O p = some (.inr m)) (hd : ¬ W.D p) : Keep W W H H H0 O (fun a => if a = p then some (.inl i) else O a) (fun k => k ≠ .inr m) := by
  have nb : ∀ q k, O q = some k → k ≠ .inr m → q ≠ p := fun q k hq hk z => by
    subst z
    rw [ho] at hq
    exact hk (Option.some.inj hq).symm
  refine ⟨Le.refl W, fun q k us hk ho' hd' h0' hq => ⟨?_, hd', hq⟩, fun q j us ho' hd' h0' hq => ⟨hq, .inl ⟨?_, hd'⟩⟩, fun _ _ _ h => h⟩
  · show (if q = p then _ else O q) = _
    rw [if_neg (nb q k ho' hk)]; exact ho'
  · show (if q = p then _ else O q) = _
    rw [if_neg (nb q _ ho' (by simp))]; exact ho'
/-- a waiting list becomes a name's -/
theorem Rel.store {v : V} {lo : Lo} {i : Nat} (R : Rel T W0 H0 W H O vs σ ((v, lo) :: tm)) (hnb : ∀ xs, lo ≠ .bo xs) (hi : i < vs.env.length) :
    ∃ O', Rel T W0 H0 W H O' { vs with env := vs.env.set i (some lo) } (σ.set i (some v)) tm := by
  have hset : ∀ {W : Wd} {O' : Addr → Option Ow} , LoOk W H H0 O' (.inl i) v lo → (∀ j lo', j ≠ i → vs.env[j]? = some (some lo') → ∃ u, σ[j]? = some (some u) ∧ LoOk W H H0 O' (.inl j) u lo') →
      ∀ j lo', (vs.env.set i (some lo))[j]? = some (some lo') → ∃ u, (σ.set i (some v))[j]? = some (some u) ∧ LoOk W H H0 O' (.inl j) u lo' := fun {W O'} h1 h2 j lo' q => by
    by_cases z : i = j
    · subst z
      by_cases hl : i < vs.env.length
      · rw [List.getElem?_set_self hl] at q
        cases q
        exact ⟨v, List.getElem?_set_self (by rw [R.len]; exact hi), h1⟩
      · rw [List.getElem?_eq_none (by simpa using hl)] at q; cases q
    · rw [List.getElem?_set_ne z] at q
      rw [List.getElem?_set_ne z]
      exact h2 j lo' (Ne.symm z) q
  cases lo with
  | sh d => exact ⟨O, R.ok, R.le, R.frame, R.grow, hset R.top (fun j lo' _ q => R.env j lo' q), R.tms.2, nbeSet R.nbe hnb, by simpa using R.len⟩
  | pool => exact ⟨O, R.ok, R.le, R.frame, R.grow, hset R.top (fun j lo' _ q => R.env j lo' q), R.tms.2, nbeSet R.nbe hnb, by simpa using R.len⟩
  | fx a d => exact ⟨O, R.ok, R.le, R.frame, R.grow, hset R.top (fun j lo' _ q => R.env j lo' q), R.tms.2, nbeSet R.nbe hnb, by simpa using R.len⟩
  | bo xs => exact absurd rfl (hnb xs)
  | oo p qs xss =>
    obtain ⟨e, ho, hd, h0, hp, nd, I⟩ := R.top
    have K : Keep W W H H H0 O (fun a => if O a = some (.inr tm.length) then some (.inl i) else O a) (fun k => k ≠ .inr tm.length) := by
      refine ⟨Le.refl W, fun q k us hk ho' hd' h0' hq => ⟨?_, hd', hq⟩, fun q j us ho' hd' h0' hq => ⟨hq, .inl ⟨?_, hd'⟩⟩, fun _ _ _ h => h⟩
      · show (if O q = some (.inr tm.length) then _ else O q) = _
        rw [if_neg]
        · exact ho'
        · rw [ho']
          intro z
          exact hk (Option.some.inj z)
      · show (if O q = some (.inr tm.length) then _ else O q) = _
        rw [if_neg]
        · exact ho'
        · rw [ho']
          intro z
          cases Option.some.inj z
    refine ⟨_, R.ok, R.le, R.frame, R.grow, hset (O' := fun a => if O a = some (.inr tm.length) then some (.inl i) else O a) ⟨e, if_pos ho, hd, h0, hp, nd, I.imp (Le.refl W) fun q ws _ ho' hd' _ hq => ⟨if_pos ho', hd', hq⟩⟩ (fun j lo' _ q => ?_), R.tms.2.keep K (fun j hj => ?_), nbeSet R.nbe hnb, by simpa using R.len⟩
    · obtain ⟨u, q1, q2⟩ := R.env j lo' q
      exact ⟨u, q1, q2.keep K (by simp)⟩
    · intro z
      have z' : j = tm.length := by simpa using z
      omega
  | ow xs =>
    obtain ⟨p, ws, e, ho, hd, h0, hp, r⟩ := R.top
    have K : Keep W W H H H0 O (fun a => if a = p then some (.inl i) else O a) (fun k => k ≠ .inr tm.length) := by
      have nb : ∀ q k, O q = some k → k ≠ .inr tm.length → q ≠ p := fun q k hq hk z => by
        subst z
        rw [ho] at hq
        exact hk (Option.some.inj hq).symm
      refine ⟨Le.refl W, fun q k us hk ho' hd' h0' hq => ⟨?_, hd', hq⟩, fun q j us ho' hd' h0' hq => ⟨hq, .inl ⟨?_, hd'⟩⟩, fun _ _ _ h => h⟩
      · show (if q = p then _ else O q) = _
        rw [if_neg (nb q k ho' hk)]; exact ho'
      · show (if q = p then _ else O q) = _
        rw [if_neg (nb q _ ho' (by simp))]; exact ho'
    refine ⟨fun a => if a = p then some (.inl i) else O a, R.ok, R.le, R.frame, R.grow, hset ⟨p, ws, e, if_pos rfl, hd, h0, hp, r⟩ (fun j lo' _ q => ?_), R.tms.2.keep K (fun j hj => ?_), nbeSet R.nbe hnb, by simpa using R.len⟩
    · obtain ⟨u, q1, q2⟩ := R.env j lo' q
      exact ⟨u, q1, q2.keep K (by simp)⟩
    · intro z
      have z' : j = tm.length := by simpa using z
      omega
  | dct kvs =>
    obtain ⟨p, e, ho, hd, h0, hp⟩ := R.top
    have K := storeKeep (W := W) (H0 := H0) (i := i) hp ho hd
    refine ⟨fun a => if a = p then some (.inl i) else O a, R.ok, R.le, R.frame, R.grow, hset ⟨p, e, if_pos rfl, hd, h0, hp⟩ (fun j lo' _ q => ?_), R.tms.2.keep K (fun j hj => ?_), nbeSet R.nbe hnb, by simpa using R.len⟩
    · obtain ⟨u, q1, q2⟩ := R.env j lo' q
      exact ⟨u, q1, q2.keep K (by simp)⟩
    · intro z
      have z' : j = tm.length := by simpa using z
      omega
/-- no list is only looked at -/
def NoBo (tm : List (V × Lo)) : Prop := ∀ x ∈ tm, ∀ xs, x.2 ≠ .bo xs
/-- a name's own list is written -/
theorem Rel.write {xs ys : List D} {i : Nat} {us : List V} {p : Addr} (R : Rel T W0 H0 W H O vs σ tm) (nb : NoBo tm) (h : vs.env[i]? = some (some (.ow xs))) (hσ : σ[i]? = some (some (.ref p))) (r : RepL W ys us) :
    Rel T W0 H0 W (upd H p (.lst us)) O { vs with env := vs.env.set i (some (.ow ys)) } σ tm := by
  obtain ⟨v, hv, p', ws, e, ho, hd, h0, hp, r0⟩ := R.env i _ h
  rw [hσ] at hv
  cases hv
  cases e
  have nD : ∀ a, W.D a → a ≠ p := fun a q z => hd (z ▸ q)
  have ok : WOk T W (upd H p (.lst us)) vs.n := by
    refine ⟨fun a o q => ?_, fun a r q => ?_, fun a q => ?_, R.ok.pd, R.ok.i, ?_⟩
    · obtain ⟨h1, h2, h3⟩ := R.ok.s a o q
      exact ⟨by rw [upd_ne (R.ok.sne q hp hd)]; exact h1, h2, h3⟩
    · obtain ⟨h1, h2, h3⟩ := R.ok.r a r q
      exact ⟨T.mono W W H _ a r (Le.refl W) (fun b hb _ => upd_ne (nD b hb)) h1, h2, h3⟩
    · rw [upd_ne (nD a q)]; exact R.ok.d a q
    · obtain ⟨a, b, c, h1, h2⟩ := R.ok.p
      exact ⟨a, b, c, by rw [upd_ne (nD _ R.ok.pd)]; exact h1, T.psm (Le.refl W) (fun b hb _ => upd_ne (nD b hb)) h2⟩
  -- every other value stays; the borrowed ones are not there
  have other : ∀ {k : Ow} {v : V} {lo : Lo}, k ≠ .inl i → (∀ xs, lo ≠ .bo xs) → LoOk W H H0 O k v lo → LoOk W (upd H p (.lst us)) H0 O k v lo := fun {k v lo} hk hb q => by
    cases lo with
    | sh d => exact q
    | pool => exact q
    | fx a d => exact q
    | oo q0 qs xss =>
      obtain ⟨e, ho', hd', h0', hp', nd, I⟩ := q
      have ne : ∀ a, O a = some k → a ≠ p := fun a ha z => by
        subst z
        rw [ho] at ha
        exact hk (Option.some.inj ha).symm
      exact ⟨e, ho', hd', h0', by rw [upd_ne (ne q0 ho')]; exact hp', nd, I.imp (Le.refl W) fun a us _ ha hda _ hpa => ⟨ha, hda, by rw [upd_ne (ne a ha)]; exact hpa⟩⟩
    | bo xs => exact absurd rfl (hb xs)
    | ow zs =>
      obtain ⟨q0, vs', e, ho', hd', h0', hp', r'⟩ := q
      refine ⟨q0, vs', e, ho', hd', h0', ?_, r'⟩
      rw [upd_ne]
      · exact hp'
      · intro z
        subst z
        rw [ho] at ho'
        exact hk (Option.some.inj ho').symm
    | dct kvs =>
      obtain ⟨q0, e, ho', hd', h0', hp'⟩ := q
      refine ⟨q0, e, ho', hd', h0', ?_⟩
      rw [upd_ne]
      · exact hp'
      · intro z
        subst z
        rw [ho] at ho'
        exact hk (Option.some.inj ho').symm
  have otm : ∀ (tm : List (V × Lo)), NoBo tm → TmOk W H H0 O tm → TmOk W (upd H p (.lst us)) H0 O tm := by
    intro tm
    induction tm with
    | nil => intro _ _; trivial
    | cons x r ih => exact fun nb q => ⟨other (by simp) (nb x (by simp)) q.1, ih (fun y hy => nb y (by simp [hy])) q.2⟩
  refine ⟨ok, R.le, fun a o h1 h2 => ?_, ⟨R.grow.1, T.trans W0 W H0 H _ R.le R.grow.2 (R.ok.adv fun b hb _ => upd_ne (nD b hb))⟩, fun j lo q => ?_, otm tm nb R.tms, nbeSet R.nbe (by simp), by simpa using R.len⟩
  · rw [upd_ne]
    · exact R.frame a o h1 h2
    · intro z; subst z; rw [h0] at h2; cases h2
  · by_cases z : i = j
    · subst z
      have hi : i < vs.env.length := (List.getElem?_eq_some_iff.mp h).1
      rw [List.getElem?_set_self hi] at q
      cases q
      exact ⟨.ref p, hσ, p, us, rfl, ho, hd, h0, upd_same, r⟩
    · rw [List.getElem?_set_ne z] at q
      obtain ⟨u, q1, q2⟩ := R.env j lo q
      exact ⟨u, q1, other (fun y => z (Sum.inl.inj y).symm) (fun ys e => R.nbe j ys (e ▸ q)) q2⟩
end
end Vx

set_option Elab.async false
set_option maxRecDepth 100000
set_option linter.all false
/-! Expressions by value. -/
namespace Vx
open PySem L2

abbrev WE := VS → (Lo → VS → Prop) → Prop
abbrev WT := VS → (Bool → VS → Prop) → Prop
abbrev WA := VS → (List D → VS → Prop) → Prop
/-- data of a value that may be shared -/
@[simp] def Lo.dat? : Lo → Option D
  | .sh d => some d
  | .ow xs => some (.lst xs)
  | _ => none

def SndE (T : Th) (t : TE) (f : WE) : Prop :=
  ∀ (W0 : Wd) (H0 : Hp) (W : Wd) (H : Hp) (O : Addr → Option Ow) (vs : VS) (σ : St) (tm : List (V × Lo)) (Q : Lo → VS → Prop) (Q' : VK),
    f vs Q → Rel T W0 H0 W H O vs σ tm → (∀ W' H' O' vs' v lo, Le W W' → Q lo vs' → Rel T W0 H0 W' H' O' vs' σ ((v, lo) :: tm) → Q' v H') → t σ H Q'
def SndT (T : Th) (t : TT) (f : WT) : Prop :=
  ∀ (W0 : Wd) (H0 : Hp) (W : Wd) (H : Hp) (O : Addr → Option Ow) (vs : VS) (σ : St) (tm : List (V × Lo)) (Q : Bool → VS → Prop) (Q' : Bool → Hp → Prop),
    f vs Q → Rel T W0 H0 W H O vs σ tm → (∀ W' H' O' vs' b, Le W W' → Q b vs' → Rel T W0 H0 W' H' O' vs' σ tm → Q' b H') → t σ H Q'
def SndA (T : Th) (t : TA) (f : WA) : Prop :=
  ∀ (W0 : Wd) (H0 : Hp) (W : Wd) (H : Hp) (O : Addr → Option Ow) (vs : VS) (σ : St) (tm : List (V × Lo)) (Q : List D → VS → Prop) (Q' : List V → Hp → Prop),
    f vs Q → Rel T W0 H0 W H O vs σ tm → (∀ W' H' O' vs' ws ds, Le W W' → Q ds vs' → RepL W' ds ws → Rel T W0 H0 W' H' O' vs' σ tm → Q' ws H') → t σ H Q'
/-- the weakest reading that f tells -/
def tE (T : Th) (f : WE) : TE := fun σ H Q' => ∃ (W0 : Wd) (H0 : Hp) (W : Wd) (O : Addr → Option Ow) (vs : VS) (tm : List (V × Lo)) (Q : Lo → VS → Prop),
  f vs Q ∧ Rel T W0 H0 W H O vs σ tm ∧ (∀ W' H' O' vs' v lo, Le W W' → Q lo vs' → Rel T W0 H0 W' H' O' vs' σ ((v, lo) :: tm) → Q' v H')
def tT (T : Th) (f : WT) : TT := fun σ H Q' => ∃ (W0 : Wd) (H0 : Hp) (W : Wd) (O : Addr → Option Ow) (vs : VS) (tm : List (V × Lo)) (Q : Bool → VS → Prop),
  f vs Q ∧ Rel T W0 H0 W H O vs σ tm ∧ (∀ W' H' O' vs' b, Le W W' → Q b vs' → Rel T W0 H0 W' H' O' vs' σ tm → Q' b H')
def tA (T : Th) (f : WA) : TA := fun σ H Q' => ∃ (W0 : Wd) (H0 : Hp) (W : Wd) (O : Addr → Option Ow) (vs : VS) (tm : List (V × Lo)) (Q : List D → VS → Prop),
  f vs Q ∧ Rel T W0 H0 W H O vs σ tm ∧ (∀ W' H' O' vs' ws ds, Le W W' → Q ds vs' → RepL W' ds ws → Rel T W0 H0 W' H' O' vs' σ tm → Q' ws H')
structure VE (T : Th) (X : Cx) (e : Expr) (f : WE) : Prop where
  pe : PE X e (tE T f)
structure VT (T : Th) (X : Cx) (e : Expr) (f : WT) : Prop where
  pe : PT X e (tT T f)
structure VA (T : Th) (X : Cx) (es : List Expr) (f : WA) : Prop where
  pe : PA X es (tA T f)
theorem VE.of {T : Th} {X : Cx} {e : Expr} {t : TE} {f : WE} (h : PE X e t) (s : SndE T t f) : VE T X e f :=
  ⟨⟨fun pins st σ H Q' I ⟨W0, H0, W, O, vs, tm, Q, hf, R, k⟩ => h.run pins st σ H Q' I (s W0 H0 W H O vs σ tm Q Q' hf R k)⟩⟩
theorem VT.of {T : Th} {X : Cx} {e : Expr} {t : TT} {f : WT} (h : PT X e t) (s : SndT T t f) : VT T X e f :=
  ⟨⟨fun pins st σ H Q' I ⟨W0, H0, W, O, vs, tm, Q, hf, R, k⟩ => h.run pins st σ H Q' I (s W0 H0 W H O vs σ tm Q Q' hf R k)⟩⟩
theorem VA.of {T : Th} {X : Cx} {es : List Expr} {t : TA} {f : WA} (h : PA X es t) (s : SndA T t f) : VA T X es f :=
  ⟨⟨fun pos pins st σ H Q' I ⟨W0, H0, W, O, vs, tm, Q, hf, R, k⟩ => h.run pos pins st σ H Q' I (s W0 H0 W H O vs σ tm Q Q' hf R k)⟩⟩
theorem VE.sn {T : Th} {X : Cx} {e : Expr} {f : WE} (_ : VE T X e f) : SndE T (tE T f) f := fun W0 H0 W H O vs σ tm Q Q' hf R k => ⟨W0, H0, W, O, vs, tm, Q, hf, R, k⟩
theorem VT.sn {T : Th} {X : Cx} {e : Expr} {f : WT} (_ : VT T X e f) : SndT T (tT T f) f := fun W0 H0 W H O vs σ tm Q Q' hf R k => ⟨W0, H0, W, O, vs, tm, Q, hf, R, k⟩
theorem VA.sn {T : Th} {X : Cx} {es : List Expr} {f : WA} (_ : VA T X es f) : SndA T (tA T f) f := fun W0 H0 W H O vs σ tm Q Q' hf R k => ⟨W0, H0, W, O, vs, tm, Q, hf, R, k⟩
/-- a reading by another one that says less -/
theorem VE.imp {T : Th} {X : Cx} {e : Expr} {f g : WE} (h : VE T X e f) (i : ∀ vs Q, g vs Q → f vs Q) : VE T X e g :=
  .of h.pe fun W0 H0 W H O vs σ tm Q Q' hf R k => h.sn W0 H0 W H O vs σ tm Q Q' (i vs Q hf) R k

section
variable {T : Th} {X : Cx} {W0 W W' : Wd} {H0 H H' : Hp} {O O' : Addr → Option Ow} {vs : VS} {σ : St} {tm : List (V × Lo)}

/-! ### constants, names -/
@[simp] def wC (d : D) : WE := fun vs Q => Q (.sh d) vs
theorem snC {v : V} {d : D} (h : ∀ W, Rep W d v) : SndE T (tC v) (wC d) := fun W0 H0 W H O vs σ tm Q Q' hf R k => k W H O vs v _ (Le.refl W) hf (R.push (h W))
theorem ve_int {i j pos} : VE T X (.Constant (.int i) j pos) (wC (.int i)) := .of pe_int (snC fun _ => by simp [Rep])
theorem ve_bl {b j pos} : VE T X (.Constant (.bool b) j pos) (wC (.bl b)) := .of pe_bl (snC fun _ => by simp [Rep])
theorem ve_non {j pos} : VE T X (.Constant .none j pos) (wC .non) := .of pe_non (snC fun _ => by simp [Rep])
theorem ve_str {x j pos} : VE T X (.Constant (.str x) j pos) (wC (.str x)) := .of pe_str (snC fun _ => by simp [Rep])
theorem ve_glI {x : Str} {i : Int} {t : Tok} {pos : Pos} (hg : Gl X x) (hm : X.mg x = some (.int i t)) (hd : (x == ("__debug__" : Str)) = false := by decide) : VE T X (.Name x pos) (wC (.int i)) :=
  .of (pe_glob (v := .int i) hg hm ⟨t, rfl⟩ hd) (snC fun _ => by simp [Rep])
theorem ve_glS {x : Str} {z : Str} {t : Tok} {pos : Pos} (hg : Gl X x) (hm : X.mg x = some (.str z t)) (hd : (x == ("__debug__" : Str)) = false := by decide) : VE T X (.Name x pos) (wC (.str z)) :=
  .of (pe_glob (v := .str z) hg hm ⟨t, rfl⟩ hd) (snC fun _ => by simp [Rep])
/-- a name, its list coming to stand still -/
@[simp] def wN (i : Nat) : WE := fun vs Q => match vs.env[i]? with
  | some (some (.sh d)) => Q (.sh d) vs
  | some (some (.fx _ d)) => Q (.sh d) vs
  | some (some (.ow xs)) => Q (.sh (.lst xs)) { vs with env := vs.env.set i (some (.sh (.lst xs))) }
  | some (some .pool) => Q .pool vs
  | _ => False
/-- a name, looked at -/
@[simp] def wB (i : Nat) : WE := fun vs Q => match vs.env[i]? with
  | some (some (.sh d)) => Q (.sh d) vs
  | some (some (.fx _ d)) => Q (.sh d) vs
  | some (some (.ow xs)) => Q (.bo xs) vs
  | some (some .pool) => Q .pool vs
  | _ => False
theorem snN (i : Nat) : SndE T (tVar i) (wN i) := fun W0 H0 W H O vs σ tm Q Q' hf R k => by
  unfold wN at hf
  split at hf
  · rename_i d e
    obtain ⟨v, hv, r⟩ := R.env i _ e
    exact ⟨v, hv, k W H O vs v _ (Le.refl W) hf (R.push r)⟩
  · rename_i a d e
    obtain ⟨v, hv, r⟩ := R.env i _ e
    exact ⟨v, hv, k W H O vs v _ (Le.refl W) hf (R.push r.2)⟩
  · rename_i xs e
    obtain ⟨W', v, le, hv, r, R'⟩ := R.frzEnv e
    exact ⟨v, hv, k W' H O _ v _ le hf (R'.push r)⟩
  · rename_i e
    obtain ⟨v, hv, r⟩ := R.env i _ e
    have r' : v = .ref W.P := r
    subst r'
    exact ⟨_, hv, k W H O vs _ _ (Le.refl W) hf R.pushP⟩
  · exact hf.elim
theorem snB (i : Nat) : SndE T (tVar i) (wB i) := fun W0 H0 W H O vs σ tm Q Q' hf R k => by
  unfold wB at hf
  split at hf
  · rename_i d e
    obtain ⟨v, hv, r⟩ := R.env i _ e
    exact ⟨v, hv, k W H O vs v _ (Le.refl W) hf (R.push r)⟩
  · rename_i a d e
    obtain ⟨v, hv, r⟩ := R.env i _ e
    exact ⟨v, hv, k W H O vs v _ (Le.refl W) hf (R.push r.2)⟩
  · rename_i xs e
    obtain ⟨v, hv, p, ws, e1, ho, hd, h0, hp, r⟩ := R.env i _ e
    exact ⟨v, hv, k W H O vs v _ (Le.refl W) hf (R.pushB ⟨p, ws, e1, hp, r, .inl ⟨i, ho, hd, h0⟩⟩)⟩
  · rename_i e
    obtain ⟨v, hv, r⟩ := R.env i _ e
    have r' : v = .ref W.P := r
    subst r'
    exact ⟨_, hv, k W H O vs _ _ (Le.refl W) hf R.pushP⟩
  · exact hf.elim
theorem ve_n (i : Nat) {x : Str} {pos : Pos} (hN : X.N[i]? = some x := by rfl) (hv : Vis X.env.scope x := by first | exact Or.inl rfl | exact Or.inr (Or.inl rfl) | exact Or.inr (Or.inr rfl)) (hd : (x == ("__debug__" : Str)) = false := by decide)
    (hcd : (x == ("__classdict__" : Str)) = false := by decide) : VE T X (.Name x pos) (wN i) := .of (pe_var hN hv hd hcd) (snN i)
theorem ve_b (i : Nat) {x : Str} {pos : Pos} (hN : X.N[i]? = some x := by rfl) (hv : Vis X.env.scope x := by first | exact Or.inl rfl | exact Or.inr (Or.inl rfl) | exact Or.inr (Or.inr rfl)) (hd : (x == ("__debug__" : Str)) = false := by decide)
    (hcd : (x == ("__classdict__" : Str)) = false := by decide) : VE T X (.Name x pos) (wB i) := .of (pe_var hN hv hd hcd) (snB i)

/-! ### two values, one value -/
abbrev G2 := Lo → Lo → VS → (Lo → VS → Prop) → Prop
abbrev G1 := Lo → VS → (Lo → VS → Prop) → Prop
def Snd2 (T : Th) (r : R2) (g : G2) : Prop :=
  ∀ (W0 : Wd) (H0 : Hp) (W : Wd) (H : Hp) (O : Addr → Option Ow) (vs : VS) (σ : St) (tm : List (V × Lo)) (x y : V) (a b : Lo) (Q : Lo → VS → Prop) (Q' : VK),
    g a b vs Q → Rel T W0 H0 W H O vs σ ((y, b) :: (x, a) :: tm) → (∀ W' H' O' vs' v lo, Le W W' → Q lo vs' → Rel T W0 H0 W' H' O' vs' σ ((v, lo) :: tm) → Q' v H') → r x y H Q'
def Snd1 (T : Th) (r : V → Hp → VK → Prop) (g : G1) : Prop :=
  ∀ (W0 : Wd) (H0 : Hp) (W : Wd) (H : Hp) (O : Addr → Option Ow) (vs : VS) (σ : St) (tm : List (V × Lo)) (x : V) (a : Lo) (Q : Lo → VS → Prop) (Q' : VK),
    g a vs Q → Rel T W0 H0 W H O vs σ ((x, a) :: tm) → (∀ W' H' O' vs' v lo, Le W W' → Q lo vs' → Rel T W0 H0 W' H' O' vs' σ ((v, lo) :: tm) → Q' v H') → r x H Q'
@[simp] def w2 (g : G2) (f1 f2 : WE) : WE := fun vs Q => f1 vs fun a vs1 => f2 vs1 fun b vs2 => g a b vs2 Q
@[simp] def w1 (g : G1) (f1 : WE) : WE := fun vs Q => f1 vs fun a vs1 => g a vs1 Q
theorem sn2 {r : R2} {g : G2} {ta tb : TE} {f1 f2 : WE} (hr : Snd2 T r g) (ha : SndE T ta f1) (hb : SndE T tb f2) : SndE T (tOp r ta tb) (w2 g f1 f2) := fun W0 H0 W H O vs σ tm Q Q' hf R k =>
  ha W0 H0 W H O vs σ tm _ _ hf R fun W1 H1 O1 vs1 x a l1 q1 R1 =>
    hb W0 H0 W1 H1 O1 vs1 σ _ _ _ q1 R1 fun W2 H2 O2 vs2 y b l2 q2 R2 =>
      hr W0 H0 W2 H2 O2 vs2 σ tm x y a b Q Q' q2 R2 fun W3 H3 O3 vs3 v lo l3 q3 R3 => k W3 H3 O3 vs3 v lo ((l1.trans l2).trans l3) q3 R3
theorem sn1 {r : V → Hp → VK → Prop} {g : G1} {ta : TE} {f1 : WE} (hr : Snd1 T r g) (ha : SndE T ta f1) : SndE T (fun σ H Q => ta σ H fun x H1 => r x H1 Q) (w1 g f1) := fun W0 H0 W H O vs σ tm Q Q' hf R k =>
  ha W0 H0 W H O vs σ tm _ _ hf R fun W1 H1 O1 vs1 x a l1 q1 R1 =>
    hr W0 H0 W1 H1 O1 vs1 σ tm x a Q Q' q1 R1 fun W3 H3 O3 vs3 v lo l3 q3 R3 => k W3 H3 O3 vs3 v lo (l1.trans l3) q3 R3
variable {a b : Expr} {fa fb : WE} {pos : Pos}
theorem ve_op {op : Operator} {r : R2} {g : G2} (ho : OpR X (binaryOp op) r) (hr : Snd2 T r g) (ha : VE T X a fa) (hb : VE T X b fb) : VE T X (.BinOp a op b pos) (w2 g fa fb) :=
  .of (pe_op ho ha.pe hb.pe) (sn2 hr ha.sn hb.sn)
theorem ve_cmp {op : CmpOp} {r : R2} {g : G2} (ho : OpR X (compareOp op) r) (hr : Snd2 T r g) (ha : VE T X a fa) (hb : VE T X b fb) (hm : behindInMarks op b = false := by first | exact nomark _ | rfl) : VE T X (.Compare a [op] [b] pos) (w2 g fa fb) :=
  .of (pe_cmpR ho ha.pe hb.pe hm) (sn2 hr ha.sn hb.sn)
theorem ve_ix {r : R2} {g : G2} (ho : IxR X r) (hr : Snd2 T r g) (ha : VE T X a fa) (hb : VE T X b fb) (hs : PlainIx b := by exact fun _ _ => rfl) : VE T X (.Subscript a b pos) (w2 g fa fb) :=
  .of (pe_ix ho ha.pe hb.pe hs) (sn2 hr ha.sn hb.sn)

/-! ### whole numbers -/
@[simp] def gI (C : Int → Int → Prop) (k : Int → Int → D) : G2 := fun a b vs Q => match a, b with
  | .sh (.int i), .sh (.int j) => C i j ∧ Q (.sh (k i j)) vs
  | _, _ => False
theorem snd_gI {C : Int → Int → Prop} {k : Int → Int → D} {kv : Int → Int → V} (h : ∀ W i j, Rep W (k i j) (kv i j)) : Snd2 T (rI C kv) (gI C k) := fun W0 H0 W H O vs σ tm x y a b Q Q' hf R kk => by
  unfold gI at hf
  split at hf
  · rename_i i j
    have ex : x = .int i := R.pop.top
    have ey : y = .int j := R.top
    exact ⟨i, j, ex, ey, hf.1, kk W H O vs _ _ (Le.refl W) hf.2 (R.pop.pop.push (h W i j))⟩
  · exact hf.elim
@[simp] def gI0 (k : Int → Int → D) : G2 := fun a b vs Q => match a, b with
  | .sh (.int i), .sh (.int j) => Q (.sh (k i j)) vs
  | _, _ => False
theorem snd_gI0 {k : Int → Int → D} {kv : Int → Int → V} (h : ∀ W i j, Rep W (k i j) (kv i j)) : Snd2 T (rI0 kv) (gI0 k) := fun W0 H0 W H O vs σ tm x y a b Q Q' hf R kk => by
  unfold gI0 at hf
  split at hf
  · rename_i i j
    have ex : x = .int i := R.pop.top
    have ey : y = .int j := R.top
    exact ⟨i, j, ex, ey, kk W H O vs _ _ (Le.refl W) hf (R.pop.pop.push (h W i j))⟩
  · exact hf.elim
theorem ve_sub (ha : VE T X a fa) (hb : VE T X b fb) : VE T X (.BinOp a .Sub b pos) (w2 (gI0 fun i j => .int (i - j)) fa fb) := ve_op op_sub (snd_gI0 fun _ _ _ => by simp [Rep]) ha hb
theorem ve_mod (ha : VE T X a fa) (hb : VE T X b fb) : VE T X (.BinOp a .Mod b pos) (w2 (gI (fun _ j => 0 < j) fun i j => .int (i % j)) fa fb) := ve_op op_mod (snd_gI fun _ _ _ => by simp [Rep]) ha hb
theorem ve_fdiv (ha : VE T X a fa) (hb : VE T X b fb) : VE T X (.BinOp a .FloorDiv b pos) (w2 (gI CDivW fun i j => .int (i / j)) fa fb) := ve_op op_fdivW (snd_gI fun _ _ _ => by simp [Rep]) ha hb
theorem ve_lt (ha : VE T X a fa) (hb : VE T X b fb) : VE T X (.Compare a [.Lt] [b] pos) (w2 (gI0 fun i j => .bl (decide (i < j))) fa fb) := ve_cmp op_lt (snd_gI0 fun _ _ _ => by simp [Rep]) ha hb
theorem ve_le (ha : VE T X a fa) (hb : VE T X b fb) : VE T X (.Compare a [.LtE] [b] pos) (w2 (gI0 fun i j => .bl (decide (i ≤ j))) fa fb) := ve_cmp op_le (snd_gI0 fun _ _ _ => by simp [Rep]) ha hb
theorem ve_gt (ha : VE T X a fa) (hb : VE T X b fb) : VE T X (.Compare a [.Gt] [b] pos) (w2 (gI0 fun i j => .bl (decide (j < i))) fa fb) := ve_cmp op_gt (snd_gI0 fun _ _ _ => by simp [Rep]) ha hb
theorem ve_ge (ha : VE T X a fa) (hb : VE T X b fb) : VE T X (.Compare a [.GtE] [b] pos) (w2 (gI0 fun i j => .bl (decide (j ≤ i))) fa fb) := ve_cmp op_ge (snd_gI0 fun _ _ _ => by simp [Rep]) ha hb

/-! ### + of numbers, texts, lists -/
@[simp] def gAdd : G2 := fun a b vs Q => match a, b with
  | .sh (.int i), .sh (.int j) => Q (.sh (.int (i + j))) vs
  | .sh (.str i), .sh (.str j) => i.length + j.length ≤ sizeLine ∧ Q (.sh (.str (i ++ j))) vs
  | a, b => match a.lst?, b.lst? with
    | some xs, some ys => xs.length + ys.length ≤ sizeLine ∧ Q (.ow (xs ++ ys)) vs
    | _, _ => False
abbrev rStrAdd : R2 := fun x y H Q => ∃ i j, x = .str i ∧ y = .str j ∧ i.length + j.length ≤ sizeLine ∧ Q (.str (i ++ j)) H
theorem snd_gAdd : Snd2 T (fun x y H Q => rI0 (fun i j => .int (i + j)) x y H Q ∨ rStrAdd x y H Q ∨ rCat x y H Q) gAdd := fun W0 H0 W H O vs σ tm x y a b Q Q' hf R kk => by
  unfold gAdd at hf
  split at hf
  · rename_i i j
    have ex : x = .int i := R.pop.top
    have ey : y = .int j := R.top
    exact .inl ⟨i, j, ex, ey, kk W H O vs _ _ (Le.refl W) hf (R.pop.pop.push (by simp [Rep]))⟩
  · rename_i i j
    have ex : x = .str i := R.pop.top
    have ey : y = .str j := R.top
    exact .inr (.inl ⟨i, j, ex, ey, hf.1, kk W H O vs _ _ (Le.refl W) hf.2 (R.pop.pop.push (by simp [Rep]))⟩)
  · split at hf
    · rename_i xs ys e1 e2
      obtain ⟨p, ws, ep, hp, rp⟩ := R.lst R.pop.top e1
      obtain ⟨q, us, eq, hq, rq⟩ := R.lst R.top e2
      refine .inr (.inr ⟨p, q, ws, us, ep, eq, hp, hq, by rw [rp.length, rq.length]; exact hf.1, fun l hl => ?_⟩)
      exact kk W _ _ vs _ _ (Le.refl W) hf.2 (R.pop.pop.fresh hl (rp.append rq))
    · exact hf.elim
theorem ve_add (ha : VE T X a fa) (hb : VE T X b fb) : VE T X (.BinOp a .Add b pos) (w2 gAdd fa fb) := ve_op (op_add.or (op_add_str.or op_cat)) snd_gAdd ha hb

/-! ### items -/
@[simp] def gIx : G2 := fun a b vs Q => match b with
  | .sh (.int i) => match a with
    | .sh (.tup xs) => match atI xs i with
      | some d => Q (.sh d) vs
      | none => False
    | .sh (.str z) => z.length ≤ sizeLine ∧ match atI z.cps.toList i with
      | some c => Q (.sh (.str ⟨#[c]⟩)) vs
      | none => False
    | a => match a.lst? with
      | some xs => match atI xs i with
        | some d => Q (.sh d) vs
        | none => False
      | none => False
  | _ => False
theorem atI_rep {xs : List D} {ws : List V} {i : Int} {d : D} (r : RepL W xs ws) (h : atI xs i = some d) : ∃ w, atI ws i = some w ∧ Rep W d w := by
  unfold atI at h ⊢
  rw [r.length]
  cases e : ixN xs.length i with
  | none => rw [e] at h; cases h
  | some j =>
    rw [e] at h
    exact r.get h
theorem snd_gIx : Snd2 T (rIx X.K) gIx := fun W0 H0 W H O vs σ tm x y a b Q Q' hf R kk => by
  unfold gIx at hf
  split at hf
  · rename_i i
    have ey : y = .int i := R.top
    split at hf
    · rename_i xs
      obtain ⟨p, ws, ep, hs, rp⟩ := R.pop.top
      split at hf
      · rename_i d e
        obtain ⟨w, hw, rw'⟩ := atI_rep rp e
        exact .inr (.inl ⟨p, ws, i, w, ep, ey, SqT.of (R.Sget hs), hw, kk W H O vs _ _ (Le.refl W) hf (R.pop.pop.push rw')⟩)
      · exact hf.elim
    · rename_i z
      have ex : x = .str z := R.pop.top
      obtain ⟨h1, hf⟩ := hf
      split at hf
      · rename_i c e
        exact .inr (.inr ⟨z, i, c, ex, ey, h1, e, kk W H O vs _ _ (Le.refl W) hf (R.pop.pop.push (by simp [Rep]))⟩)
      · exact hf.elim
    · split at hf
      · rename_i xs e1
        obtain ⟨p, ws, ep, hp, rp⟩ := R.lst R.pop.top e1
        split at hf
        · rename_i d e
          obtain ⟨w, hw, rw'⟩ := atI_rep rp e
          exact .inl ⟨p, ws, i, w, ep, ey, SqL.of hp, hw, kk W H O vs _ _ (Le.refl W) hf (R.pop.pop.push rw')⟩
        · exact hf.elim
      · exact hf.elim
  · exact hf.elim
theorem ve_item (ha : VE T X a fa) (hb : VE T X b fb) (hs : PlainIx b := by exact fun _ _ => rfl) : VE T X (.Subscript a b pos) (w2 gIx fa fb) := ve_ix (X := X) ix_seq snd_gIx ha hb hs

/-! ### waiting values shared -/
theorem Rel.share {v : V} {lo : Lo} {d : D} (R : Rel T W0 H0 W H O vs σ ((v, lo) :: tm)) (e : lo.dat? = some d) : ∃ W', Le W W' ∧ Rep W' d v ∧ Rel T W0 H0 W' H O vs σ tm := by
  cases lo with
  | sh d' => cases e; exact ⟨W, Le.refl W, R.top, R.pop⟩
  | ow xs =>
    cases e
    obtain ⟨W', le, R'⟩ := R.frzTop
    exact ⟨W', le, R'.top, R'.pop⟩
  | bo xs => cases e
  | pool => cases e
  | dct kvs => cases e
  | fx a d' => cases e
  | oo p qs xss => cases e
@[simp] def wNil : WA := fun vs Q => Q [] vs
@[simp] def wCons (f : WE) (g : WA) : WA := fun vs Q => f vs fun lo vs1 => match lo.dat? with
  | some d => g vs1 fun ds vs2 => Q (d :: ds) vs2
  | none => False
theorem va_nil : VA T X [] wNil := .of pa_nil (fun W0 H0 W H O vs σ tm Q Q' hf R k => k W H O vs [] [] (Le.refl W) hf RepL.nil R)
theorem va_cons {e : Expr} {es : List Expr} {f : WE} {g : WA} (he : VE T X e f) (hr : VA T X es g) (hs : starEach (e :: es) X.env = (false, eval e X.env) :: starEach es X.env := by rfl) : VA T X (e :: es) (wCons f g) :=
  .of (pa_cons he.pe hr.pe hs) ( fun W0 H0 W H O vs σ tm Q Q' hf R k => he.sn W0 H0 W H O vs σ tm _ _ hf R fun W1 H1 O1 vs1 v lo l1 q1 R1 => by
    split at q1
    · rename_i d e1
      obtain ⟨W2, l2, rd, R2⟩ := R1.share e1
      exact hr.sn W0 H0 W2 H1 O1 vs1 σ tm _ _ q1 R2 fun W3 H3 O3 vs3 ws ds l3 q3 rs R3 => k W3 H3 O3 vs3 (v :: ws) (d :: ds) ((l1.trans l2).trans l3) q3 (RepL.cons (Rep.mono l3 rd) rs) R3
    · exact q1.elim)
/-! ### displays -/
@[simp] def wLst (g : WA) : WE := fun vs Q => g vs fun ds vs1 => ds.length ≤ sizeLine ∧ Q (.ow ds) vs1
@[simp] def wTup (g : WA) : WE := fun vs Q => g vs fun ds vs1 => ds.length ≤ sizeLine ∧ Q (.sh (.tup ds)) vs1
theorem ve_lst {es : List Expr} {g : WA} (h : VA T X es g) : VE T X (.List es pos) (wLst g) :=
  .of (pe_lst h.pe) (fun W0 H0 W H O vs σ tm Q Q' hf R k => h.sn W0 H0 W H O vs σ tm _ _ hf R fun W1 H1 O1 vs1 ws ds l1 q1 rs R1 =>
    ⟨by rw [rs.length]; exact q1.1, fun p hp => k W1 _ _ vs1 _ _ l1 q1.2 (R1.fresh hp rs)⟩)
/-- a new tuple stands still at once -/
def Wd.addT (W : Wd) (p : Addr) (ws : List V) : Wd := ⟨fun a => if a = p then some (.tup ws) else W.S a, W.R, fun a => W.D a ∨ a = p, W.P, W.I⟩
theorem Rel.tup (R : Rel T W0 H0 W H O vs σ tm) {p : Addr} {ds : List D} {ws : List V} (hp : H p = none) (r : RepL W ds ws) :
    ∃ W', Le W W' ∧ Rep W' (.tup ds) (.ref p) ∧ Rel T W0 H0 W' (upd H p (.tup ws)) O vs σ tm := by
  have nd : ¬ W.D p := R.noD hp
  have le : Le W (W.addT p ws) := ⟨fun a o e => by
    show (if a = p then some (HO.tup ws) else W.S a) = _
    rw [if_neg (ne_of_none (R.ok.s a o e).1 hp)]; exact e, fun _ _ e => e, fun _ e => .inl e, rfl, fun _ _ e => e, frz_s' nd, fun _ _ e => .inl e⟩
  have ok1 : WOk T W (upd H p (.tup ws)) vs.n := R.ok.alloc hp
  have ok : WOk T (W.addT p ws) (upd H p (.tup ws)) vs.n := by
    refine ⟨fun a o e => ?_, fun a r e => ?_, fun a e => ?_, .inl ok1.pd, fun a b e => .inl (ok1.i a b e), let ⟨a, b, c, h1, h2⟩ := ok1.p; ⟨a, b, c, h1, T.psm le (fun _ _ _ => rfl) h2⟩⟩
    · by_cases z : a = p
      · subst z
        have e' : (if a = a then some (HO.tup ws) else W.S a) = some o := e
        rw [if_pos rfl] at e'
        rw [← e']
        exact ⟨upd_same, .inl (.inr rfl), fun q => nd (q ▸ R.ok.pd)⟩
      · have e' : (if a = p then some (HO.tup ws) else W.S a) = some o := e
        rw [if_neg z] at e'
        obtain ⟨h1, h2, h3⟩ := ok1.s a o e'
        exact ⟨h1, h2.imp .inl id, h3⟩
    · obtain ⟨h1, h2, h3⟩ := ok1.r a r e
      exact ⟨T.mono W _ _ _ a r le (fun _ _ _ => rfl) h1, .inl h2, h3⟩
    · rcases e with e | e
      · exact ok1.d a e
      · subst e; exact ⟨_, upd_same⟩
  refine ⟨W.addT p ws, le, ⟨p, ws, rfl, if_pos rfl, RepL.mono le r⟩, ?_⟩
  exact R.over le ok (fun a u _ h => by rw [upd_ne (ne_of_none h hp)]; exact h) (fun a h => by
    rcases h with h | h
    · exact .inl h
    · exact .inr (h ▸ hp)) (R.ok.adv fun b hb _ => upd_ne fun z => nd (z ▸ hb))
theorem ve_tup {es : List Expr} {g : WA} {x1} (h : VA T X es g) : VE T X (.Tuple es x1 pos) (wTup g) :=
  .of (pe_tup h.pe) (fun W0 H0 W H O vs σ tm Q Q' hf R k => h.sn W0 H0 W H O vs σ tm _ _ hf R fun W1 H1 O1 vs1 ws ds l1 q1 rs R1 =>
    ⟨by rw [rs.length]; exact q1.1, fun p hp => by
      obtain ⟨W2, l2, rt, R2⟩ := R1.tup hp rs
      exact k W2 _ _ vs1 _ _ (l1.trans l2) q1.2 (R2.push rt)⟩)
end
end Vx

set_option Elab.async false
set_option maxRecDepth 100000
set_option linter.all false
/-! Tests, comparisons of data, calls of built-ins, slices. -/
namespace Vx
open PySem L2

section
variable {T : Th} {X : Cx} {W0 W W' : Wd} {H0 H H' : Hp} {O O' : Addr → Option Ow} {vs : VS} {σ : St} {tm : List (V × Lo)}
variable {a b c : Expr} {fa fb fc : WE} {pos : Pos}

/-! ### tests -/
@[simp] def wTst (f : WE) : WT := fun vs Q => f vs fun lo vs1 => match lo with
  | .sh (.bl b) => Q b vs1
  | _ => False
theorem sn_tst {t : TE} {f : WE} (h : SndE T t f) : SndT T (fun σ H Q => t σ H fun x H1 => ∃ k, x = .bl k ∧ Q k H1) (wTst f) := fun W0 H0 W H O vs σ tm Q Q' hf R k =>
  h W0 H0 W H O vs σ tm _ _ hf R fun W1 H1 O1 vs1 v lo l1 q1 R1 => by
    split at q1
    · rename_i b
      have e : v = .bl b := R1.top
      exact ⟨b, e, k W1 H1 O1 vs1 b l1 q1 R1.pop⟩
    · exact q1.elim
theorem vt_val (h : VE T X a fa) (he : ∀ whole, isTrue a X.env whole = (do let v ← whole; standAt a.pos; holding [v] (truthy v)) := by intro _; rfl) : VT T X a (wTst fa) := .of (pt_val h.pe he) (sn_tst h.sn)
theorem vt_cmp {op : CmpOp} {r : R2} {g : G2} (ho : OpR X (compareOp op) r) (hr : Snd2 T r g) (ha : VE T X a fa) (hb : VE T X b fb) (hm : behindInMarks op b = false := by first | exact nomark _ | rfl) : VT T X (.Compare a [op] [b] pos) (wTst (w2 g fa fb)) :=
  .of (pt_cmpR ho ha.pe hb.pe hm) (sn_tst (sn2 hr ha.sn hb.sn))
@[simp] def wNot (f : WT) : WT := fun vs Q => f vs fun b vs1 => Q (!b) vs1
@[simp] def wAnd (f g : WT) : WT := fun vs Q => f vs fun b vs1 => if b = true then g vs1 Q else Q false vs1
@[simp] def wOr (f g : WT) : WT := fun vs Q => f vs fun b vs1 => if b = true then Q true vs1 else g vs1 Q
variable {ga gb : WT}
theorem sn_not {t : TT} (h : SndT T t ga) : SndT T (L2.tNot t) (wNot ga) := fun W0 H0 W H O vs σ tm Q Q' hf R k =>
  h W0 H0 W H O vs σ tm _ _ hf R fun W1 H1 O1 vs1 b l1 q1 R1 => k W1 H1 O1 vs1 (!b) l1 q1 R1
theorem sn_and {t u : TT} (h : SndT T t ga) (h' : SndT T u gb) : SndT T (L2.tAnd t u) (wAnd ga gb) := fun W0 H0 W H O vs σ tm Q Q' hf R k =>
  h W0 H0 W H O vs σ tm _ _ hf R fun W1 H1 O1 vs1 b l1 q1 R1 => by
    cases b with
    | true => exact h' W0 H0 W1 H1 O1 vs1 σ tm _ _ q1 R1 fun W2 H2 O2 vs2 b2 l2 q2 R2 => k W2 H2 O2 vs2 b2 (l1.trans l2) q2 R2
    | false => exact k W1 H1 O1 vs1 false l1 q1 R1
theorem sn_or {t u : TT} (h : SndT T t ga) (h' : SndT T u gb) : SndT T (L2.tOr t u) (wOr ga gb) := fun W0 H0 W H O vs σ tm Q Q' hf R k =>
  h W0 H0 W H O vs σ tm _ _ hf R fun W1 H1 O1 vs1 b l1 q1 R1 => by
    cases b with
    | false => exact h' W0 H0 W1 H1 O1 vs1 σ tm _ _ q1 R1 fun W2 H2 O2 vs2 b2 l2 q2 R2 => k W2 H2 O2 vs2 b2 (l1.trans l2) q2 R2
    | true => exact k W1 H1 O1 vs1 true l1 q1 R1
theorem vt_not (h : VT T X a ga) : VT T X (.UnaryOp .Not a pos) (wNot ga) := .of (pt_not h.pe) (sn_not h.sn)
/-- and, or: as tests -/
structure VW (T : Th) (X : Cx) (e : Expr) (f : WT) : Prop where
  pw : PW X e (tT T f)
theorem VW.of {e : Expr} {t : TT} {f : WT} (h : PW X e t) (s : SndT T t f) : VW T X e f :=
  ⟨⟨fun wh pins st σ H Q' I ⟨W0, H0, W, O, vs, tm, Q, hf, R, k⟩ => h.run wh pins st σ H Q' I (s W0 H0 W H O vs σ tm Q Q' hf R k)⟩⟩
theorem VW.sn {e : Expr} {f : WT} (_ : VW T X e f) : SndT T (tT T f) f := fun W0 H0 W H O vs σ tm Q Q' hf R k => ⟨W0, H0, W, O, vs, tm, Q, hf, R, k⟩
theorem VW.vt {e : Expr} {f : WT} (h : VW T X e f) : VT T X e f := .of h.pw.pt h.sn
variable {rest : List Expr}
theorem vw_and1 (ha : VT T X a ga) : VW T X (.BoolOp .And [a] pos) ga := .of (pw_and1 ha.pe) ha.sn
theorem vw_or1 (ha : VT T X a ga) : VW T X (.BoolOp .Or [a] pos) ga := .of (pw_or1 ha.pe) ha.sn
theorem vw_and (ha : VT T X a ga) (hb : VW T X (.BoolOp .And (b :: rest) pos) gb) : VW T X (.BoolOp .And (a :: b :: rest) pos) (wAnd ga gb) := .of (pw_and ha.pe hb.pw) (sn_and ha.sn hb.sn)
theorem vw_or (ha : VT T X a ga) (hb : VW T X (.BoolOp .Or (b :: rest) pos) gb) : VW T X (.BoolOp .Or (a :: b :: rest) pos) (wOr ga gb) := .of (pw_or ha.pe hb.pw) (sn_or ha.sn hb.sn)
/-- .. as values -/
@[simp] def wAndV (f g : WE) : WE := fun vs Q => f vs fun lo vs1 => match lo with
  | .sh (.bl b) => if b = true then g vs1 Q else Q (.sh (.bl false)) vs1
  | _ => False
@[simp] def wOrV (f g : WE) : WE := fun vs Q => f vs fun lo vs1 => match lo with
  | .sh (.bl b) => if b = true then Q (.sh (.bl true)) vs1 else g vs1 Q
  | _ => False
@[simp] def wNotV (f : WE) : WE := fun vs Q => f vs fun lo vs1 => match lo with
  | .sh (.bl b) => Q (.sh (.bl !b)) vs1
  | _ => False
theorem ve_one {op} (h : VE T X a fa) : VE T X (.BoolOp op [a] pos) fa := .of (pe_one h.pe) h.sn
theorem ve_and (ha : VE T X a fa) (hb : VE T X (.BoolOp .And (b :: rest) pos) fb) : VE T X (.BoolOp .And (a :: b :: rest) pos) (wAndV fa fb) :=
  .of (pe_and ha.pe hb.pe) fun W0 H0 W H O vs σ tm Q Q' hf R k => ha.sn W0 H0 W H O vs σ tm _ _ hf R fun W1 H1 O1 vs1 v lo l1 q1 R1 => by
    split at q1
    · rename_i b
      have e : v = .bl b := R1.top
      refine ⟨b, e, ?_⟩
      cases b with
      | true => exact hb.sn W0 H0 W1 H1 O1 vs1 σ tm _ _ q1 R1.pop fun W2 H2 O2 vs2 v2 lo2 l2 q2 R2 => k W2 H2 O2 vs2 v2 lo2 (l1.trans l2) q2 R2
      | false => exact k W1 H1 O1 vs1 _ _ l1 q1 (R1.pop.push (by simp [Rep]))
    · exact q1.elim
theorem ve_or (ha : VE T X a fa) (hb : VE T X (.BoolOp .Or (b :: rest) pos) fb) : VE T X (.BoolOp .Or (a :: b :: rest) pos) (wOrV fa fb) :=
  .of (pe_or ha.pe hb.pe) fun W0 H0 W H O vs σ tm Q Q' hf R k => ha.sn W0 H0 W H O vs σ tm _ _ hf R fun W1 H1 O1 vs1 v lo l1 q1 R1 => by
    split at q1
    · rename_i b
      have e : v = .bl b := R1.top
      refine ⟨b, e, ?_⟩
      cases b with
      | false => exact hb.sn W0 H0 W1 H1 O1 vs1 σ tm _ _ q1 R1.pop fun W2 H2 O2 vs2 v2 lo2 l2 q2 R2 => k W2 H2 O2 vs2 v2 lo2 (l1.trans l2) q2 R2
      | true => exact k W1 H1 O1 vs1 _ _ l1 q1 (R1.pop.push (by simp [Rep]))
    · exact q1.elim
theorem ve_not (ha : VE T X a fa) : VE T X (.UnaryOp .Not a pos) (wNotV fa) :=
  .of (pe_not ha.pe) fun W0 H0 W H O vs σ tm Q Q' hf R k => ha.sn W0 H0 W H O vs σ tm _ _ hf R fun W1 H1 O1 vs1 v lo l1 q1 R1 => by
    split at q1
    · rename_i b
      have e : v = .bl b := R1.top
      exact ⟨b, e, k W1 H1 O1 vs1 _ _ l1 q1 (R1.pop.push (by simp [Rep]))⟩
    · exact q1.elim
@[simp] def wIfE (c : WT) (f g : WE) : WE := fun vs Q => c vs fun b vs1 => if b = true then f vs1 Q else g vs1 Q
theorem ve_ifE (hc : VT T X c ga) (ha : VE T X a fa) (hb : VE T X b fb) : VE T X (.IfExp c a b pos) (wIfE ga fa fb) :=
  .of (pe_ifExp hc.pe ha.pe hb.pe) fun W0 H0 W H O vs σ tm Q Q' hf R k => hc.sn W0 H0 W H O vs σ tm _ _ hf R fun W1 H1 O1 vs1 b l1 q1 R1 => by
    cases b with
    | true => exact ha.sn W0 H0 W1 H1 O1 vs1 σ tm _ _ q1 R1 fun W2 H2 O2 vs2 v2 lo2 l2 q2 R2 => k W2 H2 O2 vs2 v2 lo2 (l1.trans l2) q2 R2
    | false => exact hb.sn W0 H0 W1 H1 O1 vs1 σ tm _ _ q1 R1 fun W2 H2 O2 vs2 v2 lo2 l2 q2 R2 => k W2 H2 O2 vs2 v2 lo2 (l1.trans l2) q2 R2
/-! ### a < b < c of whole numbers -/
@[simp] def wChain (p p' : Int → Int → Bool) (f1 f2 f3 : WE) : WT := fun vs Q => f1 vs fun x vs1 => f2 vs1 fun y vs2 => match x, y with
  | .sh (.int i), .sh (.int j) => if p i j = true then f3 vs2 fun z vs3 => match z with
      | .sh (.int k) => Q (p' j k) vs3
      | _ => False
    else Q false vs2
  | _, _ => False
theorem sn_chain {p p' : Int → Int → Bool} {ta tb tc : TE} (ha : SndE T ta fa) (hb : SndE T tb fb) (hc : SndE T tc fc) :
    SndT T (tTest (tChain (rI0 fun i j => .bl (p i j)) (rI0 fun i j => .bl (p' i j)) ta tb tc)) (wChain p p' fa fb fc) := fun W0 H0 W H O vs σ tm Q Q' hf R k =>
  ha W0 H0 W H O vs σ tm _ _ hf R fun W1 H1 O1 vs1 x lo1 l1 q1 R1 => hb W0 H0 W1 H1 O1 vs1 σ _ _ _ q1 R1 fun W2 H2 O2 vs2 y lo2 l2 q2 R2 => by
    split at q2
    · rename_i i j
      have ex : x = .int i := R2.pop.top
      have ey : y = .int j := R2.top
      refine ⟨i, j, ex, ey, p i j, rfl, ?_⟩
      cases e : p i j with
      | false =>
        rw [if_neg Bool.false_ne_true]
        rw [e, if_neg Bool.false_ne_true] at q2
        exact ⟨false, rfl, k W2 H2 O2 vs2 false (l1.trans l2) q2 R2.pop.pop⟩
      | true =>
        rw [if_pos rfl]
        rw [e, if_pos rfl] at q2
        refine hc W0 H0 W2 H2 O2 vs2 σ _ _ _ q2 R2 fun W3 H3 O3 vs3 z lo3 l3 q3 R3 => ?_
        split at q3
        · rename_i m
          have ez : z = .int m := R3.top
          exact ⟨j, m, ey, ez, _, rfl, k W3 H3 O3 vs3 _ ((l1.trans l2).trans l3) q3 R3.pop.pop.pop⟩
        · exact q3.elim
    · exact q2.elim
theorem vt_leLt (ha : VE T X a fa) (hb : VE T X b fb) (hc : VE T X c fc) (hm : lastMarks [.LtE, .Lt] [b, c] = false := by with_unfolding_all rfl) : VT T X (.Compare a [.LtE, .Lt] [b, c] pos) (wChain (fun i j => decide (i ≤ j)) (fun i j => decide (i < j)) fa fb fc) :=
  .of (pt_chain op_le op_lt ha.pe hb.pe hc.pe hm) (sn_chain ha.sn hb.sn hc.sn)
theorem vt_leLe (ha : VE T X a fa) (hb : VE T X b fb) (hc : VE T X c fc) (hm : lastMarks [.LtE, .LtE] [b, c] = false := by with_unfolding_all rfl) : VT T X (.Compare a [.LtE, .LtE] [b, c] pos) (wChain (fun i j => decide (i ≤ j)) (fun i j => decide (i ≤ j)) fa fb fc) :=
  .of (pt_chain op_le op_le ha.pe hb.pe hc.pe hm) (sn_chain ha.sn hb.sn hc.sn)
end

/-! ### data -/
mutual
def D.py : D → PyData
  | .non => .none
  | .bl b => .bool b
  | .int i => .int i
  | .str x => .str x
  | .lst xs => .list (D.pys xs)
  | .tup xs => .tuple (D.pys xs)
  | .row _ => .none
def D.pys : List D → List PyData
  | [] => []
  | d :: ds => D.py d :: D.pys ds
end
/-! of depth at most n, no rows, its texts sound -/
mutual
def D.fit : Nat → D → Bool
  | _, .non => true
  | _, .bl _ => true
  | _, .int _ => true
  | _, .str x => PyData.strOk x
  | 0, .lst _ => false
  | n + 1, .lst xs => D.fits n xs
  | 0, .tup _ => false
  | n + 1, .tup xs => D.fits n xs
  | _, .row _ => false
def D.fits : Nat → List D → Bool
  | _, [] => true
  | n, d :: ds => D.fit n d && D.fits n ds
end
def D.eqv (d e : D) : Bool := PyData.eqv d.py e.py
section
variable {T : Th} {X : Cx} {W0 W W' : Wd} {H0 H H' : Hp} {O O' : Addr → Option Ow} {vs : VS} {σ : St} {tm : List (V × Lo)}
variable {a b c : Expr} {fa fb fc : WE} {pos : Pos}
mutual
theorem dp_of {K : PySem.W.Frag} (hs : ∀ a o, W.S a = some o → H a = some o) : ∀ (n : Nat) (d : D) (v : V), D.fit n d = true → Rep W d v → Dp K H v d.py
  | _, .non, v, _, r => by unfold Rep at r; subst r; unfold D.py; exact .non
  | _, .bl b, v, _, r => by unfold Rep at r; subst r; unfold D.py; exact .bl b
  | _, .int i, v, _, r => by unfold Rep at r; subst r; unfold D.py; exact .int i
  | _, .str x, v, _, r => by unfold Rep at r; subst r; unfold D.py; exact .str x
  | 0, .lst xs, v, f, r => by unfold D.fit at f; cases f
  | n + 1, .lst xs, v, f, r => by
    unfold D.fit at f
    unfold Rep at r
    obtain ⟨a, ws, e, h, r⟩ := r
    subst e
    unfold D.py
    exact .lst (SqL.of (hs _ _ h)) (dps_of hs n xs ws f r)
  | 0, .tup xs, v, f, r => by unfold D.fit at f; cases f
  | n + 1, .tup xs, v, f, r => by
    unfold D.fit at f
    unfold Rep at r
    obtain ⟨a, ws, e, h, r⟩ := r
    subst e
    unfold D.py
    exact .tup (SqT.of (hs _ _ h)) (dps_of hs n xs ws f r)
  | n, .row r, v, f, _ => by cases n <;> simp [D.fit] at f
theorem dps_of {K : PySem.W.Frag} (hs : ∀ a o, W.S a = some o → H a = some o) : ∀ (n : Nat) (ds : List D) (ws : List V), D.fits n ds = true → RepL W ds ws → DpAll K H ws (D.pys ds)
  | _, [], ws, _, r => by unfold RepL at r; subst r; unfold D.pys; exact .nil
  | n, d :: ds, ws, f, r => by
    unfold D.fits at f
    rw [Bool.and_eq_true] at f
    unfold RepL at r
    obtain ⟨w, r', e, h, r⟩ := r
    subst e
    unfold D.pys
    exact .cons (dp_of hs n d w f.1 h) (dps_of hs n ds r' f.2 r)
end
mutual
theorem fit_lay : ∀ (n : Nat) (d : D), D.fit n d = true → d.py.canLay0 = true ∧ d.py.depth ≤ n
  | _, .non, _ => by simp [D.py, PyData.canLay0, PyData.depth]
  | _, .bl b, _ => by simp [D.py, PyData.canLay0, PyData.depth]
  | _, .int i, _ => by simp [D.py, PyData.canLay0, PyData.depth]
  | _, .str x, f => by
    have f' : PyData.strOk x = true := by unfold D.fit at f; exact f
    simp [D.py, PyData.canLay0, PyData.depth, f']
  | 0, .lst xs, f => by unfold D.fit at f; cases f
  | n + 1, .lst xs, f => by
    unfold D.fit at f
    have := fits_lay n xs f
    simp only [D.py, PyData.canLay0, PyData.depth]
    exact ⟨this.1, by omega⟩
  | 0, .tup xs, f => by unfold D.fit at f; cases f
  | n + 1, .tup xs, f => by
    unfold D.fit at f
    have := fits_lay n xs f
    simp only [D.py, PyData.canLay0, PyData.depth]
    exact ⟨this.1, by omega⟩
  | n, .row r, f => by cases n <;> simp [D.fit] at f
theorem fits_lay : ∀ (n : Nat) (ds : List D), D.fits n ds = true → PyData.canLayAll0 (D.pys ds) = true ∧ PyData.depthAll (D.pys ds) ≤ n
  | _, [], _ => by simp [D.pys, PyData.canLayAll0, PyData.depthAll]
  | n, d :: ds, f => by
    unfold D.fits at f
    rw [Bool.and_eq_true] at f
    have h1 := fit_lay n d f.1
    have h2 := fits_lay n ds f.2
    simp only [D.pys, PyData.canLayAll0, PyData.depthAll, h1.1, h2.1, Bool.and_self, true_and]
    omega
end
theorem fit_shaped {n : Nat} {d : D} (f : D.fit n d = true) (hn : n ≤ 64) : SeqAt.shaped d.py = true := by
  have := fit_lay n d f
  unfold SeqAt.shaped
  rw [this.1, Bool.true_and]
  exact decide_eq_true (by omega)
/-- the data of a value that is looked at -/
@[simp] def Lo.dt? : Lo → Option D
  | .sh d => some d
  | .ow xs => some (.lst xs)
  | .bo xs => some (.lst xs)
  | .pool => none
  | .dct _ => none
  | .fx _ _ => none
  | .oo _ _ _ => none
theorem Rel.dp {k : Ow} {v : V} {lo : Lo} {d : D} {n : Nat} (R : Rel T W0 H0 W H O vs σ tm) (h : LoOk W H H0 O k v lo) (e : lo.dt? = some d) (f : D.fit n d = true) {K : PySem.W.Frag} : Dp K H v d.py := by
  have hs : ∀ a o, W.S a = some o → H a = some o := fun a o q => R.Sget q
  have go : ∀ xs, lo.lst? = some xs → d = .lst xs → Dp K H v d.py := fun xs e1 e2 => by
    obtain ⟨p, ws, ep, hp, r⟩ := R.lst h e1
    subst e2 ep
    cases n with
    | zero => unfold D.fit at f; cases f
    | succ n =>
      unfold D.fit at f
      unfold D.py
      exact .lst (SqL.of hp) (dps_of hs n xs ws f r)
  cases lo with
  | sh d' => cases e; exact dp_of hs n _ v f h
  | ow xs => cases e; exact go xs rfl rfl
  | bo xs => cases e; exact go xs rfl rfl
  | pool => cases e
  | dct kvs => cases e
  | fx a d' => cases e
  | oo p qs xss => cases e
/-! ### ==, != -/
@[simp] def gEq (neg : Bool) : G2 := fun a b vs Q => match a.dt?, b.dt? with
  | some d, some e => D.fit 60 d = true ∧ D.fit 60 e = true ∧ Q (.sh (.bl (if neg then !D.eqv d e else D.eqv d e))) vs
  | _, _ => False
theorem snd_gEq {K : PySem.W.Frag} : Snd2 T (rEqD K) (gEq false) := fun W0 H0 W H O vs σ tm x y a b Q Q' hf R kk => by
  unfold gEq at hf
  split at hf
  · rename_i d e ed ee
    obtain ⟨f1, f2, q⟩ := hf
    exact ⟨d.py, e.py, R.dp R.pop.top ed f1, R.dp R.top ee f2, fit_shaped f1 (by decide), fit_shaped f2 (by decide), kk W H O vs _ _ (Le.refl W) q (R.pop.pop.push (by simp [Rep, D.eqv]))⟩
  · exact hf.elim
theorem snd_gNe {K : PySem.W.Frag} : Snd2 T (rNeD K) (gEq true) := fun W0 H0 W H O vs σ tm x y a b Q Q' hf R kk => by
  unfold gEq at hf
  split at hf
  · rename_i d e ed ee
    obtain ⟨f1, f2, q⟩ := hf
    exact ⟨d.py, e.py, R.dp R.pop.top ed f1, R.dp R.top ee f2, fit_shaped f1 (by decide), fit_shaped f2 (by decide), kk W H O vs _ _ (Le.refl W) q (R.pop.pop.push (by simp [Rep, D.eqv]))⟩
  · exact hf.elim
theorem ve_eq (hu : X.A.units + 64 < cLine) (ha : VE T X a fa) (hb : VE T X b fb) : VE T X (.Compare a [.Eq] [b] pos) (w2 (gEq false) fa fb) := ve_cmp (op_eqD hu) snd_gEq ha hb
theorem ve_ne (hu : X.A.units + 64 < cLine) (ha : VE T X a fa) (hb : VE T X b fb) : VE T X (.Compare a [.NotEq] [b] pos) (w2 (gEq true) fa fb) := ve_cmp (op_neD hu) snd_gNe ha hb
theorem vt_eq (hu : X.A.units + 64 < cLine) (ha : VE T X a fa) (hb : VE T X b fb) : VT T X (.Compare a [.Eq] [b] pos) (wTst (w2 (gEq false) fa fb)) := vt_cmp (op_eqD hu) snd_gEq ha hb
theorem vt_ne (hu : X.A.units + 64 < cLine) (ha : VE T X a fa) (hb : VE T X b fb) : VT T X (.Compare a [.NotEq] [b] pos) (wTst (w2 (gEq true) fa fb)) := vt_cmp (op_neD hu) snd_gNe ha hb
theorem vt_lt (ha : VE T X a fa) (hb : VE T X b fb) : VT T X (.Compare a [.Lt] [b] pos) (wTst (w2 (gI0 fun i j => .bl (decide (i < j))) fa fb)) := vt_cmp op_lt (snd_gI0 fun _ _ _ => by simp [Rep]) ha hb
theorem vt_le (ha : VE T X a fa) (hb : VE T X b fb) : VT T X (.Compare a [.LtE] [b] pos) (wTst (w2 (gI0 fun i j => .bl (decide (i ≤ j))) fa fb)) := vt_cmp op_le (snd_gI0 fun _ _ _ => by simp [Rep]) ha hb
theorem vt_gt (ha : VE T X a fa) (hb : VE T X b fb) : VT T X (.Compare a [.Gt] [b] pos) (wTst (w2 (gI0 fun i j => .bl (decide (j < i))) fa fb)) := vt_cmp op_gt (snd_gI0 fun _ _ _ => by simp [Rep]) ha hb
theorem vt_ge (ha : VE T X a fa) (hb : VE T X b fb) : VT T X (.Compare a [.GtE] [b] pos) (wTst (w2 (gI0 fun i j => .bl (decide (j ≤ i))) fa fb)) := vt_cmp op_ge (snd_gI0 fun _ _ _ => by simp [Rep]) ha hb
/-! ### in, not in: a list of data -/
@[simp] def gIn (neg : Bool) : G2 := fun a b vs Q => match a.dt?, b.lst? with
  | some d, some es => D.fit 60 d = true ∧ D.fits 59 es = true ∧ Q (.sh (.bl (if neg then !es.any fun z => D.eqv z d else es.any fun z => D.eqv z d))) vs
  | _, _ => False
theorem lst_dt {lo : Lo} {xs : List D} (h : lo.lst? = some xs) : lo.dt? = some (.lst xs) := by
  cases lo with
  | sh d => cases d <;> first | (cases h; done) | (cases h; rfl)
  | ow xs => cases h; rfl
  | bo xs => cases h; rfl
  | pool => cases h
  | dct kvs => cases h
  | fx a d => cases h
  | oo p qs xss => cases h
theorem any_py (d : D) : ∀ es : List D, (D.pys es).any (fun z => PyData.eqv z d.py) = es.any fun z => D.eqv z d
  | [] => rfl
  | e :: es => by
    unfold D.pys
    rw [List.any_cons, List.any_cons, any_py d es]
    rfl
end
end Vx

set_option Elab.async false
set_option maxRecDepth 100000
set_option linter.all false
/-! in, is None, slices, calls of built-ins and of defs, methods of built-ins. -/
namespace Vx
open PySem L2

section
variable {T : Th} {X : Cx} {W0 W W' : Wd} {H0 H H' : Hp} {O O' : Addr → Option Ow} {vs : VS} {σ : St} {tm : List (V × Lo)}
variable {a b c e : Expr} {fa fb fc : WE} {pos : Pos} {es : List Expr}

theorem snd_gIn {K : PySem.W.Frag} : Snd2 T (rInD K) (gIn false) := fun W0 H0 W H O vs σ tm x y a b Q Q' hf R kk => by
  unfold gIn at hf
  split at hf
  · rename_i d es ed ee
    obtain ⟨f1, f2, q⟩ := hf
    have f3 : D.fit 60 (.lst es) = true := by unfold D.fit; exact f2
    have h2 := R.dp (K := K) R.top (lst_dt ee) f3
    have s2 := fit_shaped f3 (by decide)
    unfold D.py at h2 s2
    refine ⟨d.py, D.pys es, R.dp R.pop.top ed f1, h2, fit_shaped f1 (by decide), s2, kk W H O vs _ _ (Le.refl W) q (R.pop.pop.push ?_)⟩
    rw [any_py]
    simp [Rep]
  · exact hf.elim
theorem snd_gNotIn {K : PySem.W.Frag} : Snd2 T (rNotInD K) (gIn true) := fun W0 H0 W H O vs σ tm x y a b Q Q' hf R kk => by
  unfold gIn at hf
  split at hf
  · rename_i d es ed ee
    obtain ⟨f1, f2, q⟩ := hf
    have f3 : D.fit 60 (.lst es) = true := by unfold D.fit; exact f2
    have h2 := R.dp (K := K) R.top (lst_dt ee) f3
    have s2 := fit_shaped f3 (by decide)
    unfold D.py at h2 s2
    refine ⟨d.py, D.pys es, R.dp R.pop.top ed f1, h2, fit_shaped f1 (by decide), s2, kk W H O vs _ _ (Le.refl W) q (R.pop.pop.push ?_)⟩
    rw [any_py]
    simp [Rep]
  · exact hf.elim
theorem ve_in (hu : X.A.units + 65 < cLine) (ha : VE T X a fa) (hb : VE T X b fb) (hm : behindInMarks .In b = false := by rfl) : VE T X (.Compare a [.In] [b] pos) (w2 (gIn false) fa fb) := ve_cmp (op_inD hu) snd_gIn ha hb hm
theorem ve_notin (hu : X.A.units + 65 < cLine) (ha : VE T X a fa) (hb : VE T X b fb) (hm : behindInMarks .NotIn b = false := by rfl) : VE T X (.Compare a [.NotIn] [b] pos) (w2 (gIn true) fa fb) := ve_cmp (op_notInD hu) snd_gNotIn ha hb hm
theorem vt_in (hu : X.A.units + 65 < cLine) (ha : VE T X a fa) (hb : VE T X b fb) (hm : behindInMarks .In b = false := by rfl) : VT T X (.Compare a [.In] [b] pos) (wTst (w2 (gIn false) fa fb)) := vt_cmp (op_inD hu) snd_gIn ha hb hm
theorem vt_notin (hu : X.A.units + 65 < cLine) (ha : VE T X a fa) (hb : VE T X b fb) (hm : behindInMarks .NotIn b = false := by rfl) : VT T X (.Compare a [.NotIn] [b] pos) (wTst (w2 (gIn true) fa fb)) := vt_cmp (op_notInD hu) snd_gNotIn ha hb hm
/-! ### is None -/
@[simp] def Lo.isNon : Lo → Bool
  | .sh .non => true
  | _ => false
theorem Rel.isNon {k : Ow} {v : V} {lo : Lo} (h : LoOk W H H0 O k v lo) : decide (v = .non) = lo.isNon := by
  have no : ∀ p, decide (V.ref p = .non) = false := fun p => by simp
  cases lo with
  | sh d =>
    have h' : Rep W d v := h
    cases d with
    | non => unfold Rep at h'; subst h'; rfl
    | bl b => unfold Rep at h'; subst h'; simp [Lo.isNon]
    | int b => unfold Rep at h'; subst h'; simp [Lo.isNon]
    | str b => unfold Rep at h'; subst h'; simp [Lo.isNon]
    | lst xs => unfold Rep at h'; obtain ⟨p, ws, e, _⟩ := h'; subst e; exact no p
    | tup xs => unfold Rep at h'; obtain ⟨p, ws, e, _⟩ := h'; subst e; exact no p
    | row r => unfold Rep at h'; obtain ⟨p, e, _⟩ := h'; subst e; exact no p
  | ow xs => obtain ⟨p, ws, e, _⟩ := h; subst e; exact no p
  | bo xs => obtain ⟨p, ws, e, _⟩ := h; subst e; exact no p
  | pool => have h' : v = .ref W.P := h; subst h'; exact no _
  | dct kvs => obtain ⟨p, e, _⟩ := h; subst e; exact no p
  | fx a d => obtain ⟨e, _⟩ := h; subst e; exact no a
  | oo p qs xss => obtain ⟨e, _⟩ := h; subst e; exact no p
@[simp] def wIsN (neg : Bool) (f : WE) : WE := fun vs Q => f vs fun lo vs1 => Q (.sh (.bl (if neg then !lo.isNon else lo.isNon))) vs1
theorem sn_isN {t : TE} (h : SndE T t fa) : SndE T (tIsN t) (wIsN false fa) := fun W0 H0 W H O vs σ tm Q Q' hf R k =>
  h W0 H0 W H O vs σ tm _ _ hf R fun W1 H1 O1 vs1 v lo l1 q1 R1 => by
    have e := Rel.isNon R1.top
    simp only at e
    show Q' (.bl (decide (v = .non))) H1
    rw [e]
    exact k W1 H1 O1 vs1 _ _ l1 q1 (R1.pop.push (by simp [Rep]))
theorem sn_notN {t : TE} (h : SndE T t fa) : SndE T (tNotN t) (wIsN true fa) := fun W0 H0 W H O vs σ tm Q Q' hf R k =>
  h W0 H0 W H O vs σ tm _ _ hf R fun W1 H1 O1 vs1 v lo l1 q1 R1 => by
    have e := Rel.isNon R1.top
    simp only at e
    show Q' (.bl (!decide (v = .non))) H1
    rw [e]
    exact k W1 H1 O1 vs1 _ _ l1 q1 (R1.pop.push (by simp [Rep]))
theorem ve_isN {j pos'} (ha : VE T X a fa) : VE T X (.Compare a [.Is] [.Constant .none j pos'] pos) (wIsN false fa) := .of (pe_cmp (pc_isN ha.pe) rfl) (sn_isN ha.sn)
theorem ve_notN {j pos'} (ha : VE T X a fa) : VE T X (.Compare a [.IsNot] [.Constant .none j pos'] pos) (wIsN true fa) := .of (pe_cmp (pc_notN ha.pe) rfl) (sn_notN ha.sn)
theorem vt_isN {j pos'} (ha : VE T X a fa) : VT T X (.Compare a [.Is] [.Constant .none j pos'] pos) (wTst (wIsN false fa)) := .of (pt_cmp (pc_isN ha.pe) rfl) (sn_tst (sn_isN ha.sn))
theorem vt_notN {j pos'} (ha : VE T X a fa) : VT T X (.Compare a [.IsNot] [.Constant .none j pos'] pos) (wTst (wIsN true fa)) := .of (pt_cmp (pc_notN ha.pe) rfl) (sn_tst (sn_notN ha.sn))

/-! ### slices -/
abbrev WO := VS → (Option Int → VS → Prop) → Prop
def SndO (T : Th) (t : TO) (f : WO) : Prop :=
  ∀ (W0 : Wd) (H0 : Hp) (W : Wd) (H : Hp) (O : Addr → Option Ow) (vs : VS) (σ : St) (tm : List (V × Lo)) (Q : Option Int → VS → Prop) (Q' : Option Int → Hp → Prop),
    f vs Q → Rel T W0 H0 W H O vs σ tm → (∀ W' H' O' vs' o, Le W W' → Q o vs' → Rel T W0 H0 W' H' O' vs' σ tm → Q' o H') → t σ H Q'
def tOO (T : Th) (f : WO) : TO := fun σ H Q' => ∃ (W0 : Wd) (H0 : Hp) (W : Wd) (O : Addr → Option Ow) (vs : VS) (tm : List (V × Lo)) (Q : Option Int → VS → Prop),
  f vs Q ∧ Rel T W0 H0 W H O vs σ tm ∧ (∀ W' H' O' vs' o, Le W W' → Q o vs' → Rel T W0 H0 W' H' O' vs' σ tm → Q' o H')
structure VO (T : Th) (X : Cx) (e : Option Expr) (f : WO) : Prop where
  po : PO X e (tOO T f)
theorem VO.of {e : Option Expr} {t : TO} {f : WO} (h : PO X e t) (s : SndO T t f) : VO T X e f :=
  ⟨⟨fun pins st σ H Q' I ⟨W0, H0, W, O, vs, tm, Q, hf, R, k⟩ => h.run pins st σ H Q' I (s W0 H0 W H O vs σ tm Q Q' hf R k)⟩⟩
theorem VO.sn {e : Option Expr} {f : WO} (_ : VO T X e f) : SndO T (tOO T f) f := fun W0 H0 W H O vs σ tm Q Q' hf R k => ⟨W0, H0, W, O, vs, tm, Q, hf, R, k⟩
@[simp] def wNoP : WO := fun vs Q => Q none vs
@[simp] def wPart (f : WE) : WO := fun vs Q => f vs fun lo vs1 => match lo with
  | .sh (.int i) => Q (some i) vs1
  | _ => False
theorem vo_none : VO T X none wNoP := .of po_none fun W0 H0 W H O vs σ tm Q Q' hf R k => k W H O vs none (Le.refl W) hf R
theorem vo_some (h : VE T X a fa) : VO T X (some a) (wPart fa) := .of (po_some h.pe) fun W0 H0 W H O vs σ tm Q Q' hf R k =>
  h.sn W0 H0 W H O vs σ tm _ _ hf R fun W1 H1 O1 vs1 v lo l1 q1 R1 => by
    split at q1
    · rename_i i
      have e : v = .int i := R1.top
      exact ⟨i, e, k W1 H1 O1 vs1 _ l1 q1 R1.pop⟩
    · exact q1.elim
def cutD (xs : List D) (lo hi : Option Int) : List D := (xs.drop (HT.sIx xs.length 0 lo)).take (HT.sIx xs.length xs.length hi - HT.sIx xs.length 0 lo)
theorem RepL.cut {ds : List D} {ws : List V} (r : RepL W ds ws) (lo hi : Option Int) : RepL W (cutD ds lo hi) (cutV ws lo hi) := by
  unfold cutD cutV
  rw [r.length]
  exact (r.drop _).take _
@[simp] def wSl (f : WE) (lo hi : WO) : WE := fun vs Q => f vs fun x vs1 => lo vs1 fun l vs2 => hi vs2 fun u vs3 => match x with
  | .sh (.str z) => z.length ≤ sizeLine ∧ Q (.sh (.str (cutS z l u))) vs3
  | x => match x.lst? with
    | some xs => Q (.ow (cutD xs l u)) vs3
    | none => False
theorem ve_slice {lo hi : Option Expr} {fl fh : WO} {p2 : Pos} (ha : VE T X a fa) (hl : VO T X lo fl) (hh : VO T X hi fh) : VE T X (.Subscript a (.Slice lo hi none p2) pos) (wSl fa fl fh) :=
  .of (pe_slice (sl_list.or sl_str) ha.pe hl.po hh.po) fun W0 H0 W H O vs σ tm Q Q' hf R k =>
    ha.sn W0 H0 W H O vs σ tm _ _ hf R fun W1 H1 O1 vs1 x lo1 l1 q1 R1 => hl.sn W0 H0 W1 H1 O1 vs1 σ _ _ _ q1 R1 fun W2 H2 O2 vs2 l l2 q2 R2 => hh.sn W0 H0 W2 H2 O2 vs2 σ _ _ _ q2 R2 fun W3 H3 O3 vs3 u l3 q3 R3 => by
      split at q3
      · rename_i z
        have e : x = .str z := R3.top
        exact .inr ⟨z, e, q3.1, k W3 H3 O3 vs3 _ _ ((l1.trans l2).trans l3) q3.2 (R3.pop.push (by simp [Rep]))⟩
      · split at q3
        · rename_i xs e1
          obtain ⟨p, ws, ep, hp, rp⟩ := R3.lst R3.top e1
          exact .inl ⟨p, ws, ep, SqL.of hp, fun q hq => k W3 _ _ vs3 _ _ ((l1.trans l2).trans l3) q3 (R3.pop.fresh hq (rp.cut l u))⟩
        · exact q3.elim
/-- xs[::-1] -/
@[simp] def wRevL (f : WE) : WE := fun vs Q => f vs fun x vs1 => match x.lst? with
  | some xs => Q (.ow xs.reverse) vs1
  | none => False
theorem ve_revL {k : Nat} {p1 p2 p3 : Pos} (ha : VE T X a fa) : VE T X (.Subscript a (.Slice none none (some (.UnaryOp .USub (.Constant (.int 1) k p1) p2)) p3) pos) (wRevL fa) :=
  .of (pe_revL ha.pe) fun W0 H0 W H O vs σ tm Q Q' hf R k => ha.sn W0 H0 W H O vs σ tm _ _ hf R fun W1 H1 O1 vs1 x lo1 l1 q1 R1 => by
    split at q1
    · rename_i xs e1
      obtain ⟨p, ws, ep, hp, rp⟩ := R1.lst R1.top e1
      exact ⟨p, ws, ep, SqL.of hp, fun q hq => k W1 _ _ vs1 _ _ l1 q1 (R1.pop.fresh hq rp.reverse)⟩
    · exact q1.elim

/-! ### calls of built-ins, one argument -/
def SndC1 (T : Th) (r : List V → Hp → VK → Prop) (g : G1) : Prop := Snd1 T (fun x H Q => r [x] H Q) g
theorem ve_callB1 {id : String} {r : List V → Hp → VK → Prop} {g : G1} {x : Str} {p : Pos} (hc : CallR X (.builtin id) r) (hr : SndC1 T r g) (hg : Gl X x) (hm : X.mg x = none) (hv : bootBuiltins x = some (.builtin id)) (ha : VE T X a fa)
    (hn : x ≠ "__name__" := by decide) (hdb : (x == ("__debug__" : Str)) = false := by decide)
    (hs : starEach [a] X.env = (false, eval a X.env) :: starEach [] X.env := by rfl) : VE T X (.Call (.Name x p) [a] [] pos) (w1 g fa) :=
  .of (pe_callB hc hg hm hv (pa_cons ha.pe pa_nil hs) hn hdb hs) (sn1 (r := fun x H Q => r [x] H Q) hr ha.sn)
theorem ve_callT1 {ty : String} {r : List V → Hp → VK → Prop} {g : G1} {x : Str} {p : Pos} (hc : CallR X (.type ty) r) (hr : SndC1 T r g) (hg : Gl X x) (hm : X.mg x = none) (hv : bootBuiltins x = some (.type ty)) (ha : VE T X a fa)
    (hn : x ≠ "__name__" := by decide) (hdb : (x == ("__debug__" : Str)) = false := by decide)
    (hs : starEach [a] X.env = (false, eval a X.env) :: starEach [] X.env := by rfl) : VE T X (.Call (.Name x p) [a] [] pos) (w1 g fa) :=
  .of (pe_callTy hc hg hm hv (pa_cons ha.pe pa_nil hs) hn hdb hs) (sn1 (r := fun x H Q => r [x] H Q) hr ha.sn)
def SndC2 (T : Th) (r : List V → Hp → VK → Prop) (g : G2) : Prop := Snd2 T (fun x y H Q => r [x, y] H Q) g
theorem ve_callB2 {id : String} {r : List V → Hp → VK → Prop} {g : G2} {x : Str} {p : Pos} (hc : CallR X (.builtin id) r) (hr : SndC2 T r g) (hg : Gl X x) (hm : X.mg x = none) (hv : bootBuiltins x = some (.builtin id)) (ha : VE T X a fa) (hb : VE T X b fb)
    (hn : x ≠ "__name__" := by decide) (hdb : (x == ("__debug__" : Str)) = false := by decide)
    (hs : starEach [a, b] X.env = (false, eval a X.env) :: starEach [b] X.env := by rfl) (hs2 : starEach [b] X.env = (false, eval b X.env) :: starEach [] X.env := by rfl) : VE T X (.Call (.Name x p) [a, b] [] pos) (w2 g fa fb) :=
  .of (pe_callB hc hg hm hv (pa_cons ha.pe (pa_cons hb.pe pa_nil hs2) hs) hn hdb hs (by rw [hs2]; rfl)) (sn2 (r := fun x y H Q => r [x, y] H Q) hr ha.sn hb.sn)
/-! len -/
@[simp] def gLen : G1 := fun a vs Q => match a with
  | .sh (.str z) => z.length ≤ sizeLine ∧ Q (.sh (.int z.length)) vs
  | .sh (.tup xs) => Q (.sh (.int xs.length)) vs
  | a => match a.lst? with
    | some xs => Q (.sh (.int xs.length)) vs
    | none => False
abbrev rLenStr : List V → Hp → VK → Prop := fun xs H Q => ∃ z, xs = [.str z] ∧ z.length ≤ sizeLine ∧ Q (.int z.length) H
abbrev rLenSeq (K : PySem.W.Frag) : List V → Hp → VK → Prop := fun xs H Q => ∃ p ys, xs = [.ref p] ∧ (SqL K H p ys ∨ SqT K H p ys) ∧ Q (.int ys.length) H
theorem snd_gLen {K : PySem.W.Frag} : SndC1 T (fun xs H Q => rLenSeq K xs H Q ∨ rLenStr xs H Q) gLen := fun W0 H0 W H O vs σ tm x a Q Q' hf R kk => by
  unfold gLen at hf
  split at hf
  · rename_i z
    have e : x = .str z := R.top
    subst e
    exact .inr ⟨z, rfl, hf.1, kk W H O vs _ _ (Le.refl W) hf.2 (R.pop.push (by simp [Rep]))⟩
  · rename_i xs
    obtain ⟨p, ws, ep, hs, rp⟩ := R.top
    have ep' : x = .ref p := ep
    subst ep'
    exact .inl ⟨p, ws, rfl, .inr (SqT.of (R.Sget hs)), kk W H O vs _ _ (Le.refl W) hf (R.pop.push (by simp [Rep, rp.length]))⟩
  · split at hf
    · rename_i xs e1
      obtain ⟨p, ws, ep, hp, rp⟩ := R.lst R.top e1
      have ep' : x = .ref p := ep
      subst ep'
      exact .inl ⟨p, ws, rfl, .inl (SqL.of hp), kk W H O vs _ _ (Le.refl W) hf (R.pop.push (by simp [Rep, rp.length]))⟩
    · exact hf.elim
theorem ve_len {p : Pos} (hg : Gl X "len") (hm : X.mg "len" = none) (ha : VE T X a fa) (hs : starEach [a] X.env = (false, eval a X.env) :: starEach [] X.env := by rfl) : VE T X (.Call (.Name "len" p) [a] [] pos) (w1 gLen fa) :=
  ve_callB1 (call_len_seq.or call_len_str) snd_gLen hg hm PySem.boot_len ha (hs := hs)
/-! int(n), abs, max, min of two, list, tuple, sum, all -/
@[simp] def gInt : G1 := fun a vs Q => match a with
  | .sh (.int i) => Q (.sh (.int i)) vs
  | .sh (.bl k) => Q (.sh (.int (if k then 1 else 0))) vs
  | .sh (.str z) => match PySem.intText? z with
    | some n => z.length ≤ 640 ∧ Q (.sh (.int n)) vs
    | none => False
  | _ => False
theorem snd_gInt : SndC1 T (fun xs H Q => ((∃ i, xs = [V.int i] ∧ Q (.int i) H) ∨ ∃ k, xs = [V.bl k] ∧ Q (.int (if k then 1 else 0)) H) ∨ ∃ a n, xs = [V.str a] ∧ PySem.intText? a = some n ∧ a.length ≤ 640 ∧ Q (.int n) H) gInt := fun W0 H0 W H O vs σ tm x a Q Q' hf R kk => by
  unfold gInt at hf
  split at hf
  · rename_i i
    have e : x = .int i := R.top
    subst e
    exact .inl (.inl ⟨i, rfl, kk W H O vs _ _ (Le.refl W) hf (R.pop.push (by simp [Rep]))⟩)
  · rename_i k
    have e : x = .bl k := R.top
    subst e
    exact .inl (.inr ⟨k, rfl, kk W H O vs _ _ (Le.refl W) hf (R.pop.push (by simp [Rep]))⟩)
  · rename_i z
    have e : x = .str z := R.top
    subst e
    split at hf
    · rename_i n en
      exact .inr ⟨z, n, rfl, en, hf.1, kk W H O vs _ _ (Le.refl W) hf.2 (R.pop.push (by simp [Rep]))⟩
    · exact hf.elim
  · exact hf.elim
theorem ve_intOf {p : Pos} (hg : Gl X "int") (hm : X.mg "int" = none) (ha : VE T X a fa) (hs : starEach [a] X.env = (false, eval a X.env) :: starEach [] X.env := by rfl) : VE T X (.Call (.Name "int" p) [a] [] pos) (w1 gInt fa) :=
  ve_callT1 (call_int1.or call_int_str) snd_gInt hg hm PyProof.Rows.boot_int ha (hs := hs)
@[simp] def gI1 (k : Int → Int) : G1 := fun a vs Q => match a with
  | .sh (.int i) => Q (.sh (.int (k i))) vs
  | _ => False
theorem snd_gI1 {k : Int → Int} : SndC1 T (fun xs H Q => ∃ i, xs = [.int i] ∧ Q (.int (k i)) H) (gI1 k) := fun W0 H0 W H O vs σ tm x a Q Q' hf R kk => by
  unfold gI1 at hf
  split at hf
  · rename_i i
    have e : x = .int i := R.top
    subst e
    exact ⟨i, rfl, kk W H O vs _ _ (Le.refl W) hf (R.pop.push (by simp [Rep]))⟩
  · exact hf.elim
theorem ve_abs {p : Pos} (hg : Gl X "abs") (hm : X.mg "abs" = none) (ha : VE T X a fa) (hs : starEach [a] X.env = (false, eval a X.env) :: starEach [] X.env := by rfl) : VE T X (.Call (.Name "abs" p) [a] [] pos) (w1 (gI1 fun i => if i < 0 then -i else i) fa) :=
  ve_callB1 call_abs snd_gI1 hg hm (by decide +kernel) ha (hs := hs)
theorem snd_gC2 {k : Int → Int → Int} : SndC2 T (fun xs H Q => ∃ i j, xs = [.int i, .int j] ∧ Q (.int (k i j)) H) (gI0 fun i j => .int (k i j)) := fun W0 H0 W H O vs σ tm x y a b Q Q' hf R kk => by
  unfold gI0 at hf
  split at hf
  · rename_i i j
    have ex : x = .int i := R.pop.top
    have ey : y = .int j := R.top
    subst ex ey
    exact ⟨i, j, rfl, kk W H O vs _ _ (Le.refl W) hf (R.pop.pop.push (by simp [Rep]))⟩
  · exact hf.elim
theorem ve_max2 {p : Pos} (hc : X.calm = true) (hg : Gl X "max") (hm : X.mg "max" = none) (ha : VE T X a fa) (hb : VE T X b fb) (hs : starEach [a, b] X.env = (false, eval a X.env) :: starEach [b] X.env := by rfl) (hs2 : starEach [b] X.env = (false, eval b X.env) :: starEach [] X.env := by rfl) :
    VE T X (.Call (.Name "max" p) [a, b] [] pos) (w2 (gI0 fun i j => .int (if j > i then j else i)) fa fb) :=
  ve_callB2 (call_max2 hc) snd_gC2 hg hm (by decide +kernel) ha hb (hs := hs) (hs2 := hs2)
theorem ve_min2 {p : Pos} (hc : X.calm = true) (hg : Gl X "min") (hm : X.mg "min" = none) (ha : VE T X a fa) (hb : VE T X b fb) (hs : starEach [a, b] X.env = (false, eval a X.env) :: starEach [b] X.env := by rfl) (hs2 : starEach [b] X.env = (false, eval b X.env) :: starEach [] X.env := by rfl) :
    VE T X (.Call (.Name "min" p) [a, b] [] pos) (w2 (gI0 fun i j => .int (if j < i then j else i)) fa fb) :=
  ve_callB2 (call_min2 hc) snd_gC2 hg hm (by decide +kernel) ha hb (hs := hs) (hs2 := hs2)
/-! list(x), tuple(x) of a list or a tuple -/
@[simp] def Lo.seq? : Lo → Option (List D)
  | .sh (.tup xs) => some xs
  | a => a.lst?
theorem Rel.seq {k : Ow} {v : V} {lo : Lo} {xs : List D} (R : Rel T W0 H0 W H O vs σ tm) (h : LoOk W H H0 O k v lo) (e : lo.seq? = some xs) {K : PySem.W.Frag} : ∃ p ws, v = .ref p ∧ (SqL K H p ws ∨ SqT K H p ws) ∧ RepL W xs ws := by
  unfold Lo.seq? at e
  split at e
  · cases e
    obtain ⟨p, ws, ep, hs, rp⟩ := h
    exact ⟨p, ws, ep, .inr (SqT.of (R.Sget hs)), rp⟩
  · obtain ⟨p, ws, ep, hp, rp⟩ := R.lst h e
    exact ⟨p, ws, ep, .inl (SqL.of hp), rp⟩
@[simp] def gList : G1 := fun a vs Q => match a.seq? with
  | some xs => Q (.ow xs) vs
  | none => False
theorem snd_gList {K : PySem.W.Frag} : SndC1 T (fun xs H Q => ∃ p ys, xs = [.ref p] ∧ (SqL K H p ys ∨ SqT K H p ys) ∧ ∀ l, H l = none → Q (.ref l) (upd H l (.lst ys))) gList := fun W0 H0 W H O vs σ tm x a Q Q' hf R kk => by
  unfold gList at hf
  split at hf
  · rename_i xs e
    obtain ⟨p, ws, ep, hp, rp⟩ := R.seq (K := K) R.top e
    have ep' : x = .ref p := ep
    subst ep'
    exact ⟨p, ws, rfl, hp, fun l hl => kk W _ _ vs _ _ (Le.refl W) hf (R.pop.fresh hl rp)⟩
  · exact hf.elim
theorem ve_listOf {p : Pos} (hg : Gl X "list") (hm : X.mg "list" = none) (ha : VE T X a fa) (hs : starEach [a] X.env = (false, eval a X.env) :: starEach [] X.env := by rfl) : VE T X (.Call (.Name "list" p) [a] [] pos) (w1 gList fa) :=
  ve_callT1 call_list_of snd_gList hg hm (by decide +kernel) ha (hs := hs)
@[simp] def gTuple : G1 := fun a vs Q => match a with
  | .sh (.tup xs) => Q (.sh (.tup xs)) vs
  | a => match a.lst? with
    | some xs => Q (.sh (.tup xs)) vs
    | none => False
theorem snd_gTuple {K : PySem.W.Frag} : SndC1 T (fun xs H Q => ∃ p ys, xs = [.ref p] ∧ ((SqL K H p ys ∧ ∀ l, H l = none → Q (.ref l) (upd H l (.tup ys))) ∨ (SqT K H p ys ∧ Q (.ref p) H))) gTuple := fun W0 H0 W H O vs σ tm x a Q Q' hf R kk => by
  unfold gTuple at hf
  split at hf
  · rename_i xs
    obtain ⟨p, ws, ep, hs, rp⟩ := R.top
    have ep' : x = .ref p := ep
    subst ep'
    exact ⟨p, ws, rfl, .inr ⟨SqT.of (R.Sget hs), kk W H O vs _ _ (Le.refl W) hf (R.pop.push ⟨p, ws, rfl, hs, rp⟩)⟩⟩
  · split at hf
    · rename_i xs e
      obtain ⟨p, ws, ep, hp, rp⟩ := R.lst R.top e
      have ep' : x = .ref p := ep
      subst ep'
      refine ⟨p, ws, rfl, .inl ⟨SqL.of hp, fun l hl => ?_⟩⟩
      obtain ⟨W2, l2, rt, R2⟩ := R.pop.tup hl rp
      exact kk W2 _ _ vs _ _ l2 hf (R2.push rt)
    · exact hf.elim
theorem ve_tupleOf {p : Pos} (hg : Gl X "tuple") (hm : X.mg "tuple" = none) (ha : VE T X a fa) (hs : starEach [a] X.env = (false, eval a X.env) :: starEach [] X.env := by rfl) : VE T X (.Call (.Name "tuple" p) [a] [] pos) (w1 gTuple fa) :=
  ve_callT1 call_tuple_of snd_gTuple hg hm (by decide +kernel) ha (hs := hs)
/-- the whole numbers of a list of them -/
def D.int? : D → Option Int
  | .int i => some i
  | _ => none
def ints? : List D → Option (List Int)
  | [] => some []
  | d :: ds => match d.int?, ints? ds with
    | some i, some is => some (i :: is)
    | _, _ => none
theorem ints?_map : ∀ ns : List Int, ints? (ns.map D.int) = some ns
  | [] => rfl
  | n :: ns => by simp [ints?, D.int?, ints?_map ns]
theorem ints?_eq : ∀ {ds : List D} {ns : List Int}, ints? ds = some ns → ds = ns.map D.int
  | [], ns, e => by cases e; rfl
  | d :: ds, ns, e => by
    unfold ints? at e
    split at e
    · rename_i i is e1 e2
      cases e
      have := ints?_eq e2
      subst this
      cases d with
      | int j => simp [D.int?] at e1; subst e1; rfl
      | _ => simp [D.int?] at e1
    · cases e
@[simp] def gSum : G1 := fun a vs Q => match a.lst? with
  | some xs => match ints? xs with
    | some ns => Q (.sh (.int ns.sum)) vs
    | none => False
  | none => False
theorem snd_gSum {K : PySem.W.Frag} : SndC1 T (rSum K) gSum := fun W0 H0 W H O vs σ tm x a Q Q' hf R kk => by
  unfold gSum at hf
  split at hf
  · rename_i xs e
    split at hf
    · rename_i ns en
      obtain ⟨p, ws, ep, hp, rp⟩ := R.lst R.top e
      have ep' : x = .ref p := ep
      subst ep'
      have ex := ints?_eq en
      subst ex
      have ew := rp.ints
      subst ew
      exact ⟨p, ns, rfl, SqL.of hp, kk W H O vs _ _ (Le.refl W) hf (R.pop.push (by simp [Rep]))⟩
    · exact hf.elim
  · exact hf.elim
theorem ve_sum {p : Pos} (hc : X.calm = true) (hg : Gl X "sum") (hm : X.mg "sum" = none) (ha : VE T X a fa) (hs : starEach [a] X.env = (false, eval a X.env) :: starEach [] X.env := by rfl) : VE T X (.Call (.Name "sum" p) [a] [] pos) (w1 gSum fa) :=
  ve_callB1 (cr_sum hc) snd_gSum hg hm (by decide +kernel) ha (hs := hs)
def D.bl? : D → Option Bool
  | .bl i => some i
  | _ => none
def bls? : List D → Option (List Bool)
  | [] => some []
  | d :: ds => match d.bl?, bls? ds with
    | some i, some is => some (i :: is)
    | _, _ => none
theorem bls?_map : ∀ ns : List Bool, bls? (ns.map D.bl) = some ns
  | [] => rfl
  | n :: ns => by simp [bls?, D.bl?, bls?_map ns]
theorem bls?_rep : ∀ {ds : List D} {bs : List Bool} {ws : List V}, bls? ds = some bs → RepL W ds ws → ws = bs.map V.bl
  | [], bs, ws, e, r => by cases e; unfold RepL at r; exact r
  | d :: ds, bs, ws, e, r => by
    unfold bls? at e
    split at e
    · rename_i i is e1 e2
      cases e
      unfold RepL at r
      obtain ⟨w, r', e3, h, r⟩ := r
      have := bls?_rep e2 r
      subst this
      cases d with
      | bl j => simp [D.bl?] at e1; subst e1; unfold Rep at h; subst h; exact e3
      | _ => simp [D.bl?] at e1
    · cases e
@[simp] def gAll : G1 := fun a vs Q => match a.lst? with
  | some xs => match bls? xs with
    | some bs => Q (.sh (.bl (bs.all id))) vs
    | none => False
  | none => False
theorem snd_gAll {K : PySem.W.Frag} : SndC1 T (rAll K) gAll := fun W0 H0 W H O vs σ tm x a Q Q' hf R kk => by
  unfold gAll at hf
  split at hf
  · rename_i xs e
    split at hf
    · rename_i bs en
      obtain ⟨p, ws, ep, hp, rp⟩ := R.lst R.top e
      have ep' : x = .ref p := ep
      subst ep'
      have ew := bls?_rep en rp
      subst ew
      exact ⟨p, bs, rfl, SqL.of hp, kk W H O vs _ _ (Le.refl W) hf (R.pop.push (by simp [Rep]))⟩
    · exact hf.elim
  · exact hf.elim
theorem ve_all {p : Pos} (hc : X.calm = true) (hg : Gl X "all") (hm : X.mg "all" = none) (ha : VE T X a fa) (hs : starEach [a] X.env = (false, eval a X.env) :: starEach [] X.env := by rfl) : VE T X (.Call (.Name "all" p) [a] [] pos) (w1 gAll fa) :=
  ve_callB1 (cr_all hc) snd_gAll hg hm (by decide +kernel) ha (hs := hs)
end
end Vx

set_option Elab.async false
set_option maxRecDepth 100000
set_option linter.all false
/-! Defs by value: their promises, calls. -/
namespace Vx
open PySem L2

/-- what a def does, by value: arguments, how many draws, the end -/
abbrev FS := List Lo → Nat → (Lo → Nat → Prop) → Prop
def ArgOk (W : Wd) (v : V) : Lo → Prop
  | .sh d => Rep W d v
  | .pool => v = .ref W.P
  | _ => False
def ArgsOk (W : Wd) : List V → List Lo → Prop
  | [], [] => True
  | v :: vs, lo :: los => ArgOk W v lo ∧ ArgsOk W vs los
  | _, _ => False
def RetOk (W' : Wd) (H' Hc : Hp) (v : V) : Lo → Prop
  | .sh d => Rep W' d v
  | .ow xs => ∃ p ws, v = .ref p ∧ ¬ W'.D p ∧ Hc p = none ∧ H' p = some (.lst ws) ∧ RepL W' xs ws
  | .pool => v = .ref W'.P
  | .bo _ => False
  | .dct _ => False
  | .fx _ _ => False
  | .oo _ _ _ => False
/-- a call's end: from the world W and the heap H to W' and H' -/
structure After (T : Th) (W : Wd) (H : Hp) (W' : Wd) (H' : Hp) (n' : Nat) : Prop where
  le : Le W W'
  ok : WOk T W' H' n'
  frame : ∀ a o, ¬ W.D a → H a = some o → H' a = some o
  grow : (∀ a, W'.D a → W.D a ∨ H a = none) ∧ T.Adv W H H'
theorem After.refl {T : Th} {W : Wd} {H : Hp} {n : Nat} (h : WOk T W H n) : After T W H W H n := ⟨Le.refl W, h, fun _ _ _ e => e, fun _ e => .inl e, h.adv fun _ _ _ => rfl⟩
theorem After.trans {T : Th} {W W1 W2 : Wd} {H H1 H2 : Hp} {n1 n2 : Nat} (a : After T W H W1 H1 n1) (b : After T W1 H1 W2 H2 n2) : After T W H W2 H2 n2 := by
  refine ⟨a.le.trans b.le, b.ok, fun x o h1 h2 => ?_, fun x h => ?_, T.trans W W1 H H1 H2 a.le a.grow.2 b.grow.2⟩
  · refine b.frame x o (fun q => ?_) (a.frame x o h1 h2)
    rcases a.grow.1 x q with z | z
    · exact h1 z
    · rw [h2] at z; cases z
  · rcases b.grow.1 x h with z | z
    · exact a.grow.1 x z
    · by_cases q : W.D x
      · exact .inl q
      · refine .inr ?_
        cases e : H x with
        | none => rfl
        | some o =>
          have := a.frame x o q e
          rw [z] at this; cases this
/-- a def's promise, by value -/
def spV (T : Th) (m : Nat) (F : FS) : Sp := fun vs H Q _ => ∃ (W : Wd) (n : Nat) (los : List Lo) (P : Lo → Nat → Prop), vs.length = m ∧ WOk T W H n ∧ ArgsOk W vs los ∧ F los n P ∧
  ∀ lo n' W' H' v, P lo n' → After T W H W' H' n' → RetOk W' H' H v lo → Q v H'
/-- a def of the module that keeps such a promise -/
structure FnV (T : Th) (P : Program) (w : World) (K : PySem.W.Frag) (mg : Str → Option Value) (base : Heap) (CX : CXT) (k : Nat) (x : Str) (m : Nat) (F : FS) : Prop where
  ex : ∃ (f : Addr) (fd : FuncData) (ps : List Str), FnOk P w K mg base CX k f fd ps (spV T m F) ∧ mg x = some (.ref f) ∧ PySem.W.keepIn K (.ref f) = true ∧ Binds K fd ps []
theorem FnV.imp {T : Th} {P : Program} {w : World} {K : PySem.W.Frag} {mg : Str → Option Value} {base : Heap} {CX : CXT} {k k' : Nat} {x : Str} {m : Nat} {F G : FS} (h : FnV T P w K mg base CX k x m F) (i : ∀ los n Q, G los n Q → F los n Q) (hk : k ≤ k' := by decide) : FnV T P w K mg base CX k' x m G := by
  obtain ⟨f, fd, ps, h1, h2, h3, h4⟩ := h.ex
  exact ⟨f, fd, ps, (h1.mono hk).imp fun vs H Q E ⟨W, n, los, P, a, b, c, d, e⟩ => ⟨W, n, los, P, a, b, c, i _ _ _ d, e⟩, h2, h3, h4⟩

/-! ### arguments -/
abbrev WF := VS → (List Lo → VS → Prop) → Prop
@[simp] def Lo.arg? : Lo → Option Lo
  | .sh d => some (.sh d)
  | .ow xs => some (.sh (.lst xs))
  | .pool => some .pool
  | .bo _ => none
  | .dct _ => none
  | .fx _ _ => none
  | .oo _ _ _ => none
def SndF (T : Th) (t : TA) (f : WF) : Prop :=
  ∀ (W0 : Wd) (H0 : Hp) (W : Wd) (H : Hp) (O : Addr → Option Ow) (vs : VS) (σ : St) (tm : List (V × Lo)) (Q : List Lo → VS → Prop) (Q' : List V → Hp → Prop),
    f vs Q → Rel T W0 H0 W H O vs σ tm → (∀ W' H' O' vs' ws los, Le W W' → Q los vs' → ArgsOk W' ws los → Rel T W0 H0 W' H' O' vs' σ tm → Q' ws H') → t σ H Q'
def tF (T : Th) (f : WF) : TA := fun σ H Q' => ∃ (W0 : Wd) (H0 : Hp) (W : Wd) (O : Addr → Option Ow) (vs : VS) (tm : List (V × Lo)) (Q : List Lo → VS → Prop),
  f vs Q ∧ Rel T W0 H0 W H O vs σ tm ∧ (∀ W' H' O' vs' ws los, Le W W' → Q los vs' → ArgsOk W' ws los → Rel T W0 H0 W' H' O' vs' σ tm → Q' ws H')
structure VF (T : Th) (X : Cx) (es : List Expr) (f : WF) : Prop where
  pe : PA X es (tF T f)
section
variable {T : Th} {X : Cx} {W0 W W' : Wd} {H0 H H' : Hp} {O O' : Addr → Option Ow} {vs : VS} {σ : St} {tm : List (V × Lo)}
variable {a b c e : Expr} {fa fb fc : WE} {pos : Pos} {es : List Expr}
theorem VF.of {es : List Expr} {t : TA} {f : WF} (h : PA X es t) (s : SndF T t f) : VF T X es f :=
  ⟨⟨fun pos pins st σ H Q' I ⟨W0, H0, W, O, vs, tm, Q, hf, R, k⟩ => h.run pos pins st σ H Q' I (s W0 H0 W H O vs σ tm Q Q' hf R k)⟩⟩
theorem VF.sn {es : List Expr} {f : WF} (_ : VF T X es f) : SndF T (tF T f) f := fun W0 H0 W H O vs σ tm Q Q' hf R k => ⟨W0, H0, W, O, vs, tm, Q, hf, R, k⟩
theorem ArgOk.mono (h : Le W W') {v : V} : ∀ {lo : Lo}, ArgOk W v lo → ArgOk W' v lo
  | .sh d, q => Rep.mono h q
  | .pool, q => by
    show v = .ref W'.P
    rw [h.p]; exact q
  | .ow _, q => q.elim
  | .bo _, q => q.elim
  | .dct _, q => q.elim
  | .fx _ _, q => q.elim
  | .oo _ _ _, q => q.elim
theorem ArgsOk.mono (h : Le W W') : ∀ {vs : List V} {los : List Lo}, ArgsOk W vs los → ArgsOk W' vs los
  | [], [], _ => trivial
  | v :: vs, lo :: los, ⟨a, b⟩ => ⟨a.mono h, ArgsOk.mono h b⟩
  | [], _ :: _, q => q.elim
  | _ :: _, [], q => q.elim
theorem ArgsOk.length : ∀ {vs : List V} {los : List Lo}, ArgsOk W vs los → vs.length = los.length
  | [], [], _ => rfl
  | v :: vs, lo :: los, ⟨a, b⟩ => by rw [List.length_cons, List.length_cons, ArgsOk.length b]
  | [], _ :: _, q => q.elim
  | _ :: _, [], q => q.elim
theorem Rel.arg {v : V} {lo lo' : Lo} (R : Rel T W0 H0 W H O vs σ ((v, lo) :: tm)) (e : lo.arg? = some lo') : ∃ W', Le W W' ∧ ArgOk W' v lo' ∧ Rel T W0 H0 W' H O vs σ tm := by
  cases lo with
  | sh d => cases e; exact ⟨W, Le.refl W, R.top, R.pop⟩
  | ow xs =>
    cases e
    obtain ⟨W', le, R'⟩ := R.frzTop
    exact ⟨W', le, R'.top, R'.pop⟩
  | bo xs => cases e
  | pool => cases e; exact ⟨W, Le.refl W, R.top, R.pop⟩
  | dct kvs => cases e
  | fx a d => cases e
  | oo p qs xss => cases e
@[simp] def wFNil : WF := fun vs Q => Q [] vs
@[simp] def wFCons (f : WE) (g : WF) : WF := fun vs Q => f vs fun lo vs1 => match lo.arg? with
  | some l => g vs1 fun los vs2 => Q (l :: los) vs2
  | none => False
theorem vf_nil : VF T X [] wFNil := .of pa_nil fun W0 H0 W H O vs σ tm Q Q' hf R k => k W H O vs [] [] (Le.refl W) hf trivial R
theorem vf_cons {f : WE} {g : WF} (he : VE T X e f) (hr : VF T X es g) (hs : starEach (e :: es) X.env = (false, eval e X.env) :: starEach es X.env := by rfl) : VF T X (e :: es) (wFCons f g) :=
  .of (pa_cons he.pe hr.pe hs) fun W0 H0 W H O vs σ tm Q Q' hf R k => he.sn W0 H0 W H O vs σ tm _ _ hf R fun W1 H1 O1 vs1 v lo l1 q1 R1 => by
    split at q1
    · rename_i l e1
      obtain ⟨W2, l2, rd, R2⟩ := R1.arg e1
      exact hr.sn W0 H0 W2 H1 O1 vs1 σ tm _ _ q1 R2 fun W3 H3 O3 vs3 ws los l3 q3 rs R3 => k W3 H3 O3 vs3 (v :: ws) (l :: los) ((l1.trans l2).trans l3) q3 ⟨rd.mono l3, rs⟩ R3
    · exact q1.elim
/-! ### a call -/
def wCall (F : FS) (g : WF) : WE := fun vs Q => g vs fun los vs1 => F los vs1.n fun lo n' => Q lo { vs1 with n := n' }
/-- what a call gives is a waiting value -/
theorem Rel.ret {n' : Nat} {v : V} {lo : Lo} (R : Rel T W0 H0 W H O vs σ tm) (A : After T W H W' H' n') (r : RetOk W' H' H v lo) : ∃ O', Rel T W0 H0 W' H' O' { vs with n := n' } σ ((v, lo) :: tm) := by
  have R1 := R.over A.le A.ok A.frame A.grow.1 A.grow.2
  cases lo with
  | sh d => exact ⟨O, R1.push r⟩
  | bo xs => exact r.elim
  | dct kvs => exact r.elim
  | fx a d => exact r.elim
  | oo p qs xss => exact r.elim
  | pool =>
    have r' : v = .ref W'.P := r
    subst r'
    exact ⟨O, R1.pushP⟩
  | ow xs =>
    obtain ⟨p, ws, e, hd, hn, hp, rp⟩ := r
    subst e
    have h0 : H0 p = none := R.no0 hn
    -- no one else owns p: H p = none ahead of the call
    have K : Keep W W' H H' H0 O (fun a => if a = p then some (.inr tm.length) else O a) (fun _ => True) := by
      have ne : ∀ q o, H q = some o → q ≠ p := fun q o h => ne_of_none h hn
      have nD : ∀ q o, ¬ W.D q → H q = some o → ¬ W'.D q := fun q o h1 h2 h3 => by
        rcases A.grow.1 q h3 with z | z
        · exact h1 z
        · rw [h2] at z; cases z
      refine ⟨A.le, fun q k us _ ho hd' h0' hq => ⟨?_, nD q _ hd' hq, A.frame _ _ hd' hq⟩, fun q i us ho hd' h0' hq => ⟨A.frame _ _ hd' hq, .inl ⟨?_, nD q _ hd' hq⟩⟩, fun q us hs _ => (A.ok.s _ _ (A.le.s _ _ hs)).1⟩
      · show (if q = p then _ else O q) = _
        rw [if_neg (ne q _ hq)]; exact ho
      · show (if q = p then _ else O q) = _
        rw [if_neg (ne q _ hq)]; exact ho
    exact ⟨_, R1.ok, R1.le, R1.frame, R1.grow, envKeep K (fun _ => trivial) R.env, ⟨⟨p, ws, rfl, if_pos rfl, hd, h0, hp, rp⟩, R.tms.keep K fun _ _ => trivial⟩, R.nbe, R.len⟩
theorem sn_call {m : Nat} {F : FS} {g : WF} {t : TA} {E : XK} (hg : SndF T t g) : SndE T (tCall (spV T m F) [] E t) (fun vs Q => g vs fun los vs1 => los.length = m ∧ F los vs1.n fun lo n' => Q lo { vs1 with n := n' }) := fun W0 H0 W H O vs σ tm Q Q' hf R k =>
  hg W0 H0 W H O vs σ tm _ _ hf R fun W1 H1 O1 vs1 ws los l1 q1 as R1 => by
    refine ⟨W1, vs1.n, los, _, ?_, R1.ok, ?_, q1.2, fun lo n' W' H' v hp A r => ?_⟩
    · rw [List.append_nil, as.length]; exact q1.1
    · rw [List.append_nil]; exact as
    · obtain ⟨O', R'⟩ := R1.ret A r
      exact k W' H' O' _ v lo (l1.trans A.le) hp R'
@[simp] def wCallN (m : Nat) (F : FS) (g : WF) : WE := fun vs Q => g vs fun los vs1 => los.length = m ∧ F los vs1.n fun lo n' => Q lo { vs1 with n := n' }
theorem ve_call {CX : CXT} {k m : Nat} {x : Str} {F : FS} {g : WF} {p : Pos} (h : FnV T X.prog X.w X.K X.mg X.base CX k x m F) (hr : Room k X.A) (hx : Passes CX X E0) (hg : Gl X x) (ha : VF T X (e :: es) g)
    (hdb : (x == ("__debug__" : Str)) = false := by decide) (he : starEach (e :: es) X.env = (false, eval e X.env) :: starEach es X.env := by rfl) (hpl : (backTo pos (starEach es X.env)).any (·.1) = false := by rfl) :
    VE T X (.Call (.Name x p) (e :: es) [] pos) (wCallN m F g) := by
  obtain ⟨f, fd, ps, h1, h2, h3, h4⟩ := h.ex
  exact .of (pe_call h1 hr hg h2 h3 h4 .nil hx ha.pe hdb he hpl) (sn_call ha.sn)
end
end Vx

set_option Elab.async false
set_option maxRecDepth 100000
set_option linter.all false
/-! Statements by value. -/
namespace Vx
open PySem L2

structure EndsV where
  nx : VS → Prop
  rt : Lo → Nat → Prop
  bk : VS → Prop := fun _ => False
  ct : VS → Prop := fun _ => False
abbrev WS := VS → EndsV → Prop
/-- a return: the frame's names are gone -/
structure RetS (T : Th) (W0 : Wd) (H0 : Hp) (W' : Wd) (H' : Hp) (v : V) (lo : Lo) (n' : Nat) : Prop where
  af : After T W0 H0 W' H' n'
  rt : RetOk W' H' H0 v lo
structure Corr (T : Th) (W0 : Wd) (H0 : Hp) (W : Wd) (tm : List (V × Lo)) (D : EndsV) (D' : Ends) : Prop where
  nx : ∀ W' H' O' vs' σ', Le W W' → D.nx vs' → Rel T W0 H0 W' H' O' vs' σ' tm → D'.nx σ' H'
  rt : ∀ W' H' v lo n', D.rt lo n' → RetS T W0 H0 W' H' v lo n' → D'.rt v H'
  bk : ∀ W' H' O' vs' σ', Le W W' → D.bk vs' → Rel T W0 H0 W' H' O' vs' σ' tm → D'.bk σ' H'
  ct : ∀ W' H' O' vs' σ', Le W W' → D.ct vs' → Rel T W0 H0 W' H' O' vs' σ' tm → D'.ct σ' H'
def SndS (T : Th) (t : TS) (f : WS) : Prop :=
  ∀ (W0 : Wd) (H0 : Hp) (W : Wd) (H : Hp) (O : Addr → Option Ow) (vs : VS) (σ : St) (tm : List (V × Lo)) (D : EndsV) (D' : Ends),
    NoBo tm → f vs D → Rel T W0 H0 W H O vs σ tm → Corr T W0 H0 W tm D D' → t D' σ H
def tS (T : Th) (f : WS) : TS := fun D' σ H => ∃ (W0 : Wd) (H0 : Hp) (W : Wd) (O : Addr → Option Ow) (vs : VS) (tm : List (V × Lo)) (D : EndsV),
  NoBo tm ∧ f vs D ∧ Rel T W0 H0 W H O vs σ tm ∧ Corr T W0 H0 W tm D D'
structure VP (T : Th) (X : Cx) (st : Stmt) (f : WS) : Prop where
  ps : PS X st (tS T f)
structure VPs (T : Th) (X : Cx) (sts : List Stmt) (f : WS) : Prop where
  ps : PSs X sts (tS T f)
section
variable {T : Th} {X : Cx} {W0 W W' W1 : Wd} {H0 H H' : Hp} {O O' : Addr → Option Ow} {vs : VS} {σ : St} {tm : List (V × Lo)}
variable {a b c e : Expr} {fa fb fc : WE} {pos : Pos} {es : List Expr} {st : Stmt} {sts : List Stmt} {f g : WS}
theorem Corr.mono {D : EndsV} {D' : Ends} (h : Le W W1) (C : Corr T W0 H0 W tm D D') : Corr T W0 H0 W1 tm D D' :=
  ⟨fun W' H' O' vs' σ' l => C.nx W' H' O' vs' σ' (h.trans l), C.rt, fun W' H' O' vs' σ' l => C.bk W' H' O' vs' σ' (h.trans l), fun W' H' O' vs' σ' l => C.ct W' H' O' vs' σ' (h.trans l)⟩
theorem VP.of {t : TS} (h : PS X st t) (s : SndS T t f) : VP T X st f :=
  ⟨⟨fun pins s0 σ H D' I ⟨W0, H0, W, O, vs, tm, D, nb, hf, R, C⟩ => h.run pins s0 σ H D' I (s W0 H0 W H O vs σ tm D D' nb hf R C)⟩⟩
theorem VPs.of {t : TS} (h : PSs X sts t) (s : SndS T t f) : VPs T X sts f :=
  ⟨⟨fun pins s0 σ H D' I ⟨W0, H0, W, O, vs, tm, D, nb, hf, R, C⟩ => h.run pins s0 σ H D' I (s W0 H0 W H O vs σ tm D D' nb hf R C)⟩⟩
theorem VP.sn (_ : VP T X st f) : SndS T (tS T f) f := fun W0 H0 W H O vs σ tm D D' nb hf R C => ⟨W0, H0, W, O, vs, tm, D, nb, hf, R, C⟩
theorem VPs.sn (_ : VPs T X sts f) : SndS T (tS T f) f := fun W0 H0 W H O vs σ tm D D' nb hf R C => ⟨W0, H0, W, O, vs, tm, D, nb, hf, R, C⟩
theorem VPs.imp (h : VPs T X sts f) (i : ∀ vs D, g vs D → f vs D) : VPs T X sts g :=
  .of h.ps fun W0 H0 W H O vs σ tm D D' nb hf R C => h.sn W0 H0 W H O vs σ tm D D' nb (i vs D hf) R C

/-! ### blocks -/
@[simp] def wSkip : WS := fun vs D => D.nx vs
def wSeq (f g : WS) : WS := fun vs D => f vs { D with nx := fun vs1 => g vs1 D }
theorem wSeq_ap (f g : WS) (vs : VS) (D : EndsV) : wSeq f g vs D = f vs { D with nx := fun vs1 => g vs1 D } := rfl
theorem vps_nil : VPs T X [] wSkip := .of pss_nil fun W0 H0 W H O vs σ tm D D' nb hf R C => C.nx W H O vs σ (Le.refl W) hf R
theorem vps_cons (h1 : VP T X st f) (h2 : VPs T X sts g) : VPs T X (st :: sts) (wSeq f g) :=
  .of (pss_cons h1.ps h2.ps) fun W0 H0 W H O vs σ tm D D' nb hf R C => h1.sn W0 H0 W H O vs σ tm _ _ nb hf R
    ⟨fun W1 H1 O1 vs1 σ1 l1 q1 R1 => h2.sn W0 H0 W1 H1 O1 vs1 σ1 tm _ _ nb q1 R1 (C.mono l1), C.rt, C.bk, C.ct⟩
theorem vps_one (h1 : VP T X st f) : VPs T X [st] f := .of (pss_one h1.ps) h1.sn
theorem vp_pass : VP T X (.Pass pos) wSkip := .of ps_pass fun W0 H0 W H O vs σ tm D D' nb hf R C => C.nx W H O vs σ (Le.refl W) hf R
@[simp] def wBrk : WS := fun vs D => D.bk vs
@[simp] def wCnt : WS := fun vs D => D.ct vs
theorem vp_break : VP T X (.Break pos) wBrk := .of ps_break fun W0 H0 W H O vs σ tm D D' nb hf R C => C.bk W H O vs σ (Le.refl W) hf R
theorem vp_continue : VP T X (.Continue pos) wCnt := .of ps_continue fun W0 H0 W H O vs σ tm D D' nb hf R C => C.ct W H O vs σ (Le.refl W) hf R
/-- code that is never reached -/
@[simp] def wNo : WS := fun _ _ => False
theorem vp_never : VP T X st wNo := .of ps_never fun W0 H0 W H O vs σ tm D D' nb hf R C => hf
theorem vps_never : VPs T X sts wNo := .of pss_never fun W0 H0 W H O vs σ tm D D' nb hf R C => hf
@[simp] def wDrop (f : WE) : WS := fun vs D => f vs fun _ vs1 => D.nx vs1
theorem vp_expr (h : VE T X e fa) (hs : swapsWith e none pos.line X.env = pure false := by rfl) : VP T X (.Expr e pos) (wDrop fa) :=
  .of (ps_expr h.pe hs) fun W0 H0 W H O vs σ tm D D' nb hf R C => h.sn W0 H0 W H O vs σ tm _ _ hf R fun W1 H1 O1 vs1 v lo l1 q1 R1 => C.nx W1 H1 O1 vs1 σ l1 q1 R1.pop
@[simp] def wRet (f : WE) : WS := fun vs D => f vs fun lo vs1 => match lo with
  | .bo xs => D.rt (.ow xs) vs1.n ∧ False
  | .dct _ => False
  | .fx _ _ => False
  | .oo _ _ _ => False
  | lo => D.rt lo vs1.n
theorem Rel.after (R : Rel T W0 H0 W H O vs σ tm) : After T W0 H0 W H vs.n := ⟨R.le, R.ok, R.frame, R.grow⟩
theorem vp_ret (h : VE T X e fa) : VP T X (.Return (some e) pos) (wRet fa) :=
  .of (ps_ret h.pe) fun W0 H0 W H O vs σ tm D D' nb hf R C => h.sn W0 H0 W H O vs σ tm _ _ hf R fun W1 H1 O1 vs1 v lo l1 q1 R1 => by
    cases lo with
    | sh d => exact C.rt W1 H1 v _ vs1.n q1 ⟨R1.after, R1.top⟩
    | ow xs =>
      obtain ⟨p, ws, e, ho, hd, h0, hp, r⟩ := R1.top
      exact C.rt W1 H1 v _ vs1.n q1 ⟨R1.after, p, ws, e, hd, h0, hp, r⟩
    | bo xs => exact q1.2.elim
    | dct kvs => exact q1.elim
    | fx a d => exact q1.elim
    | oo p qs xss => exact q1.elim
    | pool => exact C.rt W1 H1 v _ vs1.n q1 ⟨R1.after, R1.top⟩
/-- return x: the name's own list goes to the caller -/
@[simp] def wRetN (i : Nat) : WS := fun vs D => match vs.env[i]? with
  | some (some (.dct _)) => False
  | some (some (.fx _ _)) => False
  | some (some (.oo _ _ _)) => False
  | some (some lo) => D.rt lo vs.n
  | _ => False
theorem vp_retN' (i : Nat) {x : Str} {p : Pos} (hN : X.N[i]? = some x := by rfl) (hv : Vis X.env.scope x := by first | exact Or.inl rfl | exact Or.inr (Or.inl rfl) | exact Or.inr (Or.inr rfl)) (hd : (x == ("__debug__" : Str)) = false := by decide)
    (hcd : (x == ("__classdict__" : Str)) = false := by decide) : VP T X (.Return (some (.Name x p)) pos) (wRetN i) :=
  .of (ps_ret (pe_var hN hv hd hcd)) fun W0 H0 W H O vs σ tm D D' nb hf R C => by
    unfold wRetN at hf
    split at hf
    · exact hf.elim
    · exact hf.elim
    · exact hf.elim
    · rename_i lo nd nf no e
      obtain ⟨v, hv, q⟩ := R.env i _ e
      refine ⟨v, hv, C.rt W H v lo vs.n hf ⟨R.after, ?_⟩⟩
      cases lo with
      | sh d => exact q
      | ow xs =>
        obtain ⟨p, ws, e, ho, hd, h0, hp, r⟩ := q
        exact ⟨p, ws, e, hd, h0, hp, r⟩
      | bo xs => exact absurd e (R.nbe i xs)
      | pool => exact q
      | dct kvs => exact absurd rfl (nd kvs)
      | fx a d => exact absurd rfl (nf a d)
      | oo p qs xss => exact absurd rfl (no p qs xss)
    · exact hf.elim
@[simp] def wRetNone : WS := fun vs D => D.rt (.sh .non) vs.n
theorem vp_retNone : VP T X (.Return none pos) wRetNone :=
  .of ps_retN fun W0 H0 W H O vs σ tm D D' nb hf R C => C.rt W H .non _ vs.n hf ⟨R.after, by show Rep W .non .non; simp [Rep]⟩
@[simp] def wIf (c : WT) (f g : WS) : WS := fun vs D => c vs fun b vs1 => if b = true then f vs1 D else g vs1 D
theorem vp_if {tc : WT} {as bs : List Stmt} (hc : VT T X c tc) (ha : VPs T X as f) (hb : VPs T X bs g) : VP T X (.If c as bs pos) (wIf tc f g) :=
  .of (ps_if hc.pe ha.ps hb.ps) fun W0 H0 W H O vs σ tm D D' nb hf R C => hc.sn W0 H0 W H O vs σ tm _ _ hf R fun W1 H1 O1 vs1 b l1 q1 R1 => by
    cases b with
    | true => exact ha.sn W0 H0 W1 H1 O1 vs1 σ tm D D' nb q1 R1 (C.mono l1)
    | false => exact hb.sn W0 H0 W1 H1 O1 vs1 σ tm D D' nb q1 R1 (C.mono l1)
/-! ### stores -/
@[simp] def Lo.noBo : Lo → Prop
  | .bo _ => False
  | _ => True
theorem Lo.noBo' {lo : Lo} (h : lo.noBo) : ∀ xs, lo ≠ .bo xs := fun xs e => by subst e; exact h
@[simp] def VS.put (vs : VS) (i : Nat) (lo : Lo) : VS := { vs with env := vs.env.set i (some lo) }
@[simp] def wSet (i : Nat) (f : WE) : WS := fun vs D => f vs fun lo vs1 => i < vs1.env.length ∧ lo.noBo ∧ D.nx (vs1.put i lo)
theorem vp_set (i : Nat) {x : Str} {pos' : Pos} (hN : X.N.Nodup) (hi : X.N[i]? = some x) (hx : Loc X.env.scope x) (he : VE T X e fa) (hs : swapsWith e (some (.Name x pos')) pos.line X.env = pure false := by rfl) (hf : X.fn x = true ∨ X.env.scope.names.lookup x = some .local := by first | exact .inl rfl | exact .inr rfl | assumption) :
    VP T X (.Assign [.Name x pos'] e pos) (wSet i fa) :=
  .of (ps_set hN hi hx he.pe hs hf) fun W0 H0 W H O vs σ tm D D' nb hf R C => he.sn W0 H0 W H O vs σ tm _ _ hf R fun W1 H1 O1 vs1 v lo l1 q1 R1 => by
    obtain ⟨O2, R2⟩ := R1.store (Lo.noBo' q1.2.1) q1.1
    exact C.nx W1 H1 O2 _ _ l1 q1.2.2 R2
/-! ### targets -/
inductive Tg where
  | name (i : Nat) | tup (ts : List Tg)
mutual
def Tg.slots : Tg → List Nat
  | .name i => [i]
  | .tup ts => Tg.slotsL ts
def Tg.slotsL : List Tg → List Nat
  | [] => []
  | t :: ts => Tg.slots t ++ Tg.slotsL ts
end
def Agree (l : List Nat) (σ σ' : St) : Prop := σ'.length = σ.length ∧ ∀ j, j ∉ l → σ'[j]? = σ[j]?
theorem Agree.refl (l : List Nat) (σ : St) : Agree l σ σ := ⟨rfl, fun _ _ => rfl⟩
theorem Agree.trans {l1 l2 : List Nat} {σ σ1 σ2 : St} (a : Agree l1 σ σ1) (b : Agree l2 σ1 σ2) : Agree (l1 ++ l2) σ σ2 := ⟨b.1.trans a.1, fun j h => by
  rw [List.mem_append, not_or] at h
  rw [b.2 j h.2, a.2 j h.1]⟩
theorem Agree.set (σ : St) (i : Nat) (v : Option V) : Agree [i] σ (σ.set i v) := ⟨by simp, fun j h => by
  rw [List.getElem?_set_ne]
  intro e; exact h (by simp [e])⟩
mutual
def bindT : Tg → D → List (Option Lo) → Option (List (Option Lo))
  | .name i, d, env => if i < env.length then some (env.set i (some (.sh d))) else none
  | .tup ts, .tup ds, env => bindTs ts ds env
  | .tup _, _, _ => none
def bindTs : List Tg → List D → List (Option Lo) → Option (List (Option Lo))
  | [], [], env => some env
  | t :: ts, d :: ds, env => match bindT t d env with
    | some env' => bindTs ts ds env'
    | none => none
  | _, _, _ => none
end
def SndG (T : Th) (g : TG) (tg : Tg) : Prop :=
  ∀ (W0 : Wd) (H0 : Hp) (W : Wd) (H : Hp) (O : Addr → Option Ow) (vs : VS) (σ : St) (tm : List (V × Lo)) (d : D) (v : V) (env' : List (Option Lo)) (Q : St → Hp → Prop),
    Rep W d v → bindT tg d vs.env = some env' → Rel T W0 H0 W H O vs σ tm → (∀ O' σ', Agree tg.slots σ σ' → Rel T W0 H0 W H O' { vs with env := env' } σ' tm → Q σ' H) → g v σ H Q
def SndGs (T : Th) (g : TGs) (tgs : List Tg) : Prop :=
  ∀ (W0 : Wd) (H0 : Hp) (W : Wd) (H : Hp) (O : Addr → Option Ow) (vs : VS) (σ : St) (tm : List (V × Lo)) (ds : List D) (us : List V) (env' : List (Option Lo)) (Q : St → Hp → Prop),
    RepL W ds us → bindTs tgs ds vs.env = some env' → Rel T W0 H0 W H O vs σ tm → (∀ O' σ', Agree (Tg.slotsL tgs) σ σ' → Rel T W0 H0 W H O' { vs with env := env' } σ' tm → Q σ' H) → g us σ H Q
def tG (T : Th) (tg : Tg) : TG := fun v σ H Q => ∃ (W0 : Wd) (H0 : Hp) (W : Wd) (O : Addr → Option Ow) (vs : VS) (tm : List (V × Lo)) (d : D) (env' : List (Option Lo)),
  Rep W d v ∧ bindT tg d vs.env = some env' ∧ Rel T W0 H0 W H O vs σ tm ∧ (∀ O' σ', Agree tg.slots σ σ' → Rel T W0 H0 W H O' { vs with env := env' } σ' tm → Q σ' H)
def tGs (T : Th) (tgs : List Tg) : TGs := fun us σ H Q => ∃ (W0 : Wd) (H0 : Hp) (W : Wd) (O : Addr → Option Ow) (vs : VS) (tm : List (V × Lo)) (ds : List D) (env' : List (Option Lo)),
  RepL W ds us ∧ bindTs tgs ds vs.env = some env' ∧ Rel T W0 H0 W H O vs σ tm ∧ (∀ O' σ', Agree (Tg.slotsL tgs) σ σ' → Rel T W0 H0 W H O' { vs with env := env' } σ' tm → Q σ' H)
structure VG (T : Th) (X : Cx) (target : Expr) (tg : Tg) : Prop where
  pg : PG X target (tG T tg)
structure VGs (T : Th) (X : Cx) (ts : List Expr) (tgs : List Tg) : Prop where
  pg : PGs X ts (tGs T tgs)
theorem VG.of {target : Expr} {g : TG} {tg : Tg} (h : PG X target g) (s : SndG T g tg) : VG T X target tg :=
  ⟨⟨fun pins st σ H v u Q I r ⟨W0, H0, W, O, vs, tm, d, env', hd, hb, R, k⟩ => h.run pins st σ H v u Q I r (s W0 H0 W H O vs σ tm d v env' Q hd hb R k)⟩⟩
theorem VGs.of {ts : List Expr} {g : TGs} {tgs : List Tg} (h : PGs X ts g) (s : SndGs T g tgs) : VGs T X ts tgs :=
  ⟨⟨fun pins st σ H v u Q I r ⟨W0, H0, W, O, vs, tm, d, env', hd, hb, R, k⟩ => h.run pins st σ H v u Q I r (s W0 H0 W H O vs σ tm d v env' Q hd hb R k)⟩⟩
theorem VG.sn {target : Expr} {tg : Tg} (_ : VG T X target tg) : SndG T (tG T tg) tg := fun W0 H0 W H O vs σ tm d v env' Q a b c e => ⟨W0, H0, W, O, vs, tm, d, env', a, b, c, e⟩
theorem VGs.sn {ts : List Expr} {tgs : List Tg} (_ : VGs T X ts tgs) : SndGs T (tGs T tgs) tgs := fun W0 H0 W H O vs σ tm d v env' Q a b c e => ⟨W0, H0, W, O, vs, tm, d, env', a, b, c, e⟩
theorem vg_name (i : Nat) {x : Str} {pos : Pos} (hN : X.N.Nodup) (hi : X.N[i]? = some x) (hx : Loc X.env.scope x) (hf : X.fn x = true ∨ X.env.scope.names.lookup x = some .local := by first | exact .inl rfl | exact .inr rfl | assumption) : VG T X (.Name x pos) (.name i) :=
  .of (pg_name hN hi hx hf) fun W0 H0 W H O vs σ tm d v env' Q hd hb R k => by
    unfold bindT at hb
    split at hb
    · rename_i hl
      cases hb
      obtain ⟨O2, R2⟩ := (R.push hd).store (by simp) hl
      exact k O2 _ (by unfold Tg.slots; exact Agree.set σ i _) R2
    · cases hb
theorem vgs_nil : VGs T X [] [] := .of pgs_nil fun W0 H0 W H O vs σ tm ds us env' Q hd hb R k => by
  cases ds with
  | nil =>
    unfold bindTs at hb
    cases hb
    unfold RepL at hd
    exact ⟨hd, k O σ (Agree.refl _ σ) R⟩
  | cons d ds => simp [bindTs] at hb
theorem vgs_cons {es : List Expr} {tg : Tg} {tgs : List Tg} (h1 : VG T X e tg) (h2 : VGs T X es tgs) (hs : (assignEach (e :: es) X.env).map (·.2) = assign e X.env :: (assignEach es X.env).map (·.2) := by rfl) : VGs T X (e :: es) (tg :: tgs) :=
  .of (pgs_cons h1.pg h2.pg hs) fun W0 H0 W H O vs σ tm ds us env' Q hd hb R k => by
    cases ds with
    | nil => simp [bindTs] at hb
    | cons d ds =>
      unfold bindTs at hb
      split at hb
      · rename_i env1 e1
        unfold RepL at hd
        obtain ⟨w, r, e2, h, hd⟩ := hd
        exact ⟨w, r, e2, h1.sn W0 H0 W H O vs σ tm d w env1 _ h e1 R fun O1 σ1 g1 R1 => h2.sn W0 H0 W H O1 _ σ1 tm ds r env' _ hd hb R1 fun O2 σ2 g2 R2 => k O2 σ2 (by unfold Tg.slotsL; exact g1.trans g2) R2⟩
      · cases hb
theorem vg_tup {es : List Expr} {n : Nat} {tgs : List Tg} (hc : X.calm = true) (h : VGs T X es tgs) (hl : tgs.length = es.length := by rfl) (hn : (assignEach es X.env).length = es.length := by rfl) (hst : (assignEach es X.env).findIdx? (·.1) = none := by rfl) : VG T X (.Tuple es n pos) (.tup tgs) :=
  .of (pg_tup (n := es.length) hc h.pg hn hst) fun W0 H0 W H O vs σ tm d v env' Q hd hb R k => by
    cases d with
    | tup ds =>
      unfold bindT at hb
      unfold Rep at hd
      obtain ⟨p, ws, e1, hs, r⟩ := hd
      have len : ∀ (tgs : List Tg) (ds : List D) (env env' : List (Option Lo)), bindTs tgs ds env = some env' → ds.length = tgs.length := by
        intro tgs
        induction tgs with
        | nil => intro ds env env' h; cases ds with
          | nil => rfl
          | cons d ds => simp [bindTs] at h
        | cons t ts ih => intro ds env env' h; cases ds with
          | nil => simp [bindTs] at h
          | cons d ds =>
            unfold bindTs at h
            split at h
            · rw [List.length_cons, List.length_cons, ih _ _ _ h]
            · cases h
      exact ⟨p, ws, e1, SqT.of (R.Sget hs), by rw [r.length, len _ _ _ _ hb, hl], h.sn W0 H0 W H O vs σ tm ds ws env' Q r hb R fun O2 σ2 g2 R2 => k O2 σ2 (by unfold Tg.slots; exact g2) R2⟩
    | _ => simp [bindT] at hb
/-- target = data -/
@[simp] def wAsg (tg : Tg) (f : WE) : WS := fun vs D => f vs fun lo vs1 => match lo.dat? with
  | some d => match bindT tg d vs1.env with
    | some env' => D.nx { vs1 with env := env' }
    | none => False
  | none => False
theorem vp_asg {target : Expr} {tg : Tg} (he : VE T X e fa) (hg : VG T X target tg) (hs : swapsWithSole [target] e pos.line X.env = pure false := by rfl) (hw : swappedStores [target] e X.env = pure none := by rfl)
    (h1 : (assignEach [target] X.env).map (·.2) = [assign target X.env] := by rfl) : VP T X (.Assign [target] e pos) (wAsg tg fa) :=
  .of (ps_asg he.pe hg.pg hs hw h1) fun W0 H0 W H O vs σ tm D D' nb hf R C => he.sn W0 H0 W H O vs σ tm _ _ hf R fun W1 H1 O1 vs1 v lo l1 q1 R1 => by
    split at q1
    · rename_i d ed
      split at q1
      · rename_i env' eb
        obtain ⟨W2, l2, rd, R2⟩ := R1.share ed
        exact hg.sn W0 H0 W2 H1 O1 vs1 σ tm d v env' _ rd eb R2 fun O3 σ3 _ R3 => C.nx W2 H1 O3 _ σ3 (l1.trans l2) q1 R3
      · exact q1.elim
    · exact q1.elim
end
end Vx

set_option Elab.async false
set_option maxRecDepth 100000
set_option linter.all false
/-! Loops and comprehensions by value. -/
namespace Vx
open PySem L2

section
variable {T : Th} {X : Cx} {W0 W W' W1 : Wd} {H0 H H' : Hp} {O O' : Addr → Option Ow} {vs : VS} {σ : St} {tm : List (V × Lo)}
variable {a b c e : Expr} {fa fb fc : WE} {pos : Pos} {es : List Expr} {st : Stmt} {sts : List Stmt} {f g : WS}

/-! ### x, y = a, b; x, y, z = a, b, c -/
@[simp] def wPar (i j : Nat) (f1 f2 : WE) : WS := fun vs D => f1 vs fun l1 vs1 => f2 vs1 fun l2 vs2 => i < vs2.env.length ∧ j < vs2.env.length ∧ l1.noBo ∧ l2.noBo ∧ D.nx ((vs2.put i l1).put j l2)
theorem vp_par (i j : Nat) {x y : Str} {px py pt : Pos} {kt k2 pt2} (hc : X.calm = true) (hN : X.N.Nodup) (hi : X.N[i]? = some x) (hj : X.N[j]? = some y) (hij : i ≠ j)
    (hx : X.env.scope.names.lookup x = some .local) (hy : X.env.scope.names.lookup y = some .local) (ha : VE T X a fa) (hb : VE T X b fb)
    (hw : swappedStores [.Tuple [.Name x px, .Name y py] kt pt] (.Tuple [a, b] k2 pt2) X.env = pure (some [x, y]))
    (hs : swapsWithSole [.Tuple [.Name x px, .Name y py] kt pt] (.Tuple [a, b] k2 pt2) pos.line X.env = pure false := by rfl)
    (h1 : starEach [a, b] X.env = (false, eval a X.env) :: starEach [b] X.env := by rfl) (h2 : starEach [b] X.env = (false, eval b X.env) :: starEach [] X.env := by rfl) :
    VP T X (.Assign [.Tuple [.Name x px, .Name y py] kt pt] (.Tuple [a, b] k2 pt2) pos) (wPar i j fa fb) :=
  .of (ps_par hc hN hi hj hij hx hy (pa_cons ha.pe (pa_cons hb.pe pa_nil h2) h1) hw hs) fun W0 H0 W H O vs σ tm D D' nb hf R C =>
    ha.sn W0 H0 W H O vs σ tm _ _ hf R fun W1 H1 O1 vs1 v lo1 l1 q1 R1 => hb.sn W0 H0 W1 H1 O1 vs1 σ _ _ _ q1 R1 fun W2 H2 O2 vs2 w lo2 l2 q2 R2 => by
      obtain ⟨q2, q3, q4, q5, q6⟩ := q2
      refine ⟨v, w, rfl, ?_⟩
      obtain ⟨O3, R3⟩ := R2.store (Lo.noBo' q5) q3
      obtain ⟨O4, R4⟩ := R3.store (Lo.noBo' q4) (i := i) (by simpa using q2)
      have e1 : (σ.set j (some w)).set i (some v) = (σ.set i (some v)).set j (some w) := List.set_comm _ _ (Ne.symm hij)
      have e2 : (vs2.env.set j (some lo2)).set i (some lo1) = (vs2.env.set i (some lo1)).set j (some lo2) := List.set_comm _ _ (Ne.symm hij)
      rw [e1] at R4
      simp only [e2] at R4
      exact C.nx W2 H2 O4 _ _ (l1.trans l2) q6 R4
@[simp] def wPar3 (i j k : Nat) (f1 f2 f3 : WE) : WS := fun vs D => f1 vs fun l1 vs1 => f2 vs1 fun l2 vs2 => f3 vs2 fun l3 vs3 => i < vs3.env.length ∧ j < vs3.env.length ∧ k < vs3.env.length ∧ l1.noBo ∧ l2.noBo ∧ l3.noBo ∧ D.nx (((vs3.put i l1).put j l2).put k l3)
theorem vp_par3 (i j l : Nat) {x y z : Str} {px py pz pt : Pos} {kt k2 pt2} (hc : X.calm = true) (hN : X.N.Nodup) (hi : X.N[i]? = some x) (hj : X.N[j]? = some y) (hl : X.N[l]? = some z) (hij : i ≠ j) (hil : i ≠ l) (hjl : j ≠ l)
    (hx : X.env.scope.names.lookup x = some .local) (hy : X.env.scope.names.lookup y = some .local) (hz : X.env.scope.names.lookup z = some .local) (ha : VE T X a fa) (hb : VE T X b fb) (hc' : VE T X c fc)
    (hw : swappedStores [.Tuple [.Name x px, .Name y py, .Name z pz] kt pt] (.Tuple [a, b, c] k2 pt2) X.env = pure (some [x, y, z]))
    (hs : swapsWithSole [.Tuple [.Name x px, .Name y py, .Name z pz] kt pt] (.Tuple [a, b, c] k2 pt2) pos.line X.env = pure false := by rfl)
    (h1 : starEach [a, b, c] X.env = (false, eval a X.env) :: starEach [b, c] X.env := by rfl) (h2 : starEach [b, c] X.env = (false, eval b X.env) :: starEach [c] X.env := by rfl) (h3 : starEach [c] X.env = (false, eval c X.env) :: starEach [] X.env := by rfl) :
    VP T X (.Assign [.Tuple [.Name x px, .Name y py, .Name z pz] kt pt] (.Tuple [a, b, c] k2 pt2) pos) (wPar3 i j l fa fb fc) :=
  .of (ps_par3 hc hN hi hj hl hij hil hjl hx hy hz (pa_cons ha.pe (pa_cons hb.pe (pa_cons hc'.pe pa_nil h3) h2) h1) hw hs) fun W0 H0 W H O vs σ tm D D' nb hf R C =>
    ha.sn W0 H0 W H O vs σ tm _ _ hf R fun W1 H1 O1 vs1 v lo1 l1 q1 R1 => hb.sn W0 H0 W1 H1 O1 vs1 σ _ _ _ q1 R1 fun W2 H2 O2 vs2 w lo2 l2 q2 R2 => hc'.sn W0 H0 W2 H2 O2 vs2 σ _ _ _ q2 R2 fun W3 H3 O3 vs3 u lo3 l3 q3 R3 => by
      obtain ⟨a1, a2, a3, b1, b2, b3, q⟩ := q3
      refine ⟨v, w, u, rfl, ?_⟩
      obtain ⟨O4, R4⟩ := R3.store (Lo.noBo' b3) a3
      obtain ⟨O5, R5⟩ := R4.store (Lo.noBo' b2) (i := j) (by simpa using a2)
      obtain ⟨O6, R6⟩ := R5.store (Lo.noBo' b1) (i := i) (by simpa using a1)
      have e1 : ((σ.set l (some u)).set j (some w)).set i (some v) = ((σ.set i (some v)).set j (some w)).set l (some u) := by
        rw [List.set_comm (l := σ) _ _ (Ne.symm hjl), List.set_comm _ _ (Ne.symm hil), List.set_comm (l := σ) _ _ (Ne.symm hij)]
      have e2 : ((vs3.env.set l (some lo3)).set j (some lo2)).set i (some lo1) = ((vs3.env.set i (some lo1)).set j (some lo2)).set l (some lo3) := by
        rw [List.set_comm (l := vs3.env) _ _ (Ne.symm hjl), List.set_comm _ _ (Ne.symm hil), List.set_comm (l := vs3.env) _ _ (Ne.symm hij)]
      rw [e1] at R6
      simp only [e2] at R6
      exact C.nx W3 H3 O6 _ _ ((l1.trans l2).trans l3) q R6

/-! ### a name's own list changed -/
@[simp] def wApp (i : Nat) (f : WE) : WS := fun vs D => match vs.env[i]? with
  | some (some (.ow _)) => f vs fun lo vs1 => match lo.dat?, vs1.env[i]? with
    | some d, some (some (.ow xs)) => xs.length < sizeLine ∧ D.nx (vs1.put i (.ow (xs ++ [d])))
    | _, _ => False
  | _ => False
theorem sn_app {i : Nat} {te : TE} (ha : SndE T te fa) : SndS T (tDrop (tBM X.K "list" rAppend (tVar i) (tCons te tNil))) (wApp i fa) := fun W0 H0 W H O vs σ tm D D' nb hf R C => by
  unfold wApp at hf
  split at hf
  · rename_i xs0 e0
    obtain ⟨v, hv, p, ws, e1, ho, hd, h0, hp, r⟩ := R.env i _ e0
    subst e1
    refine ⟨.ref p, hv, .inl ⟨rfl, _, SqL.of hp⟩, ?_⟩
    refine ha W0 H0 W H O vs σ tm _ _ hf R fun W1 H1 O1 vs1 y lo l1 q1 R1 => ?_
    split at q1
    · rename_i d xs ed ex
      obtain ⟨W2, l2, rd, R2⟩ := R1.share ed
      obtain ⟨v2, hv2, p2, ws2, e2, ho2, hd2, h02, hp2, r2⟩ := R2.env i _ ex
      rw [hv] at hv2
      cases hv2
      cases e2
      refine ⟨p, ws2, y, rfl, rfl, hp2, by rw [r2.length]; exact q1.1, ?_⟩
      exact C.nx W2 _ O1 _ σ (l1.trans l2) q1.2 (R2.write nb ex hv (r2.append (RepL.cons rd RepL.nil)))
    · exact q1.elim
  · exact hf.elim
section
variable {x : Str} {p apos cpos pos : Pos}
theorem vp_append (i : Nat) (ha : VE T X a fa) (hN : X.N[i]? = some x := by rfl) (hv : Vis X.env.scope x := by first | exact Or.inl rfl | exact Or.inr (Or.inl rfl) | exact Or.inr (Or.inr rfl)) (hd : (x == ("__debug__" : Str)) = false := by decide) (hcd : (x == ("__classdict__" : Str)) = false := by decide)
    (hbase : attributeBase (.Name x p) "append" X.env (eval (.Name x p) X.env) = eval (.Name x p) X.env := by rfl)
    (hfew : ((backTo cpos (starEach [a] X.env)).all (fun x => !x.1) && (backToKw cpos (keywordEach [] X.env)).all (fun x => x.1.isSome) && decide (([a] : List Expr).length + ([] : List Keyword).length + (if ([] : List Keyword).isEmpty then 0 else 1) < 30)) = true := by rfl)
    (hline : (apos.endLine == cpos.line) = true := by rfl) (h1 : starEach [a] X.env = (false, eval a X.env) :: starEach [] X.env := by rfl)
    (hs : swapsWith (.Call (.Attribute (.Name x p) "append" apos) [a] [] cpos) none pos.line X.env = pure false := by rfl) : VP T X (.Expr (.Call (.Attribute (.Name x p) "append" apos) [a] [] cpos) pos) (wApp i fa) :=
  .of (ps_expr (pe_bm PySem.F.plainAttrs_list PySem.F.slot_list_append PySem.F.type_list_append mt_append (pe_var hN hv hd hcd) (pa_cons ha.pe pa_nil h1) hbase hfew hline h1 (by rfl)) hs) (sn_app ha.sn)
end
/-! extend: by a list, by a tuple -/
abbrev rExtT (K : PySem.W.Frag) : V → List V → Hp → VK → Prop := fun x vs H Q => ∃ l b xs zs, x = .ref l ∧ vs = [.ref b] ∧ H l = some (.lst xs) ∧ SqT K H b zs ∧ xs.length + zs.length ≤ sizeLine ∧ Q .non (upd H l (.lst (xs ++ zs)))
open PySem.AutoSeq1 in
theorem list_extend_tupO (l : Addr) (items : Array Value) (n : Nat) (b : Addr) (items2 : Array Value) (n2 : Nat) (dd : Option Addr) (sl : Array (Option Value)) (hs0 : ¬(!items.isEmpty && Builtin.List.listTooLong (items.size + items2.size)) = true) (hs1 : items.size ≤ sizeLine) (hs2 : items.size + items2.size ≤ sizeLine + 1) :
    Meets (Builtin.«list.extend» ⟨[.ref l, .ref b], []⟩) (fun _ R s => s.heap.get? l = some { cls := .type "list", dict := none, data := .seq items n, slots := #[] } ∧ s.heap.get? b = some { cls := .type "tuple", dict := dd, data := .seq items2 n2, slots := sl } ∧ R (.ok (.ret Value.none)) { s with heap := s.heap.update l (Obj.mapSeq fun x => x ++ items2), toks := s.toks }) :=
  .of_wp fun prog w A R s h => by
    obtain ⟨hp, g, d, tk, os⟩ := s; obtain ⟨hl, hb, h⟩ := h; have f1 := idx_int; have f2 := sub_tuple_tuple; have f3 := sub_list_list; have f4 := sub_tuple_list; have f5 := sub_list_tuple;
    have hz' : (items ++ items2).size ≤ sizeLine + 1 := by rw [Array.size_append]; exact hs2
    wp_walk using (wpAny_updateSeq hl rfl (hz := hs1) (_hz' := hz')), wpAny_loadPart' hl, wpAny_loadPart' hb; exact ⟨_, rfl, h⟩
theorem mt_extendT : MtM X "list.extend" (rExtT X.K) := by
  intro pins s σ H x vs v us Q I rx rv h
  obtain ⟨l, b, xs, zs, rfl, rfl, hH, hB, hz, q⟩ := h
  cases rx
  obtain ⟨u, rfl, ru⟩ := rv.one
  cases ru
  obtain ⟨z, its, n, r, hl, e⟩ := I.lstM hH
  obtain ⟨its2, r2, ⟨⟨cls, dd, data, sl⟩, e2, hc, n2, hdt⟩, hl2⟩ := I.tuple hB
  simp only at hc hdt
  subst hc hdt
  have hz2 := r2.length
  have hsz : its.toArray.size + its2.toArray.size ≤ sizeLine := by rw [List.size_toArray, List.size_toArray]; omega
  have hlong : ¬ (!its.toArray.isEmpty && Builtin.List.listTooLong (its.toArray.size + its2.toArray.size)) = true := by
    rw [notLongL hsz, Bool.and_false]
    exact Bool.false_ne_true
  refine call_meets F.slot_list_extend ⟨_, e, rfl⟩ F.entry_list_extend (F.args_list_extend_2 _ _)
    (list_extend_tupO l its.toArray n b its2.toArray n2 dd sl hlong (by rw [List.size_toArray]; omega) (by omega)) ⟨e, e2, ?_⟩
  refine ⟨.non, _, I.lset (its' := its ++ its2) hH e (by simp) (r.append r2) ?_, rfl, q⟩
  rw [List.length_append]
  omega
@[simp] def wExt (i : Nat) (f : WE) : WS := fun vs D => match vs.env[i]? with
  | some (some (.ow _)) => f vs fun lo vs1 => match lo.seq?, vs1.env[i]? with
    | some ys, some (some (.ow xs)) => xs.length + ys.length ≤ sizeLine ∧ D.nx (vs1.put i (.ow (xs ++ ys)))
    | _, _ => False
  | _ => False
theorem sn_ext {i : Nat} {te : TE} {K : PySem.W.Frag} (ha : SndE T te fa) : SndS T (tDrop (tBM K "list" (fun x vs H Q => rExtend x vs H Q ∨ rExtT K x vs H Q) (tVar i) (tCons te tNil))) (wExt i fa) := fun W0 H0 W H O vs σ tm D D' nb hf R C => by
  unfold wExt at hf
  split at hf
  · rename_i xs0 e0
    obtain ⟨v, hv, p, ws, e1, ho, hd, h0, hp, r⟩ := R.env i _ e0
    subst e1
    refine ⟨.ref p, hv, .inl ⟨rfl, _, SqL.of hp⟩, ?_⟩
    refine ha W0 H0 W H O vs σ tm _ _ hf R fun W1 H1 O1 vs1 y lo l1 q1 R1 => ?_
    split at q1
    · rename_i ys xs ed ex
      obtain ⟨v2, hv2, p2, ws2, e2, ho2, hd2, h02, hp2, r2⟩ := R1.env i _ ex
      rw [hv] at hv2
      cases hv2
      cases e2
      unfold Lo.seq? at ed
      split at ed
      · cases ed
        obtain ⟨q, us, eq, hs, rq⟩ := R1.top
        have eq' : y = .ref q := eq
        subst eq'
        refine .inr ⟨p, q, ws2, us, rfl, rfl, hp2, SqT.of (R1.Sget hs), by rw [r2.length, rq.length]; exact q1.1, ?_⟩
        exact C.nx W1 _ O1 _ σ l1 q1.2 (R1.pop.write nb ex hv (r2.append rq))
      · obtain ⟨q, us, eq, hq, rq⟩ := R1.lst R1.top ed
        have eq' : y = .ref q := eq
        subst eq'
        refine .inl ⟨p, q, ws2, us, rfl, rfl, hp2, hq, by rw [r2.length, rq.length]; exact q1.1, ?_⟩
        exact C.nx W1 _ O1 _ σ l1 q1.2 (R1.pop.write nb ex hv (r2.append rq))
    · exact q1.elim
  · exact hf.elim
theorem MtM.or {id : String} {r r' : V → List V → Hp → VK → Prop} (h : MtM X id r) (h' : MtM X id r') : MtM X id (fun x xs H Q => r x xs H Q ∨ r' x xs H Q) := fun pins s σ H x xs v us Q I rx rxs q => by
  rcases q with q | q
  · exact h pins s σ H x xs v us Q I rx rxs q
  · exact h' pins s σ H x xs v us Q I rx rxs q
section
variable {x : Str} {p apos cpos pos : Pos}
theorem vp_extend (i : Nat) (ha : VE T X a fa) (hN : X.N[i]? = some x := by rfl) (hv : Vis X.env.scope x := by first | exact Or.inl rfl | exact Or.inr (Or.inl rfl) | exact Or.inr (Or.inr rfl)) (hd : (x == ("__debug__" : Str)) = false := by decide) (hcd : (x == ("__classdict__" : Str)) = false := by decide)
    (hbase : attributeBase (.Name x p) "extend" X.env (eval (.Name x p) X.env) = eval (.Name x p) X.env := by rfl)
    (hfew : ((backTo cpos (starEach [a] X.env)).all (fun x => !x.1) && (backToKw cpos (keywordEach [] X.env)).all (fun x => x.1.isSome) && decide (([a] : List Expr).length + ([] : List Keyword).length + (if ([] : List Keyword).isEmpty then 0 else 1) < 30)) = true := by rfl)
    (hline : (apos.endLine == cpos.line) = true := by rfl) (h1 : starEach [a] X.env = (false, eval a X.env) :: starEach [] X.env := by rfl)
    (hs : swapsWith (.Call (.Attribute (.Name x p) "extend" apos) [a] [] cpos) none pos.line X.env = pure false := by rfl) : VP T X (.Expr (.Call (.Attribute (.Name x p) "extend" apos) [a] [] cpos) pos) (wExt i fa) :=
  .of (ps_expr (pe_bm PySem.F.plainAttrs_list PySem.F.slot_list_extend PySem.F.type_list_extend (Vx.MtM.or mt_extend mt_extendT) (pe_var hN hv hd hcd) (pa_cons ha.pe pa_nil h1) hbase hfew hline h1 (by rfl)) hs) (sn_ext ha.sn)
end
/-! x[k] = e, x a name's own list -/
@[simp] def wPutAt (i : Nat) (fk fe : WE) : WS := fun vs D => fe vs fun lo vs1 => match lo.dat? with
  | some d => match vs1.env[i]? with
    | some (some (.ow _)) => fk vs1 fun lk vs2 => match lk, vs2.env[i]? with
      | .sh (.int k), some (some (.ow xs)) => match ixN xs.length k with
        | some j => D.nx (vs2.put i (.ow (xs.set j d)))
        | none => False
      | _, _ => False
    | _ => False
  | none => False
theorem sn_putAt {i : Nat} {te tk : TE} (he : SndE T te fa) (hk : SndE T tk fb) : SndS T (tAsg te (gSub (tVar i) tk rSetL)) (wPutAt i fb fa) := fun W0 H0 W H O vs σ tm D D' nb hf R C => by
  refine he W0 H0 W H O vs σ tm _ _ hf R fun W1 H1 O1 vs1 y lo l1 q1 R1 => ?_
  split at q1
  · rename_i d ed
    obtain ⟨W2, l2, rd, R2⟩ := R1.share ed
    split at q1
    · rename_i xs0 e0
      obtain ⟨v, hv, p, ws, e1, ho, hd, h0, hp, r⟩ := R2.env i _ e0
      subst e1
      refine ⟨.ref p, hv, ?_⟩
      refine hk W0 H0 W2 H1 O1 vs1 σ tm _ _ q1 R2 fun W3 H3 O3 vs3 z lk l3 q3 R3 => ?_
      split at q3
      · rename_i k xs ek
        have ez : z = .int k := R3.top
        subst ez
        obtain ⟨v2, hv2, p2, ws2, e2, ho2, hd2, h02, hp2, r2⟩ := R3.env i _ ek
        rw [hv] at hv2
        cases hv2
        cases e2
        split at q3
        · rename_i j ej
          refine ⟨p, ws2, k, j, rfl, rfl, hp2, by rw [r2.length]; exact ej, ?_⟩
          exact C.nx W3 _ O3 _ σ ((l1.trans l2).trans l3) q3 (R3.pop.write nb ek hv (r2.set (Rep.mono l3 rd) j))
        · exact q3.elim
      · exact q3.elim
    · exact q1.elim
  · exact q1.elim
theorem vp_putAt (i : Nat) {x : Str} {p tpos : Pos} (hb : VE T X b fb) (ha : VE T X a fa) (hN : X.N[i]? = some x := by rfl) (hv : Vis X.env.scope x := by first | exact Or.inl rfl | exact Or.inr (Or.inl rfl) | exact Or.inr (Or.inr rfl)) (hd : (x == ("__debug__" : Str)) = false := by decide) (hcd : (x == ("__classdict__" : Str)) = false := by decide)
    (hs : swapsWithSole [.Subscript (.Name x p) b tpos] a pos.line X.env = pure false := by rfl) (hw : swappedStores [.Subscript (.Name x p) b tpos] a X.env = pure none := by rfl)
    (h1 : (assignEach [.Subscript (.Name x p) b tpos] X.env).map (·.2) = [assign (.Subscript (.Name x p) b tpos) X.env] := by rfl)
    (hasg : ∀ v, assign (.Subscript (.Name x p) b tpos) X.env v = (do
      let ov ← holding [v] (eval (.Name x p) X.env)
      let iv ← holding [v, ov] (eval b X.env)
      standAt tpos
      holding [v, ov, iv] (setItem ov iv v)
      release [v, ov, iv] []) := by intro _; rfl) : VP T X (.Assign [.Subscript (.Name x p) b tpos] a pos) (wPutAt i fb fa) :=
  .of (ps_asg ha.pe (pg_sub (pe_var hN hv hd hcd) hb.pe set_list hasg) hs hw h1) (sn_putAt ha.sn hb.sn)
/-! x += e of whole numbers, texts -/
@[simp] def gAug (k : Int → Int → Int) : G2 := gI0 fun i j => .int (k i j)
@[simp] def wAug (i : Nat) (g : G2) (f : WE) : WS := fun vs D => match vs.env[i]? with
  | some (some (.sh d)) => f vs fun lo vs1 => g (.sh d) lo vs1 fun z vs2 => i < vs2.env.length ∧ z.noBo ∧ D.nx (vs2.put i z)
  | _ => False
theorem vp_aug (i : Nat) {x : Str} {op : Operator} {r : R2} {gg : G2} {p : Pos} (hN : X.N.Nodup) (hi : X.N[i]? = some x) (hx : Loc X.env.scope x) (ho : OpR X (inplaceOp op) r) (hr : Snd2 T r gg) (ha : VE T X a fa) (hf' : X.fn x = true ∨ X.env.scope.names.lookup x = some .local := by first | exact .inl rfl | exact .inr rfl | assumption) :
    VP T X (.AugAssign (.Name x p) op a pos) (wAug i gg fa) :=
  .of (ps_aug (ti := r) hN hi hx ha.pe (fun pins s σ H x y v u Q I r1 r2 h => ho pins s σ H x y v u Q I r1 r2 h) hf') fun W0 H0 W H O vs σ tm D D' nb hf R C => by
    unfold wAug at hf
    split at hf
    · rename_i d e0
      obtain ⟨v, hv, rd⟩ := R.env i _ e0
      refine ⟨v, hv, ?_⟩
      refine ha.sn W0 H0 W H O vs σ _ _ _ hf (R.push rd) fun W1 H1 O1 vs1 y lo l1 q1 R1 => ?_
      refine hr W0 H0 W1 H1 O1 vs1 σ tm v y _ lo _ _ q1 R1 fun W2 H2 O2 vs2 z lz l2 q2 R2 => ?_
      obtain ⟨O3, R3⟩ := R2.store (Lo.noBo' q2.2.1) q2.1
      exact C.nx W2 H2 O3 _ _ (l1.trans l2) q2.2.2 R3
    · exact hf.elim
end
end Vx

set_option Elab.async false
set_option maxRecDepth 100000
set_option linter.all false
/-! for, while, comprehensions by value. -/
namespace Vx
open PySem L2

abbrev WI := VS → (List D → VS → Prop) → Prop
/-- J yields xs, whatever else happens -/
def IterOk (J : It) (xs : List D) (W : Wd) : Prop := ∀ (H : Hp), (∀ a o, W.S a = some o → H a = some o) → ∀ i,
  (∀ d, xs[i]? = some d → J.go i H ∧ ∀ x H', J.yld i H x H' → (H' = H ∧ Rep W d x) ∨ ∃ p ds ws, d = .tup ds ∧ x = .ref p ∧ H p = none ∧ H' = upd H p (.tup ws) ∧ RepL W ds ws) ∧ (xs.length ≤ i → J.stop i H)
theorem IterOk.mono {J : It} {xs : List D} {W W' : Wd} (l : Le W W') (h : IterOk J xs W) : IterOk J xs W' := fun H hs i => by
  obtain ⟨a, b⟩ := h H (fun a o e => hs a o (l.s a o e)) i
  refine ⟨fun d e => ?_, b⟩
  obtain ⟨c, g⟩ := a d e
  refine ⟨c, fun x H' y => ?_⟩
  rcases g x H' y with ⟨e1, r⟩ | ⟨p, ds, ws, e1, e2, e3, e4, r⟩
  · exact .inl ⟨e1, Rep.mono l r⟩
  · exact .inr ⟨p, ds, ws, e1, e2, e3, e4, RepL.mono l r⟩
def SndI (T : Th) (t : TI) (f : WI) : Prop :=
  ∀ (W0 : Wd) (H0 : Hp) (W : Wd) (H : Hp) (O : Addr → Option Ow) (vs : VS) (σ : St) (tm : List (V × Lo)) (Q : List D → VS → Prop) (Q' : It → Hp → Prop),
    f vs Q → Rel T W0 H0 W H O vs σ tm → (∀ W' H' O' vs' J xs, Le W W' → Q xs vs' → IterOk J xs W' → Rel T W0 H0 W' H' O' vs' σ tm → Q' J H') → t σ H Q'
def tI (T : Th) (f : WI) : TI := fun σ H Q' => ∃ (W0 : Wd) (H0 : Hp) (W : Wd) (O : Addr → Option Ow) (vs : VS) (tm : List (V × Lo)) (Q : List D → VS → Prop),
  f vs Q ∧ Rel T W0 H0 W H O vs σ tm ∧ (∀ W' H' O' vs' J xs, Le W W' → Q xs vs' → IterOk J xs W' → Rel T W0 H0 W' H' O' vs' σ tm → Q' J H')
structure VI (T : Th) (X : Cx) (tg iter : Expr) (f : WI) : Prop where
  pi : PI X tg iter (tI T f)
section
variable {T : Th} {X : Cx} {W0 W W' W1 : Wd} {H0 H H' : Hp} {O O' : Addr → Option Ow} {vs : VS} {σ : St} {tm : List (V × Lo)}
variable {a b c e target iter : Expr} {fa fb fc : WE} {pos : Pos} {es : List Expr} {st : Stmt} {sts : List Stmt} {f g : WS} {wi : WI}
theorem VI.of {t : TI} (h : PI X target iter t) (s : SndI T t wi) : VI T X target iter wi :=
  ⟨⟨fun pins st σ H Q' I ⟨W0, H0, W, O, vs, tm, Q, hf, R, k⟩ => h.run pins st σ H Q' I (s W0 H0 W H O vs σ tm Q Q' hf R k)⟩⟩
theorem VI.sn (_ : VI T X target iter wi) : SndI T (tI T wi) wi := fun W0 H0 W H O vs σ tm Q Q' hf R k => ⟨W0, H0, W, O, vs, tm, Q, hf, R, k⟩
/-! lists, tuples -/
@[simp] def wIL (f : WE) : WI := fun vs Q => f vs fun lo vs1 => match lo.dat? with
  | some (.lst xs) => Q xs vs1
  | _ => False
@[simp] def wIT (f : WE) : WI := fun vs Q => f vs fun lo vs1 => match lo.dat? with
  | some (.tup xs) => Q xs vs1
  | _ => False
theorem iterOk_lst {K : PySem.W.Frag} {p : Addr} {xs : List D} {ws : List V} (hs : W.S p = some (.lst ws)) (r : RepL W xs ws) : IterOk (Itl K p) xs W := fun H hS i => by
  have hp := hS _ _ hs
  refine ⟨fun d e => ?_, fun hi => ⟨ws, SqL.of hp, by rw [r.length]; exact hi⟩⟩
  obtain ⟨w, hw, rw'⟩ := r.get e
  refine ⟨⟨ws, w, SqL.of hp, hw⟩, fun x H' y => ?_⟩
  have := y.2 ws (SqL.of hp)
  rw [hw] at this
  cases this
  exact .inl ⟨y.1, rw'⟩
theorem iterOk_tup {K : PySem.W.Frag} {p : Addr} {xs : List D} {ws : List V} (hs : W.S p = some (.tup ws)) (r : RepL W xs ws) : IterOk (Itt K p) xs W := fun H hS i => by
  have hp := hS _ _ hs
  refine ⟨fun d e => ?_, fun hi => ⟨ws, SqT.of hp, by rw [r.length]; exact hi⟩⟩
  obtain ⟨w, hw, rw'⟩ := r.get e
  refine ⟨⟨ws, w, SqT.of hp, hw⟩, fun x H' y => ?_⟩
  have := y.2 ws (SqT.of hp)
  rw [hw] at this
  cases this
  exact .inl ⟨y.1, rw'⟩
theorem vi_list (h : VE T X iter fa) : VI T X target iter (wIL fa) :=
  .of (pi_list h.pe) fun W0 H0 W H O vs σ tm Q Q' hf R k => h.sn W0 H0 W H O vs σ tm _ _ hf R fun W1 H1 O1 vs1 v lo l1 q1 R1 => by
    split at q1
    · rename_i xs e
      obtain ⟨W2, l2, rd, R2⟩ := R1.share e
      obtain ⟨p, ws, ep, hs, r⟩ := rd
      exact ⟨p, ep, ⟨ws, SqL.of (R2.Sget hs)⟩, k W2 H1 O1 vs1 _ xs (l1.trans l2) q1 (iterOk_lst hs r) R2⟩
    · exact q1.elim
theorem vi_tup (h : VE T X iter fa) : VI T X target iter (wIT fa) :=
  .of (pi_tup h.pe) fun W0 H0 W H O vs σ tm Q Q' hf R k => h.sn W0 H0 W H O vs σ tm _ _ hf R fun W1 H1 O1 vs1 v lo l1 q1 R1 => by
    split at q1
    · rename_i xs e
      obtain ⟨W2, l2, rd, R2⟩ := R1.share e
      obtain ⟨p, ws, ep, hs, r⟩ := rd
      exact ⟨p, ep, ⟨ws, SqT.of (R2.Sget hs)⟩, k W2 H1 O1 vs1 _ xs (l1.trans l2) q1 (iterOk_tup hs r) R2⟩
    · exact q1.elim
/-! ranges -/
def rng (lo : Int) (n : Nat) (c : Int) : List D := (List.range n).map fun i => D.int (lo + (i : Nat) * c)
theorem rng_get {lo c : Int} {n i : Nat} {d : D} (h : (rng lo n c)[i]? = some d) : i < n ∧ d = .int (lo + (i : Nat) * c) := by
  unfold rng at h
  rw [List.getElem?_map] at h
  by_cases hi : i < n
  · rw [List.getElem?_range hi] at h
    exact ⟨hi, (Option.some.inj h).symm⟩
  · rw [List.getElem?_eq_none (by simpa using hi)] at h
    cases h
theorem rng_length (lo c : Int) (n : Nat) : (rng lo n c).length = n := by unfold rng; simp
theorem iterOk_rngC {lo c : Int} {n : Nat} : IterOk (Itc lo c n) (rng lo n c) W := fun H hS i => by
  refine ⟨fun d e => ?_, fun hi => by rw [rng_length] at hi; exact hi⟩
  obtain ⟨hi, ed⟩ := rng_get e
  subst ed
  exact ⟨hi, fun x H' y => .inl ⟨y.1, by rw [y.2]; simp [Rep]⟩⟩
theorem iterOk_rng {lo : Int} {n : Nat} : IterOk (Itr lo n) (rng lo n 1) W := fun H hS i => by
  refine ⟨fun d e => ?_, fun hi => by rw [rng_length] at hi; exact hi⟩
  obtain ⟨hi, ed⟩ := rng_get e
  subst ed
  exact ⟨hi, fun x H' y => .inl ⟨y.1, by rw [y.2]; simp [Rep]⟩⟩
@[simp] def wIR1 (f : WE) : WI := fun vs Q => f vs fun lo vs1 => match lo with
  | .sh (.int j) => -(2 ^ 62) ≤ j ∧ j < 2 ^ 62 ∧ Q (rng 0 j.toNat 1) vs1
  | _ => False
@[simp] def wIR2 (f g : WE) : WI := fun vs Q => f vs fun lo vs1 => g vs1 fun lo2 vs2 => match lo, lo2 with
  | .sh (.int i), .sh (.int j) => (-(2 ^ 62) ≤ i ∧ i < 2 ^ 62 ∧ -(2 ^ 62) ≤ j ∧ j < 2 ^ 62) ∧ Q (rng i (j - i).toNat 1) vs2
  | _, _ => False
theorem vi_range1 {x : Str} {p : Pos} (hg : Gl X "range") (hm : X.mg "range" = none) (ha : VE T X a fa) (hs : starEach [a] X.env = [(false, eval a X.env)] := by rfl) : VI T X target (.Call (.Name "range" p) [a] [] pos) (wIR1 fa) :=
  .of (pi_range1 hg hm (pa_cons ha.pe pa_nil hs) hs) fun W0 H0 W H O vs σ tm Q Q' hf R k => ha.sn W0 H0 W H O vs σ tm _ _ hf R fun W1 H1 O1 vs1 v lo l1 q1 R1 => by
    split at q1
    · rename_i j
      have e : v = .int j := R1.top
      subst e
      exact ⟨j, rfl, q1.1, q1.2.1, k W1 H1 O1 vs1 _ _ l1 q1.2.2 iterOk_rng R1.pop⟩
    · exact q1.elim
theorem vi_range2 {p : Pos} (hg : Gl X "range") (hm : X.mg "range" = none) (ha : VE T X a fa) (hb : VE T X b fb) (hs : starEach [a, b] X.env = [(false, eval a X.env), (false, eval b X.env)] := by rfl) (hs2 : starEach [b] X.env = [(false, eval b X.env)] := by rfl) :
    VI T X target (.Call (.Name "range" p) [a, b] [] pos) (wIR2 fa fb) :=
  .of (pi_range2 hg hm (pa_cons ha.pe (pa_cons hb.pe pa_nil hs2) (by rw [hs, hs2])) hs hs2) fun W0 H0 W H O vs σ tm Q Q' hf R k => ha.sn W0 H0 W H O vs σ tm _ _ hf R fun W1 H1 O1 vs1 v lo l1 q1 R1 =>
    hb.sn W0 H0 W1 H1 O1 vs1 σ _ _ _ q1 R1 fun W2 H2 O2 vs2 w lo2 l2 q2 R2 => by
      split at q2
      · rename_i i j
        have e : v = .int i := R2.pop.top
        have e2 : w = .int j := R2.top
        subst e e2
        exact ⟨i, j, rfl, q2.1, k W2 H2 O2 vs2 _ _ (l1.trans l2) q2.2 iterOk_rng R2.pop.pop⟩
      · exact q2.elim
/-- range(a, b, -1) -/
@[simp] def wIRd (f g h : WE) : WI := fun vs Q => f vs fun lo vs1 => g vs1 fun lo2 vs2 => h vs2 fun lo3 vs3 => match lo, lo2, lo3 with
  | .sh (.int i), .sh (.int j), .sh (.int c) => c = -1 ∧ (-(2 ^ 62) ≤ i ∧ i < 2 ^ 62 ∧ -(2 ^ 62) ≤ j ∧ j < 2 ^ 62) ∧ Q (rng i (i - j).toNat (-1)) vs3
  | _, _, _ => False
theorem vi_rangeD {p : Pos} (hg : Gl X "range") (hm : X.mg "range" = none) (ha : VE T X a fa) (hb : VE T X b fb) (hc : VE T X c fc) (hs : starEach [a, b, c] X.env = (false, eval a X.env) :: starEach [b, c] X.env := by rfl) (hs2 : starEach [b, c] X.env = (false, eval b X.env) :: starEach [c] X.env := by rfl)
    (hs3 : starEach [c] X.env = (false, eval c X.env) :: starEach [] X.env := by rfl) (hpl : (backTo pos (starEach [b, c] X.env)).any (·.1) = false := by rfl) :
    VI T X target (.Call (.Name "range" p) [a, b, c] [] pos) (wIRd fa fb fc) :=
  .of (pi_range3 hg hm (pa_cons ha.pe (pa_cons hb.pe (pa_cons hc.pe pa_nil hs3) hs2) hs) hs hpl) fun W0 H0 W H O vs σ tm Q Q' hf R k => ha.sn W0 H0 W H O vs σ tm _ _ hf R fun W1 H1 O1 vs1 v lo l1 q1 R1 =>
    hb.sn W0 H0 W1 H1 O1 vs1 σ _ _ _ q1 R1 fun W2 H2 O2 vs2 w lo2 l2 q2 R2 => hc.sn W0 H0 W2 H2 O2 vs2 σ _ _ _ q2 R2 fun W3 H3 O3 vs3 u lo3 l3 q3 R3 => by
      split at q3
      · rename_i i j m
        have e : v = .int i := R3.pop.pop.top
        have e2 : w = .int j := R3.pop.top
        have e3 : u = .int m := R3.top
        subst e e2 e3
        obtain ⟨em, ⟨b1, b2, b3, b4⟩, q3⟩ := q3
        subst em
        exact ⟨i, j, -1, _, rfl, RgC.neg b1 b2 b3 b4, k W3 H3 O3 vs3 _ _ ((l1.trans l2).trans l3) q3 iterOk_rngC R3.pop.pop.pop⟩
      · exact q3.elim
/-! enumerate, zip of lists -/
def enumD (xs : List D) : List D := (xs.zipIdx).map fun p => D.tup [.int (p.2 : Nat), p.1]
theorem enumD_get {xs : List D} {i : Nat} {d : D} (h : (enumD xs)[i]? = some d) : ∃ x, xs[i]? = some x ∧ d = .tup [.int (i : Nat), x] := by
  unfold enumD at h
  rw [List.getElem?_map, List.getElem?_zipIdx] at h
  cases e : xs[i]? with
  | none => rw [e] at h; cases h
  | some x =>
    rw [e] at h
    simp at h
    exact ⟨x, rfl, h.symm⟩
theorem enumD_length (xs : List D) : (enumD xs).length = xs.length := by unfold enumD; simp
theorem iterOk_enum {K : PySem.W.Frag} {p : Addr} {xs : List D} {ws : List V} (hs : W.S p = some (.lst ws)) (r : RepL W xs ws) : IterOk (Ite K p) (enumD xs) W := fun H hS i => by
  have hp := hS _ _ hs
  refine ⟨fun d e => ?_, fun hi => ⟨ws, SqL.of hp, by rw [r.length, ← enumD_length xs]; exact hi⟩⟩
  obtain ⟨z, hz, ed⟩ := enumD_get e
  subst ed
  obtain ⟨w, hw, rw'⟩ := r.get hz
  refine ⟨⟨ws, w, SqL.of hp, hw⟩, fun x H' ⟨q, y, ex, hq, eH, hy⟩ => ?_⟩
  have := hy ws (SqL.of hp)
  rw [hw] at this
  cases this
  exact .inr ⟨q, _, _, rfl, ex, hq, eH, RepL.cons (by simp [Rep]) (RepL.cons rw' RepL.nil)⟩
@[simp] def wIE (f : WE) : WI := fun vs Q => f vs fun lo vs1 => match lo.dat? with
  | some (.lst xs) => Q (enumD xs) vs1
  | _ => False
theorem vi_enum {p tpos : Pos} {elts : List Expr} {kk : Nat} (hg : Gl X "enumerate") (hm : X.mg "enumerate" = none) (ha : VE T X a fa) (hs : starEach [a] X.env = [(false, eval a X.env)] := by rfl) :
    VI T X (.Tuple elts kk tpos) (.Call (.Name "enumerate" p) [a] [] pos) (wIE fa) :=
  .of (pi_enum hg hm (pa_cons ha.pe pa_nil hs) hs) fun W0 H0 W H O vs σ tm Q Q' hf R k => ha.sn W0 H0 W H O vs σ tm _ _ hf R fun W1 H1 O1 vs1 v lo l1 q1 R1 => by
    split at q1
    · rename_i xs e
      obtain ⟨W2, l2, rd, R2⟩ := R1.share e
      obtain ⟨p, ws, ep, hs, r⟩ := rd
      subst ep
      exact ⟨p, ws, rfl, SqL.of (R2.Sget hs), k W2 H1 O1 vs1 _ _ (l1.trans l2) q1 (iterOk_enum hs r) R2⟩
    · exact q1.elim
def zipD (xs ys : List D) : List D := (xs.zip ys).map fun p => D.tup [p.1, p.2]
theorem zipD_get {xs ys : List D} {i : Nat} {d : D} (h : (zipD xs ys)[i]? = some d) : ∃ x y, xs[i]? = some x ∧ ys[i]? = some y ∧ d = .tup [x, y] := by
  unfold zipD at h
  rw [List.getElem?_map] at h
  cases e : (xs.zip ys)[i]? with
  | none => rw [e] at h; cases h
  | some p =>
    rw [e] at h
    simp at h
    rw [List.getElem?_zip_eq_some] at e
    exact ⟨p.1, p.2, e.1, e.2, h.symm⟩
theorem zipD_length (xs ys : List D) : (zipD xs ys).length = min xs.length ys.length := by unfold zipD; simp
theorem iterOk_zip {K : PySem.W.Frag} {p q : Addr} {xs ys : List D} {ws us : List V} (hs : W.S p = some (.lst ws)) (r : RepL W xs ws) (hs2 : W.S q = some (.lst us)) (r2 : RepL W ys us) : IterOk (Itz K p q) (zipD xs ys) W := fun H hS i => by
  have hp := hS _ _ hs
  have hq := hS _ _ hs2
  refine ⟨fun d e => ?_, fun hi => ⟨ws, us, SqL.of hp, SqL.of hq, by rw [r.length, r2.length]; rw [zipD_length] at hi; omega⟩⟩
  obtain ⟨x, y, hx, hy, ed⟩ := zipD_get e
  subst ed
  obtain ⟨w, hw, rw'⟩ := r.get hx
  obtain ⟨u, hu, ru⟩ := r2.get hy
  refine ⟨⟨ws, us, w, u, SqL.of hp, SqL.of hq, hw, hu⟩, fun z H' ⟨t, x', y', ez, ht, eH, hx', hy'⟩ => ?_⟩
  have e1 := hx' ws (SqL.of hp)
  rw [hw] at e1
  cases e1
  have e2 := hy' us (SqL.of hq)
  rw [hu] at e2
  cases e2
  exact .inr ⟨t, _, _, rfl, ez, ht, eH, RepL.cons rw' (RepL.cons ru RepL.nil)⟩
@[simp] def wIZ (f g : WE) : WI := fun vs Q => f vs fun lo vs1 => match lo.dat? with
  | some (.lst xs) => g vs1 fun lo2 vs2 => match lo2.dat? with
    | some (.lst ys) => Q (zipD xs ys) vs2
    | _ => False
  | _ => False
theorem vi_zip {p tpos : Pos} {elts : List Expr} {kk : Nat} (hg : Gl X "zip") (hm : X.mg "zip" = none) (ha : VE T X a fa) (hb : VE T X b fb) (hs : starEach [a, b] X.env = (false, eval a X.env) :: starEach [b] X.env := by rfl) (hs2 : starEach [b] X.env = (false, eval b X.env) :: starEach [] X.env := by rfl) (hpl : (backTo pos (starEach [b] X.env)).any (·.1) = false := by rfl) :
    VI T X (.Tuple elts kk tpos) (.Call (.Name "zip" p) [a, b] [] pos) (wIZ fa fb) :=
  .of (pi_zip hg hm (pa_cons ha.pe (pa_cons hb.pe pa_nil hs2) hs) hs hpl) fun W0 H0 W H O vs σ tm Q Q' hf R k => ha.sn W0 H0 W H O vs σ tm _ _ hf R fun W1 H1 O1 vs1 v lo l1 q1 R1 => by
    split at q1
    · rename_i xs e
      obtain ⟨W2, l2, rd, R2⟩ := R1.share e
      refine hb.sn W0 H0 W2 H1 O1 vs1 σ tm _ _ q1 R2 fun W3 H3 O3 vs3 w lo2 l3 q3 R3 => ?_
      split at q3
      · rename_i ys e2
        obtain ⟨W4, l4, rd2, R4⟩ := R3.share e2
        obtain ⟨p, ws, ep, hs, r⟩ := Rep.mono (l3.trans l4) rd
        obtain ⟨q, us, eq, hs2, r2⟩ := rd2
        subst ep eq
        exact ⟨p, q, ws, us, rfl, SqL.of (R4.Sget hs), SqL.of (R4.Sget hs2), k W4 H3 O3 vs3 _ _ (((l1.trans l2).trans l3).trans l4) q3 (iterOk_zip hs r hs2 r2) R4⟩
      · exact q3.elim
    · exact q1.elim
/-! ### for -/
def wLoop (tg : Tg) (body : WS) : List D → VS → EndsV → Prop
  | [], vs, E => E.nx vs
  | d :: ds, vs, E => match bindT tg d vs.env with
    | some env' => body { vs with env := env' } { E with nx := fun vs' => wLoop tg body ds vs' E, ct := fun vs' => wLoop tg body ds vs' E, bk := E.nx }
    | none => False
@[simp] def wFor (wi : WI) (tg : Tg) (body : WS) : WS := fun vs E => wi vs fun xs vs1 => wLoop tg body xs vs1 E
/-- an item comes, and goes to the target -/
theorem item_in {tg : Tg} {gt : TG} {xs : List D} {J : It} {i : Nat} {d : D} {x : V} {H' : Hp} {env' : List (Option Lo)} {Q : St → Hp → Prop} (hg : SndG T gt tg) (R : Rel T W0 H0 W H O vs σ tm) (io : IterOk J xs W) (e : xs[i]? = some d) (y : J.yld i H x H') (eb : bindT tg d vs.env = some env')
    (k : ∀ W' H'' O' σ', Le W W' → Agree tg.slots σ σ' → Rel T W0 H0 W' H'' O' { vs with env := env' } σ' tm → Q σ' H'') : gt x σ H' Q := by
  have hS : ∀ a o, W.S a = some o → H a = some o := fun a o q => R.Sget q
  rcases ((io H hS i).1 d e).2 x H' y with ⟨e1, r⟩ | ⟨p, ds, ws, e1, e2, e3, e4, r⟩
  · subst e1
    exact hg W0 H0 W _ O vs σ tm d x env' Q r eb R fun O' σ' ag R' => k W _ O' σ' (Le.refl W) ag R'
  · subst e1 e2 e4
    obtain ⟨W2, l2, rt, R2⟩ := R.tup e3 r
    exact hg W0 H0 W2 _ O vs σ tm _ _ env' Q rt eb R2 fun O' σ' ag R' => k W2 _ O' σ' l2 ag R'
theorem vp_for {tg : Tg} (hp : PassesOwn (model X.prog X.w) X.A X.env X.xe) (hc : X.calm = true) (hi : VI T X target iter wi) (hg : VG T X target tg) (hb : VPs T X sts f) (hs : ∀ x, foldedSetIterable iter X.env x = pure x := by intro _; rfl) :
    VP T X (.For target iter sts [] pos) (wFor wi tg f) :=
  .of (ps_for hp hc hi.pi hg.pg hb.ps hs) fun W0 H0 W H O vs σ tm E E' nb hf R C => hi.sn W0 H0 W H O vs σ tm _ _ hf R fun W1 H1 O1 vs1 J xs l1 q1 io R1 => by
    refine ⟨fun i m σ H => m = xs.length - i ∧ i ≤ xs.length ∧ ∃ W2 O2 vs2, Le W1 W2 ∧ Rel T W0 H0 W2 H O2 vs2 σ tm ∧ wLoop tg f (xs.drop i) vs2 E, ⟨xs.length, rfl, Nat.zero_le _, W1, O1, vs1, Le.refl _, R1, q1⟩, ?_⟩
    rintro i m σ2 H2 ⟨em, hi', W2, O2, vs2, l2, R2, q2⟩
    have hS : ∀ a o, W2.S a = some o → H2 a = some o := fun a o q => R2.Sget q
    have io2 := io.mono l2
    by_cases hlt : i < xs.length
    · have ed : xs[i]? = some xs[i] := List.getElem?_eq_getElem hlt
      rw [List.drop_eq_getElem_cons hlt] at q2
      unfold wLoop at q2
      split at q2
      · rename_i env' eb
        refine .inr ⟨((io2 H2 hS i).1 _ ed).1, fun σ' H' => ∃ W3 O3 vs3, Le W1 W3 ∧ Rel T W0 H0 W3 H' O3 vs3 σ' tm ∧ wLoop tg f (xs.drop (i + 1)) vs3 E, fun σ' H' ⟨W3, O3, vs3, l3, R3, q3⟩ => ⟨xs.length - (i + 1), by omega, rfl, hlt, W3, O3, vs3, l3, R3, q3⟩, fun x H' y => ?_⟩
        refine item_in hg.sn R2 io2 ed y eb fun W3 H3 O3 σ3 l3 ag R3 => ?_
        exact hb.sn W0 H0 W3 H3 O3 _ σ3 tm _ _ nb q2 R3
          ⟨fun W4 H4 O4 vs4 σ4 l4 q4 R4 => ⟨W4, O4, vs4, (l2.trans l3).trans l4, R4, q4⟩, C.rt, fun W4 H4 O4 vs4 σ4 l4 q4 R4 => C.nx W4 H4 O4 vs4 σ4 (((l1.trans l2).trans l3).trans l4) q4 R4, fun W4 H4 O4 vs4 σ4 l4 q4 R4 => ⟨W4, O4, vs4, (l2.trans l3).trans l4, R4, q4⟩⟩
      · exact q2.elim
    · have e : i = xs.length := by omega
      subst e
      rw [List.drop_length] at q2
      exact .inl ⟨(io2 H2 hS _).2 (Nat.le_refl _), C.nx W2 H2 O2 vs2 σ2 (l1.trans l2) q2 R2⟩
/-! ### while -/
def wWhile (c : WT) (body : WS) : WS := fun vs E => ∃ Inv : Nat → VS → Prop, (∃ m, Inv m vs) ∧ ∀ m vs, Inv m vs → c vs fun b vs1 => if b = true then body vs1 { E with nx := fun vs' => ∃ m', m' < m ∧ Inv m' vs', ct := fun vs' => ∃ m', m' < m ∧ Inv m' vs', bk := E.nx } else E.nx vs1
theorem vp_while {tc : WT} (hp : PassesOwn (model X.prog X.w) X.A X.env X.xe) (hc : VT T X c tc) (hb : VPs T X sts f) : VP T X (.While c sts [] pos) (wWhile tc f) :=
  .of (ps_while hp hc.pe hb.ps) fun W0 H0 W H O vs σ tm E E' nb hf R C => by
    obtain ⟨Inv, ⟨m0, i0⟩, turn⟩ := hf
    refine ⟨fun m σ H => ∃ W2 O2 vs2, Le W W2 ∧ Rel T W0 H0 W2 H O2 vs2 σ tm ∧ Inv m vs2, ⟨m0, W, O, vs, Le.refl W, R, i0⟩, ?_⟩
    rintro m σ2 H2 ⟨W2, O2, vs2, l2, R2, i2⟩
    refine hc.sn W0 H0 W2 H2 O2 vs2 σ2 tm _ _ (turn m vs2 i2) R2 fun W3 H3 O3 vs3 b l3 q3 R3 => ?_
    cases b with
    | false => exact C.nx W3 H3 O3 vs3 σ2 (l2.trans l3) q3 R3
    | true =>
      refine ⟨fun σ' H' => ∃ m', m' < m ∧ ∃ W2 O2 vs2, Le W W2 ∧ Rel T W0 H0 W2 H' O2 vs2 σ' tm ∧ Inv m' vs2, fun σ' H' q => q, ?_⟩
      exact hb.sn W0 H0 W3 H3 O3 vs3 σ2 tm _ _ nb q3 R3
        ⟨fun W4 H4 O4 vs4 σ4 l4 ⟨m', hm, q4⟩ R4 => ⟨m', hm, W4, O4, vs4, (l2.trans l3).trans l4, R4, q4⟩, C.rt, fun W4 H4 O4 vs4 σ4 l4 q4 R4 => C.nx W4 H4 O4 vs4 σ4 ((l2.trans l3).trans l4) q4 R4, fun W4 H4 O4 vs4 σ4 l4 ⟨m', hm, q4⟩ R4 => ⟨m', hm, W4, O4, vs4, (l2.trans l3).trans l4, R4, q4⟩⟩
end
end Vx

set_option Elab.async false
set_option maxRecDepth 100000
set_option linter.all false
/-! List comprehensions by value. -/
namespace Vx
open PySem L2

def wipeE (env : List (Option Lo)) : List Nat → List (Option Lo)
  | [] => env
  | v :: vs => (wipeE env vs).set v none
theorem wipeE_length (env : List (Option Lo)) : ∀ vs, (wipeE env vs).length = env.length
  | [] => rfl
  | v :: vs => by unfold wipeE; rw [List.length_set, wipeE_length env vs]
theorem wipeE_some {env : List (Option Lo)} {i : Nat} {x : Lo} : ∀ {vs : List Nat}, (wipeE env vs)[i]? = some (some x) → env[i]? = some (some x) ∧ i ∉ vs
  | [], h => ⟨h, by simp⟩
  | v :: vs, h => by
    unfold wipeE at h
    by_cases hi : v = i
    · subst hi
      by_cases hv : v < (wipeE env vs).length
      · rw [List.getElem?_set_self hv] at h; cases h
      · rw [List.getElem?_eq_none (by simpa using hv)] at h; cases h
    · rw [List.getElem?_set_ne hi] at h
      obtain ⟨h1, h2⟩ := wipeE_some h
      exact ⟨h1, by simp only [List.mem_cons, not_or]; exact ⟨fun e => hi e.symm, h2⟩⟩
theorem wipeE_out {env : List (Option Lo)} {i : Nat} : ∀ {vs : List Nat}, i ∉ vs → (wipeE env vs)[i]? = env[i]?
  | [], _ => rfl
  | v :: vs, h => by
    unfold wipeE
    rw [List.mem_cons, not_or] at h
    rw [List.getElem?_set_ne (fun e => h.1 e.symm), wipeE_out h.2]
theorem wipe_out' {σ : St} {i : Nat} : ∀ {vs : List Nat}, i ∉ vs → (wipe σ vs)[i]? = σ[i]?
  | [], _ => rfl
  | v :: vs, h => by
    unfold wipe
    rw [List.mem_cons, not_or] at h
    rw [List.getElem?_set_ne (fun e => h.1 e.symm), wipe_out' h.2]
theorem wipe_in {σ : St} {i : Nat} : ∀ {vs : List Nat}, i ∈ vs → i < σ.length → (wipe σ vs)[i]? = some none
  | [], h, _ => by simp at h
  | v :: vs, h, hl => by
    unfold wipe
    by_cases e : v = i
    · subst e
      rw [List.getElem?_set_self (by rw [wipe_length]; exact hl)]
    · rw [List.getElem?_set_ne e]
      rcases List.mem_cons.mp h with h | h
      · exact absurd h.symm e
      · exact wipe_in h hl
theorem wipe_agree {σ σ' : St} {l own : List Nat} (a : Agree l (wipe σ own) σ') (h : ∀ i ∈ l, i ∈ own) : wipe σ' own = wipe σ own := by
  have hl : σ'.length = σ.length := by rw [a.1, wipe_length]
  refine List.ext_getElem? fun i => ?_
  by_cases hi : i ∈ own
  · by_cases hlt : i < σ.length
    · rw [wipe_in hi hlt, wipe_in hi (by rw [hl]; exact hlt)]
    · rw [List.getElem?_eq_none (by rw [wipe_length]; omega), List.getElem?_eq_none (by rw [wipe_length]; omega)]
  · rw [wipe_out' hi, a.2 i fun q => hi (h i q)]
/-- no list of one's own at these names -/
@[simp] def clean (env : List (Option Lo)) (own : List Nat) : Bool := own.all fun i => match env[i]? with
  | some (some (.ow _)) => false
  | some (some (.dct _)) => false
  | some (some (.oo _ _ _)) => false
  | _ => true
section
variable {T : Th} {X : Cx} {W0 W W' W1 W2 : Wd} {H0 H H' H1 H2 : Hp} {O O' O1 O2 : Addr → Option Ow} {vs : VS} {σ : St} {tm : List (V × Lo)}
variable {a b c e target iter elt : Expr} {fa fb fc : WE} {pos : Pos} {es : List Expr} {st : Stmt} {sts : List Stmt} {f g : WS} {wi : WI}
theorem Rel.wipe (R : Rel T W0 H0 W H O vs σ tm) (own : List Nat) : Rel T W0 H0 W H O { vs with env := wipeE vs.env own } (L2.wipe σ own) tm := by
  refine ⟨R.ok, R.le, R.frame, R.grow, fun i lo q => ?_, R.tms, fun i ys q => R.nbe i ys (wipeE_some q).1, by rw [wipe_length, wipeE_length]; exact R.len⟩
  obtain ⟨h1, h2⟩ := wipeE_some q
  obtain ⟨v, hv, r⟩ := R.env i lo h1
  exact ⟨v, by rw [wipe_out' h2]; exact hv, r⟩
theorem Rel.unwipe {own : List Nat} {n : Nat} {tm2 : List (V × Lo)} (R1 : Rel T W0 H0 W1 H1 O1 vs σ tm) (l : Le W1 W2) (cl : clean vs.env own = true) (R2 : Rel T W0 H0 W2 H2 O2 ⟨wipeE vs.env own, n⟩ (L2.wipe σ own) tm2) :
    Rel T W0 H0 W2 H2 O2 ⟨vs.env, n⟩ σ tm2 := by
  refine ⟨R2.ok, R2.le, R2.frame, R2.grow, fun i lo q => ?_, R2.tms, R1.nbe, R1.len⟩
  by_cases hi : i ∈ own
  · obtain ⟨v, hv, r⟩ := R1.env i lo q
    have c := List.all_eq_true.mp cl i hi
    have q' : vs.env[i]? = some (some lo) := q
    rw [q'] at c
    refine ⟨v, hv, ?_⟩
    cases lo with
    | sh d => exact Rep.mono l r
    | ow xs => cases c
    | bo xs => exact absurd q (R1.nbe i xs)
    | dct kvs => cases c
    | fx a d => exact ⟨r.1, Rep.mono l r.2⟩
    | oo p qs xss => cases c
    | pool =>
      show v = .ref W2.P
      rw [l.p]; exact r
  · obtain ⟨v, hv, r⟩ := R2.env i lo (by show (wipeE vs.env own)[i]? = _; rw [wipeE_out hi]; exact q)
    rw [wipe_out' hi] at hv
    exact ⟨v, hv, r⟩
/-- a waiting list of one's own is written -/
theorem Rel.writeTop {v : V} {xs ys : List D} {us ws : List V} {p : Addr} (R : Rel T W0 H0 W H O vs σ ((.ref p, .ow xs) :: tm)) (r : RepL W ys us) : Rel T W0 H0 W (upd H p (.lst us)) O vs σ ((.ref p, .ow ys) :: tm) := by
  obtain ⟨p', ws, e, ho, hd, h0, hp, r0⟩ := R.top
  cases e
  have nD : ∀ a, W.D a → a ≠ p := fun a q z => hd (z ▸ q)
  have ok : WOk T W (upd H p (.lst us)) vs.n := by
    refine ⟨fun a o q => ?_, fun a r q => ?_, fun a q => ?_, R.ok.pd, R.ok.i, ?_⟩
    · obtain ⟨h1, h2, h3⟩ := R.ok.s a o q
      exact ⟨by rw [upd_ne (R.ok.sne q hp hd)]; exact h1, h2, h3⟩
    · obtain ⟨h1, h2, h3⟩ := R.ok.r a r q
      exact ⟨T.mono W W H _ a r (Le.refl W) (fun b hb _ => upd_ne (nD b hb)) h1, h2, h3⟩
    · rw [upd_ne (nD a q)]; exact R.ok.d a q
    · obtain ⟨a, b, c, h1, h2⟩ := R.ok.p
      exact ⟨a, b, c, by rw [upd_ne (nD _ R.ok.pd)]; exact h1, T.psm (Le.refl W) (fun b hb _ => upd_ne (nD b hb)) h2⟩
  have K : Keep W W H (upd H p (.lst us)) H0 O O (fun k => k ≠ .inr tm.length) := by
    have nk : ∀ q k, O q = some k → k ≠ .inr tm.length → q ≠ p := fun q k hq hk z => by
      subst z
      rw [ho] at hq
      exact hk (Option.some.inj hq).symm
    refine ⟨Le.refl W, fun q k ws hk ho' hd' h0' hq => ⟨ho', hd', ?_⟩, fun q i ws ho' hd' h0' hq => ⟨?_, .inl ⟨ho', hd'⟩⟩, fun q ws hs hq => ?_⟩
    · rw [upd_ne (nk q k ho' hk)]; exact hq
    · rw [upd_ne (nk q _ ho' (by simp))]; exact hq
    · rw [upd_ne (R.ok.sne hs hp hd)]; exact hq
  refine ⟨ok, R.le, fun a o h1 h2 => ?_, ⟨R.grow.1, T.trans W0 W H0 H _ R.le R.grow.2 (R.ok.adv fun b hb _ => upd_ne (nD b hb))⟩, envKeep K (by simp) R.env, ⟨⟨p, us, rfl, ho, hd, h0, upd_same, r⟩, R.tms.2.keep K fun j hj z => ?_⟩, R.nbe, R.len⟩
  · rw [upd_ne]
    · exact R.frame a o h1 h2
    · intro z; subst z; rw [h0] at h2; cases h2
  · have z' : j = tm.length := by simpa using z
    omega
/-! ### [elt for target in iter if cond] -/
def wMapL (own : List Nat) (tg : Tg) (cnd : WT) (elt : WE) : List D → VS → List D → (List D → Nat → Prop) → Prop
  | [], vs, acc, Q => Q acc vs.n
  | d :: ds, vs, acc, Q => match bindT tg d vs.env with
    | some env' => cnd ⟨env', vs.n⟩ fun b vs1 => if b = true then elt vs1 fun lo vs2 => match lo.dat? with
        | some y => acc.length < sizeLine ∧ wipeE vs2.env own = vs.env ∧ wMapL own tg cnd elt ds ⟨vs.env, vs2.n⟩ (acc ++ [y]) Q
        | none => False
      else wipeE vs1.env own = vs.env ∧ wMapL own tg cnd elt ds ⟨vs.env, vs1.n⟩ acc Q
    | none => False
@[simp] def wComp (wi : WI) (own : List Nat) (tg : Tg) (cnd : WT) (elt : WE) : WE := fun vs Q => wi vs fun xs vs1 => clean vs1.env own = true ∧ wMapL own tg cnd elt xs ⟨wipeE vs1.env own, vs1.n⟩ [] fun ds n' => Q (.ow ds) ⟨vs1.env, n'⟩
@[simp] def wYes : WT := fun vs Q => Q true vs
theorem sn_yes : SndT T L2.tYes wYes := fun W0 H0 W H O vs σ tm Q Q' hf R k => k W H O vs true (Le.refl W) hf R
theorem sn_comp {ti : TI} {gt : TG} {tt : TT} {te : TE} {own : List Nat} {tg : Tg} {cnd : WT} {fe : WE} (hi : SndI T ti wi) (hg : SndG T gt tg) (ht : SndT T tt cnd) (he : SndE T te fe) (hsl : ∀ i ∈ tg.slots, i ∈ own) : SndE T (tLc ti gt tt te own) (wComp wi own tg cnd fe) := fun W0 H0 W H O vs σ tm Q Q' hf R k =>
  hi W0 H0 W H O vs σ tm _ _ hf R fun W1 H1 O1 vs1 J xs l1 q1 io R1 Dl hDl => by
    obtain ⟨cl, q1⟩ := q1
    have R2 := (R1.wipe own).fresh (p := Dl) (xs := []) (ws := []) hDl RepL.nil
    refine ⟨fun i m H => m = xs.length - i ∧ i ≤ xs.length ∧ ∃ W2 O2 n2 acc, Le W1 W2 ∧ Rel T W0 H0 W2 H O2 ⟨wipeE vs1.env own, n2⟩ (wipe σ own) ((.ref Dl, .ow acc) :: tm) ∧ wMapL own tg cnd fe (xs.drop i) ⟨wipeE vs1.env own, n2⟩ acc fun ds n' => Q (.ow ds) ⟨vs1.env, n'⟩,
      ⟨xs.length, rfl, Nat.zero_le _, W1, _, vs1.n, [], Le.refl _, R2, q1⟩, ?_⟩
    rintro i m H2 ⟨em, hi', W2, O2, n2, acc, l2, R2, q2⟩
    have hS : ∀ a o, W2.S a = some o → H2 a = some o := fun a o q => R2.Sget q
    have io2 := io.mono l2
    by_cases hlt : i < xs.length
    · have ed : xs[i]? = some xs[i] := List.getElem?_eq_getElem hlt
      rw [List.drop_eq_getElem_cons hlt] at q2
      unfold wMapL at q2
      split at q2
      · rename_i env' eb
        refine .inr ⟨((io2 H2 hS i).1 _ ed).1, fun H' => ∃ W3 O3 n3 acc, Le W1 W3 ∧ Rel T W0 H0 W3 H' O3 ⟨wipeE vs1.env own, n3⟩ (wipe σ own) ((.ref Dl, .ow acc) :: tm) ∧ wMapL own tg cnd fe (xs.drop (i + 1)) ⟨wipeE vs1.env own, n3⟩ acc fun ds n' => Q (.ow ds) ⟨vs1.env, n'⟩,
          fun H' ⟨W3, O3, n3, acc, l3, R3, q3⟩ => ⟨xs.length - (i + 1), by omega, rfl, hlt, W3, O3, n3, acc, l3, R3, q3⟩, fun x H' y => ?_⟩
        refine item_in hg R2 io2 ed y eb fun W3 H3 O3 σ3 l3 ag R3 => ⟨wipe_agree ag hsl, ?_⟩
        have back : ∀ {W4 : Wd} {H4 : Hp} {O4 : Addr → Option Ow} {vs4 : VS} {acc' : List D}, Rel T W0 H0 W4 H4 O4 vs4 σ3 ((.ref Dl, .ow acc') :: tm) → wipeE vs4.env own = wipeE vs1.env own → Rel T W0 H0 W4 H4 O4 ⟨wipeE vs1.env own, vs4.n⟩ (wipe σ own) ((.ref Dl, .ow acc') :: tm) := fun {W4 H4 O4 vs4 acc'} R4 ew => by
          have R5 := R4.wipe own
          rw [wipe_agree ag hsl, ew] at R5
          exact R5
        refine ht W0 H0 W3 H3 O3 _ σ3 _ _ _ q2 R3 fun W4 H4 O4 vs4 bb l4 q4 R4 => ?_
        cases bb with
        | false => exact ⟨W4, O4, vs4.n, acc, (l2.trans l3).trans l4, back R4 q4.1, q4.2⟩
        | true =>
          refine he W0 H0 W4 H4 O4 vs4 σ3 _ _ _ q4 R4 fun W5 H5 O5 vs5 v lo l5 q5 R5 => ?_
          split at q5
          · rename_i y ey
            obtain ⟨q51, q52, q53⟩ := q5
            obtain ⟨W6, l6, ry, R6⟩ := R5.share ey
            obtain ⟨p', ws, e1, ho, hd, h0, hp, r0⟩ := R6.top
            have e1' : V.ref Dl = .ref p' := e1
            cases e1'
            refine ⟨ws, hp, by rw [r0.length]; exact q51, ?_⟩
            have R7 := R6.writeTop (v := v) (ws := ws) (r0.append (RepL.cons ry RepL.nil))
            exact ⟨W6, O5, vs5.n, acc ++ [y], (((l2.trans l3).trans l4).trans l5).trans l6, back R7 q52, q53⟩
          · exact q5.elim
      · exact q2.elim
    · have ei : i = xs.length := by omega
      subst ei
      rw [List.drop_length] at q2
      refine .inl ⟨(io2 H2 hS _).2 (Nat.le_refl _), ?_⟩
      exact k W2 H2 O2 _ _ _ (l1.trans l2) q2 (R1.unwipe l2 cl R2)
structure VTs (T : Th) (X : Cx) (ifs : List Expr) (f : WT) : Prop where
  pt : PTs X ifs (tT T f)
theorem vts_nil : VTs T X [] wYes := ⟨⟨fun pins s σ H Q I ⟨W0, H0, W, O, vs, tm, Q1, hf, R, k⟩ => pts_nil.run pins s σ H Q I (sn_yes W0 H0 W H O vs σ tm Q1 Q hf R k)⟩⟩
theorem vts_one {tc : WT} (h : VT T X c tc) : VTs T X [c] tc := ⟨pts_one h.pe⟩
theorem VTs.sn {ifs : List Expr} {f : WT} (_ : VTs T X ifs f) : SndT T (tT T f) f := fun W0 H0 W H O vs σ tm Q Q' hf R k => ⟨W0, H0, W, O, vs, tm, Q, hf, R, k⟩
theorem sndG_tG {tg : Tg} : SndG T (tG T tg) tg := fun W0 H0 W H O vs σ tm d v env' Q a b c e => ⟨W0, H0, W, O, vs, tm, d, env', a, b, c, e⟩
theorem sndT_tT {f : WT} : SndT T (tT T f) f := fun W0 H0 W H O vs σ tm Q Q' hf R k => ⟨W0, H0, W, O, vs, tm, Q, hf, R, k⟩
theorem sndE_tE {f : WE} : SndE T (tE T f) f := fun W0 H0 W H O vs σ tm Q Q' hf R k => ⟨W0, H0, W, O, vs, tm, Q, hf, R, k⟩
theorem ve_comp {ifs : List Expr} {scope : Scope} {own : List (Str × Nat)} {tg : Tg} {cnd : WT} {fe : WE} (hc : X.calm = true) (hN : X.N.Nodup) (hi : VI T X target iter wi) (ok : BlkOk X.N X.env.scope scope own)
    (hg : ∀ (s : Shared) (H : Hp) (C : Addr) (cl : List (Str × Addr)) (fp : List Addr), VG T (X.blk s H scope (compEnvC scope cl C X.env) fp) target tg) (ht : ∀ (s : Shared) (H : Hp) (C : Addr) (cl : List (Str × Addr)) (fp : List Addr), VTs T (X.blk s H scope (compEnvC scope cl C X.env) fp) ifs cnd)
    (he : ∀ (s : Shared) (H : Hp) (C : Addr) (cl : List (Str × Addr)) (fp : List Addr), VE T (X.blk s H scope (compEnvC scope cl C X.env) fp) elt fe) (hsl : ∀ i ∈ tg.slots, i ∈ own.map (·.2) := by decide) (hs : ∀ x, foldedSetIterable iter X.env x = pure x := by intro _; rfl) :
    VE T X (.ListComp elt [⟨target, iter, ifs, 0⟩] scope pos) (wComp wi (own.map (·.2)) tg cnd fe) :=
  .of (pe_lc hc hN hi.pi ok (fun s H C cl fp => (hg s H C cl fp).pg) (fun s H C cl fp => (ht s H C cl fp).pt) (fun s H C cl fp => (he s H C cl fp).pe) hs) (sn_comp hi.sn sndG_tG sndT_tT sndE_tE hsl)
/-- name = [..], the name a local -/
theorem vp_setComp (i : Nat) {y : Str} {py spos : Pos} {ifs : List Expr} {scope : Scope} {own : List (Str × Nat)} {tg : Tg} {cnd : WT} {fe : WE} (hc : X.calm = true) (hN : X.N.Nodup) (hy : X.N[i]? = some y) (hyl : X.env.scope.names.lookup y = some .local)
    (hsw : swapsWith (.ListComp elt [⟨target, iter, ifs, 0⟩] scope pos) (some (.Name y py)) spos.line X.env = pure true) (hi : VI T X target iter wi) (ok : BlkOk X.N X.env.scope scope own)
    (hg : ∀ (s : Shared) (H : Hp) (C : Addr) (cl : List (Str × Addr)) (fp : List Addr), VG T (X.blk s H scope (compEnvC scope cl C X.env) fp) target tg) (ht : ∀ (s : Shared) (H : Hp) (C : Addr) (cl : List (Str × Addr)) (fp : List Addr), VTs T (X.blk s H scope (compEnvC scope cl C X.env) fp) ifs cnd)
    (he : ∀ (s : Shared) (H : Hp) (C : Addr) (cl : List (Str × Addr)) (fp : List Addr), VE T (X.blk s H scope (compEnvC scope cl C X.env) fp) elt fe) (hsl : ∀ i ∈ tg.slots, i ∈ own.map (·.2) := by decide) (hs : ∀ x, foldedSetIterable iter X.env x = pure x := by intro _; rfl) :
    VP T X (.Assign [.Name y py] (.ListComp elt [⟨target, iter, ifs, 0⟩] scope pos) spos) (wSet i (wComp wi (own.map (·.2)) tg cnd fe)) :=
  .of (ps_setLc hc hN hy hyl hsw hi.pi ok (fun s H C cl fp => (hg s H C cl fp).pg) (fun s H C cl fp => (ht s H C cl fp).pt) (fun s H C cl fp => (he s H C cl fp).pe) hs) fun W0 H0 W H O vs σ tm E E' nb hf R C =>
    sn_comp hi.sn sndG_tG sndT_tT sndE_tE hsl W0 H0 W H O vs σ tm _ _ hf R fun W1 H1 O1 vs1 v lo l1 q1 R1 => by
      obtain ⟨O2, R2⟩ := R1.store (Lo.noBo' q1.2.1) q1.1
      exact C.nx W1 H1 O2 _ _ l1 q1.2.2 R2
end
end Vx

set_option Elab.async false
set_option maxRecDepth 100000
set_option linter.all false
/-! A def by its body. -/
namespace Vx
open PySem PySem.Spec PyProof.Rows L2

/-- what a body says of its def -/
@[simp] def bodyF (len : Nat) (body : WS) : FS := fun los n P => body ⟨los.map some ++ List.replicate (len - los.length) none, n⟩ ⟨fun vs => P (.sh .non) vs.n, P, fun _ => False, fun _ => False⟩
section
variable {T : Th} {P : Program} {w : World} {K : PySem.W.Frag} {mg : Str → Option Value} {base : Heap}
/-- an argument is data or the pool -/
theorem noOwn {W : Wd} {k : Nat} : ∀ {los : List Lo} {vs : List V}, ArgsOk W vs los → ∀ (i : Nat) (lo : Lo), (∀ d, lo ≠ .sh d) → lo ≠ .pool → (los.map some ++ List.replicate k none)[i]? ≠ some (some lo)
  | [], _, _, i, lo, _, _, e => by
    simp at e
    have h := List.getElem?_replicate (n := k) (a := (none : Option Lo)) (i := i)
    rw [h] at e
    split at e <;> cases e
  | l :: los, [], q, _, _, _, _, _ => q.elim
  | l :: los, v :: vs, ⟨a, r⟩, 0, lo, h1, h2, e => by
    have e' : l = lo := by simpa using e
    subst e'
    cases l with
    | sh d => exact h1 d rfl
    | pool => exact h2 rfl
    | ow xs => exact a.elim
    | bo xs => exact a.elim
    | dct kvs => exact a.elim
    | fx a' d => exact a.elim
    | oo p qs xss => exact a.elim
  | l :: los, v :: vs, ⟨a, r⟩, i + 1, lo, h1, h2, e => noOwn r i lo h1 h2 (by simpa using e)
theorem args_env {W : Wd} {H : Hp} {O : Addr → Option Ow} {k : Nat} : ∀ {los : List Lo} {vs : List V}, ArgsOk W vs los → ∀ i lo, (los.map some ++ List.replicate k none)[i]? = some (some lo) → ∃ v, (vs.map some ++ List.replicate k none)[i]? = some (some v) ∧ LoOk W H H O (.inl i) v lo ∧ ∀ ys, lo ≠ .bo ys
  | [], [], _, i, lo, e => by
    simp at e
    have := List.getElem?_replicate (n := k) (a := (none : Option Lo)) (i := i)
    rw [this] at e
    split at e
    · cases e
    · cases e
  | [], v :: vs, q, _, _, _ => q.elim
  | _ :: _, [], q, _, _, _ => q.elim
  | l :: los, v :: vs, ⟨a, r⟩, 0, lo, e => by
    have e' : l = lo := by simpa using e
    subst e'
    refine ⟨v, by simp, ?_⟩
    cases l with
    | sh d => exact ⟨a, by simp⟩
    | pool => exact ⟨a, by simp⟩
    | ow xs => exact a.elim
    | bo xs => exact a.elim
    | dct kvs => exact a.elim
    | fx a' d => exact a.elim
    | oo p qs xss => exact a.elim
  | l :: los, v :: vs, ⟨a, r⟩, i + 1, lo, e => by
    obtain ⟨u, e1, q, nb⟩ := args_env (W := W) (H := H) (O := O) (k := k) r i lo (by simpa using e)
    refine ⟨u, by simpa using e1, ?_, nb⟩
    cases lo with
    | sh d => exact q
    | pool => exact q
    | bo xs => exact absurd rfl (nb xs)
    | fx a' d => exact q
    | oo p qs xss => exact (noOwn (k := k) r i (.oo p qs xss) (fun d z => by cases z) (fun z => by cases z) (by simpa using e)).elim
    | dct kvs => exact (noOwn (k := k) r i (.dct kvs) (fun d z => by cases z) (fun z => by cases z) (by simpa using e)).elim
    | ow xs =>
      exact (noOwn (k := k) r i (.ow xs) (fun d z => by cases z) (fun z => by cases z) (by simpa using e)).elim
theorem rel_start {W : Wd} {H : Hp} {n : Nat} {los : List Lo} {vs : List V} {N : List Str} (ok : WOk T W H n) (as : ArgsOk W vs los) (hl : vs.length ≤ N.length) :
    Rel T W H W H (fun _ => none) ⟨los.map some ++ List.replicate (N.length - los.length) none, n⟩ (L2.start N vs) [] := by
  have le := as.length
  refine ⟨ok, Le.refl W, fun _ _ _ e => e, ⟨fun _ e => .inl e, ok.adv fun _ _ _ => rfl⟩, fun i lo e => ?_, trivial, fun i ys e => ?_, ?_⟩
  · obtain ⟨v, e1, q, _⟩ := args_env (H := H) (O := fun _ => none) as i lo e
    unfold L2.start
    rw [le]
    exact ⟨v, e1, q⟩
  · obtain ⟨v, e1, q, nb⟩ := args_env (H := H) (O := fun _ => none) as i _ e
    exact nb ys rfl
  · unfold L2.start
    simp only [List.length_append, List.length_map, List.length_replicate]
    omega
/-- THE RULE for a def whose body is read by value -/
theorem fnok_of {x qual : Str} {st : Stmt} {f : Addr} {fd : FuncData} {N ps : List Str} {k : Nat} {body : WS} (F : Fun K x qual st f fd) (S : FnScope N ps (defScope st))
    (hb : ∀ (cdv : Value) (A : Around) (outer : List Env) (s : Shared) (H : Hp) (E : XK), Room k (A.deeper (envOfC qual (defScope st) s.heap.objs.size f cdv)) →
      VPs T (cxOf CX0 P w K mg base N qual (defScope st) f cdv A outer s H E).nox (defBody st) body) :
    FnOk P w K mg base CX0 (k + 1) f fd ps (spV T ps.length (bodyF N.length body)) := by
  have hlen : ps.length ≤ N.length := by
    rw [← S.pre, List.length_take]
    omega
  refine F.ok S (fun vs H Q E h => ?_) (fun cdv A outer s H vs Q E hr h => ?_)
  · obtain ⟨W, n, los, P, e, _⟩ := h
    exact e
  · obtain ⟨W, n, los, P', e, ok, as, hf, k⟩ := h
    refine ⟨_, (hb cdv A outer s H E hr).ps, W, H, W, fun _ => none, ⟨los.map some ++ List.replicate (N.length - los.length) none, n⟩, [], _, fun _ h => by simp at h, hf, rel_start ok as (by omega), ?_⟩
    refine ⟨fun W' H' O' vs' σ' l q R => ?_, fun W' H' v lo n' q r => ?_, fun W' H' O' vs' σ' l q R => q.elim, fun W' H' O' vs' σ' l q R => q.elim⟩
    · exact k _ _ W' H' .non q R.after (by show Rep W' .non .non; simp [Rep])
    · exact k lo n' W' H' v q r.af r.rt
theorem fnv_of {x qual : Str} {st : Stmt} {f : Addr} {fd : FuncData} {N ps : List Str} {k m : Nat} {body : WS} (F : Fun K x qual st f fd) (S : FnScope N ps (defScope st)) (hm : mg x = some (.ref f)) (hbd : Binds K fd ps []) (hps : ps.length = m)
    (hb : ∀ (cdv : Value) (A : Around) (outer : List Env) (s : Shared) (H : Hp) (E : XK), Room k (A.deeper (envOfC qual (defScope st) s.heap.objs.size f cdv)) →
      VPs T (cxOf CX0 P w K mg base N qual (defScope st) f cdv A outer s H E).nox (defBody st) body) : FnV T P w K mg base CX0 (k + 1) x m (bodyF N.length body) := by
  subst hps
  exact ⟨f, fd, ps, fnok_of F S hb, hm, F.kp, hbd⟩
end
end Vx

set_option Elab.async false
set_option maxRecDepth 100000
set_option linter.all false
/-! Rules and rows, plainly. -/
namespace Rw

abbrev Word := List Nat
abbrev Rules := List (List Nat)
/-- all letters exchanged -/
def ex (r : Rules) : Word → Word
  | [] => []
  | a :: w => r.getD a [] ++ ex r w
theorem ex_append (r : Rules) : ∀ (u v : Word), ex r (u ++ v) = ex r u ++ ex r v
  | [], v => rfl
  | a :: u, v => by show r.getD a [] ++ ex r (u ++ v) = _; rw [ex_append r u v, ← List.append_assoc]; rfl
/-- how long the words of all letters are behind so many steps -/
def lens (r : Rules) : Nat → List Nat
  | 0 => r.map fun _ => 1
  | k + 1 => r.map fun w => (w.map fun a => (lens r k).getD a 0).sum
/-- pieces of a word, cut ahead of each 0 -/
def cut : Word → List Word
  | [] => []
  | a :: w => match w with
    | [] => [[a]]
    | b :: _ => if b = 0 then [a] :: cut w else match cut w with
      | [] => [[a]]
      | p :: ps => (a :: p) :: ps
/-- the word of 0 behind steps, till it has 0 twice -/
def grow (r : Rules) : Nat → Word → Word
  | 0, w => w
  | n + 1, w => if w.count 0 < 2 then grow r n (ex r w) else w
def first (r : Rules) : Word := (cut (grow r r.length [0])).headD []
/-- one piece met: its number, the known ones behind -/
def meet (known : List Word) (p : Word) : List Word × Nat := if p ∈ known then (known, known.idxOf p) else (known ++ [p], known.length)
def meets (known : List Word) : List Word → List Word × List Nat
  | [] => (known, [])
  | p :: ps => let a := meet known p; let b := meets a.1 ps; (b.1, a.2 :: b.2)
/-- the returns and their rules, one by one -/
def bfs (r : Rules) : Nat → List Word → Nat → Rules → List Word × Rules
  | 0, known, _, rules => (known, rules)
  | fuel + 1, known, i, rules => match known[i]? with
    | none => (known, rules)
    | some w => let b := meets known (cut (ex r w)); bfs r fuel b.1 (i + 1) (rules ++ [b.2])
def FUEL : Nat := 1048576
def both (r : Rules) : List Word × Rules := bfs r FUEL [first r] 0 []
def rets (r : Rules) : List Word := (both r).1
def below (r : Rules) : Rules := (both r).2

/-! ### mixed, good -/
def maskOf (w : Word) : Nat := w.foldl (fun m a => m ||| 2 ^ a) 0
def joined (mask : Nat) (masks : List Nat) : Nat := (masks.zipIdx).foldl (fun m p => if mask.testBit p.2 then m ||| p.1 else m) 0
def stepM (masks : List Nat) : List Nat := masks.map fun m => joined m masks
/-- by doubling, as the program does it -/
def mixM (n : Nat) : Nat → Nat → List Nat → List Nat
  | 0, _, masks => masks
  | f + 1, steps, masks => if steps < n * n then mixM n f (2 * steps) (stepM masks) else masks
def mixed (r : Rules) : Bool := (mixM r.length (r.length * r.length) 1 (r.map maskOf)).all fun m => m == 2 ^ r.length - 1
/-- rules as the program takes them -/
def good (r : Rules) : Bool := decide (r ≠ []) && (r.all fun w => decide (w ≠ [])) && (r.all fun w => w.all fun a => decide (a < r.length)) && decide ((r.getD 0 []).getD 0 1 = 0) && decide (2 ≤ (r.getD 0 []).length) && mixed r
end Rw

set_option Elab.async false
set_option maxRecDepth 100000
set_option linter.all false
/-! A dict of one's own whose keys are tuples of whole numbers. -/
namespace Vx
open PySem PySem.Spec PyProof.Rows L2

/-- {k: v}, the key a tuple -/
def tDisp1 (tk tv : TE) : TE := fun σ H Q => ∀ p, H p = none → tk σ (upd H p (.dT [])) fun x H1 => tv σ H1 fun y H2 => H2 p = some (.dT []) ∧ ∃ b ks, x = .ref b ∧ H2 b = some (.tup (ks.map kV)) ∧ Q (.ref p) (upd H2 p (.dT [(ks, y)]))
theorem pe_disp1 {X : Cx} {k v : Expr} {pos : Pos} {tk tv : TE} (hu : X.A.units + 1 < cLine) (hk : PE X k tk) (hv : PE X v tv) : PE X (.Dict [some k] [v] pos) (tDisp1 tk tv) := by
  refine ⟨fun pins s σ H Q I q => ?_⟩
  have hn := I.hok.fresh (Nat.le_refl s.heap.objs.size)
  have I1 := I.laid (a := s.heap.objs.size) (o := .dT []) (h' := s.heap.push { cls := .type "dict", data := .dict #[] }) (t' := s.toks) (fun _ _ q => Heap.get?_push_of_some _ q) (Nat.le_refl _) (dt_empty s.heap I.big)
  have q := q _ hn
  show wpAny _ _ (eval (.Dict [some k] [v] pos) X.env) _ _ s
  rw [arm_eval_Dict, zip_pairTrees [some k] [v] X.env pos rfl rfl, dictDisplay_pairs (pairTrees [some k] [v] X.env pos) (by simp [pairTrees]) (by simp [pairTrees])]
  refine wpAny_bind (wpAny_standAt (wpAny_bind (wpAny_subDictH (knd := tupleKind (mixKind X.prog X.w)) (show X.A.units < cLine by omega) (by simp [pairTrees]) ?_)))
  refine pairTrees_cons_walk (thn (hk.run pins _ σ _ _ I1 q) fun u s1 ⟨x, H1, J1, rx, q1⟩ => thn (hv.run pins s1 σ H1 _ J1 q1) fun w2 s2 ⟨y, H2, J2, ry, q2⟩ => pairTrees_nil_walk ?_)
  obtain ⟨e, b, ks, ex, eb, q3⟩ := q2
  subst ex
  cases (show u = Value.ref b from rx)
  obtain ⟨z, hd, xs, rel, dd⟩ := dt_of J2.hok e
  have hx : xs = [] := by cases rel; rfl
  subst hx
  refine ⟨[(ks, b, w2)], ⟨rfl, rfl, key_of J2.hok eb, trivial⟩, dd, fun h' tk' dd' hs => wpAny_pure ⟨.ref s.heap.objs.size, _, ?_, rfl, q3⟩⟩
  obtain ⟨o, es, ep, ho, h2, h3, h4, _, h5⟩ := dd'
  have hst : storedAllH [] [(ks, b, w2)] = [(ks, b, w2)] := rfl
  rw [hst] at h4 h5
  have rel1 : KT (upd H2 s.heap.objs.size (.dT [(ks, y)])) [(ks, y)] [(ks, b, w2)] := .cons ⟨rfl, by rw [upd_ne (ne_of eb e (fun z => nomatch z))]; exact eb, ry⟩ .nil
  exact d_write J2 (by rw [e]; exact True.intro) hs ⟨o, ho⟩ ⟨by rw [sizeLine_eq]; exact (by decide : (1 : Nat) ≤ 16777216), hd, _, rel1, o, es, ep, ho, h2, h3, h4, h5⟩

section
variable {T : Th} {X : Cx} {W0 W W' : Wd} {H0 H H' : Hp} {O O' : Addr → Option Ow} {vs : VS} {σ : L2.St} {tm : List (V × Lo)}
/-- a new dict, a waiting value -/
theorem Rel.freshD (R : Rel T W0 H0 W H O vs σ tm) {p : Addr} (hp : H p = none) (kvs : List (List Int × Int)) :
    Rel T W0 H0 W (upd H p (dctO kvs)) (fun a => if a = p then some (.inr tm.length) else O a) vs σ ((.ref p, .dct kvs) :: tm) := by
  have R1 := R.alloc (o := dctO kvs) hp
  have ne : ∀ q o, H q = some o → q ≠ p := fun q o h => ne_of_none h hp
  have K : Keep W W H (upd H p (dctO kvs)) H0 O (fun a => if a = p then some (.inr tm.length) else O a) (fun _ => True) := by
    refine ⟨Le.refl W, fun q k us _ ho hd h0 hq => ⟨?_, hd, ?_⟩, fun q i us ho hd h0 hq => ⟨?_, .inl ⟨?_, hd⟩⟩, fun q us _ h => ?_⟩
    · show (if q = p then _ else O q) = _
      rw [if_neg (ne q _ hq)]; exact ho
    · rw [upd_ne (ne q _ hq)]; exact hq
    · rw [upd_ne (ne q _ hq)]; exact hq
    · show (if q = p then _ else O q) = _
      rw [if_neg (ne q _ hq)]; exact ho
    · rw [upd_ne (ne q _ h)]; exact h
  refine ⟨R1.ok, R1.le, R1.frame, R1.grow, envKeep K (fun _ => trivial) R.env, ⟨?_, R.tms.keep K fun _ _ => trivial⟩, R.nbe, R.len⟩
  exact ⟨p, rfl, if_pos rfl, R.noD hp, R.no0 hp, upd_same⟩

theorem WOk.wr {n : Nat} (ok : WOk T W H n) {p : Addr} {u u' : HO} (hp : H p = some u) (hd : ¬ W.D p) (hu : ∀ ws, u ≠ .tup ws := by intro ws e; cases e) : WOk T W (upd H p u') n := by
  have nD : ∀ a, W.D a → a ≠ p := fun a q z => hd (z ▸ q)
  refine ⟨fun a o q => ?_, fun a r q => ?_, fun a q => ?_, ok.pd, ok.i, ?_⟩
  · obtain ⟨h1, h2, h3⟩ := ok.s a o q
    exact ⟨by rw [upd_ne (ok.sne q hp hd hu)]; exact h1, h2, h3⟩
  · obtain ⟨h1, h2, h3⟩ := ok.r a r q
    exact ⟨T.mono W W H _ a r (Le.refl W) (fun b hb _ => upd_ne (nD b hb)) h1, h2, h3⟩
  · rw [upd_ne (nD a q)]; exact ok.d a q
  · obtain ⟨a, b, c, h1, h2⟩ := ok.p
    exact ⟨a, b, c, by rw [upd_ne (nD _ ok.pd)]; exact h1, T.psm (Le.refl W) (fun b hb _ => upd_ne (nD b hb)) h2⟩
/-- a waiting dict is written -/
theorem Rel.writeTopD {p : Addr} {kvs kvs' : List (List Int × Int)} (R : Rel T W0 H0 W H O vs σ ((.ref p, .dct kvs) :: tm)) : Rel T W0 H0 W (upd H p (dctO kvs')) O vs σ ((.ref p, .dct kvs') :: tm) := by
  obtain ⟨p', e, ho, hd, h0, hp⟩ := R.top
  cases e
  have K : Keep W W H (upd H p (dctO kvs')) H0 O O (fun k => k ≠ .inr tm.length) := by
    have nk : ∀ q k, O q = some k → k ≠ .inr tm.length → q ≠ p := fun q k hq hk z => by
      subst z
      rw [ho] at hq
      exact hk (Option.some.inj hq).symm
    refine ⟨Le.refl W, fun q k ws hk ho' hd' h0' hq => ⟨ho', hd', ?_⟩, fun q i ws ho' hd' h0' hq => ⟨?_, .inl ⟨ho', hd'⟩⟩, fun q ws hs hq => ?_⟩
    · rw [upd_ne (nk q k ho' hk)]; exact hq
    · rw [upd_ne (nk q _ ho' (by simp))]; exact hq
    · rw [upd_ne (R.ok.sne hs hp hd)]; exact hq
  refine ⟨R.ok.wr hp hd, R.le, fun a o h1 h2 => ?_, ⟨R.grow.1, T.trans W0 W H0 H _ R.le R.grow.2 (R.ok.adv fun b hb _ => upd_ne fun z => hd (z ▸ hb))⟩, envKeep K (by simp) R.env, ⟨⟨p, rfl, ho, hd, h0, upd_same⟩, R.tms.2.keep K fun j hj z => ?_⟩, R.nbe, R.len⟩
  · rw [upd_ne]
    · exact R.frame a o h1 h2
    · intro z; subst z; rw [h0] at h2; cases h2
  · have z' : j = tm.length := by simpa using z
    omega
/-- a name's own dict is written -/
theorem Rel.writeD {kvs kvs' : List (List Int × Int)} {i : Nat} {p : Addr} (R : Rel T W0 H0 W H O vs σ tm) (nb : NoBo tm) (h : vs.env[i]? = some (some (.dct kvs))) (hσ : σ[i]? = some (some (.ref p))) :
    Rel T W0 H0 W (upd H p (dctO kvs')) O { vs with env := vs.env.set i (some (.dct kvs')) } σ tm := by
  obtain ⟨v, hv, p', e, ho, hd, h0, hp⟩ := R.env i _ h
  rw [hσ] at hv
  cases hv
  cases e
  have other : ∀ {k : Ow} {v : V} {lo : Lo}, k ≠ .inl i → (∀ xs, lo ≠ .bo xs) → LoOk W H H0 O k v lo → LoOk W (upd H p (dctO kvs')) H0 O k v lo := fun {k v lo} hk hb q => by
    have ne : ∀ q0, O q0 = some k → q0 ≠ p := fun q0 hq z => by
      subst z
      rw [ho] at hq
      exact hk (Option.some.inj hq).symm
    cases lo with
    | sh d => exact q
    | pool => exact q
    | bo xs => exact absurd rfl (hb xs)
    | ow zs =>
      obtain ⟨q0, vs', e, ho', hd', h0', hp', r'⟩ := q
      exact ⟨q0, vs', e, ho', hd', h0', by rw [upd_ne (ne q0 ho')]; exact hp', r'⟩
    | fx a d => exact q
    | oo q0 qs xss =>
      obtain ⟨e, ho', hd', h0', hp', nd, I⟩ := q
      exact ⟨e, ho', hd', h0', by rw [upd_ne (ne q0 ho')]; exact hp', nd, I.imp (Le.refl W) fun a us _ ha hda _ hpa => ⟨ha, hda, by rw [upd_ne (ne a ha)]; exact hpa⟩⟩
    | dct zs =>
      obtain ⟨q0, e, ho', hd', h0', hp'⟩ := q
      exact ⟨q0, e, ho', hd', h0', by rw [upd_ne (ne q0 ho')]; exact hp'⟩
  have otm : ∀ (tm : List (V × Lo)), NoBo tm → TmOk W H H0 O tm → TmOk W (upd H p (dctO kvs')) H0 O tm := by
    intro tm
    induction tm with
    | nil => intro _ _; trivial
    | cons x r ih => exact fun nb q => ⟨other (by simp) (nb x (by simp)) q.1, ih (fun y hy => nb y (by simp [hy])) q.2⟩
  refine ⟨R.ok.wr hp hd, R.le, fun a o h1 h2 => ?_, ⟨R.grow.1, T.trans W0 W H0 H _ R.le R.grow.2 (R.ok.adv fun b hb _ => upd_ne fun z => hd (z ▸ hb))⟩, fun j lo q => ?_, otm tm nb R.tms, nbeSet R.nbe (by simp), by simpa using R.len⟩
  · rw [upd_ne]
    · exact R.frame a o h1 h2
    · intro z; subst z; rw [h0] at h2; cases h2
  · by_cases z : i = j
    · subst z
      have hi : i < vs.env.length := (List.getElem?_eq_some_iff.mp h).1
      rw [List.getElem?_set_self hi] at q
      cases q
      exact ⟨.ref p, hσ, p, rfl, ho, hd, h0, upd_same⟩
    · rw [List.getElem?_set_ne z] at q
      obtain ⟨u, q1, q2⟩ := R.env j lo q
      exact ⟨u, q1, other (fun y => z (Sum.inl.inj y).symm) (fun ys e => R.nbe j ys (e ▸ q)) q2⟩
/-- a tuple of whole numbers is a key -/
theorem keyTup {ks : List Int} {v : V} (h : Rep W (.tup (ks.map D.int)) v) : ∃ b, v = .ref b ∧ W.S b = some (.tup ((ks.map (Sum.inl (β := Str))).map kV)) := by
  obtain ⟨b, ws, e, hs, r⟩ := h
  refine ⟨b, e, ?_⟩
  rw [RepL.ints r] at hs
  rw [hs, List.map_map]
  rfl
/-! ### what a dict holds -/
def dget (kvs : List (List Int × Int)) (k : List Int) : Option Int := (kvs.find? fun kv => decide (kv.1 = k)).map (·.2)
abbrev dcon (kv : List Int × Int) : List L2.Key × V := (kv.1.map Sum.inl, V.int kv.2)
theorem inl_inj : ∀ {a b : List Int}, a.map (Sum.inl (β := Str)) = b.map Sum.inl → a = b
  | [], [], _ => rfl
  | [], _ :: _, h => by simp at h
  | _ :: _, [], h => by simp at h
  | x :: a, y :: b, h => by
    simp only [List.map_cons, List.cons.injEq, Sum.inl.injEq] at h
    rw [h.1, inl_inj h.2]
theorem inl_dec (a b : List Int) : decide (a.map (Sum.inl (β := Str)) = b.map Sum.inl) = decide (a = b) := by
  by_cases h : a = b
  · subst h; simp
  · rw [decide_eq_false h, decide_eq_false (fun z => h (inl_inj z))]
theorem valV_dcon (k : List Int) : ∀ kvs : List (List Int × Int), valV (kvs.map dcon) (k.map Sum.inl) = (dget kvs k).map V.int
  | [] => rfl
  | p :: kvs => by
    have ih := valV_dcon k kvs
    unfold valV dget at ih ⊢
    rw [List.map_cons, List.find?_cons, List.find?_cons]
    show (match decide ((dcon p).1 = k.map Sum.inl) with | true => some (dcon p) | false => _).map _ = _
    rw [show decide ((dcon p).1 = k.map (Sum.inl (β := Str))) = decide (p.1 = k) from inl_dec p.1 k]
    cases decide (p.1 = k) with
    | true => rfl
    | false => exact ih
theorem putK_dcon {kvs : List (List Int × Int)} {k : List Int} {i : Int} (h : dget kvs k = none) : putK (kvs.map dcon) (k.map Sum.inl) (V.int i) = (kvs ++ [(k, i)]).map dcon := by
  have q : ((kvs.map dcon).any fun kv => decide (kv.1 = k.map Sum.inl)) = false := by
    rw [List.any_map]
    rw [List.any_eq_false]
    intro x hx
    show ¬ decide (x.1.map (Sum.inl (β := Str)) = k.map Sum.inl) = true
    rw [inl_dec]
    unfold dget at h
    rw [Option.map_eq_none_iff, List.find?_eq_none] at h
    exact h x hx
  unfold putK
  rw [if_neg (by rw [q]; simp), List.map_append]
  rfl
/-- the rules' premises -/
theorem Rel.dg (R : Rel T W0 H0 W H O vs σ tm) {i : Nat} {kvs : List (List Int × Int)} {ks : List Int} {y : V} (h : vs.env[i]? = some (some (.dct kvs))) (hy : Rep W (.tup (ks.map D.int)) y) :
    ∃ a, σ[i]? = some (some (.ref a)) ∧ DGet H a y ((dget kvs ks).map V.int) := by
  obtain ⟨v, hv, p, e, ho, hd, h0, hp⟩ := R.env i _ h
  obtain ⟨b, eb, hs⟩ := keyTup hy
  subst e eb
  refine ⟨p, hv, ?_⟩
  rw [← valV_dcon]
  exact DGet.t hp (R.Sget hs)
variable {e : Expr} {fk fv : WE} {pos : Pos}
@[simp] def wDNotIn (i : Nat) (fk : WE) : WT := fun vs Q => fk vs fun a vs1 => match a, vs1.env[i]? with
  | .sh (.tup xs), some (some (.dct kvs)) => ∃ ks, xs = ks.map D.int ∧ Q (!(dget kvs ks).isSome) vs1
  | _, _ => False
theorem vt_dnotin (i : Nat) {x : Str} {p : Pos} (hu : X.A.units + 1 < cLine) (hk : VE T X e fk) (hN : X.N[i]? = some x := by rfl) (hv : Vis X.env.scope x := by first | exact Or.inl rfl | exact Or.inr (Or.inl rfl) | exact Or.inr (Or.inr rfl)) (hd : (x == ("__debug__" : Str)) = false := by decide)
    (hcd : (x == ("__classdict__" : Str)) = false := by decide) : VT T X (.Compare e [.NotIn] [.Name x p] pos) (wDNotIn i fk) :=
  .of (pt_cmp (pc_dnotin hu hk.pe (pe_var (i := i) hN hv hd hcd)) (by rfl)) fun W0 H0 W H O vs σ tm Q Q' hf R k => hk.sn W0 H0 W H O vs σ tm _ _ hf R fun W1 H1 O1 vs1 y a l1 q1 R1 => by
    split at q1
    · rename_i xs kvs e2
      obtain ⟨ks, ex, q⟩ := q1
      subst ex
      obtain ⟨a, hv, g⟩ := R1.pop.dg e2 R1.top
      refine ⟨.ref a, hv, a, _, rfl, g, _, rfl, ?_⟩
      have e3 : ((dget kvs ks).map V.int).isSome = (dget kvs ks).isSome := by cases dget kvs ks <;> rfl
      rw [e3]
      exact k W1 H1 O1 vs1 _ l1 q R1.pop
    · exact q1.elim
@[simp] def wDGet (i : Nat) (fk : WE) : WE := fun vs Q => (∃ kvs0, vs.env[i]? = some (some (.dct kvs0))) ∧ fk vs fun a vs1 => match a, vs1.env[i]? with
  | .sh (.tup xs), some (some (.dct kvs)) => ∃ ks, xs = ks.map D.int ∧ ∃ n, dget kvs ks = some n ∧ Q (.sh (.int n)) vs1
  | _, _ => False
theorem ve_dget (i : Nat) {x : Str} {p : Pos} (hu : X.A.units + 1 < cLine) (hk : VE T X e fk) (hs : NoSl e := by exact fun _ _ => rfl) (hN : X.N[i]? = some x := by rfl) (hv : Vis X.env.scope x := by first | exact Or.inl rfl | exact Or.inr (Or.inl rfl) | exact Or.inr (Or.inr rfl)) (hd : (x == ("__debug__" : Str)) = false := by decide)
    (hcd : (x == ("__classdict__" : Str)) = false := by decide) : VE T X (.Subscript (.Name x p) e pos) (wDGet i fk) :=
  .of (pe_dget hu (pe_var (i := i) hN hv hd hcd) hk.pe hs) fun W0 H0 W H O vs σ tm Q Q' hf R k => by
    obtain ⟨⟨kvs0, e0⟩, hf⟩ := hf
    obtain ⟨v, hv, p, ep, _⟩ := R.env i _ e0
    refine ⟨v, hv, hk.sn W0 H0 W H O vs σ tm _ _ hf R fun W1 H1 O1 vs1 y a l1 q1 R1 => ?_⟩
    split at q1
    · rename_i xs kvs e2
      obtain ⟨ks, ex, n, en, q⟩ := q1
      subst ex
      obtain ⟨a, ha, g⟩ := R1.pop.dg e2 R1.top
      rw [hv] at ha
      cases ha
      rw [en] at g
      exact ⟨a, .int n, rfl, g, k W1 H1 O1 vs1 _ _ l1 q (R1.pop.push (by simp [Rep]))⟩
    · exact q1.elim
@[simp] def wDLen (i : Nat) : WE := fun vs Q => match vs.env[i]? with
  | some (some (.dct kvs)) => Q (.sh (.int (kvs.length : Nat))) vs
  | _ => False
theorem ve_dlen (i : Nat) {x : Str} {p p' : Pos} (hg : Gl X "len") (hm : X.mg "len" = none) (hN : X.N[i]? = some x := by rfl) (hv : Vis X.env.scope x := by first | exact Or.inl rfl | exact Or.inr (Or.inl rfl) | exact Or.inr (Or.inr rfl)) (hd : (x == ("__debug__" : Str)) = false := by decide)
    (hcd : (x == ("__classdict__" : Str)) = false := by decide) : VE T X (.Call (.Name "len" p) [.Name x p'] [] pos) (wDLen i) :=
  .of (pe_callB call_len_dT hg hm PySem.boot_len (pa_cons (pe_var (i := i) hN hv hd hcd) pa_nil (by rfl)) (by decide) (by decide) (by rfl)) fun W0 H0 W H O vs σ tm Q Q' hf R k => by
    unfold wDLen at hf
    split at hf
    · rename_i kvs e2
      obtain ⟨v, hv, p, ep, ho, hd, h0, hp⟩ := R.env i _ e2
      subst ep
      refine ⟨_, hv, p, _, rfl, hp, ?_⟩
      rw [List.length_map]
      exact k W H O vs _ _ (Le.refl W) hf (R.push (by simp [Rep]))
    · exact hf.elim
/-- a tuple that is there stands still -/
def Wd.ad (W : Wd) (p : Addr) (ws : List V) : Wd := ⟨fun a => if a = p then some (.tup ws) else W.S a, W.R, W.D, W.P, W.I⟩
theorem Rel.ad (R : Rel T W0 H0 W H O vs σ tm) {p : Addr} {ws : List V} (hp : H p = some (.tup ws)) : ∃ W', Le W W' ∧ W'.S p = some (.tup ws) ∧ Rel T W0 H0 W' H O vs σ tm := by
  have same : ∀ o, W.S p = some o → o = .tup ws := fun o e => by
    have := R.Sget e
    rw [hp] at this
    exact (Option.some.inj this).symm
  have le : Le W (W.ad p ws) := by
    refine ⟨fun a o e => ?_, fun _ _ e => e, fun _ e => e, rfl, fun _ _ e => e, fun a o e => ?_, fun _ _ e => .inl e⟩
    · show (if a = p then some (HO.tup ws) else W.S a) = _
      by_cases z : a = p
      · subst z; rw [if_pos rfl, same o e]
      · rw [if_neg z]; exact e
    · by_cases z : a = p
      · subst z
        have e' : (if a = a then some (HO.tup ws) else W.S a) = some o := e
        rw [if_pos rfl] at e'
        exact .inr (.inr ⟨ws, (Option.some.inj e').symm⟩)
      · have e' : (if a = p then some (HO.tup ws) else W.S a) = some o := e
        rw [if_neg z] at e'
        exact .inl e'
  have ok : WOk T (W.ad p ws) H vs.n := by
    refine ⟨fun a o e => ?_, fun a r e => ?_, R.ok.d, R.ok.pd, R.ok.i, let ⟨a, b, c, h1, h2⟩ := R.ok.p; ⟨a, b, c, h1, T.psm le (fun _ _ _ => rfl) h2⟩⟩
    · by_cases z : a = p
      · subst z
        have e' : (if a = a then some (HO.tup ws) else W.S a) = some o := e
        rw [if_pos rfl] at e'
        obtain rfl : HO.tup ws = o := Option.some.inj e'
        refine ⟨hp, .inr ⟨ws, rfl⟩, fun z => ?_⟩
        have z' : a = W.P := z
        obtain ⟨x, y, u, h1, _⟩ := R.ok.p
        rw [← z', hp] at h1
        cases h1
      · have e' : (if a = p then some (HO.tup ws) else W.S a) = some o := e
        rw [if_neg z] at e'
        exact R.ok.s a o e'
    · obtain ⟨h1, h2, h3⟩ := R.ok.r a r e
      exact ⟨T.mono W _ _ _ a r le (fun _ _ _ => rfl) h1, h2, h3⟩
  exact ⟨W.ad p ws, le, if_pos rfl, R.over le ok (fun _ _ _ h => h) (fun a h => .inl h) (R.ok.adv fun _ _ _ => rfl)⟩
def dkeys (kvs : List (List Int × Int)) : List D := kvs.map fun kv => .tup (kv.1.map D.int)
theorem Rel.adKeys : ∀ {kvs : List (List Int × Int)} {bs : List Addr} {W : Wd}, Rel T W0 H0 W H O vs σ tm → IsKeys H (kvs.map dcon) bs → ∃ W', Le W W' ∧ RepL W' (dkeys kvs) (bs.map V.ref) ∧ Rel T W0 H0 W' H O vs σ tm
  | [], bs, W, R, h => by
    unfold IsKeys at h
    cases h
    exact ⟨W, Le.refl W, RepL.nil, R⟩
  | p :: kvs, bs, W, R, h => by
    unfold IsKeys at h
    rw [List.map_cons] at h
    cases h with
    | @cons _ b _ bs' hb t =>
      obtain ⟨W1, l1, s1, R1⟩ := R.ad hb
      obtain ⟨W2, l2, r2, R2⟩ := Rel.adKeys (kvs := kvs) (bs := bs') R1 t
      refine ⟨W2, l1.trans l2, RepL.cons ⟨b, _, rfl, l2.s _ _ s1, ?_⟩ r2, R2⟩
      have : (dcon p).1.map kV = p.1.map V.int := by
        show (p.1.map Sum.inl).map kV = _
        rw [List.map_map]; rfl
      rw [this]
      exact RepL.of_ints
@[simp] def wDList (i : Nat) : WE := fun vs Q => match vs.env[i]? with
  | some (some (.dct kvs)) => Q (.ow (dkeys kvs)) vs
  | _ => False
theorem ve_dlist (i : Nat) {x : Str} {p p' : Pos} (hc : X.calm = true) (hg : Gl X "list") (hm : X.mg "list" = none) (hN : X.N[i]? = some x := by rfl) (hv : Vis X.env.scope x := by first | exact Or.inl rfl | exact Or.inr (Or.inl rfl) | exact Or.inr (Or.inr rfl)) (hd : (x == ("__debug__" : Str)) = false := by decide)
    (hcd : (x == ("__classdict__" : Str)) = false := by decide) : VE T X (.Call (.Name "list" p) [.Name x p'] [] pos) (wDList i) :=
  .of (pe_callTy (call_list_dT hc) hg hm (by decide +kernel) (pa_cons (pe_var (i := i) hN hv hd hcd) pa_nil (by rfl)) (by decide) (by decide) (by rfl)) fun W0 H0 W H O vs σ tm Q Q' hf R k => by
    unfold wDList at hf
    split at hf
    · rename_i kvs e2
      obtain ⟨v, hv, p, ep, ho, hd, h0, hp⟩ := R.env i _ e2
      subst ep
      refine ⟨_, hv, p, _, rfl, .inl hp, fun l bs hl hk => ?_⟩
      obtain ⟨W1, l1, r1, R1⟩ := R.adKeys hk
      exact k W1 _ _ vs _ _ l1 hf (R1.fresh hl r1)
    · exact hf.elim
@[simp] def wDisp1 (fk fv : WE) : WE := fun vs Q => fk vs fun a vs1 => fv vs1 fun b vs2 => match a, b with
  | .sh (.tup xs), .sh (.int i) => ∃ ks, xs = ks.map D.int ∧ Q (.dct [(ks, i)]) vs2
  | _, _ => False
theorem ve_disp1 {k v : Expr} (hu : X.A.units + 1 < cLine) (hk : VE T X k fk) (hv : VE T X v fv) : VE T X (.Dict [some k] [v] pos) (wDisp1 fk fv) :=
  .of (pe_disp1 hu hk.pe hv.pe) fun W0 H0 W H O vs σ tm Q Q' hf R kk p hp => by
    have R0 := R.freshD hp []
    refine hk.sn W0 H0 W _ _ vs σ _ _ _ hf R0 fun W1 H1 O1 vs1 x a l1 q1 R1 => hv.sn W0 H0 W1 H1 O1 vs1 σ _ _ _ q1 R1 fun W2 H2 O2 vs2 y b l2 q2 R2 => ?_
    split at q2
    · rename_i xs i
      obtain ⟨ks, ex, q⟩ := q2
      subst ex
      have ey : y = .int i := R2.top
      subst ey
      obtain ⟨b, eb, hs⟩ := keyTup (show Rep W2 (.tup (ks.map D.int)) x from R2.pop.top)
      subst eb
      obtain ⟨p', e, ho, hd, h0, hp2⟩ := R2.pop.pop.top
      cases e
      exact ⟨hp2, b, _, rfl, R2.Sget hs, kk W2 _ O2 vs2 _ _ (l1.trans l2) q (R2.pop.pop.writeTopD (kvs' := [(ks, i)]))⟩
    · exact q2.elim
@[simp] def wDPut (i : Nat) (fk fv : WE) : WS := fun vs E => fv vs fun b vs1 => (∃ kvs0, vs1.env[i]? = some (some (.dct kvs0))) ∧ fk vs1 fun a vs2 => match a, b, vs2.env[i]? with
  | .sh (.tup xs), .sh (.int n), some (some (.dct kvs)) => ∃ ks, xs = ks.map D.int ∧ dget kvs ks = none ∧ kvs.length < sizeLine ∧ E.nx (vs2.put i (.dct (kvs ++ [(ks, n)])))
  | _, _, _ => False
theorem vp_dput (i : Nat) {x : Str} {p tpos : Pos} {k v : Expr} (hu : X.A.units + 1 < cLine) (hk : VE T X k fk) (hv' : VE T X v fv) (hs : swapsWith v (some (.Subscript (.Name x p) k tpos)) pos.line X.env = pure false := by rfl) (hN : X.N[i]? = some x := by rfl) (hv : Vis X.env.scope x := by first | exact Or.inl rfl | exact Or.inr (Or.inl rfl) | exact Or.inr (Or.inr rfl)) (hd : (x == ("__debug__" : Str)) = false := by decide)
    (hcd : (x == ("__classdict__" : Str)) = false := by decide) : VP T X (.Assign [.Subscript (.Name x p) k tpos] v pos) (wDPut i fk fv) :=
  .of (ps_dput hu (pe_var (i := i) hN hv hd hcd) hk.pe hv'.pe hs) fun W0 H0 W H O vs σ tm E0 D' nb hf R C =>
    hv'.sn W0 H0 W H O vs σ tm _ _ hf R fun W1 H1 O1 vs1 y b l1 q1 R1 => by
      obtain ⟨⟨kvs0, e0⟩, q1⟩ := q1
      obtain ⟨v, hv, p, ep, _⟩ := R1.env i _ e0
      refine ⟨v, hv, hk.sn W0 H0 W1 H1 O1 vs1 σ _ _ _ q1 R1 fun W2 H2 O2 vs2 z a l2 q2 R2 => ?_⟩
      split at q2
      · rename_i xs n kvs e2
        obtain ⟨ks, ex, en, hl, q⟩ := q2
        subst ex
        have ey : y = .int n := R2.pop.top
        subst ey
        obtain ⟨bk, eb, hs⟩ := keyTup (show Rep W2 (.tup (ks.map D.int)) z from R2.top)
        subst eb
        obtain ⟨v2, hv2, p2, ep2, ho, hd, h0, hp⟩ := R2.env i _ e2
        rw [hv] at hv2
        cases hv2
        subst ep2
        have put := DPut.t (v := V.int n) hp (R2.Sget hs) (by rw [List.length_map]; exact hl)
        have e3 : putK (kvs.map dcon) (ks.map Sum.inl) (V.int n) = (kvs ++ [(ks, n)]).map dcon := putK_dcon en
        refine ⟨p2, _, rfl, put, ?_⟩
        rw [show putK (kvs.map fun kv => (kv.1.map Sum.inl, V.int kv.2)) (ks.map Sum.inl) (V.int n) = (kvs ++ [(ks, n)]).map dcon from e3]
        exact C.nx W2 _ O2 _ _ (l1.trans l2) q (R2.pop.pop.writeD nb e2 hv)
      · exact q2.elim
end
end Vx

set_option Elab.async false
set_option maxRecDepth 100000
set_option linter.all false
/-! Rows by value. -/
namespace Vx
open PySem PySem.Spec PyProof.Rows L2

def dw (w : List Nat) : D := .tup (dnats w)
def dwl (w : List Nat) : D := .lst (dnats w)
def rulesT (r : List (List Nat)) : D := .tup (r.map dw)
def rulesL (r : List (List Nat)) : D := .lst (r.map dwl)
def retsD (r : List (List Nat)) : D := .lst ((Rw.rets r).map dw)
def lensD (r : List (List Nat)) (n : Nat) : List D := (List.range n).map fun k => dwl (Rw.lens r k)
/-- the table of lengths of the row at a -/
structure LenAt (W : Wd) (H : Hp) (a L : Addr) (r : List (List Nat)) : Prop where
  tab : ∃ n ws, H L = some (.lst ws) ∧ 0 < n ∧ n ≤ 1048576 ∧ RepL W (lensD r n) ws
  own : W.I L = some a
  sne : ∀ o, W.S L = some o → ∃ us, o = .tup us
  gov : W.D L
  np : L ≠ W.P
def rowFs (t L : Addr) (kr kb : V) : List (Str × V) := [("kept_rules", .ref t), ("lengths", .ref L), ("kept_returns", kr), ("kept_below", kb)]
structure RowP (W : Wd) (a : Addr) (r : List (List Nat)) (t : Addr) (kr kb : V) : Prop where
  rep : Rep W (rulesT r) (.ref t)
  good : Rw.good r = true
  ret : kr = .non ∨ Rep W (retsD r) kr
  bel : kb = .non ∨ Rep W (.row (Rw.below r)) kb
  sne : ∀ o, W.S a = some o → ∃ us, o = .tup us
  small : r.length ≤ 1000
structure RowAt (C : Addr) (W : Wd) (H : Hp) (a : Addr) (r : List (List Nat)) : Prop where
  ex : ∃ dx t L kr kb, H a = some (.ins C dx (rowFs t L kr kb)) ∧ RowP W a r t kr kb ∧ LenAt W H a L r ∧ W.D a ∧ a ≠ W.P
theorem LenAt.frame {W W' : Wd} {H H' : Hp} {a L : Addr} {r : List (List Nat)} (h : LenAt W H a L r) (le : Le W W') (e : H' L = H L) : LenAt W' H' a L r := by
  refine ⟨?_, le.i _ _ h.own, fun o q => ?_, le.d _ h.gov, by rw [le.p]; exact h.np⟩
  · obtain ⟨n, ws, h1, h2, h3, h4⟩ := h.tab
    exact ⟨n, ws, by rw [e]; exact h1, h2, h3, h4.mono le⟩
  · rcases le.s' _ _ q with z | z | z
    · exact h.sne o z
    · exact absurd h.gov z
    · exact z
theorem RowP.mono {W W' : Wd} {a : Addr} {r : List (List Nat)} {t : Addr} {kr kb : V} (h : RowP W a r t kr kb) (ha : W.D a) (le : Le W W') : RowP W' a r t kr kb := by
  refine ⟨h.rep.mono le, h.good, h.ret.imp id (Rep.mono le), h.bel.imp id (Rep.mono le), fun o q => ?_, h.small⟩
  rcases le.s' _ _ q with z | z | z
  · exact h.sne o z
  · exact absurd ha z
  · exact z
theorem RowAt.frame {C : Addr} {W W' : Wd} {H H' : Hp} {a : Addr} {r : List (List Nat)} (h : RowAt C W H a r) (le : Le W W') (ea : H' a = H a) (el : ∀ L ws, H L = some (.lst ws) → W.I L = some a → W.D L → L ≠ W.P → H' L = H L) : RowAt C W' H' a r := by
  obtain ⟨dx, t, L, kr, kb, h1, h2, h3, h4, h5⟩ := h.ex
  exact ⟨dx, t, L, kr, kb, by rw [ea]; exact h1, h2.mono h4 le, h3.frame le (let ⟨_, ws, e, _⟩ := h3.tab; el L ws e h3.own h3.gov h3.np), le.d _ h4, by rw [le.p]; exact h5⟩
/-- rows only come to know more -/
def AdvR (C : Addr) (W : Wd) (H H' : Hp) : Prop := ∀ a r, W.R a = some r → ∀ dx t L kr kb, H a = some (.ins C dx (rowFs t L kr kb)) →
  ∃ kr' kb', H' a = some (.ins C dx (rowFs t L kr' kb')) ∧ (kr ≠ .non → kr' ≠ .non) ∧ (kb ≠ .non → kb' ≠ .non) ∧ ∀ ws, H L = some (.lst ws) → ∃ ws', H' L = some (.lst (ws ++ ws'))
theorem rowFs_inj {t t' L L' : Addr} {kr kr' kb kb' : V} (h : rowFs t L kr kb = rowFs t' L' kr' kb') : t = t' ∧ L = L' ∧ kr = kr' ∧ kb = kb' := by
  unfold rowFs at h
  simp only [List.cons.injEq, Prod.mk.injEq, V.ref.injEq, true_and, and_true] at h
  exact h
theorem ins_inj {C C' dx dx' : Addr} {fs fs' : List (Str × V)} (h : (some (HO.ins C dx fs)) = some (.ins C' dx' fs')) : C = C' ∧ dx = dx' ∧ fs = fs' := by
  have := Option.some.inj h
  cases this
  exact ⟨rfl, rfl, rfl⟩
/-- rows, as the class at C makes them -/
def thR (C : Addr) : Th where
  RowAt := RowAt C
  Adv := AdvR C
  mono := fun W W' H H' a r le h q => by
    obtain ⟨_, _, _, _, _, _, _, _, h4, h5⟩ := q.ex
    exact q.frame le (h a h4 h5) fun L _ _ _ hd hn => h L hd hn
  same := fun W H H' hr h a r e dx t L kr kb ha => by
    obtain ⟨dx', t', L', kr', kb', g1, _, g3, g4, g5⟩ := (hr a r e).ex
    rw [ha] at g1
    obtain ⟨_, _, ef⟩ := ins_inj g1
    obtain ⟨_, eL, _, _⟩ := rowFs_inj ef
    refine ⟨kr, kb, by rw [h a g4 g5]; exact ha, fun z => z, fun z => z, fun ws hw => ⟨[], ?_⟩⟩
    rw [List.append_nil, eL, h L' g3.gov g3.np, ← eL]
    exact hw
  trans := fun W W1 H H1 H2 le a1 a2 a r e dx t L kr kb ha => by
    obtain ⟨kr1, kb1, b1, b2, b3, b4⟩ := a1 a r e dx t L kr kb ha
    obtain ⟨kr2, kb2, c1, c2, c3, c4⟩ := a2 a r (le.r _ _ e) dx t L kr1 kb1 b1
    refine ⟨kr2, kb2, c1, fun h => c2 (b2 h), fun h => c3 (b3 h), fun ws hw => ?_⟩
    · obtain ⟨ws1, h1⟩ := b4 ws hw
      obtain ⟨ws2, h2⟩ := c4 _ h1
      exact ⟨ws1 ++ ws2, by rw [← List.append_assoc]; exact h2⟩
/-- what of the text the class must have -/
structure RowC (K : PySem.W.Frag) (C : Addr) : Prop where
  cls : Cls K C
  rules : NoAttr K C "kept_rules"
  lens : NoAttr K C "lengths"
  rets : NoAttr K C "kept_returns"
  below : NoAttr K C "kept_below"
section
variable {C : Addr} {X : Cx} {W0 W W' : Wd} {H0 H H' : Hp} {O O' : Addr → Option Ow} {vs : VS} {σ : L2.St} {tm : List (V × Lo)} {n : Nat}
/-- a row's object is written, or its table of lengths -/
theorem WOk.poke (ok : WOk (thR C) W H n) {a x : Addr} {r : List (List Nat)} {u u' : HO} (ha : W.R a = some r) (hx : (x = a ∧ ∃ dx fs, u = .ins C dx fs) ∨ (W.I x = some a ∧ ∃ ws, u = .lst ws)) (hd : W.D x) (hn : x ≠ W.P) (hu : H x = some u) (hs : ∀ o, W.S x = some o → ∃ us, o = .tup us)
    (hnew : RowAt C W (upd H x u') a r) : WOk (thR C) W (upd H x u') n := by
  have ht : ∀ us, u ≠ .tup us := fun us e => by
    rcases hx with ⟨_, dx, fs, z⟩ | ⟨_, ws, z⟩ <;> (rw [z] at e; cases e)
  have sx : ∀ b o, W.S b = some o → b ≠ x := fun b o q e => by
    subst e
    obtain ⟨us, e⟩ := hs o q
    have := (ok.s b o q).1
    rw [hu] at this
    exact ht us ((Option.some.inj this).trans e)
  refine ⟨fun b o q => ?_, fun b r' q => ?_, fun b q => ?_, ok.pd, ok.i, ?_⟩
  · obtain ⟨h1, h2, h3⟩ := ok.s b o q
    exact ⟨by rw [upd_ne (sx b o q)]; exact h1, h2, h3⟩
  · obtain ⟨h1, h2, h3⟩ := ok.r b r' q
    refine ⟨?_, h2, h3⟩
    by_cases e : b = a
    · subst e
      rw [ha] at q
      cases q
      exact hnew
    · have h1' : RowAt C W H b r' := h1
      have hb : b ≠ x := by
        rcases hx with ⟨hx, _⟩ | ⟨_, ws, hx⟩
        · rw [hx]; exact e
        · intro z
          subst z
          obtain ⟨dx, t, L, kr, kb, g1, _⟩ := h1'.ex
          rw [hu, hx] at g1
          cases g1
      refine h1'.frame (Le.refl W) (upd_ne hb) fun L ws hl hi _ _ => ?_
      refine upd_ne fun z => ?_
      subst z
      rcases hx with ⟨_, dx, fs, hx⟩ | ⟨hx, _⟩
      · rw [hu, hx] at hl; cases hl
      · rw [hx] at hi
        exact e (Option.some.inj hi).symm
  · by_cases e : b = x
    · subst e; exact ⟨_, upd_same⟩
    · rw [upd_ne e]; exact ok.d b q
  · obtain ⟨a', b', c', h1, h2⟩ := ok.p
    exact ⟨a', b', c', by rw [upd_ne (Ne.symm hn)]; exact h1, h2⟩

/-! ### attributes, properties, methods of rows -/
theorem Rel.row {r : List (List Nat)} {v : V} (R : Rel (thR C) W0 H0 W H O vs σ tm) (h : Rep W (.row r) v) : ∃ a dx t L kr kb, v = .ref a ∧ W.R a = some r ∧ H a = some (.ins C dx (rowFs t L kr kb)) ∧ RowP W a r t kr kb ∧ LenAt W H a L r ∧ W.D a ∧ a ≠ W.P := by
  obtain ⟨a, e, hr⟩ := h
  obtain ⟨h1, _, _⟩ := R.ok.r a r hr
  obtain ⟨dx, t, L, kr, kb, g⟩ := (show RowAt C W H a r from h1).ex
  exact ⟨a, dx, t, L, kr, kb, e, hr, g⟩
theorem fs_rules (t L : Addr) (kr kb : V) : (rowFs t L kr kb).lookup ("kept_rules" : Str) = some (.ref t) := by
  unfold rowFs
  rw [List.lookup_cons, show (("kept_rules" : Str) == ("kept_rules" : Str)) = true by decide +kernel]
theorem fs_lens (t L : Addr) (kr kb : V) : (rowFs t L kr kb).lookup ("lengths" : Str) = some (.ref L) := by
  unfold rowFs
  rw [List.lookup_cons, show (("lengths" : Str) == ("kept_rules" : Str)) = false by decide +kernel, List.lookup_cons, show (("lengths" : Str) == ("lengths" : Str)) = true by decide +kernel]
theorem fs_rets (t L : Addr) (kr kb : V) : (rowFs t L kr kb).lookup ("kept_returns" : Str) = some kr := by
  unfold rowFs
  rw [List.lookup_cons, show (("kept_returns" : Str) == ("kept_rules" : Str)) = false by decide +kernel, List.lookup_cons, show (("kept_returns" : Str) == ("lengths" : Str)) = false by decide +kernel,
    List.lookup_cons, show (("kept_returns" : Str) == ("kept_returns" : Str)) = true by decide +kernel]
theorem fs_below (t L : Addr) (kr kb : V) : (rowFs t L kr kb).lookup ("kept_below" : Str) = some kb := by
  unfold rowFs
  rw [List.lookup_cons, show (("kept_below" : Str) == ("kept_rules" : Str)) = false by decide +kernel, List.lookup_cons, show (("kept_below" : Str) == ("lengths" : Str)) = false by decide +kernel,
    List.lookup_cons, show (("kept_below" : Str) == ("kept_returns" : Str)) = false by decide +kernel, List.lookup_cons, show (("kept_below" : Str) == ("kept_below" : Str)) = true by decide +kernel]
/-- no attribute of the instance -/
abbrev NoFs (m : Str) : Prop := (m == ("kept_rules" : Str)) = false ∧ (m == ("lengths" : Str)) = false ∧ (m == ("kept_returns" : Str)) = false ∧ (m == ("kept_below" : Str)) = false
theorem fs_no {m : Str} (h : NoFs m) (t L : Addr) (kr kb : V) : (rowFs t L kr kb).lookup m = none := by
  obtain ⟨h1, h2, h3, h4⟩ := h
  unfold rowFs
  rw [List.lookup_cons, h1, List.lookup_cons, h2, List.lookup_cons, h3, List.lookup_cons, h4, List.lookup_nil]
variable {e o : Expr} {es : List Expr} {fa fo : WE} {pos apos : Pos} {T : Th}
@[simp] def wKept (f : WE) : WE := fun vs Q => f vs fun lo vs1 => match lo with
  | .sh (.row r) => Q (.sh (rulesT r)) vs1
  | _ => False
theorem ve_kept (c : RowC X.K C) (h : VE (thR C) X e fa) (hb : attributeBase e "kept_rules" X.env (eval e X.env) = eval e X.env := by rfl) : VE (thR C) X (.Attribute e "kept_rules" pos) (wKept fa) :=
  .of (pe_fld h.pe hb) fun W0 H0 W H O vs σ tm Q Q' hf R k => h.sn W0 H0 W H O vs σ tm _ _ hf R fun W1 H1 O1 vs1 v lo l1 q1 R1 => by
    split at q1
    · rename_i r
      obtain ⟨a, dx, t, L, kr, kb, ev, hr, ha, rp, _⟩ := R1.row R1.top
      exact ⟨a, C, dx, _, .ref t, ev, ha, c.cls, c.rules, fs_rules t L kr kb, k W1 H1 O1 vs1 _ _ l1 q1 (R1.pop.push rp.rep)⟩
    · exact q1.elim
/-- a property -/
@[simp] def wProp (F : FS) (f : WE) : WE := fun vs Q => f vs fun lo vs1 => match lo with
  | .sh (.row r) => F [.sh (.row r)] vs1.n fun lo n' => Q lo { vs1 with n := n' }
  | _ => False
theorem ve_prop {CX : CXT} {k : Nat} {p g : Addr} {f : Str} {fd : FuncData} {ps : List Str} {F : FS} (c : RowC X.K C) (hp : PropOf X.K C f p g) (G : FnOk X.prog X.w X.K X.mg X.base CX k g fd ps (spV (thR C) 1 F)) (hr : Room (k + 1) X.A) (hbi : Binds X.K fd ps []) (hx : Passes CX X.nox E0)
    (h : VE (thR C) X e fa) (hb : attributeBase e f X.env (eval e X.env) = eval e X.env := by rfl) : VE (thR C) X (.Attribute e f pos) (wProp F fa) :=
  .of (pe_prop h.pe c.cls hp G hr hbi .nil hx hb) fun W0 H0 W H O vs σ tm Q Q' hf R k => h.sn W0 H0 W H O vs σ tm _ _ hf R fun W1 H1 O1 vs1 v lo l1 q1 R1 => by
    split at q1
    · rename_i r
      obtain ⟨a, dx, t, L, kr, kb, ev, hr', ha, rp, _⟩ := R1.row R1.top
      refine ⟨a, dx, _, ev, ha, W1, vs1.n, [.sh (.row r)], _, rfl, R1.ok, ⟨⟨a, rfl, hr'⟩, trivial⟩, q1, fun lo n' W' H' v' hP A rt => ?_⟩
      obtain ⟨O', R'⟩ := R1.pop.ret A rt
      exact k W' H' O' _ v' lo (l1.trans A.le) hP R'
    · exact q1.elim
@[simp] def wMeth (m : Nat) (F : FS) (fo : WE) (g : WF) : WE := fun vs Q => fo vs fun lo vs1 => match lo with
  | .sh (.row r) => g vs1 fun los vs2 => los.length + 1 = m ∧ F (.sh (.row r) :: los) vs2.n fun lo n' => Q lo { vs2 with n := n' }
  | _ => False
theorem ve_meth {CX : CXT} {k m : Nat} {g : WF} {f : Addr} {x : Str} {fd : FuncData} {ps : List Str} {F : FS} {pl : Sem Bool} (c : RowC X.K C) (hm : Meth X.K C x f) (hn : NoFs x) (G : FnOk X.prog X.w X.K X.mg X.base CX k f fd ps (spV (thR C) m F)) (hr : Room k X.A) (hbi : Binds X.K fd ps [])
    (hx : Passes CX X E0) (h : VE (thR C) X o fo) (ha : VF (thR C) X (e :: es) g)
    (hst : starEach (e :: es) X.env = (false, eval e X.env) :: starEach es X.env := by rfl) (hpl : (backTo pos (starEach es X.env)).any (·.1) = false := by rfl)
    (ht : eval (.Call (.Attribute o x apos) (e :: es) [] pos) X.env = (do
      let ov ← eval o X.env
      standAt apos.atName
      let (f, first) ← holding [ov] (getMethod ov x pl)
      callWith pos f first (backTo pos (starEach (e :: es) X.env)) (backToKw pos (keywordEach [] X.env))) := by rfl) :
    VE (thR C) X (.Call (.Attribute o x apos) (e :: es) [] pos) (wMeth m F fo g) :=
  .of (pe_meth (pl := pl) h.pe c.cls hm G hr hbi .nil hx ha.pe hst hpl ht) fun W0 H0 W H O vs σ tm Q Q' hf R k => h.sn W0 H0 W H O vs σ tm _ _ hf R fun W1 H1 O1 vs1 v lo l1 q1 R1 => by
    split at q1
    · rename_i r
      obtain ⟨a, dx, t, L, kr, kb, ev, hr', hat, rp, _⟩ := R1.row R1.top
      refine ⟨a, dx, _, ev, hat, fs_no hn t L kr kb, ha.sn W0 H0 W1 H1 O1 vs1 σ _ _ _ q1 R1 fun W2 H2 O2 vs2 ws los l2 q2 as R2 => ?_⟩
      refine ⟨W2, vs2.n, .sh (.row r) :: los, _, ?_, R2.ok, ?_, q2.2, fun lo n' W' H' v' hP A rt => ?_⟩
      · rw [List.append_nil, List.length_cons, as.length]; exact q2.1
      · rw [List.append_nil]; exact ⟨R2.top, as⟩
      · obtain ⟨O', R'⟩ := R2.pop.ret A rt
        exact k W' H' O' _ v' lo ((l1.trans l2).trans A.le) hP R'
    · exact q1.elim
end
end Vx

set_option Elab.async false
set_option maxRecDepth 100000
set_option linter.all false
/-! set(list of whole numbers), sorted. -/
namespace Vx
open PySem PySem.Spec PyProof.Rows L2
/-- a new set's object -/
abbrev noSet (w : World) : Obj := { cls := .type "set", dict := none, data := .set #[] 0 (.fresh 0 0 (!w.params.followText "set-order")) }
section
variable {w : World} {P : Program} {s : Shared} {A : Around} {E : Value → Shared → Prop}
set_option maxHeartbeats 3000000 in
theorem call_set_listI {l : Addr} {items : Array Value} (ks : List Int) {Q : Value → Shared → Prop} (calm : A.handled = none) (here : s.heap.IsList l items) (whole : IntsAre items.toList ks) (small : ks.length + 1 < scanBound)
    (h : ∀ (h' : Heap) (tk1 c : Nat), SetR w h' s.heap.objs.size (fun j => decide (j ∈ ks)) c → c ≤ ks.length → (∀ b o, s.heap.get? b = some o → h'.get? b = some o) → Q (.ref s.heap.objs.size) { s with heap := h', toks := tk1 }) :
      wpAny (model P w) A (call (Value.type "set") [.ref l]) Q E s := by
  have szE : items.size = ks.length := by
    have q := IntsAre.length whole
    rw [Array.length_toList] at q
    exact q
  obtain ⟨c, tl, mroE⟩ := F.called_set.mro
  have madeE := F.called_set.made
  have subE := F.called_set.sub
  (refine wpAny_call (codeAny_of_tree ?_))
  (show wpAny _ _ (callAny (.type "set") _) _ _ _)
  (refine wpAny_pure ⟨Code.quiet_builtin _ (by decide +kernel), codeAny_builtin F.entry_type_call ?_⟩)
  (rw [Around.under_plain (weight_type_call_type "set" [.ref l] []) rfl])
  have cl1 := F.called_set.notType
  have cl2 := F.called_set.canCreate
  have tcE := F.typeCall_set_1 (.ref l)
  (repeat (any_goals (first | assumption | wp_step)))

  refine codeAny_mono (code_set_led1 (.ref l) (E := E) (Q₁ := fun obj s₁ => obj = .ref s.heap.objs.size ∧ s₁ = { s with heap := s.heap.push (noSet w) }) ⟨rfl, rfl⟩) fun r s₁ outE => ?_
  cases r with
  | error e => exact outE
  | ok fl =>
    cases fl with
    | ret obj =>
      obtain ⟨rfl, rfl⟩ := outE
      have sE : (s.heap.push (noSet w)).get? s.heap.objs.size = some (noSet w) := Heap.get?_push_size _ rfl
      have tyE : Shared.TypeIs { s with heap := s.heap.push (noSet w) } (.ref s.heap.objs.size) "set" := ⟨_, sE, rfl⟩
      have luE := F.called_set.init.lookup
      have biE := F.called_set.init.bind (.ref s.heap.objs.size)
      (repeat (any_goals (first | assumption | wp_step)))

      refine codeAny_mono (codeAny_call_builtin (R := wants (fun r s2 => r = .none ∧ ∃ h' tk1 c, s2 = { s with heap := h', toks := tk1 } ∧ SetR w h' s.heap.objs.size (fun j => decide (j ∈ ks)) c ∧ c ≤ ks.length ∧
          (∀ b o, s.heap.get? b = some o → h'.get? b = some o)) E) F.called_set.init.plain F.entry_set_init (check_set_init_1 tyE ?_)) fun r₂ s2 endE => ?_
      · obtain ⟨ol, oE, cE, nl, dE⟩ := here
        obtain ⟨k1, k2, k3, k4⟩ := ol
        simp only at cE dE
        subst cE; subst dE
        have hol' : (s.heap.push (noSet w)).get? l = some { cls := .type "list", dict := k2, data := .seq items nl, slots := k4 } := Heap.get?_push_of_some _ oE
        have subS := F.sub_list_set
        have subF := F.sub_list_frozenset
        have neT : (Value.type "list" == Value.type "dict") = false := by decide
        have lsE : (s.heap.push (noSet w)).IsList l items := ⟨_, hol', rfl, nl, rfl⟩
        (unfold Builtin.«set.__init__» noKeywords Builtin.Frozenset.updateFrom)
        generalize pyE : pyIter = pyI
        wp_walk
        subst pyE

        refine wpAny_pyIter_list lsE ?_
        (refine wpAny_bind (wpAny_runValue ?_))
        have ltE : l < s.heap.objs.size := Heap.lt_size oE
        have calm3 : A.in1.in1.in1.handled = none := by simp [calm]
        have szS : (s.heap.push (noSet w)).objs.size = s.heap.objs.size + 1 := Heap.size_push ..
        have neI : l ≠ (s.heap.push (noSet w)).objs.size := by
          rw [Heap.size_push]; exact Nat.ne_of_lt (Nat.lt_succ_of_lt ltE)
        have offS : s.heap.objs.size ∉ [(s.heap.push (noSet w)).objs.size, l] := by
          (rw [Heap.size_push]; simp only [List.mem_cons, List.mem_singleton, List.not_mem_nil, or_false, not_or])
          exact ⟨Nat.ne_of_lt (Nat.lt_succ_self _), Nat.ne_of_gt ltE⟩
        have vals : ∀ (i : Nat) (v : Value), items[i]? = some v → ∃ k t, ks[i]? = some k ∧ v = .int k t := fun i v hv => by
          have ltI : i < ks.length := by rw [← szE]; exact (Array.getElem?_eq_some_iff.mp hv).1
          obtain ⟨t, e⟩ := PyProof.Rows.IntsAre.int_at whole i v (by rw [Array.getElem?_toList]; exact hv)
          refine ⟨ks[i], t, List.getElem?_eq_getElem ltI, ?_⟩
          rw [e, List.getD_eq_getElem?_getD, List.getElem?_eq_getElem ltI] <;> rfl
        refine set_update_ints ((Walks.list calm3 _ l neI items).toS) s.heap.objs.size
          offS ks szE small vals (items.size - 0) 0 _ (by omega) (Nat.zero_le _)
          ⟨⟨_, Heap.get?_push_size _ rfl, rfl, rfl⟩, (lsE.push _)⟩ ?hS0 ?hR
        case hS0 =>
          have getE : ((s.heap.push (noSet w)).push { cls := .type "list_iterator", data := .fields #[.ref l, .int 0 0] }).get? s.heap.objs.size
              = some (noSet w) := Heap.get?_push_of_some _ sE
          exact ⟨0, Nat.le_refl 0, setR_new_at getE⟩
        case hR =>
          intro s' c' mv leC setE
          obtain ⟨h', g2, d', tk2, os'⟩ := s'
          have eg : g2 = s.gens := mv.gens
          have ed : d' = s.drawn := mv.drawn
          have eo : os' = s.os := mv.os
          subst eg; subst ed; subst eo
          show wpAny _ _ _ _ _ _
          refine wpAny_pure ?_
          (show wpAny _ _ (ret Value.none) _ _ _)
          rw [szE] at leC
          refine wpAny_pure ⟨rfl, h', tk2, c', rfl, setE, leC, fun b o e => ?_⟩
          have lt0 : b < s.heap.objs.size := Heap.lt_size e
          have ne1 : b ≠ s.heap.objs.size := Nat.ne_of_lt lt0
          have ne2 : b ≠ (s.heap.push (noSet w)).objs.size := by
            rw [Heap.size_push]; exact Nat.ne_of_lt (Nat.lt_succ_of_lt lt0)
          exact mv.heap b o (by simp only [List.mem_cons, List.mem_singleton, List.not_mem_nil, or_false, not_or]; exact ⟨ne1, ne2⟩) (Heap.get?_push_of_some _ (Heap.get?_push_of_some _ e))

      · cases r₂ with
        | error e => exact endE
        | ok fl₂ =>
          cases fl₂ with
          | ret r =>
            obtain ⟨rfl, h', tk1, c', rfl, setE, leC, hk'⟩ := endE
            (repeat (any_goals (first | assumption | wp_step)))
            exact h _ _ _ setE leC hk'
          | _ => exact endE.elim
    | _ => exact outE.elim
end
end Vx

set_option Elab.async false
set_option maxRecDepth 100000
set_option linter.all false
/-! More operators, built-ins, methods by value. -/
namespace Vx
open PySem PySem.Spec PyProof.Rows L2
section
variable {X : Cx}
/-- set(list of whole numbers) -/
def rSetL (K : PySem.W.Frag) (w : World) : List V → Hp → VK → Prop := fun xs H Q => ∃ (l : Addr) (ks : List Int), xs = [V.ref l] ∧ SqL K H l (ks.map V.int) ∧ ks.length + 1 < scanBound ∧
  ∀ p (es : List Int), es.Nodup → (∀ k, k ∈ es ↔ k ∈ ks) → H p = none → Q (.ref p) (upd H p (SetO w p (fun j => decide (j ∈ ks)) es.length))
theorem cr_setL (hc : X.calm = true) : CallR X (.type "set") (rSetL X.K X.w) := by
  intro pins s σ H xs us Q I r h
  obtain ⟨l, ks, rfl, hs, hb, q⟩ := h
  rw [Vals.ref1 r]
  obtain ⟨its, rv, ⟨o, n, ho, hcl, hdn, hd⟩, hlen⟩ := I.list hs
  have hi : IntsAre its.toArray.toList ks := ints_of_vals rv
  refine call_set_listI ks (I.ok.hd hc) ⟨o, ho, hcl, n, hd⟩ hi hb fun h' tk c R1 hcn k => ?_
  have hn := I.hok.fresh (Nat.le_refl s.heap.objs.size)
  obtain ⟨o2, es, ep, t, ho2, hex, hdt, g, nd, hm2, hb2, hf, he, hr⟩ := id R1
  have e1 : (es.toList.map keyOf).length = c := by rw [List.length_map, Array.length_toList]; exact he
  refine ⟨.ref s.heap.objs.size, _, I.laid (t' := tk) (fun b u e => k b u e) (Nat.le_refl _) (setO_new R1), rfl, ?_⟩
  have := q s.heap.objs.size (es.toList.map keyOf) nd (fun k => by rw [← hm2 k, decide_eq_true_eq]) hn
  rw [e1] at this
  exact this
end
section
variable {T : Th} {X : Cx} {W0 W W' W1 : Wd} {H0 H H' : Hp} {O O' : Addr → Option Ow} {vs : VS} {σ : L2.St} {tm : List (V × Lo)}
variable {a b c e o target iter : Expr} {fa fb fc fo : WE} {pos apos cpos : Pos} {es : List Expr} {st : Stmt} {sts : List Stmt} {f g : WS}
/-- whole numbers, as data -/
def D.nums : List D → Option (List Int)
  | [] => some []
  | .int i :: r => (D.nums r).map (i :: ·)
  | _ :: _ => none
theorem D.nums_eq : ∀ {ds : List D} {ks : List Int}, D.nums ds = some ks → ds = ks.map D.int
  | [], ks, h => by cases h; rfl
  | d :: ds, ks, h => by
    cases d with
    | int i =>
      unfold D.nums at h
      cases e : D.nums ds with
      | none => rw [e] at h; cases h
      | some r =>
        rw [e] at h
        cases h
        rw [D.nums_eq e]; rfl
    | _ => cases h
theorem D.nums_of : ∀ (ks : List Int), D.nums (ks.map D.int) = some ks
  | [] => rfl
  | k :: ks => by
    show (D.nums (ks.map D.int)).map (k :: ·) = _
    rw [D.nums_of ks]; rfl
/-- sorted(set(list of whole numbers)) -/
@[simp] def gSrtSet : G1 := fun a vs Q => match a.lst? with
  | some ds => match D.nums ds with
    | some ks => ks.length + 1 < scanBound ∧ (∀ es : List Int, es.Nodup → (∀ k, k ∈ es ↔ k ∈ ks) → es.length < 64) ∧ ∀ ns : List Int, ns.Pairwise (· < ·) → (∀ k : Int, k ∈ ns ↔ k ∈ ks) → Q (.ow (ns.map D.int)) vs
    | none => False
  | none => False
theorem ve_srtSet {p p1 q : Pos} (hc : X.calm = true) (hg : Gl X "sorted") (hm : X.mg "sorted" = none) (hg1 : Gl X "set") (hm1 : X.mg "set" = none) (ha : VE T X a fa)
    (hs1 : starEach [a] X.env = (false, eval a X.env) :: starEach [] X.env := by rfl)
    (hs : starEach [Expr.Call (.Name "set" p1) [a] [] q] X.env = (false, eval (Expr.Call (.Name "set" p1) [a] [] q) X.env) :: starEach [] X.env := by rfl) :
    VE T X (.Call (.Name "sorted" p) [.Call (.Name "set" p1) [a] [] q] [] pos) (w1 gSrtSet fa) :=
  .of (pe_callB (cr_sortedSet hc) hg hm (by decide +kernel) (pa_cons (pe_callTy (cr_setL hc) hg1 hm1 (by decide +kernel) (pa_cons ha.pe pa_nil hs1) (by decide) (by decide) hs1) pa_nil hs) (by decide) (by decide) hs)
    fun W0 H0 W H O vs σ tm Q Q' hf R k => ha.sn W0 H0 W H O vs σ tm _ _ hf R fun W1 H1 O1 vs1 x lo l1 q1 R1 => by
      unfold gSrtSet at q1
      split at q1
      · rename_i ds e1
        split at q1
        · rename_i ks e2
          obtain ⟨hb, hl, q⟩ := q1
          obtain ⟨p, ws, ep, hp, rp⟩ := R1.lst R1.top e1
          have ep' : x = .ref p := ep
          subst ep'
          rw [D.nums_eq e2] at rp
          rw [RepL.ints rp] at hp
          refine ⟨p, ks, rfl, SqL.of hp, hb, fun l es nd hm hn => ⟨l, _, es.length, rfl, upd_same, hl es nd hm, fun ns p2 hpw hk hlen hn2 => ?_⟩⟩
          have R2 := R1.pop.alloc (o := SetO X.w l (fun j => decide (j ∈ ks)) es.length) hn
          exact k W1 _ _ vs1 _ _ l1 (q ns hpw fun k => (hk k).trans decide_eq_true_iff) (R2.fresh hn2 RepL.of_ints)
        · exact q1.elim
      · exact q1.elim
/-! ### * ** << >> & - -/
@[simp] def gMul : G2 := fun a b vs Q => match a, b with
  | .sh (.int i), .sh (.int j) => CMulX i j ∧ Q (.sh (.int (i * j))) vs
  | a, .sh (.int k) => match a.lst? with
    | some xs => -(2 ^ 63) ≤ k ∧ k < 2 ^ 63 ∧ xs.length * k.toNat ≤ sizeLine ∧ Q (.ow (List.replicate k.toNat xs).flatten) vs
    | none => False
  | _, _ => False
theorem RepL.rep {xs : List D} {ws : List V} (r : RepL W xs ws) : ∀ n, RepL W (List.replicate n xs).flatten (List.replicate n ws).flatten
  | 0 => RepL.nil
  | n + 1 => by
    rw [List.replicate_succ, List.flatten_cons, List.replicate_succ, List.flatten_cons]
    exact r.append (RepL.rep r n)
theorem snd_gMul : Snd2 T (fun x y H Q => rI CMulX (fun i j => .int (i * j)) x y H Q ∨ rRep x y H Q) gMul := fun W0 H0 W H O vs σ tm x y a b Q Q' hf R kk => by
  unfold gMul at hf
  split at hf
  · rename_i i j
    have ex : x = .int i := R.pop.top
    have ey : y = .int j := R.top
    exact .inl ⟨i, j, ex, ey, hf.1, kk W H O vs _ _ (Le.refl W) hf.2 (R.pop.pop.push (by simp [Rep]))⟩
  · rename_i k _
    split at hf
    · rename_i xs e1
      obtain ⟨p, ws, ep, hp, rp⟩ := R.lst R.pop.top e1
      have ey : y = .int k := R.top
      obtain ⟨h1, h2, h3, q⟩ := hf
      exact .inr ⟨p, k, ws, ep, ey, hp, h1, h2, by rw [rp.length]; exact h3, fun l hl => kk W _ _ vs _ _ (Le.refl W) q (R.pop.pop.fresh hl (rp.rep _))⟩
    · exact hf.elim
  · exact hf.elim
theorem ve_mul (ha : VE T X a fa) (hb : VE T X b fb) : VE T X (.BinOp a .Mult b pos) (w2 gMul fa fb) := ve_op (op_mulX.or op_rep) snd_gMul ha hb
theorem ve_pow (ha : VE T X a fa) (hb : VE T X b fb) : VE T X (.BinOp a .Pow b pos) (w2 (gI CPow fun i j => .int (i ^ j.toNat)) fa fb) := ve_op op_pow (snd_gI fun _ _ _ => by simp [Rep]) ha hb
theorem ve_shl (ha : VE T X a fa) (hb : VE T X b fb) : VE T X (.BinOp a .LShift b pos) (w2 (gI CPow fun i j => .int (i * 2 ^ j.toNat)) fa fb) := ve_op op_shl (snd_gI fun _ _ _ => by simp [Rep]) ha hb
theorem ve_shr (ha : VE T X a fa) (hb : VE T X b fb) : VE T X (.BinOp a .RShift b pos) (w2 (gI (fun _ j => 0 ≤ j) fun i j => .int (i / 2 ^ j.toNat)) fa fb) := ve_op op_shr (snd_gI fun _ _ _ => by simp [Rep]) ha hb
theorem ve_band (ha : VE T X a fa) (hb : VE T X b fb) : VE T X (.BinOp a .BitAnd b pos) (w2 (gI0 fun i j => .int (Builtin.bitAnd i j)) fa fb) := ve_op op_and (snd_gI0 fun _ _ _ => by simp [Rep]) ha hb
theorem ve_neg (ha : VE T X a fa) : VE T X (.UnaryOp .USub a pos) (w1 (gI1 fun i => -i) fa) :=
  .of (pe_un un_neg ha.pe) (sn1 (r := rU fun i => V.int (-i)) (fun W0 H0 W H O vs σ tm x a Q Q' hf R kk => by
    unfold gI1 at hf
    split at hf
    · rename_i i
      have e : x = .int i := R.top
      exact ⟨i, e, kk W H O vs _ _ (Le.refl W) hf (R.pop.push (by simp [Rep]))⟩
    · exact hf.elim) ha.sn)
/-! ### methods of built-ins, one argument -/
@[simp] def wBm (ok : Lo → Bool) (g : G2) (fo fa : WE) : WE := fun vs Q => fo vs fun a vs1 => ok a = true ∧ fa vs1 fun b vs2 => g a b vs2 Q
theorem ve_bm1 {ty : String} {name : Str} {id : String} {r : V → List V → Hp → VK → Prop} {g : G2} {ok : Lo → Bool} (pa : PlainAttrs ty) (slot : Slot ty name id) (hty : typeOf (.builtin id) = pure (.type "method_descriptor")) (hm : MtR X id r)
    (hok : ∀ (W : Wd) (H H0 : Hp) (O : Addr → Option Ow) (k : Ow) (v : V) (lo : Lo) (n : Nat), WOk T W H n → ok lo = true → LoOk W H H0 O k v lo → tyV X.K ty v H) (hg : Snd2 T (fun x y H Q => r x [y] H Q) g)
    (ho : VE T X o fo) (ha : VE T X a fa)
    (hbase : attributeBase o name X.env (eval o X.env) = eval o X.env := by rfl)
    (hfew : ((backTo cpos (starEach (a :: []) X.env)).all (fun x => !x.1) && (backToKw cpos (keywordEach [] X.env)).all (fun x => x.1.isSome) && decide ((a :: []).length + ([] : List Keyword).length + (if ([] : List Keyword).isEmpty then 0 else 1) < 30)) = true := by rfl)
    (hline : (apos.endLine == cpos.line) = true := by rfl) (hs : starEach (a :: []) X.env = (false, eval a X.env) :: starEach [] X.env := by rfl) :
    VE T X (.Call (.Attribute o name apos) [a] [] cpos) (wBm ok g fo fa) :=
  .of (pe_bm pa slot hty hm ho.pe (pa_cons ha.pe pa_nil hs) hbase hfew hline hs (by rfl)) fun W0 H0 W H O vs σ tm Q Q' hf R k => ho.sn W0 H0 W H O vs σ tm _ _ hf R fun W1 H1 O1 vs1 x lo l1 q1 R1 =>
    ⟨hok W1 H1 H0 O1 _ x lo vs1.n R1.ok q1.1 R1.top, ha.sn W0 H0 W1 H1 O1 vs1 σ _ _ _ q1.2 R1 fun W2 H2 O2 vs2 y lo2 l2 q2 R2 => hg W0 H0 W2 H2 O2 vs2 σ tm x y lo lo2 Q Q' q2 R2 fun W3 H3 O3 vs3 v lo3 l3 q3 R3 => k W3 H3 O3 vs3 v lo3 ((l1.trans l2).trans l3) q3 R3⟩
@[simp] def Lo.isLst (lo : Lo) : Bool := lo.lst?.isSome
@[simp] def Lo.isStr : Lo → Bool
  | .sh (.str _) => true
  | _ => false
theorem isLst_ty {K : PySem.W.Frag} (W : Wd) (H H0 : Hp) (O : Addr → Option Ow) (k : Ow) (v : V) (lo : Lo) (n : Nat) (ok : WOk T W H n) (h : lo.isLst = true) (l : LoOk W H H0 O k v lo) : tyV K "list" v H := by
  have go : ∀ p ws, v = .ref p → H p = some (.lst ws) → tyV K "list" v H := fun p ws e hp => by
    subst e
    exact .inl ⟨rfl, ws, SqL.of hp⟩
  cases lo with
  | sh d =>
    cases d with
    | lst xs =>
      obtain ⟨p, ws, e, hs, _⟩ := l
      exact go p ws e (ok.s _ _ hs).1
    | _ => cases h
  | ow xs => obtain ⟨p, ws, e, _, _, _, hp, _⟩ := l; exact go p ws e hp
  | bo xs => obtain ⟨p, ws, e, hp, _⟩ := l; exact go p ws e hp
  | pool => cases h
  | dct kvs => cases h
  | fx a d => cases h
  | oo p qs xss => cases h
theorem isStr_ty {K : PySem.W.Frag} (W : Wd) (H H0 : Hp) (O : Addr → Option Ow) (k : Ow) (v : V) (lo : Lo) (n : Nat) (ok : WOk T W H n) (h : lo.isStr = true) (l : LoOk W H H0 O k v lo) : tyV K "str" v H := by
  cases lo with
  | sh d =>
    cases d with
    | str z =>
      have e : v = .str z := l
      subst e
      rfl
    | _ => cases h
  | _ => cases h
/-- list.count(whole number) -/
@[simp] def gCnt : G2 := fun a b vs Q => match b with
  | .sh (.int k) => match a.lst? with
    | some ds => match D.nums ds with
      | some ks => Q (.sh (.int (ks.count k : Nat))) vs
      | none => False
    | none => False
  | _ => False
theorem snd_gCnt {K : PySem.W.Frag} : Snd2 T (fun x y H Q => rCntI K x [y] H Q) gCnt := fun W0 H0 W H O vs σ tm x y a b Q Q' hf R kk => by
  unfold gCnt at hf
  split at hf
  · rename_i k
    split at hf
    · rename_i ds e1
      split at hf
      · rename_i ks e2
        obtain ⟨p, ws, ep, hp, rp⟩ := R.lst R.pop.top e1
        rw [D.nums_eq e2] at rp
        rw [RepL.ints rp] at hp
        have ey : y = .int k := R.top
        subst ey
        exact ⟨p, ks, k, ep, rfl, SqL.of hp, kk W H O vs _ _ (Le.refl W) hf (R.pop.pop.push (by simp [Rep]))⟩
      · exact hf.elim
    · exact hf.elim
  · exact hf.elim
theorem ve_count (ho : VE T X o fo) (ha : VE T X a fa)
    (hbase : attributeBase o "count" X.env (eval o X.env) = eval o X.env := by rfl)
    (hfew : ((backTo cpos (starEach (a :: []) X.env)).all (fun x => !x.1) && (backToKw cpos (keywordEach [] X.env)).all (fun x => x.1.isSome) && decide ((a :: []).length + ([] : List Keyword).length + (if ([] : List Keyword).isEmpty then 0 else 1) < 30)) = true := by rfl)
    (hline : (apos.endLine == cpos.line) = true := by rfl) (hs : starEach (a :: []) X.env = (false, eval a X.env) :: starEach [] X.env := by rfl) :
    VE T X (.Call (.Attribute o "count" apos) [a] [] cpos) (wBm Lo.isLst gCnt fo fa) :=
  ve_bm1 PySem.F.plainAttrs_list PySem.F.slot_list_count PySem.F.type_list_count mt_lcount isLst_ty snd_gCnt ho ha hbase hfew hline hs
/-- str.split(str) -/
@[simp] def gSplit : G2 := fun a b vs Q => match a, b with
  | .sh (.str x), .sh (.str y) => (y.length == 0) = false ∧ x.length + 2 ≤ sizeLine ∧ Q (.ow ((Txt.split x y).map D.str)) vs
  | _, _ => False
theorem RepL.strs {W : Wd} : ∀ {xs : List Str}, RepL W (xs.map D.str) (xs.map V.str)
  | [] => RepL.nil
  | x :: xs => RepL.cons (by simp [Rep]) RepL.strs
theorem snd_gSplit : Snd2 T (fun x y H Q => (fun (x : V) (xs : List V) (H : Hp) (Q : VK) => ∃ a b, x = .str a ∧ xs = [.str b] ∧ (b.length == 0) = false ∧ a.length + 2 ≤ sizeLine ∧ rNewStrs (Txt.split a b) H Q) x [y] H Q) gSplit := fun W0 H0 W H O vs σ tm x y a b Q Q' hf R kk => by
  unfold gSplit at hf
  split at hf
  · rename_i u v
    have ex : x = .str u := R.pop.top
    have ey : y = .str v := R.top
    subst ex ey
    exact ⟨u, v, rfl, rfl, hf.1, hf.2.1, fun p hp => kk W _ _ vs _ _ (Le.refl W) hf.2.2 (R.pop.pop.fresh hp RepL.strs)⟩
  · exact hf.elim
theorem ve_split (ho : VE T X o fo) (ha : VE T X a fa)
    (hbase : attributeBase o "split" X.env (eval o X.env) = eval o X.env := by rfl)
    (hfew : ((backTo cpos (starEach (a :: []) X.env)).all (fun x => !x.1) && (backToKw cpos (keywordEach [] X.env)).all (fun x => x.1.isSome) && decide ((a :: []).length + ([] : List Keyword).length + (if ([] : List Keyword).isEmpty then 0 else 1) < 30)) = true := by rfl)
    (hline : (apos.endLine == cpos.line) = true := by rfl) (hs : starEach (a :: []) X.env = (false, eval a X.env) :: starEach [] X.env := by rfl) :
    VE T X (.Call (.Attribute o "split" apos) [a] [] cpos) (wBm Lo.isStr gSplit fo fa) :=
  ve_bm1 PySem.F.plainAttrs_str PySem.F.slot_str_split PySem.F.type_str_split mt_split isStr_ty snd_gSplit ho ha hbase hfew hline hs
/-! ### the letters of a text, one by one -/
@[simp] def wIS (f : WE) : WI := fun vs Q => f vs fun lo vs1 => match lo with
  | .sh (.str x) => Q (x.cps.toList.map fun c => D.str ⟨#[c]⟩) vs1
  | _ => False
theorem vi_str (h : VE T X iter fa) : VI T X target iter (wIS fa) :=
  .of (pi_str h.pe) fun W0 H0 W H O vs σ tm Q Q' hf R k => h.sn W0 H0 W H O vs σ tm _ _ hf R fun W1 H1 O1 vs1 v lo l1 q1 R1 => by
    split at q1
    · rename_i x
      have e : v = .str x := R1.top
      refine ⟨x, e, k W1 H1 O1 vs1 _ _ l1 q1 (fun H hH i => ⟨fun d ed => ?_, fun hi => ?_⟩) R1.pop⟩
      · rw [List.getElem?_map] at ed
        cases ec : x.cps.toList[i]? with
        | none => rw [ec] at ed; cases ed
        | some c =>
          rw [ec] at ed
          cases ed
          have hi : i < x.cps.toList.length := (List.getElem?_eq_some_iff.mp ec).1
          refine ⟨show i < x.cps.size by simpa using hi, fun z H' y => .inl ⟨y.1, ?_⟩⟩
          obtain ⟨c', hc', ez⟩ := y.2
          rw [← Array.getElem?_toList, ec] at hc'
          cases hc'
          exact ez
      · show x.cps.size ≤ i
        simpa using hi
    · exact q1.elim
/-! ### target = name.pop(i) -/
@[simp] def wPop (tg : Tg) (i : Nat) (f : WE) : WS := fun vs E => (∃ xs0, vs.env[i]? = some (some (.ow xs0))) ∧ f vs fun lo vs1 => match lo, vs1.env[i]? with
  | .sh (.int k), some (some (.ow xs)) => 0 ≤ k ∧ k < 2 ^ 63 ∧ ∃ d, xs[k.toNat]? = some d ∧ match bindT tg d (vs1.put i (.ow (xs.eraseIdx k.toNat))).env with
    | some env' => E.nx { vs1 with env := env' }
    | none => False
  | _, _ => False
theorem vp_pop (i : Nat) {x : Str} {p : Pos} {tg : Tg} (ha : VE T X a fa) (hgt : VG T X target tg) (hN : X.N[i]? = some x := by rfl) (hv : Vis X.env.scope x := by first | exact Or.inl rfl | exact Or.inr (Or.inl rfl) | exact Or.inr (Or.inr rfl)) (hd : (x == ("__debug__" : Str)) = false := by decide) (hcd : (x == ("__classdict__" : Str)) = false := by decide)
    (hbase : attributeBase (.Name x p) "pop" X.env (eval (.Name x p) X.env) = eval (.Name x p) X.env := by rfl)
    (hfew : ((backTo cpos (starEach (a :: []) X.env)).all (fun x => !x.1) && (backToKw cpos (keywordEach [] X.env)).all (fun x => x.1.isSome) && decide ((a :: []).length + ([] : List Keyword).length + (if ([] : List Keyword).isEmpty then 0 else 1) < 30)) = true := by rfl)
    (hline : (apos.endLine == cpos.line) = true := by rfl) (h1 : starEach (a :: []) X.env = (false, eval a X.env) :: starEach [] X.env := by rfl)
    (hs : swapsWithSole [target] (.Call (.Attribute (.Name x p) "pop" apos) [a] [] cpos) pos.line X.env = pure false := by rfl) (hw : swappedStores [target] (.Call (.Attribute (.Name x p) "pop" apos) [a] [] cpos) X.env = pure none := by rfl)
    (h2 : (assignEach [target] X.env).map (·.2) = [assign target X.env] := by rfl) : VP T X (.Assign [target] (.Call (.Attribute (.Name x p) "pop" apos) [a] [] cpos) pos) (wPop tg i fa) :=
  .of (ps_asg (pe_bm PySem.F.plainAttrs_list PySem.F.slot_list_pop PySem.F.type_list_pop mt_popAt (pe_var hN hv hd hcd) (pa_cons ha.pe pa_nil h1) hbase hfew hline h1 (by rfl)) hgt.pg hs hw h2) fun W0 H0 W H O vs σ tm E0 D' nb hf R C => by
    obtain ⟨⟨xs0, e0⟩, hf⟩ := hf
    obtain ⟨v, hv, p, ws, e1, ho, hd, h0, hp, r⟩ := R.env i _ e0
    subst e1
    refine ⟨.ref p, hv, .inl ⟨rfl, _, SqL.of hp⟩, ?_⟩
    refine ha.sn W0 H0 W H O vs σ tm _ _ hf R fun W1 H1 O1 vs1 y lo l1 q1 R1 => ?_
    split at q1
    · rename_i k xs ex
      obtain ⟨k0, k1, d, ed, q⟩ := q1
      have ey : y = .int k := R1.top
      subst ey
      obtain ⟨v2, hv2, p2, ws2, e2, ho2, hd2, h02, hp2, r2⟩ := R1.env i _ ex
      rw [hv] at hv2
      cases hv2
      cases e2
      obtain ⟨w, hw, rw'⟩ := r2.get ed
      have hk : k.toNat < ws2.length := (List.getElem?_eq_some_iff.mp hw).1
      have hsi : seqIndex? k ws2.length = some k.toNat := by
        unfold seqIndex?
        have e1 : ¬ k < 0 := by omega
        simp only [e1, if_false]
        rw [if_pos]
        simp only [Bool.and_eq_true, decide_eq_true_eq]
        omega
      refine ⟨p, ws2, k, k.toNat, w, rfl, rfl, hp2, by omega, k1, hsi, hw, ?_⟩
      have R2 := R1.pop.write nb ex hv (r2.eraseIdx k.toNat)
      split at q
      · rename_i env' eb
        exact hgt.sn W0 H0 W1 _ O1 _ σ tm d w env' _ rw' eb R2 fun O' σ' ag R3 => C.nx W1 _ O' _ σ' l1 q R3
      · exact q.elim
    · exact q1.elim
end
end Vx

set_option Elab.async false
set_option maxRecDepth 100000
set_option linter.all false
/-! Row(..): a new row. -/
namespace Vx
open PySem PySem.Spec PyProof.Rows L2
/-! ### an attribute as a target -/
def gFld (K : PySem.W.Frag) (ta : TE) (f : Str) : TG := fun v σ H Q => ta σ H fun x H1 => ∃ a C dx fs, x = .ref a ∧ H1 a = some (.ins C dx fs) ∧ Cls K C ∧ NoAttr K C f ∧ fs.length < 1000 ∧ Q σ (upd H1 a (.ins C dx (putF f v fs)))
theorem pg_fld {X : Cx} {o : Expr} {f : Str} {pos : Pos} {ta : TE} (ha : PE X o ta) : PG X (.Attribute o f pos) (gFld X.K ta f) := by
  refine ⟨fun pins s σ H v u Q I r h => ?_⟩
  rw [assign_Attribute]
  refine wpAny_bind (wpAny_holding (thn (ha.run pins s σ H _ I h) fun ov s1 ⟨x, H1, I1, r1, a, C, dx, fs, ex, ea, c, n, l, q⟩ => ?_))
  subst ex
  obtain rfl : ov = Value.ref a := r1
  refine wpAny_bind (wpAny_standAt (wpAny_bind (wpAny_holding (setattr_ok I1 ea c n l r fun s2 I2 => ?_))))
  exact wpAny_release ⟨σ, _, I2, q⟩
/-! ### rules as data -/
def natsOf : List D → Option (List Nat)
  | [] => some []
  | .int i :: r => if 0 ≤ i then (natsOf r).map (i.toNat :: ·) else none
  | _ :: _ => none
def wordOf : D → Option (List Nat)
  | .lst ds => natsOf ds
  | _ => none
def wordsOf : List D → Option (List (List Nat))
  | [] => some []
  | d :: r => match wordOf d, wordsOf r with
    | some w, some ws => some (w :: ws)
    | _, _ => none
def rulesOf : D → Option (List (List Nat))
  | .lst ds => wordsOf ds
  | _ => none
theorem natsOf_eq : ∀ {ds : List D} {w : List Nat}, natsOf ds = some w → ds = dnats w
  | [], w, h => by cases h; rfl
  | d :: ds, w, h => by
    cases d with
    | int i =>
      unfold natsOf at h
      by_cases hi : 0 ≤ i
      · rw [if_pos hi] at h
        cases e : natsOf ds with
        | none => rw [e] at h; cases h
        | some r =>
          rw [e] at h
          cases h
          rw [natsOf_eq e]
          show D.int i :: dnats r = D.int (i.toNat : Int) :: dnats r
          rw [Int.toNat_of_nonneg hi]
      · rw [if_neg hi] at h; cases h
    | _ => cases h
theorem natsOf_of : ∀ (w : List Nat), natsOf (dnats w) = some w
  | [] => rfl
  | a :: w => by
    show (if (0 : Int) ≤ (a : Int) then (natsOf (dnats w)).map ((a : Int).toNat :: ·) else none) = _
    rw [if_pos (Int.natCast_nonneg a), natsOf_of w]
    rfl
theorem wordsOf_lst : ∀ (r : List (List Nat)), wordsOf (r.map dwl) = some r
  | [] => rfl
  | w :: r => by
    show (match wordOf (dwl w), wordsOf (r.map dwl) with | some w, some ws => some (w :: ws) | _, _ => none) = _
    rw [wordsOf_lst r, show wordOf (dwl w) = some w from natsOf_of w]
theorem wordOf_eq {d : D} {w : List Nat} (h : wordOf d = some w) : d = dwl w := by
  cases d with
  | lst ds => exact congrArg D.lst (natsOf_eq h)
  | _ => cases h
theorem wordsOf_eq : ∀ {ds : List D} {r : List (List Nat)}, wordsOf ds = some r → ds = r.map dwl
  | [], r, h => by cases h; rfl
  | d :: ds, r, h => by
    unfold wordsOf at h
    split at h
    · rename_i w ws e1 e2
      cases h
      rw [wordOf_eq e1, wordsOf_eq e2]; rfl
    · cases h
theorem rulesOf_eq {d : D} {r : List (List Nat)} (h : rulesOf d = some r) : d = rulesL r := by
  cases d with
  | lst ds => exact congrArg D.lst (wordsOf_eq h)
  | _ => cases h
theorem rulesOf_of (r : List (List Nat)) : rulesOf (rulesL r) = some r := wordsOf_lst r
/-- rules that Row takes, of a size that the model covers -/
def fitR (r : List (List Nat)) : Bool := Rw.good r && decide (r.length ≤ 1000) && (r.all fun w => decide (w.length + 1 < 4096)) && (decide (r.length ≤ 63) || r.all fun w => decide (w.length ≤ 63))
theorem fitR_good {r : List (List Nat)} (h : fitR r = true) : Rw.good r = true ∧ r.length ≤ 1000 := by
  unfold fitR at h
  simp only [Bool.and_eq_true, decide_eq_true_eq] at h
  exact ⟨h.1.1.1, h.1.1.2⟩
/-! ### the promise -/
structure MadeAt (C : Addr) (x : Addr) (r : List (List Nat)) (W : Wd) (H : Hp) (W' : Wd) (H' : Hp) (n : Nat) : Prop where
  le : Le W W'
  ok : WOk (thR C) W' H' n
  row : W'.R x = some r
  frame : ∀ a o, a ≠ x → ¬ W.D a → H a = some o → H' a = some o
  grow : ∀ a, W'.D a → W.D a ∨ H a = none ∨ a = x
  adv : AdvR C W H H'
def spInit (C : Addr) : Sp := fun vs H Q _ => ∃ W n x dx v d r, vs = [.ref x, v] ∧ WOk (thR C) W H n ∧ H x = some (.ins C dx []) ∧ ¬ W.D x ∧ Rep W d v ∧ rulesOf d = some r ∧ fitR r = true ∧ (∀ W' H', MadeAt C x r W H W' H' n → Q .non H')
/-- no list of one's own -/
def PlainE (env : List (Option Lo)) : Prop := ∀ (i : Nat) (lo : Lo), env[i]? = some (some lo) → (∃ d, lo = Lo.sh d) ∨ lo = Lo.pool
theorem Rel.restart {T : Th} {W0 W : Wd} {H0 H H' : Hp} {O : Addr → Option Ow} {vs : VS} {σ : L2.St} {tm : List (V × Lo)} {n' : Nat} (R : Rel T W0 H0 W H O vs σ tm) (pl : PlainE vs.env) (ok : WOk T W H' n') : Rel T W H' W H' (fun _ => none) ⟨vs.env, n'⟩ σ [] := by
  refine ⟨ok, Le.refl W, fun _ _ _ e => e, ⟨fun _ e => .inl e, ok.adv fun _ _ _ => rfl⟩, fun i lo e => ?_, trivial, R.nbe, R.len⟩
  obtain ⟨v, hv, q⟩ := R.env i lo e
  refine ⟨v, hv, ?_⟩
  rcases pl i lo e with ⟨d, rfl⟩ | rfl
  · exact q
  · exact q

theorem put1 (v : V) : putF "kept_rules" v [] = [(("kept_rules" : Str), v)] := rfl
theorem put2 (t v : V) : putF "lengths" v [(("kept_rules" : Str), t)] = [(("kept_rules" : Str), t), ("lengths", v)] := by
  show (if ("kept_rules" : Str) = "lengths" then _ else (("kept_rules" : Str), t) :: putF "lengths" v []) = _
  rw [if_neg (by decide +kernel)]; rfl
theorem put3 (t l v : V) : putF "kept_returns" v [(("kept_rules" : Str), t), ("lengths", l)] = [(("kept_rules" : Str), t), ("lengths", l), ("kept_returns", v)] := by
  show (if ("kept_rules" : Str) = "kept_returns" then _ else (("kept_rules" : Str), t) :: (if ("lengths" : Str) = "kept_returns" then _ else (("lengths" : Str), l) :: putF "kept_returns" v [])) = _
  rw [if_neg (by decide +kernel), if_neg (by decide +kernel)]; rfl
theorem put4 (t l r v : V) : putF "kept_below" v [(("kept_rules" : Str), t), ("lengths", l), ("kept_returns", r)] = [(("kept_rules" : Str), t), ("lengths", l), ("kept_returns", r), ("kept_below", v)] := by
  show (if ("kept_rules" : Str) = "kept_below" then _ else (("kept_rules" : Str), t) :: (if ("lengths" : Str) = "kept_below" then _ else (("lengths" : Str), l) :: (if ("kept_returns" : Str) = "kept_below" then _ else (("kept_returns" : Str), r) :: putF "kept_below" v []))) = _
  rw [if_neg (by decide +kernel), if_neg (by decide +kernel), if_neg (by decide +kernel)]; rfl
def tInit (T : Th) (K : PySem.W.Frag) (f1 f2 f3 : WE) : TS := tSeq (tDrop (tE T f1)) (tSeq (sFld K (tVar 0) (tE T f2) "kept_rules") (tSeq (sFld K (tVar 0) (tE T f3) "lengths")
  (tAsg (tTup (tCons (tC .non) (tCons (tC .non) tNil))) (gTup K 2 (gCons (gFld K (tVar 0) "kept_returns") (gCons (gFld K (tVar 0) "kept_below") gNil))))))
/-- the new world: x is a row, L its table -/
def Wd.mk1 (W : Wd) (x L : Addr) (r : List (List Nat)) : Wd := ⟨W.S, fun a => if a = x then some r else W.R a, fun a => W.D a ∨ a = x ∨ a = L, W.P, fun a => if a = L then some x else W.I a⟩
theorem made {C : Addr} {W : Wd} {H : Hp} {n : Nat} {x dx t L : Addr} {r : List (List Nat)} {ws : List V} (ok : WOk (thR C) W H n) (hx : H x = some (.ins C dx (rowFs t L .non .non))) (nx : ¬ W.D x) (hL : H L = some (.lst ws)) (nL : ¬ W.D L)
    (ht : Rep W (rulesT r) (.ref t)) (hg : fitR r = true) (hw : RepL W [dwl (r.map fun _ => 1)] ws) : Le W (W.mk1 x L r) ∧ WOk (thR C) (W.mk1 x L r) H n := by
  have rx : ∀ a r', W.R a = some r' → a ≠ x := fun a r' e z => nx (z ▸ (ok.r a r' e).2.1)
  have le : Le W (W.mk1 x L r) := by
    refine ⟨fun _ _ e => e, fun a o e => ?_, fun _ e => .inl e, rfl, fun a o e => ?_, fun _ _ e => .inl e, fun a o e => ?_⟩
    · show (if a = x then some r else W.R a) = _
      rw [if_neg (rx a o e)]; exact e
    · show (if a = L then some x else W.I a) = _
      rw [if_neg (fun (z : a = L) => nL (z ▸ ok.i a o e))]; exact e
    · by_cases z : a = x
      · exact .inr (z ▸ nx)
      · have e' : (if a = x then some r else W.R a) = some o := e
        rw [if_neg z] at e'
        exact .inl e'
  have np : ∀ {a}, ¬ W.D a → a ≠ W.P := fun h z => h (z ▸ ok.pd)
  refine ⟨le, fun a o e => ?_, fun a r' e => ?_, fun a e => ?_, .inl ok.pd, fun a b e => ?_, ok.p⟩
  · obtain ⟨h1, h2, h3⟩ := ok.s a o e
    exact ⟨h1, h2.imp .inl id, h3⟩
  · by_cases z : a = x
    · subst z
      have e' : (if a = a then some r else W.R a) = some r' := e
      rw [if_pos rfl] at e'
      cases e'
      refine ⟨⟨dx, t, L, .non, .non, hx, ⟨ht.mono le, (fitR_good hg).1, .inl rfl, .inl rfl, fun o q => ?_, (fitR_good hg).2⟩, ⟨⟨1, ws, hL, by decide, by decide, hw.mono le⟩, if_pos rfl, fun o q => ?_, .inr (.inr rfl), np nL⟩, .inr (.inl rfl), np nx⟩, .inr (.inl rfl), np nx⟩
      · rcases (ok.s _ _ q).2.1 with z | z
        · exact absurd z nx
        · exact z
      · rcases (ok.s _ _ q).2.1 with z | z
        · exact absurd z nL
        · exact z
    · have e' : (if a = x then some r else W.R a) = some r' := e
      rw [if_neg z] at e'
      obtain ⟨h1, h2, h3⟩ := ok.r a r' e'
      exact ⟨(thR C).mono W _ H H a r' le (fun _ _ _ => rfl) h1, .inl h2, h3⟩
  · rcases e with e | e | e
    · exact ok.d a e
    · exact ⟨_, e ▸ hx⟩
    · exact ⟨_, e ▸ hL⟩
  · by_cases z : a = L
    · exact .inr (.inr z)
    · have e' : (if a = L then some x else W.I a) = some b := e
      rw [if_neg z] at e'
      exact .inl (ok.i a b e')
section
variable {P : Program} {w : World} {K : PySem.W.Frag} {mg : Str → Option Value} {base : Heap} {C : Addr}
theorem ok_init {f : Addr} {fd : FuncData} {k : Nat} {st : Stmt} {f1 f2 f3 : WE} (F : Fun K "__init__" "Row.__init__" st f fd) (S : FnScope ["self", "rules", "word"] ["self", "rules"] (defScope st)) (c : RowC K C)
    (h1 : ∀ (d : D) (r : List (List Nat)) (n : Nat) (Q : Lo → VS → Prop), rulesOf d = some r → fitR r = true → (∀ lo, Q lo ⟨[none, some (.sh d), none], n⟩) → f1 ⟨[none, some (.sh d), none], n⟩ Q)
    (h2 : ∀ (d : D) (r : List (List Nat)) (n : Nat) (Q : Lo → VS → Prop), rulesOf d = some r → fitR r = true → Q (.sh (rulesT r)) ⟨[none, some (.sh d), none], n⟩ → f2 ⟨[none, some (.sh d), none], n⟩ Q)
    (h3 : ∀ (d : D) (r : List (List Nat)) (n : Nat) (Q : Lo → VS → Prop), rulesOf d = some r → fitR r = true → Q (.ow [dwl (r.map fun _ => 1)]) ⟨[none, some (.sh d), none], n⟩ → f3 ⟨[none, some (.sh d), none], n⟩ Q)
    (hb : ∀ (cdv : Value) (A : Around) (outer : List Env) (s : Shared) (H : Hp) (E : XK), Room k (A.deeper (envOfC "Row.__init__" (defScope st) s.heap.objs.size f cdv)) →
      PSs (cxOf CX0 P w K mg base ["self", "rules", "word"] "Row.__init__" (defScope st) f cdv A outer s H E).nox (defBody st) (tInit (thR C) K f1 f2 f3)) : FnOk P w K mg base CX0 (k + 1) f fd ["self", "rules"] (spInit C) := by
  refine F.ok S (fun vs H Q E h => ?_) (fun cdv A outer s H vs Q E hr h => ?_)
  · obtain ⟨W, n, x, dx, v, d, r, e, _⟩ := h
    subst e; rfl
  · obtain ⟨W, n, x, dx, v, d, r, e, ok, hx, nx, rd, er, hg, kk⟩ := h
    subst e
    refine ⟨_, hb cdv A outer s H E hr, ?_⟩
    have pl : PlainE [none, some (.sh d), none] := fun i lo e => by
      match i, e with
      | 0, e => cases e
      | 1, e => cases e; exact .inl ⟨d, rfl⟩
      | 2, e => cases e
      | i + 3, e => simp at e
    have R0 : Rel (thR C) W H W H (fun _ => none) ⟨[none, some (.sh d), none], n⟩ (L2.start ["self", "rules", "word"] [.ref x, v]) [] := by
      refine ⟨ok, Le.refl W, fun _ _ _ e => e, ⟨fun _ e => .inl e, ok.adv fun _ _ _ => rfl⟩, fun i lo e => ?_, trivial, fun i ys e => ?_, rfl⟩
      · match i, e with
        | 0, e => cases e
        | 1, e => cases e; exact ⟨v, rfl, rd⟩
        | 2, e => cases e
        | i + 3, e => simp at e
      · rcases pl i _ e with ⟨d, z⟩ | z <;> cases z
    -- check_rules(rules)
    refine ⟨W, H, W, fun _ => none, _, [], fun _ vs' => vs' = ⟨[none, some (.sh d), none], n⟩, h1 d r n _ er hg (fun _ => rfl), R0, fun W1 H1 O1 vs1 v1 lo1 l1 e1 R1 => ?_⟩
    subst e1
    have hx1 := R1.frame x _ nx hx
    have nx1 : ¬ W1.D x := fun z => by
      rcases R1.grow.1 x z with z | z
      · exact nx z
      · rw [hx] at z; cases z
    -- self.kept_rules = ..
    refine ⟨W, H, W1, O1, _, [], fun lo vs' => lo = .sh (rulesT r) ∧ vs' = ⟨[none, some (.sh d), none], n⟩, h2 d r n _ er hg ⟨rfl, rfl⟩, R1.pop, fun W2 H2 O2 vs2 v2 lo2 l2 e2 R2 => ?_⟩
    obtain ⟨e2, e2'⟩ := e2
    subst e2 e2'
    have hx2 := R2.frame x _ nx hx
    have nx2 : ¬ W2.D x := fun z => by
      rcases R2.grow.1 x z with z | z
      · exact nx z
      · rw [hx] at z; cases z
    obtain ⟨t, wt, et, hst, rt⟩ := (show Rep W2 (rulesT r) v2 from R2.top)
    subst et
    refine ⟨.ref x, rfl, x, C, dx, [], rfl, hx2, c.cls, c.rules, by decide, ?_⟩
    rw [put1]
    have ok2 : WOk (thR C) W2 (upd H2 x (.ins C dx [("kept_rules", .ref t)])) n := R2.ok.wr hx2 nx2
    have R3 := R2.restart pl ok2
    -- self.lengths = ..
    refine ⟨W2, _, W2, _, _, [], fun lo vs' => lo = .ow [dwl (r.map fun _ => 1)] ∧ vs' = ⟨[none, some (.sh d), none], n⟩, h3 d r n _ er hg ⟨rfl, rfl⟩, R3, fun W4 H4 O4 vs4 v4 lo4 l4 e4 R4 => ?_⟩
    obtain ⟨e4, e4'⟩ := e4
    subst e4 e4'
    have hx4 := R4.frame x _ nx2 upd_same
    have nx4 : ¬ W4.D x := fun z => by
      rcases R4.grow.1 x z with z | z
      · exact nx2 z
      · rw [upd_same] at z; cases z
    obtain ⟨L, ws, eL, hoL, nL, hL0, hL, rL⟩ := R4.top
    have eL' : v4 = .ref L := eL
    subst eL'
    refine ⟨.ref x, rfl, x, C, dx, _, rfl, hx4, c.cls, c.lens, (by show 1 < 1000; decide), ?_⟩
    rw [put2]
    have ok4 : WOk (thR C) W4 (upd H4 x (.ins C dx [("kept_rules", .ref t), ("lengths", .ref L)])) n := R4.ok.wr hx4 nx4
    have nLx : L ≠ x := fun z => by
      subst z
      rw [upd_same] at hL0; cases hL0
    -- None, None
    refine ⟨by show 2 ≤ sizeLine; decide, fun p hp => ⟨p, _, rfl, SqT.of upd_same, rfl, .non, _, rfl, .ref x, rfl, x, C, dx, _, rfl, by rw [upd_ne (ne_of_none upd_same hp)]; exact upd_same, c.cls, c.rets, (by show 2 < 1000; decide), ?_⟩⟩
    rw [put3]
    refine ⟨.non, _, rfl, .ref x, rfl, x, C, dx, _, rfl, upd_same, c.cls, c.below, (by show 3 < 1000; decide), rfl, ?_⟩
    rw [put4]
    have ok5 := (ok4.alloc (o := .tup [.non, .non]) hp)
    have hxp : x ≠ p := ne_of_none upd_same hp
    have ok6 : WOk (thR C) W4 (upd (upd (upd (upd H4 x (.ins C dx [("kept_rules", .ref t), ("lengths", .ref L)])) p (.tup [.non, .non])) x (.ins C dx [("kept_rules", .ref t), ("lengths", .ref L), ("kept_returns", .non)])) x (.ins C dx (rowFs t L .non .non))) n :=
      (ok5.wr (u' := .ins C dx [("kept_rules", .ref t), ("lengths", .ref L), ("kept_returns", .non)]) (by rw [upd_ne hxp]; exact upd_same) nx4).wr upd_same nx4
    have hLp : L ≠ p := fun z => by
      subst z
      rw [upd_ne nLx, hL] at hp; cases hp
    obtain ⟨leM, okM⟩ := made (r := r) (ws := ws) ok6 upd_same nx4 (by rw [upd_ne nLx, upd_ne nLx, upd_ne hLp, upd_ne nLx]; exact hL) nL (Rep.mono l4 (show Rep W2 (rulesT r) (.ref t) from R2.top)) hg rL
    have fr : ∀ a o, a ≠ x → ¬ W.D a → H a = some o → (upd (upd (upd (upd H4 x (.ins C dx [("kept_rules", .ref t), ("lengths", .ref L)])) p (.tup [.non, .non])) x (.ins C dx [("kept_rules", .ref t), ("lengths", .ref L), ("kept_returns", .non)])) x (.ins C dx (rowFs t L .non .non))) a = some o ∧ H4 a = some o := fun a o ha hd h => by
      have q2 := R2.frame a o hd h
      have nd2 : ¬ W2.D a := fun z => by
        rcases R2.grow.1 a z with z | z
        · exact hd z
        · rw [h] at z; cases z
      have q4 := R4.frame a o nd2 (by rw [upd_ne ha]; exact q2)
      have hap : a ≠ p := fun z => by
        subst z
        rw [upd_ne ha, q4] at hp; cases hp
      exact ⟨by rw [upd_ne ha, upd_ne ha, upd_ne hap, upd_ne ha]; exact q4, q4⟩
    refine kk (W4.mk1 x L r) _ ⟨(R2.le.trans R4.le).trans leM, okM, if_pos rfl, fun a o ha hd h => (fr a o ha hd h).1, fun a hM => ?_, ?adv⟩
    case adv =>
      have b1 : AdvR C W2 H2 (upd H2 x (.ins C dx [("kept_rules", .ref t)])) := R2.ok.adv fun b hb _ => upd_ne fun z => nx2 (z ▸ hb)
      have hp4 : H4 p = none := by rw [upd_ne (Ne.symm hxp)] at hp; exact hp
      have nb : ∀ b, W4.D b → b ≠ x ∧ b ≠ p := fun b hb => ⟨fun z => nx4 (z ▸ hb), fun z => by
        obtain ⟨o, e⟩ := R4.ok.d b hb
        rw [z, hp4] at e; cases e⟩
      have b2 : AdvR C W4 H4 (upd (upd (upd (upd H4 x (.ins C dx [("kept_rules", .ref t), ("lengths", .ref L)])) p (.tup [.non, .non])) x (.ins C dx [("kept_rules", .ref t), ("lengths", .ref L), ("kept_returns", .non)])) x (.ins C dx (rowFs t L .non .non))) :=
        R4.ok.adv fun b hb _ => by rw [upd_ne (nb b hb).1, upd_ne (nb b hb).1, upd_ne (nb b hb).2, upd_ne (nb b hb).1]
      exact (thR C).trans W W4 H H4 _ (R2.le.trans R4.le) ((thR C).trans W W2 H _ H4 R2.le ((thR C).trans W W2 H H2 _ R2.le R2.grow.2 b1) R4.grow.2) b2
    rcases hM with hM | hM | hM
    · by_cases q : W.D a
      · exact .inl q
      · by_cases hax : a = x
        · exact .inr (.inr hax)
        · refine .inr (.inl ?_)
          cases e : H a with
          | none => rfl
          | some o =>
            exfalso
            rcases R4.grow.1 a hM with z | z
            · rcases R2.grow.1 a z with z | z
              · exact q z
              · rw [e] at z; cases z
            · rw [upd_ne hax, R2.frame a o q e] at z; cases z
    · exact .inr (.inr hM)
    · subst hM
      by_cases q : W.D a
      · exact .inl q
      · refine .inr (.inl ?_)
        cases e : H a with
        | none => rfl
        | some o =>
          exfalso
          have := R2.frame a o q e
          rw [upd_ne nLx, this] at hL0; cases hL0
end
/-! ### Row(..) -/
section
variable {C : Addr} {X : Cx} {W0 W W' : Wd} {H0 H H' : Hp} {O O' : Addr → Option Ow} {vs : VS} {σ : L2.St} {tm : List (V × Lo)} {n : Nat} {e : Expr} {fa : WE} {pos : Pos}
@[simp] def wMk (f : WE) : WE := fun vs Q => f vs fun lo vs1 => match lo.dat? with
  | some d => match rulesOf d with
    | some r => fitR r = true ∧ Q (.sh (.row r)) vs1
    | none => False
  | none => False
theorem ve_mk {k : Nat} {f : Addr} {fd : FuncData} {x : Str} {p : Pos} (M : Mk X.K C f) (F : FnOk X.prog X.w X.K X.mg X.base CX0 k f fd ["self", "rules"] (spInit C)) (hr : Room (k + 1) X.A) (hg : Gl X x) (hm : X.mg x = some (.ref C)) (hb : Binds X.K fd ["self", "rules"] [])
    (hx : Passes CX0 X E0) (ha : VE (thR C) X e fa) (hdb : (x == ("__debug__" : Str)) = false := by decide) (hs : starEach [e] X.env = (false, eval e X.env) :: starEach [] X.env := by rfl) : VE (thR C) X (.Call (.Name x p) [e] [] pos) (wMk fa) :=
  .of (pe_make M F hr hg hm hb .nil hx (pa_cons ha.pe pa_nil hs) hdb hs (by rfl)) fun W0 H0 W H O vs σ tm Q Q' hf R k => ha.sn W0 H0 W H O vs σ tm _ _ hf R fun W1 H1 O1 vs1 v lo l1 q1 R1 => by
    split at q1
    · rename_i d e1
      split at q1
      · rename_i r e2
        obtain ⟨W2, l2, rd, R2⟩ := R1.share e1
        intro a dx ha hdx hne
        have R3 : Rel (thR C) W0 H0 W2 (upd (upd H1 dx (.own a)) a (.ins C dx [])) O1 vs1 σ tm := (R2.alloc hdx).alloc (by rw [upd_ne (Ne.symm hne)]; exact ha)
        have nD : ¬ W2.D a := R2.noD ha
        refine ⟨W2, vs1.n, a, dx, v, d, r, rfl, R3.ok, upd_same, nD, rd, e2, q1.1, fun W' H' M => ⟨rfl, ?_⟩⟩
        have up : ∀ b o, H1 b = some o → (upd (upd H1 dx (.own a)) a (.ins C dx [])) b = some o := fun b o h => by rw [upd_ne (ne_of_none h ha), upd_ne (ne_of_none h hdx)]; exact h
        have R4 : Rel (thR C) W0 H0 W' H' O1 { vs1 with n := vs1.n } σ tm := R2.over M.le M.ok (fun b o hd h => M.frame b o (ne_of_none h ha) hd (up b o h)) (fun b hb => by
          rcases M.grow b hb with z | z | z
          · exact .inl z
          · refine .inr ?_
            cases e : H1 b with
            | none => rfl
            | some o => rw [up b o e] at z; cases z
          · exact .inr (z ▸ ha)) ((thR C).trans W2 W2 H1 _ H' (Le.refl W2) (R2.ok.adv fun b hb _ => by
            obtain ⟨o, e⟩ := R2.ok.d b hb
            rw [up b o e, e]) M.adv)
        exact k W' H' O1 vs1 _ _ ((l1.trans l2).trans M.le) q1.2 (R4.push ⟨a, rfl, M.row⟩)
      · exact q1.elim
    · exact q1.elim
end
end Vx

set_option Elab.async false
set_option maxRecDepth 100000
set_option linter.all false
/-! Whatever is walked: a list, a tuple, a text. -/
namespace Vx
open PySem PySem.Spec PyProof.Rows L2
def iAny (K : PySem.W.Frag) (te : TE) : TI := fun σ H R => te σ H fun x H1 =>
  (∃ a xs, x = .ref a ∧ SqL K H1 a xs ∧ R (Itl K a) H1) ∨ (∃ a xs, x = .ref a ∧ SqT K H1 a xs ∧ R (Itt K a) H1) ∨ ∃ z, x = .str z ∧ R (Its z) H1
theorem pi_any {X : Cx} {tg e : Expr} {te : TE} (he : PE X e te) : PI X tg e (iAny X.K te) := by
  constructor
  intro pins s σ H R I h
  refine thn (he.run pins s σ H _ I h) fun v s1 ⟨x, H1, I1, r1, q1⟩ => ?_
  have new : FpOk X pins H1 s1.heap.objs.size := I1.fpOk (Nat.le_refl _) (I1.hok.fresh (Nat.le_refl _))
  have one : ∀ b ∈ [s1.heap.objs.size], FpOk X pins H1 b := fun b hb => by
    rw [List.mem_singleton] at hb
    exact hb ▸ new
  have kept : ∀ o : Obj, Inv X pins σ H1 { s1 with heap := s1.heap.push o, toks := s1.toks } := fun o => I1.kept fun _ _ q => Heap.get?_push_of_some _ q
  rcases q1 with ⟨a, xs, e1, hq, q⟩ | ⟨a, xs, e1, hq, q⟩ | ⟨z, e1, q⟩
  · subst e1
    cases r1
    obtain ⟨its, _, p, _⟩ := I1.list hq
    exact wpAny_pyIter_list p.isList ⟨s1.heap.objs.size, [s1.heap.objs.size], _, _, H1, rfl, kept _, turn_list a _, ⟨_, Heap.get?_push_size _ rfl, rfl, rfl⟩, one, q⟩
  · subst e1
    cases r1
    obtain ⟨its, _, p, _⟩ := I1.tuple hq
    exact wpAny_pyIter_tuple (show s1.heap.IsTuple a its.toArray from p) ⟨s1.heap.objs.size, [s1.heap.objs.size], _, _, H1, rfl, kept _, turn_tuple a _, ⟨_, Heap.get?_push_size _ rfl, rfl, rfl⟩, one, q⟩
  · subst e1
    obtain ⟨t, rfl⟩ := r1
    cases ha : z.cps.all (· < 128) with
    | false => exact wpAny_pyIter_wide ha (pi_one (tk := s1.toks) I1 _ (turn_str _ z t "str_iterator" (.inr rfl)) ⟨_, Heap.get?_push_size _ rfl, rfl, rfl⟩ q)
    | true => exact wpAny_pyIter_ascii ha (pi_one (tk := s1.toks) I1 _ (turn_str _ z t "str_ascii_iterator" (.inl rfl)) ⟨_, Heap.get?_push_size _ rfl, rfl, rfl⟩ q)
section
variable {T : Th} {X : Cx} {W0 W W' W1 : Wd} {H0 H H' : Hp} {O O' : Addr → Option Ow} {vs : VS} {σ : L2.St} {tm : List (V × Lo)} {iter target : Expr} {fa : WE}
/-- what a value yields -/
@[simp] def Lo.seq1? : Lo → Option (List D)
  | .sh (.str x) => some (x.cps.toList.map fun c => D.str ⟨#[c]⟩)
  | .sh (.lst xs) => some xs
  | .sh (.tup xs) => some xs
  | .ow xs => some xs
  | _ => none
@[simp] def wIA (f : WE) : WI := fun vs Q => f vs fun lo vs1 => match lo.seq1? with
  | some xs => Q xs vs1
  | none => False
theorem iterOk_str {x : Str} : IterOk (Its x) (x.cps.toList.map fun c => D.str ⟨#[c]⟩) W := fun H hH i => ⟨fun d ed => by
    rw [List.getElem?_map] at ed
    cases ec : x.cps.toList[i]? with
    | none => rw [ec] at ed; cases ed
    | some c =>
      rw [ec] at ed
      cases ed
      have hi : i < x.cps.toList.length := (List.getElem?_eq_some_iff.mp ec).1
      refine ⟨show i < x.cps.size by simpa using hi, fun z H' y => .inl ⟨y.1, ?_⟩⟩
      obtain ⟨c', hc', ez⟩ := y.2
      rw [← Array.getElem?_toList, ec] at hc'
      cases hc'
      exact ez, fun hi => by
    show x.cps.size ≤ i
    simpa using hi⟩
theorem vi_any (h : VE T X iter fa) : VI T X target iter (wIA fa) :=
  .of (pi_any h.pe) fun W0 H0 W H O vs σ tm Q Q' hf R k => h.sn W0 H0 W H O vs σ tm _ _ hf R fun W1 H1 O1 vs1 v lo l1 q1 R1 => by
    split at q1
    · rename_i xs e
      cases lo with
      | sh d =>
        cases d with
        | str x =>
          cases e
          have ev : v = .str x := R1.top
          exact .inr (.inr ⟨x, ev, k W1 H1 O1 vs1 _ _ l1 q1 iterOk_str R1.pop⟩)
        | lst ys =>
          cases e
          obtain ⟨p, ws, ep, hs, rp⟩ := R1.top
          exact .inl ⟨p, ws, ep, SqL.of (R1.Sget hs), k W1 H1 O1 vs1 _ _ l1 q1 (iterOk_lst hs rp) R1.pop⟩
        | tup ys =>
          cases e
          obtain ⟨p, ws, ep, hs, rp⟩ := R1.top
          exact .inr (.inl ⟨p, ws, ep, SqT.of (R1.Sget hs), k W1 H1 O1 vs1 _ _ l1 q1 (iterOk_tup hs rp) R1.pop⟩)
        | _ => cases e
      | ow ys =>
        cases e
        obtain ⟨W2, l2, R2⟩ := R1.frzTop
        obtain ⟨p, ws, ep, hs, rp⟩ := R2.top
        exact .inl ⟨p, ws, ep, SqL.of (R2.Sget hs), k W2 H1 O1 vs1 _ _ (l1.trans l2) q1 (iterOk_lst hs rp) R2.pop⟩
      | _ => cases e
    · exact q1.elim
/-- a global number, a global text -/
theorem ve_glI' {x : Str} {i : Int} {pos : Pos} (hg : Gl X x) (hm : ∃ t, X.mg x = some (.int i t)) (hd : (x == ("__debug__" : Str)) = false := by decide) : VE T X (.Name x pos) (wC (.int i)) := let ⟨_, h⟩ := hm; ve_glI hg h hd
end
section
variable {T : Th} {X : Cx} {W0 W W' W1 : Wd} {H0 H H' : Hp} {O O' : Addr → Option Ow} {vs : VS} {σ : L2.St} {tm : List (V × Lo)} {pos : Pos}
/-- x = y, the list of y going over to x -/
@[simp] def wMove (i j : Nat) : WS := fun vs D => match vs.env[j]? with
  | some (some lo) => i < vs.env.length ∧ lo.noBo ∧ D.nx ⟨(vs.env.set j none).set i (some lo), vs.n⟩
  | _ => False
theorem Rel.move (R : Rel T W0 H0 W H O vs σ tm) (nb : NoBo tm) {i j : Nat} {v : V} {lo : Lo} (h : vs.env[j]? = some (some lo)) (hv : σ[j]? = some (some v)) (hi : i < vs.env.length) :
    ∃ O', Rel T W0 H0 W H O' ⟨(vs.env.set j none).set i (some lo), vs.n⟩ (σ.set i (some v)) tm := by
  obtain ⟨v', hv', q⟩ := R.env j _ h
  rw [hv] at hv'
  cases hv'
  have drop : Rel T W0 H0 W H O ⟨vs.env.set j none, vs.n⟩ σ tm := by
    refine ⟨R.ok, R.le, R.frame, R.grow, fun k l e => ?_, R.tms, fun k ys e => ?_, by simpa using R.len⟩
    · have e' : (vs.env.set j none)[k]? = some (some l) := e
      by_cases z : j = k
      · subst z
        have hj : j < vs.env.length := (List.getElem?_eq_some_iff.mp h).1
        rw [List.getElem?_set_self hj] at e'; cases e'
      · rw [List.getElem?_set_ne z] at e'
        exact R.env k l e'
    · have e' : (vs.env.set j none)[k]? = some (some (.bo ys)) := e
      by_cases z : j = k
      · subst z
        have hj : j < vs.env.length := (List.getElem?_eq_some_iff.mp h).1
        rw [List.getElem?_set_self hj] at e'; cases e'
      · rw [List.getElem?_set_ne z] at e'
        exact R.nbe k ys e'
  have ne : ∀ k l, (vs.env.set j none)[k]? = some (some l) → k ≠ j := fun k l e z => by
    subst z
    have hj : k < vs.env.length := (List.getElem?_eq_some_iff.mp h).1
    rw [List.getElem?_set_self hj] at e; cases e
  -- the owner of p changes from j to i
  have main : ∀ O' : Addr → Option Ow, LoOk W H H0 O' (.inl i) v lo → (∀ (k : Ow) (u : V) (l : Lo), k ≠ .inl j → (∀ ys, l ≠ .bo ys) → LoOk W H H0 O k u l → LoOk W H H0 O' k u l) → Rel T W0 H0 W H O' ⟨(vs.env.set j none).set i (some lo), vs.n⟩ (σ.set i (some v)) tm := fun O' h1 h2 => by
    have tms : ∀ tm : List (V × Lo), NoBo tm → TmOk W H H0 O tm → TmOk W H H0 O' tm := by
      intro tm
      induction tm with
      | nil => intro _ _; trivial
      | cons x r ih => exact fun nb q => ⟨h2 _ _ _ (by simp) (nb x (by simp)) q.1, ih (fun y hy => nb y (by simp [hy])) q.2⟩
    refine ⟨R.ok, R.le, R.frame, R.grow, fun k l e => ?_, tms tm nb R.tms, fun k ys e => ?_, by simpa using R.len⟩
    · by_cases z : i = k
      · subst z
        rw [List.getElem?_set_self (by simpa using hi)] at e
        cases e
        exact ⟨v, List.getElem?_set_self (by rw [R.len]; exact hi), h1⟩
      · rw [List.getElem?_set_ne z] at e
        obtain ⟨u, e1, e2⟩ := drop.env k l e
        exact ⟨u, by rw [List.getElem?_set_ne z]; exact e1, h2 _ _ _ (fun y => ne k l e (Sum.inl.inj y)) (fun ys y => drop.nbe k ys (y ▸ e)) e2⟩
    · by_cases z : i = k
      · subst z
        rw [List.getElem?_set_self (by simpa using hi)] at e
        have e2 : lo = .bo ys := Option.some.inj (Option.some.inj e)
        exact R.nbe j ys (e2 ▸ h)
      · rw [List.getElem?_set_ne z] at e
        exact drop.nbe k ys e
  have other : ∀ p, O p = some (.inl j) → ∀ (k : Ow) (u : V) (l : Lo), k ≠ .inl j → (∀ ys, l ≠ .bo ys) → LoOk W H H0 O k u l → LoOk W H H0 (fun a => if a = p then some (.inl i) else O a) k u l := fun p hp k u l hk hb q => by
    have nk : ∀ a, O a = some k → a ≠ p := fun a ha z => by
      subst z
      rw [hp] at ha
      exact hk (Option.some.inj ha).symm
    cases l with
    | sh d => exact q
    | pool => exact q
    | fx a d => exact q
    | oo a qs xss =>
      obtain ⟨e, ho, hd, h0, ha, nd, I⟩ := q
      exact ⟨e, by show (if a = p then _ else O a) = _; rw [if_neg (nk a ho)]; exact ho, hd, h0, ha, nd, I.imp (Le.refl W) fun b us _ hb' hdb _ hpb => ⟨by show (if b = p then _ else O b) = _; rw [if_neg (nk b hb')]; exact hb', hdb, hpb⟩⟩
    | bo xs => exact absurd rfl (hb xs)
    | ow zs =>
      obtain ⟨a, us, e, ho, hd, h0, ha, r⟩ := q
      exact ⟨a, us, e, by show (if a = p then _ else O a) = _; rw [if_neg (nk a ho)]; exact ho, hd, h0, ha, r⟩
    | dct zs =>
      obtain ⟨a, e, ho, hd, h0, ha⟩ := q
      exact ⟨a, e, by show (if a = p then _ else O a) = _; rw [if_neg (nk a ho)]; exact ho, hd, h0, ha⟩
  cases lo with
  | sh d => exact ⟨O, main O q fun _ _ _ _ _ z => z⟩
  | pool => exact ⟨O, main O q fun _ _ _ _ _ z => z⟩
  | fx a d => exact ⟨O, main O q fun _ _ _ _ _ z => z⟩
  | oo p qs xss =>
    obtain ⟨e, ho, hd, h0, hp, nd, I⟩ := q
    have other' : ∀ (k : Ow) (u : V) (l : Lo), k ≠ .inl j → (∀ ys, l ≠ .bo ys) → LoOk W H H0 O k u l → LoOk W H H0 (fun a => if O a = some (.inl j) then some (.inl i) else O a) k u l := fun k u l hk hb q => by
      have nk : ∀ a, O a = some k → ¬ O a = some (.inl j) := fun a ha z => by
        rw [ha] at z
        exact hk (Option.some.inj z)
      cases l with
      | sh d => exact q
      | pool => exact q
      | fx a d => exact q
      | oo a qs xss =>
        obtain ⟨e, ho, hd, h0, ha, nd, I⟩ := q
        exact ⟨e, by show (if O a = _ then _ else O a) = _; rw [if_neg (nk a ho)]; exact ho, hd, h0, ha, nd, I.imp (Le.refl W) fun b us _ hb' hdb _ hpb => ⟨by show (if O b = _ then _ else O b) = _; rw [if_neg (nk b hb')]; exact hb', hdb, hpb⟩⟩
      | bo xs => exact absurd rfl (hb xs)
      | ow zs =>
        obtain ⟨a, us, e, ho, hd, h0, ha, r⟩ := q
        exact ⟨a, us, e, by show (if O a = _ then _ else O a) = _; rw [if_neg (nk a ho)]; exact ho, hd, h0, ha, r⟩
      | dct zs =>
        obtain ⟨a, e, ho, hd, h0, ha⟩ := q
        exact ⟨a, e, by show (if O a = _ then _ else O a) = _; rw [if_neg (nk a ho)]; exact ho, hd, h0, ha⟩
    exact ⟨_, main _ ⟨e, if_pos ho, hd, h0, hp, nd, I.imp (Le.refl W) fun q ws _ ho' hd' _ hq => ⟨if_pos ho', hd', hq⟩⟩ other'⟩
  | bo xs => exact absurd h (R.nbe j xs)
  | ow xs =>
    obtain ⟨p, ws, e, ho, hd, h0, hp, r⟩ := q
    exact ⟨_, main _ ⟨p, ws, e, if_pos rfl, hd, h0, hp, r⟩ (other p ho)⟩
  | dct xs =>
    obtain ⟨p, e, ho, hd, h0, hp⟩ := q
    exact ⟨_, main _ ⟨p, e, if_pos rfl, hd, h0, hp⟩ (other p ho)⟩
theorem vp_move (i j : Nat) {x y : Str} {p p' : Pos} (hN : X.N.Nodup) (hi : X.N[i]? = some x) (hx : Loc X.env.scope x) (hj : X.N[j]? = some y := by rfl) (hy : Vis X.env.scope y := by first | exact Or.inl rfl | exact Or.inr (Or.inl rfl) | exact Or.inr (Or.inr rfl)) (hd : (y == ("__debug__" : Str)) = false := by decide) (hcd : (y == ("__classdict__" : Str)) = false := by decide)
    (hs : swapsWith (.Name y p') (some (.Name x p)) pos.line X.env = pure false := by rfl) (hf : X.fn x = true ∨ X.env.scope.names.lookup x = some .local := by first | exact .inl rfl | exact .inr rfl | assumption) : VP T X (.Assign [.Name x p] (.Name y p') pos) (wMove i j) :=
  .of (ps_set hN hi hx (pe_var hj hy hd hcd) hs hf) fun W0 H0 W H O vs σ tm E E' nb hf R C => by
    unfold wMove at hf
    split at hf
    · rename_i lo e
      obtain ⟨v, hv, q⟩ := R.env j _ e
      obtain ⟨O', R'⟩ := R.move nb e hv hf.1
      exact ⟨v, hv, C.nx W H O' _ _ (Le.refl W) hf.2.2 R'⟩
    · exact hf.elim
end
theorem hu1 {k : Nat} {A : Around} (r : Room k A) : A.units + 1 < cLine := by have := r.un; omega
theorem hu65 {k : Nat} {A : Around} (r : Room k A) : A.units + 65 < cLine := by have := r.un; omega
/-! ### packed -/
section
variable (P : Program) (w : World) (K : PySem.W.Frag) (mg : Str → Option Value) (base : Heap) (C : Addr)
structure MkV (k : Nat) : Prop where
  ex : ∃ (f : Addr) (fd : FuncData), Mk K C f ∧ FnOk P w K mg base CX0 k f fd ["self", "rules"] (spInit C) ∧ Binds K fd ["self", "rules"] [] ∧ mg "Row" = some (.ref C)
structure MethV (k : Nat) (x : Str) (m : Nat) (F : FS) : Prop where
  ex : ∃ (f : Addr) (fd : FuncData) (ps : List Str), Meth K C x f ∧ FnOk P w K mg base CX0 k f fd ps (spV (thR C) m F) ∧ Binds K fd ps []
structure PropV (k : Nat) (x : Str) (F : FS) : Prop where
  ex : ∃ (p f : Addr) (fd : FuncData) (ps : List Str), PropOf K C x p f ∧ FnOk P w K mg base CX0 k f fd ps (spV (thR C) 1 F) ∧ Binds K fd ps []
end
section
variable {C : Addr} {X : Cx} {e o : Expr} {es : List Expr} {fa fo : WE} {g : WF} {pos apos : Pos} {k m : Nat} {F : FS} {x : Str}
theorem ve_mkV {p : Pos} (M : MkV X.prog X.w X.K X.mg X.base C k) (hr : Room (k + 1) X.A) (hg : Gl X "Row") (ha : VE (thR C) X e fa) (hs : starEach [e] X.env = (false, eval e X.env) :: starEach [] X.env := by rfl) : VE (thR C) X (.Call (.Name "Row" p) [e] [] pos) (wMk fa) :=
  let ⟨_, _, h1, h2, h3, h4⟩ := M.ex
  ve_mk h1 h2 hr hg h4 h3 pass0 ha (by decide) hs
theorem ve_propV (c : RowC X.K C) (M : PropV X.prog X.w X.K X.mg X.base C k x F) (hr : Room (k + 1) X.A) (h : VE (thR C) X e fa) (hb : attributeBase e x X.env (eval e X.env) = eval e X.env := by rfl) : VE (thR C) X (.Attribute e x pos) (wProp F fa) :=
  let ⟨_, _, _, _, h1, h2, h3⟩ := M.ex
  ve_prop c h1 h2 hr h3 pass0 h hb
theorem ve_methV {pl : Sem Bool} (c : RowC X.K C) (M : MethV X.prog X.w X.K X.mg X.base C k x m F) (hn : NoFs x) (hr : Room k X.A) (h : VE (thR C) X o fo) (ha : VF (thR C) X (e :: es) g)
    (hst : starEach (e :: es) X.env = (false, eval e X.env) :: starEach es X.env := by rfl) (hpl : (backTo pos (starEach es X.env)).any (·.1) = false := by rfl)
    (ht : eval (.Call (.Attribute o x apos) (e :: es) [] pos) X.env = (do
      let ov ← eval o X.env
      standAt apos.atName
      let (f, first) ← holding [ov] (getMethod ov x pl)
      callWith pos f first (backTo pos (starEach (e :: es) X.env)) (backToKw pos (keywordEach [] X.env))) := by rfl) : VE (thR C) X (.Call (.Attribute o x apos) (e :: es) [] pos) (wMeth m F fo g) :=
  let ⟨_, _, _, h1, h2, h3⟩ := M.ex
  ve_meth c h1 hn h2 hr h3 pass0 h ha hst hpl ht
end
end Vx

set_option Elab.async false
set_option maxRecDepth 100000
set_option linter.all false
/-! Equal data, told plainly. -/
namespace Vx
open PySem PySem.Spec PyProof.Rows L2
@[simp] theorem fit_int (n : Nat) (i : Int) : D.fit n (.int i) = true := by cases n <;> rfl
@[simp] theorem fit_non (n : Nat) : D.fit n .non = true := by cases n <;> rfl
@[simp] theorem fit_bl (n : Nat) (b : Bool) : D.fit n (.bl b) = true := by cases n <;> rfl
@[simp] theorem fits_ints (n : Nat) : ∀ (l : List Int), D.fits n (l.map D.int) = true
  | [] => by cases n <;> rfl
  | i :: l => by
    show D.fits n (D.int i :: l.map D.int) = true
    unfold D.fits
    rw [fit_int, fits_ints n l]; rfl
@[simp] theorem fits_nats (n : Nat) : ∀ (l : List Nat), D.fits n (dnats l) = true
  | [] => by cases n <;> rfl
  | i :: l => by
    show D.fits n (D.int i :: dnats l) = true
    unfold D.fits
    rw [fit_int, fits_nats n l]; rfl
@[simp] theorem fit_lst (n : Nat) (l : List D) : D.fit (n + 1) (.lst l) = D.fits n l := rfl
@[simp] theorem fit_tup (n : Nat) (l : List D) : D.fit (n + 1) (.tup l) = D.fits n l := rfl
@[simp] theorem fits_nil (n : Nat) : D.fits n [] = true := by cases n <;> rfl
@[simp] theorem fits_cons (n : Nat) (d : D) (l : List D) : D.fits n (d :: l) = (D.fit n d && D.fits n l) := by cases n <;> rfl
@[simp] theorem fit_dwl (n : Nat) (w : List Nat) : D.fit (n + 1) (dwl w) = true := fits_nats n w
@[simp] theorem fit_dw (n : Nat) (w : List Nat) : D.fit (n + 1) (dw w) = true := fits_nats n w
@[simp] theorem fits_dwl (n : Nat) : ∀ (r : List (List Nat)), D.fits (n + 1) (r.map dwl) = true
  | [] => rfl
  | w :: r => by rw [List.map_cons, fits_cons, fit_dwl, fits_dwl n r]; rfl
@[simp] theorem fits_dw (n : Nat) : ∀ (r : List (List Nat)), D.fits (n + 1) (r.map dw) = true
  | [] => rfl
  | w :: r => by rw [List.map_cons, fits_cons, fit_dw, fits_dw n r]; rfl
@[simp] theorem eqv_int (i j : Int) : D.eqv (.int i) (.int j) = decide (i = j) := by
  show PyData.eqv (.int i) (.int j) = _
  simp [PyData.eqv]
  all_goals (by_cases h : i = j <;> simp [h])
@[simp] theorem eqv_non : D.eqv .non .non = true := by
  show PyData.eqv .none .none = _
  simp [PyData.eqv]
@[simp] theorem eqv_non_lst (l : List D) : D.eqv .non (.lst l) = false := by
  show PyData.eqv .none (.list _) = _
  simp [PyData.eqv]
@[simp] theorem eqv_lst_non (l : List D) : D.eqv (.lst l) .non = false := by
  show PyData.eqv (.list _) .none = _
  simp [PyData.eqv]
@[simp] theorem eqv_non_tup (l : List D) : D.eqv .non (.tup l) = false := by
  show PyData.eqv .none (.tuple _) = _
  simp [PyData.eqv]
@[simp] theorem eqv_tup_non (l : List D) : D.eqv (.tup l) .non = false := by
  show PyData.eqv (.tuple _) .none = _
  simp [PyData.eqv]
@[simp] theorem eqv_bl (a b : Bool) : D.eqv (.bl a) (.bl b) = (a == b) := by
  show PyData.eqv (.bool a) (.bool b) = _
  cases a <;> cases b <;> simp [PyData.eqv]
/-- item by item -/
def eqvL : List D → List D → Bool
  | [], [] => true
  | a :: l, b :: m => D.eqv a b && eqvL l m
  | _, _ => false
theorem eqvL_py : ∀ (l m : List D), PyData.eqvAll (D.pys l) (D.pys m) = eqvL l m
  | [], [] => by simp [D.pys, PyData.eqvAll, eqvL]
  | a :: l, [] => by simp [D.pys, PyData.eqvAll, eqvL]
  | [], b :: m => by simp [D.pys, PyData.eqvAll, eqvL]
  | a :: l, b :: m => by
    simp only [D.pys, PyData.eqvAll, eqvL, eqvL_py l m]
    rfl
@[simp] theorem eqv_lst (l m : List D) : D.eqv (.lst l) (.lst m) = eqvL l m := by
  show PyData.eqv (.list (D.pys l)) (.list (D.pys m)) = _
  rw [← eqvL_py]
  simp [PyData.eqv]
@[simp] theorem eqv_tup (l m : List D) : D.eqv (.tup l) (.tup m) = eqvL l m := by
  show PyData.eqv (.tuple (D.pys l)) (.tuple (D.pys m)) = _
  rw [← eqvL_py]
  simp [PyData.eqv]
@[simp] theorem eqvL_nil : eqvL [] [] = true := rfl
@[simp] theorem eqvL_cons (a b : D) (l m : List D) : eqvL (a :: l) (b :: m) = (D.eqv a b && eqvL l m) := rfl
@[simp] theorem eqvL_nc (b : D) (m : List D) : eqvL [] (b :: m) = false := rfl
@[simp] theorem eqvL_cn (a : D) (l : List D) : eqvL (a :: l) [] = false := rfl
@[simp] theorem eqvL_nats : ∀ (l m : List Nat), eqvL (dnats l) (dnats m) = decide (l = m)
  | [], [] => rfl
  | a :: l, [] => by simp [dnats]
  | [], b :: m => by simp [dnats]
  | a :: l, b :: m => by
    show (D.eqv (.int a) (.int b) && eqvL (dnats l) (dnats m)) = _
    rw [eqv_int, eqvL_nats l m]
    by_cases h1 : a = b
    · subst h1; by_cases h2 : l = m <;> simp [h2]
    · have : ¬ (a : Int) = (b : Int) := by omega
      simp [h1, this]
@[simp] theorem eqv_dwl (l m : List Nat) : D.eqv (dwl l) (dwl m) = decide (l = m) := by
  show D.eqv (.lst _) (.lst _) = _
  rw [eqv_lst, eqvL_nats]
@[simp] theorem eqv_dw (l m : List Nat) : D.eqv (dw l) (dw m) = decide (l = m) := by
  show D.eqv (.tup _) (.tup _) = _
  rw [eqv_tup, eqvL_nats]
theorem eqvL_map {f : List Nat → D} (hf : ∀ a b, D.eqv (f a) (f b) = decide (a = b)) : ∀ (l m : List (List Nat)), eqvL (l.map f) (m.map f) = decide (l = m)
  | [], [] => rfl
  | a :: l, [] => by simp
  | [], b :: m => by simp
  | a :: l, b :: m => by
    rw [List.map_cons, List.map_cons, eqvL_cons, hf, eqvL_map hf l m]
    by_cases h1 : a = b
    · subst h1; by_cases h2 : l = m <;> simp [h2]
    · simp [h1]
@[simp] theorem eqvL_dwl (l m : List (List Nat)) : eqvL (l.map dwl) (m.map dwl) = decide (l = m) := eqvL_map eqv_dwl l m
@[simp] theorem eqvL_dw (l m : List (List Nat)) : eqvL (l.map dw) (m.map dw) = decide (l = m) := eqvL_map eqv_dw l m
@[simp] theorem dnats_nil : dnats [] = [] := rfl
@[simp] theorem dnats_length (l : List Nat) : (dnats l).length = l.length := by simp [dnats]
theorem dnats_get (l : List Nat) (i : Nat) : (dnats l)[i]? = (l[i]?).map fun n => D.int (n : Nat) := by simp [dnats]
end Vx

set_option Elab.async false
set_option maxRecDepth 100000
set_option linter.all false
/-! What the defs of the program compute: plain laws. -/
namespace Vx
open PySem PySem.Spec PyProof.Rows L2
theorem enumD_nats (l : List Nat) : enumD (dnats l) = (l.zipIdx).map fun p => D.tup [.int (p.2 : Nat), .int (p.1 : Nat)] := by
  unfold enumD dnats
  rw [List.zipIdx_map, List.map_map]
  rfl
@[simp] theorem bindT_name (i : Nat) (d : D) (env : List (Option Lo)) : bindT (.name i) d env = if i < env.length then some (env.set i (some (.sh d))) else none := by unfold bindT; rfl
@[simp] theorem bindT_tup (ts : List Tg) (ds : List D) (env : List (Option Lo)) : bindT (.tup ts) (.tup ds) env = bindTs ts ds env := by unfold bindT; rfl
@[simp] theorem bindTs_nil (env : List (Option Lo)) : bindTs [] [] env = some env := by unfold bindTs; rfl
@[simp] theorem bindTs_cons (t : Tg) (ts : List Tg) (d : D) (ds : List D) (env : List (Option Lo)) : bindTs (t :: ts) (d :: ds) env = (match bindT t d env with | some env' => bindTs ts ds env' | none => none) := by
  conv => lhs; unfold bindTs
  all_goals rfl
@[simp] theorem wLoop_nil (tg : Tg) (body : WS) (vs : VS) (E : EndsV) : wLoop tg body [] vs E = E.nx vs := rfl
theorem wLoop_cons (tg : Tg) (body : WS) (d : D) (ds : List D) (vs : VS) (E : EndsV) : wLoop tg body (d :: ds) vs E = (match bindT tg d vs.env with
    | some env' => body { vs with env := env' } { E with nx := fun vs' => wLoop tg body ds vs' E, ct := fun vs' => wLoop tg body ds vs' E, bk := E.nx }
    | none => False) := rfl
theorem wMapL_cons (own : List Nat) (tg : Tg) (cnd : WT) (elt : WE) (d : D) (ds : List D) (vs : VS) (acc : List D) (Q : List D → Nat → Prop) : wMapL own tg cnd elt (d :: ds) vs acc Q = (match bindT tg d vs.env with
    | some env' => cnd { vs with env := env' } fun b vs1 => if b = true then elt vs1 fun lo vs2 => match lo.dat? with
        | some y => acc.length < sizeLine ∧ wipeE vs2.env own = vs.env ∧ wMapL own tg cnd elt ds ⟨vs.env, vs2.n⟩ (acc ++ [y]) Q
        | none => False
      else wipeE vs1.env own = vs.env ∧ wMapL own tg cnd elt ds ⟨vs.env, vs1.n⟩ acc Q
    | none => False) := by
  conv => lhs; unfold wMapL
  all_goals rfl
@[simp] theorem wMapL_nil (own : List Nat) (tg : Tg) (cnd : WT) (elt : WE) (vs : VS) (acc : List D) (Q : List D → Nat → Prop) : wMapL own tg cnd elt [] vs acc Q = Q acc vs.n := by unfold wMapL; rfl
@[simp] theorem wipeE_nil (env : List (Option Lo)) : wipeE env [] = env := rfl
@[simp] theorem wipeE_cons (env : List (Option Lo)) (v : Nat) (vs : List Nat) : wipeE env (v :: vs) = (wipeE env vs).set v none := rfl
/-- a comprehension without tests, item by item -/
theorem map_all {own : List Nat} {tg : Tg} {elt : WE} {env : List (Option Lo)} {n : Nat} {g : D → D} : ∀ (ds : List D) (acc : List D) (Q : List D → Nat → Prop), acc.length + ds.length ≤ sizeLine →
    (∀ d ∈ ds, ∀ Q' : Lo → VS → Prop, (∀ lo env', lo.dat? = some (g d) → wipeE env' own = env → Q' lo ⟨env', n⟩) → match bindT tg d env with | some env' => elt ⟨env', n⟩ Q' | none => False) →
    Q (acc ++ ds.map g) n → wMapL own tg wYes elt ds ⟨env, n⟩ acc Q
  | [], acc, Q, _, _, h => by simpa using h
  | d :: ds, acc, Q, hl, he, h => by
    rw [wMapL_cons]
    have h1 := he d (by simp) (fun lo vs2 => match lo.dat? with
        | some y => acc.length < sizeLine ∧ wipeE vs2.env own = env ∧ wMapL own tg wYes elt ds ⟨env, vs2.n⟩ (acc ++ [y]) Q
        | none => False) fun lo env' e1 e2 => by
      rw [e1]
      refine ⟨by simp at hl; omega, e2, map_all ds (acc ++ [g d]) Q (by simp at hl ⊢; omega) (fun d' hd' => he d' (by simp [hd'])) (by simpa using h)⟩
    simp only [wYes, if_pos]
    exact h1
/-- a loop that keeps something -/
theorem loop_inv {tg : Tg} {body : WS} {E : EndsV} {n : Nat} (I : List (Option Lo) → Prop) : ∀ (ds : List D) (env : List (Option Lo)), I env →
    (∀ d ∈ ds, ∀ (env : List (Option Lo)) (E' : EndsV), I env → (∀ env', I env' → E'.nx ⟨env', n⟩) → match bindT tg d env with | some env' => body ⟨env', n⟩ E' | none => False) →
    (∀ env, I env → E.nx ⟨env, n⟩) → wLoop tg body ds ⟨env, n⟩ E
  | [], env, h0, _, h => h env h0
  | d :: ds, env, h0, hs, h => by
    rw [wLoop_cons]
    exact hs d (by simp) env _ h0 fun env' h1 => loop_inv I ds env' h1 (fun d' hd' => hs d' (by simp [hd'])) h
/-! ### joined_masks -/
def F_joined : FS := fun los n P => ∃ (mask : Nat) (masks : List Nat), los = [.sh (.int mask), .sh (.lst (dnats masks))] ∧ P (.sh (.int (Rw.joined mask masks))) n
def b_joined_masks : WS :=
  (wSeq (wSet 2 (wC (.int 0)))
    (wSeq (wFor (wIE (wN 1)) (.tup [(.name 3), (.name 4)])
    (wIf (wTst (w2 (gEq false) (w2 (gI0 fun i j => .int (Builtin.bitAnd i j)) (w2 (gI (fun _ j => 0 ≤ j) fun i j => .int (i / 2 ^ j.toNat)) (wB 0) (wB 3)) (wC (.int 1))) (wC (.int 1))))
    (wAug 2 (gAug fun i j => Builtin.bitOr i j) (wN 4))
    wSkip))
    (wRetN 2)))

theorem band_nat (a b : Nat) : Builtin.bitAnd (a : Int) (b : Int) = ((a &&& b : Nat) : Int) := by simp [Builtin.bitAnd]
theorem bit_test (m k : Nat) : Builtin.bitAnd ((m : Int) / 2 ^ k) 1 = if m.testBit k then 1 else 0 := by
  have e : (m : Int) / 2 ^ k = ((m / 2 ^ k : Nat) : Int) := by simp
  have e1 : (1 : Int) = ((1 : Nat) : Int) := rfl
  rw [e, e1, band_nat, Nat.and_one_is_mod, Nat.testBit_eq_decide_div_mod_eq]
  by_cases h : m / 2 ^ k % 2 = 1
  · simp [h]
  · have : m / 2 ^ k % 2 = 0 := by omega
    simp [this]
theorem bit_or (a b : Nat) : Builtin.bitOr (a : Int) (b : Int) = ((a ||| b : Nat) : Int) := by
  rw [Bits.bitOr_pp (Int.natCast_nonneg a) (Int.natCast_nonneg b), Int.toNat_natCast, Int.toNat_natCast]
theorem lp_joined {E : EndsV} (mask : Nat) (d : D) (n : Nat) : ∀ (ps : List (Nat × Nat)) (acc : Nat) (x3 x4 : Option Lo),
    (∀ x3 x4, E.nx ⟨[some (.sh (.int mask)), some (.sh d), some (.sh (.int ((ps.foldl (fun m p => if mask.testBit p.2 then m ||| p.1 else m) acc : Nat) : Int))), x3, x4], n⟩) →
    wLoop (.tup [.name 3, .name 4]) (wIf (wTst (w2 (gEq false) (w2 (gI0 fun i j => .int (Builtin.bitAnd i j)) (w2 (gI (fun _ j => 0 ≤ j) fun i j => .int (i / 2 ^ j.toNat)) (wB 0) (wB 3)) (wC (.int 1))) (wC (.int 1))))
    (wAug 2 (gAug fun i j => Builtin.bitOr i j) (wN 4))
    wSkip) (ps.map fun p => D.tup [.int (p.2 : Nat), .int (p.1 : Nat)]) ⟨[some (.sh (.int mask)), some (.sh d), some (.sh (.int (acc : Nat))), x3, x4], n⟩ E
  | [], acc, x3, x4, h => h x3 x4
  | p :: ps, acc, x3, x4, h => by
    rw [List.map_cons, wLoop_cons]
    have ih := lp_joined (E := E) mask d n ps
    rw [List.foldl_cons] at h
    by_cases e : mask.testBit p.2 = true
    · rw [if_pos e] at h
      simpa [bit_test, e, bit_or] using ih _ _ _ h
    · rw [if_neg e] at h
      simpa [bit_test, e, bit_or] using ih _ _ _ h
theorem m_joined {los : List Lo} {n : Nat} {P : Lo → Nat → Prop} (h : F_joined los n P) : bodyF 5 b_joined_masks los n P := by
  obtain ⟨mask, masks, e, h⟩ := h
  subst e
  simp only [b_joined_masks, bodyF, wSeq]
  simp
  rw [enumD_nats]
  exact lp_joined mask _ n _ 0 _ _ fun _ _ => h
/-! ### are_mixed -/
def sum2 : List Nat → Nat
  | [] => 0
  | a :: l => 2 ^ a + sum2 l
theorem sum2_desc : ∀ (l : List Nat), l.Pairwise (· > ·) → (∀ b, (∀ a ∈ l, a < b) → sum2 l < 2 ^ b) ∧ ∀ i, (sum2 l).testBit i = decide (i ∈ l)
  | [], _ => ⟨fun b _ => Nat.two_pow_pos b, fun i => by simp [sum2]⟩
  | a :: l, h => by
    rw [List.pairwise_cons] at h
    obtain ⟨h1, h2⟩ := sum2_desc l h.2
    have hl : sum2 l < 2 ^ a := h1 a fun x hx => h.1 x hx
    have e : sum2 (a :: l) = 2 ^ a ||| sum2 l := by
      have := Nat.two_pow_add_eq_or_of_lt hl 1
      rw [Nat.mul_one] at this
      exact this
    refine ⟨fun b hb => ?_, fun i => ?_⟩
    · have ha : a < b := hb a (by simp)
      have : 2 ^ (a + 1) ≤ 2 ^ b := Nat.pow_le_pow_right (by decide) ha
      rw [Nat.pow_succ] at this
      show 2 ^ a + sum2 l < 2 ^ b
      omega
    · rw [e, Nat.testBit_or, h2 i, Nat.testBit_two_pow]
      by_cases z : a = i
      · subst z; simp
      · have z' : ¬ i = a := fun q => z q.symm
        simp [z, z']
theorem sum2_append : ∀ (l m : List Nat), sum2 (l ++ m) = sum2 l + sum2 m
  | [], m => by simp [sum2]
  | a :: l, m => by
    show 2 ^ a + sum2 (l ++ m) = 2 ^ a + sum2 l + sum2 m
    rw [sum2_append l m]; omega
theorem sum2_rev : ∀ (l : List Nat), sum2 l.reverse = sum2 l
  | [] => rfl
  | a :: l => by
    rw [List.reverse_cons, sum2_append, sum2_rev l]
    show sum2 l + (2 ^ a + 0) = 2 ^ a + sum2 l
    omega
theorem mask_bit (w : List Nat) : ∀ (m i : Nat), (w.foldl (fun m a => m ||| 2 ^ a) m).testBit i = (m.testBit i || decide (i ∈ w)) := by
  induction w with
  | nil => intro m i; simp
  | cons a w ih =>
    intro m i
    rw [List.foldl_cons, ih, Nat.testBit_or, Nat.testBit_two_pow]
    by_cases z : a = i
    · subst z; simp
    · have z' : ¬ i = a := fun q => z q.symm
      simp [z, z']
theorem sum2_mask {w l : List Nat} (hp : l.Pairwise (· < ·)) (hm : ∀ a, a ∈ l ↔ a ∈ w) : sum2 l = Rw.maskOf w := by
  refine Nat.eq_of_testBit_eq fun i => ?_
  rw [← sum2_rev, (sum2_desc l.reverse (by rw [List.pairwise_reverse]; exact hp)).2 i]
  unfold Rw.maskOf
  rw [mask_bit]
  simp [hm]
theorem nums_nats (w : List Nat) : D.nums (dnats w) = some (w.map fun (a : Nat) => (a : Int)) := by
  have := D.nums_of (w.map fun (a : Nat) => (a : Int))
  rw [List.map_map] at this
  exact this
theorem ints_nats (w : List Nat) : ints? (dnats w) = some (w.map fun (a : Nat) => (a : Int)) := by
  have := ints?_map (w.map fun (a : Nat) => (a : Int))
  rw [List.map_map] at this
  exact this
theorem nat_list {ns : List Int} (h : ∀ k ∈ ns, 0 ≤ k) : ns = (ns.map Int.toNat).map fun (a : Nat) => (a : Int) := by
  rw [List.map_map]
  conv => lhs; rw [← List.map_id ns]
  refine List.map_congr_left fun k hk => ?_
  have := h k hk
  show k = ((k.toNat : Nat) : Int)
  omega
theorem mulX {i j : Int} (h1 : -(2 ^ 64) < i) (h2 : i < 2 ^ 64) (h3 : -(2 ^ 64) < j) (h4 : j < 2 ^ 64) : CMulX i j := by
  have a := intBits_le_64 h1 h2
  have b := intBits_le_64 h3 h4
  unfold CMulX
  omega
theorem nodup_le : ∀ {es l : List Int}, es.Nodup → (∀ k ∈ es, k ∈ l) → es.length ≤ l.length
  | [], l, _, _ => Nat.zero_le _
  | a :: es, l, nd, h => by
    rw [List.nodup_cons] at nd
    have ha : a ∈ l := h a (by simp)
    have ih := nodup_le (l := l.erase a) nd.2 fun k hk => by
      have hk2 := h k (by simp [hk])
      have ne : k ≠ a := fun e => nd.1 (e ▸ hk)
      exact (List.mem_erase_of_ne ne).mpr hk2
    have hl : 0 < l.length := List.length_pos_of_mem ha
    rw [List.length_erase_of_mem ha] at ih
    rw [List.length_cons]
    omega
theorem nodup_small {es : List Int} {n : Nat} (nd : es.Nodup) (h : ∀ k ∈ es, 0 ≤ k ∧ k < n) : es.length ≤ n := by
  have := nodup_le (l := (List.range n).map fun (i : Nat) => (i : Int)) nd fun k hk => by
    obtain ⟨h1, h2⟩ := h k hk
    exact List.mem_map.mpr ⟨k.toNat, List.mem_range.mpr (by omega), by omega⟩
  simpa using this
def F_mixed : FS := fun los n P => ∃ (r : List (List Nat)), los = [.sh (rulesL r)] ∧ r.length ≤ 1000 ∧ (∀ w ∈ r, ∀ a ∈ w, a < r.length) ∧ (∀ w ∈ r, w.length + 1 < 4096) ∧ (r.length ≤ 63 ∨ ∀ w ∈ r, w.length ≤ 63) ∧ P (.sh (.bl (Rw.mixed r))) n
def b_are_mixed : WS :=
  (wSeq (wSet 1 (w2 (gI0 fun i j => .int (i - j)) (w2 (gI CPow fun i j => .int (i * 2 ^ j.toNat)) (wC (.int 1)) (w1 gLen (wB 0))) (wC (.int 1))))
    (wSeq (wAsg (.tup [(.name 2), (.name 3)]) (wTup (wCons (wComp (wIA (wN 0)) [4] (.name 4) wYes (w1 gSum (wComp (wIA (w1 gSrtSet (wB 4))) [5] (.name 5) wYes (w2 (gI CPow fun i j => .int (i * 2 ^ j.toNat)) (wC (.int 1)) (wB 5))))) (wCons (wC (.int 1)) wNil))))
    (wSeq (wWhile (wTst (w2 (gI0 fun i j => .bl (decide (i < j))) (wB 3) (w2 gMul (w1 gLen (wB 0)) (w1 gLen (wB 0)))))
    (wAsg (.tup [(.name 2), (.name 3)]) (wTup (wCons (wComp (wIA (wN 2)) [6] (.name 6) wYes (wCallN 2 F_joined (wFCons (wN 6) (wFCons (wN 2) wFNil)))) (wCons (w2 gMul (wC (.int 2)) (wB 3)) wNil)))))
    (wRet (w1 gAll (wComp (wIA (wN 2)) [6] (.name 6) wYes (w2 (gEq false) (wB 6) (wB 1))))))))

theorem m_mixed {los : List Lo} {n : Nat} {P : Lo → Nat → Prop} (h : F_mixed los n P) : bodyF 7 b_are_mixed los n P := by
  obtain ⟨r, e, hr, hlt, hw, h63, h⟩ := h
  subst e
  simp only [b_are_mixed, bodyF, wSeq]
  simp [rulesL]
  have pw1 : CPow 1 (r.length : Int) := ⟨by omega, by omega, by decide⟩
  have hz : r.length ≤ sizeLine := by rw [sizeLine_eq]; omega
  refine ⟨pw1, map_all (g := fun d => match wordOf d with | some w => .int (Rw.maskOf w : Nat) | none => .non) _ [] _ (by simpa using hz) (fun d hd Q' hq => ?_) ?_⟩
  · rw [List.mem_map] at hd
    obtain ⟨w, hwr, e⟩ := hd
    subst e
    have lw := hw w hwr
    have e1 : wordOf (dwl w) = some w := natsOf_of w
    simp [dwl, nums_nats]
    refine ⟨by show w.length + 1 < 4096; exact lw, fun es nd hm => ?_, fun ns hp hm => ?_⟩
    · rcases h63 with h63 | h63
      · have hh : es.length ≤ r.length := nodup_small nd fun k hk => by
          obtain ⟨a, ha, e⟩ := (hm k).mp hk
          subst e
          have := hlt w hwr a ha
          omega
        omega
      · have hh : es.length ≤ (w.map fun (a : Nat) => (a : Int)).length := nodup_le nd fun k hk => by
          obtain ⟨a, ha, e⟩ := (hm k).mp hk
          subst e
          exact List.mem_map.mpr ⟨a, ha, rfl⟩
        rw [List.length_map] at hh
        have := h63 w hwr
        omega
    · have pos : ∀ k ∈ ns, 0 ≤ k := fun k hk => by
        obtain ⟨a, _, e⟩ := (hm k).mp hk
        omega
      have en := nat_list pos
      have hln : ns.length ≤ sizeLine := by
        have nd : ns.Nodup := hp.imp fun h => by omega
        have hh : ns.length ≤ (w.map fun (a : Nat) => (a : Int)).length := nodup_le nd fun k hk => by
          obtain ⟨a, ha, e⟩ := (hm k).mp hk
          subst e
          exact List.mem_map.mpr ⟨a, ha, rfl⟩
        rw [List.length_map] at hh
        rw [sizeLine_eq]; omega
      refine map_all (g := fun d => match d with | .int i => .int (2 ^ i.toNat) | d => d) _ [] _ (by simpa using hln) (fun d hd Q2 hq2 => ?_) ?_
      · rw [List.mem_map] at hd
        obtain ⟨k, hk, e⟩ := hd
        subst e
        have kp := pos k hk
        obtain ⟨a, ha, e⟩ := (hm k).mp hk
        have := hlt w hwr a ha
        simp
        refine ⟨⟨kp, by omega, by decide⟩, hq2 _ _ rfl ?_⟩
        simp
      · have e2 : (ns.map D.int).map (fun d => match d with | .int i => .int (2 ^ i.toNat) | d => d) = dnats ((ns.map Int.toNat).map fun a => 2 ^ a) := by
          unfold dnats
          simp only [List.map_map]
          refine List.map_congr_left fun k hk => ?_
          simp
        rw [e2]
        simp [ints_nats]
        refine hq _ _ ?_ ?_
        · simp [e1]
          have e3 : ∀ l : List Nat, ((l.map fun a => 2 ^ a).map fun (a : Nat) => (a : Int)).sum = ((sum2 l : Nat) : Int) := by
            intro l
            induction l with
            | nil => rfl
            | cons a l ih =>
              simp only [List.map_cons, List.sum_cons] at ih ⊢
              rw [ih]
              show ((2 ^ a : Nat) : Int) + (sum2 l : Nat) = ((2 ^ a + sum2 l : Nat) : Int)
              omega
          have e4 := sum2_mask (w := w) (l := ns.map Int.toNat) (by
            rw [List.pairwise_map]
            exact hp.imp_of_mem fun {x y} hx hy h => by
              have := pos x hx
              have := pos y hy
              omega) fun a => by
            constructor
            · intro h
              obtain ⟨k, hk, e⟩ := List.mem_map.mp h
              obtain ⟨b, hb, e'⟩ := (hm k).mp hk
              have : a = b := by omega
              exact this ▸ hb
            · intro h
              exact List.mem_map.mpr ⟨(a : Int), (hm _).mpr ⟨a, h, rfl⟩, by simp⟩
          rw [← e4]
          have := e3 (ns.map Int.toNat)
          simpa [List.map_map] using this
        · simp
  · have e0 : ([] ++ List.map (fun d => match wordOf d with | some w => D.int (Rw.maskOf w : Nat) | none => D.non) (List.map dwl r)) = dnats (r.map Rw.maskOf) := by
      unfold dnats
      rw [List.nil_append, List.map_map, List.map_map]
      refine List.map_congr_left fun w _ => ?_
      have e1 : wordOf (dwl w) = some w := natsOf_of w
      simp [e1]
    rw [e0]
    refine ⟨by rw [sizeLine_eq]; decide, fun m vs => ∃ (masks : List Nat) (steps : Nat), vs = ⟨[some (.sh (.lst (r.map dwl))), some (.sh (.int (2 ^ r.length - 1))), some (.sh (.lst (dnats masks))), some (.sh (.int steps)), none, none, none], n⟩ ∧
      masks.length = r.length ∧ 1 ≤ steps ∧ steps ≤ 2000000 ∧ r.length * r.length ≤ steps + m ∧ Rw.mixM r.length m steps masks = Rw.mixM r.length (r.length * r.length) 1 (r.map Rw.maskOf),
      ⟨r.length * r.length, _, 1, rfl, by simp, by decide, by decide, by omega, rfl⟩, ?_⟩
    rintro m vs ⟨masks, steps, e, hl, h1, h2, hm, hM⟩
    subst e
    have hsq : r.length * r.length ≤ 1000000 := Nat.mul_le_mul hr hr
    have hsq' : ((r.length : Int) * (r.length : Int)) = ((r.length * r.length : Nat) : Int) := by simp
    have hzm : masks.length ≤ sizeLine := by omega
    simp
    refine ⟨mulX (by omega) (by omega) (by omega) (by omega), ?_⟩
    by_cases hlt2 : (steps : Int) < (r.length : Int) * (r.length : Int)
    · rw [if_pos hlt2]
      have hlt3 : steps < r.length * r.length := by omega
      refine map_all (g := fun d => match d with | .int i => .int (Rw.joined i.toNat masks : Nat) | d => d) _ [] _ (by simpa using hzm) (fun d hd Q' hq => ?_) ?_
      · obtain ⟨a, ha, e⟩ := List.mem_map.mp hd
        subst e
        simp
        refine ⟨a, masks, rfl, hq _ _ (by simp) (by simp)⟩
      · have e2 : ([] ++ (dnats masks).map fun d => match d with | .int i => .int (Rw.joined i.toNat masks : Nat) | d => d) = dnats (Rw.stepM masks) := by
          unfold dnats Rw.stepM
          simp [List.map_map]
        rw [e2]
        refine ⟨mulX (by omega) (by omega) (by omega) (by omega), by rw [sizeLine_eq]; decide, ?_⟩
        cases m with
        | zero => omega
        | succ m =>
          refine ⟨m, by omega, Rw.stepM masks, 2 * steps, ?_, by unfold Rw.stepM; simpa using hl, by omega, by omega, by omega, ?_⟩
          · simp
          · rw [← hM]
            show _ = if steps < r.length * r.length then _ else masks
            rw [if_pos hlt3]
    · rw [if_neg hlt2]
      have hge : r.length * r.length ≤ steps := by omega
      have eM : Rw.mixM r.length m steps masks = masks := by
        cases m with
        | zero => rfl
        | succ m =>
          show (if steps < r.length * r.length then _ else masks) = masks
          rw [if_neg (by omega)]
      refine map_all (g := fun d => match d with | .int i => .bl (decide (i = (2 : Int) ^ r.length - 1)) | d => d) _ [] _ (by simpa using hzm) (fun d hd Q' hq => ?_) ?_
      · obtain ⟨a, ha, e⟩ := List.mem_map.mp hd
        subst e
        simp
        exact hq _ _ (by simp) (by simp)
      · have e2 : ([] ++ (dnats masks).map fun d => match d with | .int i => .bl (decide (i = (2 : Int) ^ r.length - 1)) | d => d) = (masks.map fun a => a == 2 ^ r.length - 1).map D.bl := by
          unfold dnats
          simp only [List.nil_append, List.map_map]
          refine List.map_congr_left fun a _ => ?_
          have hp : 1 ≤ 2 ^ r.length := Nat.one_le_two_pow
          have e3 : ((2 : Int) ^ r.length - 1) = ((2 ^ r.length - 1 : Nat) : Int) := by
            rw [Int.ofNat_sub hp]; simp
          simp only [Function.comp, e3]
          by_cases z : a = 2 ^ r.length - 1
          · simp [z]
          · have z' : ¬ ((a : Int) = ((2 ^ r.length - 1 : Nat) : Int)) := by omega
            simp [z, z']
        rw [e2]
        have e4 : ∀ l : List Bool, bls? (l.map D.bl) = some l := by
          intro l
          induction l with
          | nil => rfl
          | cons b l ih => simp [bls?, D.bl?, ih]
        rw [e4]
        have e5 : ((masks.map fun a => a == 2 ^ r.length - 1).all id) = Rw.mixed r := by
          unfold Rw.mixed
          rw [← hM, eM, List.all_map]
          rfl
        show P (.sh (.bl ((masks.map fun a => a == 2 ^ r.length - 1).all id))) n
        rw [e5]
        exact h
end Vx

set_option Elab.async false
set_option maxRecDepth 100000
set_option linter.all false
/-! check_rules, rules, exchanged, checked. -/
namespace Vx
open PySem PySem.Spec PyProof.Rows L2
theorem atI_nat {α : Type} (xs : List α) (i : Nat) : atI xs (i : Int) = xs[i]? := by
  unfold atI ixN
  rw [if_pos (Int.natCast_nonneg i)]
  by_cases h : i < xs.length
  · rw [if_pos (by omega)]; simp
  · rw [if_neg (by omega)]
    rw [List.getElem?_eq_none (by omega)]; rfl
/-! ### exchanged -/
def F_exchanged : FS := fun los n P => ∃ (r : List (List Nat)) (w : List Nat) (d : D), los = [.sh (.row r), .sh d] ∧ (d = .lst (dnats w) ∨ d = .tup (dnats w)) ∧ (∀ a ∈ w, a < r.length) ∧ (Rw.ex r w).length ≤ sizeLine ∧ P (.ow (dnats (Rw.ex r w))) n
def b_row_exchanged : WS :=
  (wSeq (wSet 2 (wLst wNil))
    (wSeq (wFor (wIA (wN 1)) (.name 3)
    (wExt 2 (w2 gIx (wKept (wN 0)) (wN 3))))
    (wRetN 2)))

theorem dnats_append (u v : List Nat) : dnats (u ++ v) = dnats u ++ dnats v := by simp [dnats]
theorem lp_exchanged {E : EndsV} (r : List (List Nat)) (d : D) (n : Nat) : ∀ (w acc : List Nat) (x3 : Option Lo), (∀ a ∈ w, a < r.length) → (acc ++ Rw.ex r w).length ≤ sizeLine →
    (∀ x3, E.nx ⟨[some (.sh (.row r)), some (.sh d), some (.ow (dnats (acc ++ Rw.ex r w))), x3], n⟩) →
    wLoop (.name 3) (wExt 2 (w2 gIx (wKept (wN 0)) (wN 3))) (dnats w) ⟨[some (.sh (.row r)), some (.sh d), some (.ow (dnats acc)), x3], n⟩ E
  | [], acc, x3, _, _, h => by
    have := h x3
    simpa [Rw.ex] using this
  | a :: w, acc, x3, hw, hl, h => by
    show wLoop _ _ (D.int a :: dnats w) _ _
    rw [wLoop_cons]
    have ha := hw a (by simp)
    have ex : Rw.ex r (a :: w) = r.getD a [] ++ Rw.ex r w := rfl
    rw [ex, ← List.append_assoc] at hl
    have ih := lp_exchanged (E := E) r d n w (acc ++ r.getD a []) (some (.sh (.int a))) (fun b hb => hw b (by simp [hb])) hl (fun x3 => by
      have := h x3
      rw [ex, ← List.append_assoc] at this
      exact this)
    have eg : r[a]? = some (r.getD a []) := by simp [List.getD_eq_getElem?_getD, ha]
    have e1 : atI (r.map dw) (a : Int) = some (dw (r.getD a [])) := by rw [atI_nat, List.getElem?_map, eg]; rfl
    have e2 : ∀ xs : List D, (D.tup xs).py = .tuple (D.pys xs) := fun _ => rfl
    simp [rulesT, e1, dw]
    rw [dnats_append] at ih
    refine ⟨?_, ih⟩
    rw [List.length_append, List.length_append, List.getD_eq_getElem?_getD] at hl
    omega
theorem m_exchanged {los : List Lo} {n : Nat} {P : Lo → Nat → Prop} (h : F_exchanged los n P) : bodyF 4 b_row_exchanged los n P := by
  obtain ⟨r, w, d, e, hd, hw, hl, h⟩ := h
  subst e
  have g := fun (d : D) => lp_exchanged (E := ⟨fun vs => wRetN 2 vs ⟨fun vs => P (.sh .non) vs.n, P, fun _ => False, fun _ => False⟩, P, fun _ => False, fun _ => False⟩) r d n w [] none hw (by simpa using hl) fun x3 => by simpa using h
  simp only [b_row_exchanged, bodyF, wSeq]
  rcases hd with hd | hd
  · subst hd
    simp
    simpa using g (.lst (dnats w))
  · subst hd
    simp
    simpa using g (.tup (dnats w))
/-! ### rules, checked -/
def F_rules : FS := fun los n P => ∃ (r : List (List Nat)), los = [.sh (.row r)] ∧ r.length ≤ sizeLine ∧ P (.ow (r.map dwl)) n
def b_row_rules : WS :=
  (wRet (wComp (wIA (wKept (wN 0))) [1] (.name 1) wYes (w1 gList (wB 1))))

theorem m_rules {los : List Lo} {n : Nat} {P : Lo → Nat → Prop} (h : F_rules los n P) : bodyF 2 b_row_rules los n P := by
  obtain ⟨r, e, hl, h⟩ := h
  subst e
  simp only [b_row_rules, bodyF, wSeq]
  simp [rulesT]
  refine map_all (g := fun d => match d with | .tup xs => .lst xs | d => d) _ [] _ (by simpa using hl) (fun d hd Q' hq => ?_) ?_
  · obtain ⟨w, hw, e⟩ := List.mem_map.mp hd
    subst e
    simp [dw]
    exact hq _ _ rfl (by simp)
  · have : ([] ++ (r.map dw).map fun d => match d with | .tup xs => .lst xs | d => d) = r.map dwl := by
      rw [List.nil_append, List.map_map]
      rfl
    rw [this]
    exact h
def F_checked : FS := fun los n P => ∃ (r : List (List Nat)) (i : D), los = [.sh (.row r), .sh i] ∧ r.length ≤ 60 ∧ P (.sh (.row r)) n
def b_checked : WS :=
  (wSeq (wIf (wTst (w2 (gI0 fun i j => .bl (decide (j < i))) (w1 gLen (wKept (wN 0))) (wC (.int 60))))
    wNo
    wSkip)
    (wRetN 0))

theorem m_checked {los : List Lo} {n : Nat} {P : Lo → Nat → Prop} (h : F_checked los n P) : bodyF 2 b_checked los n P := by
  obtain ⟨r, i, e, hl, h⟩ := h
  subst e
  simp only [b_checked, bodyF, wSeq]
  simp [rulesT]
  have : ¬ (60 : Int) < (r.length : Int) := by omega
  exact ⟨by omega, h⟩
/-! ### check_rules -/
def F_check : FS := fun los n P => ∃ (d : D) (r : List (List Nat)), los = [.sh d] ∧ rulesOf d = some r ∧ fitR r = true ∧ P (.sh .non) n
def b_check_rules : WS :=
  (wSeq (wIf (wTst (w2 (gEq false) (w1 gLen (wB 0)) (wC (.int 0))))
    wNo
    wSkip)
    (wSeq (wFor (wIE (wN 0)) (.tup [(.name 1), (.name 2)])
    (wIf (wTst (w2 (gEq false) (w1 gLen (wB 2)) (wC (.int 0))))
    wNo
    wSkip))
    (wSeq (wFor (wIA (wN 0)) (.name 2)
    (wFor (wIA (wN 2)) (.name 3)
    (wIf (wNot (wChain (fun i j => decide (i ≤ j)) (fun i j => decide (i < j)) (wC (.int 0)) (wB 3) (w1 gLen (wB 0))))
    wNo
    wSkip)))
    (wSeq (wIf (wOr (wTst (w2 (gEq true) (w2 gIx (w2 gIx (wB 0) (wC (.int 0))) (wC (.int 0))) (wC (.int 0)))) (wTst (w2 (gI0 fun i j => .bl (decide (i < j))) (w1 gLen (w2 gIx (wB 0) (wC (.int 0)))) (wC (.int 2)))))
    wNo
    wSkip)
    (wIf (wNot (wTst (wCallN 1 F_mixed (wFCons (wN 0) wFNil))))
    wNo
    wSkip)))))

theorem m_check {los : List Lo} {n : Nat} {P : Lo → Nat → Prop} (h : F_check los n P) : bodyF 4 b_check_rules los n P := by
  obtain ⟨d, r, e, er, hf, h⟩ := h
  have ed := rulesOf_eq er
  subst e ed
  simp only [b_check_rules, bodyF]
  have hf' := hf
  unfold fitR Rw.good at hf'
  simp only [Bool.and_eq_true, decide_eq_true_eq, List.all_eq_true, Bool.or_eq_true] at hf'
  obtain ⟨⟨⟨⟨⟨⟨⟨⟨g1, g2⟩, g3⟩, g4⟩, g5⟩, g6⟩, hl⟩, hw⟩, h63⟩ := hf'
  have n0 : ¬ r = [] := g1
  have mem0 : ∃ w0 r', r = w0 :: r' := List.exists_cons_of_ne_nil g1
  rw [wSeq_ap]
  simp [rulesL, n0]
  rw [wSeq_ap]
  simp
  refine loop_inv (fun env => ∃ x1 x2 x3, env = [some (.sh (.lst (r.map dwl))), x1, x2, x3]) _ _ ⟨_, _, _, rfl⟩ (fun d hd env E' hI hE => ?_) (fun env hI => ?_)
  · obtain ⟨x1, x2, x3, e⟩ := hI
    subst e
    unfold enumD at hd
    obtain ⟨p, hp, e⟩ := List.mem_map.mp hd
    subst e
    have hp1 : p.1 ∈ r.map dwl := List.fst_mem_of_mem_zipIdx hp
    obtain ⟨w, hwr, ew⟩ := List.mem_map.mp hp1
    have hne := g2 w hwr
    rw [← ew]
    simp [dwl, hne]
    exact hE _ ⟨_, _, _, rfl⟩
  obtain ⟨x1, x2, x3, e⟩ := hI
  subst e
  dsimp only
  rw [wSeq_ap]
  simp
  refine loop_inv (fun env => ∃ x1 x2 x3, env = [some (.sh (.lst (r.map dwl))), x1, x2, x3]) _ _ ⟨_, _, _, rfl⟩ (fun d hd env E' hI hE => ?_) (fun env hI => ?_)
  · obtain ⟨x1, x2, x3, e⟩ := hI
    subst e
    obtain ⟨w, hwr, ew⟩ := List.mem_map.mp hd
    subst ew
    simp [dwl]
    refine loop_inv (fun env => ∃ x1 x3, env = [some (.sh (.lst (r.map dwl))), x1, some (.sh (.lst (dnats w))), x3]) _ _ ⟨_, _, rfl⟩ (fun d hd env E2 hI hE2 => ?_) (fun env hI => ?_)
    · obtain ⟨x1, x3, e⟩ := hI
      subst e
      obtain ⟨a, ha, ea⟩ := List.mem_map.mp hd
      subst ea
      have hlt := g3 w hwr a ha
      simp [hlt]
      exact hE2 _ ⟨_, _, rfl⟩
    · obtain ⟨x1, x3, e⟩ := hI
      subst e
      exact hE _ ⟨_, _, _, rfl⟩
  obtain ⟨x1, x2, x3, e⟩ := hI
  subst e
  dsimp only
  rw [wSeq_ap]
  obtain ⟨w0, r', er'⟩ := mem0
  have h0 : ∃ w0', w0 = 0 :: w0' ∧ 2 ≤ w0.length := by
    rw [er'] at g4 g5
    have g4' : w0.getD 0 1 = 0 := g4
    have g5' : 2 ≤ w0.length := g5
    cases w0 with
    | nil => simp at g5'
    | cons a w0' =>
      have : a = 0 := g4'
      exact ⟨w0', by rw [this], g5'⟩
  obtain ⟨w0', ew0, h2⟩ := h0
  have a1 : atI (r.map dwl) 0 = some (dwl w0) := by
    have := atI_nat (r.map dwl) 0
    rw [er'] at this ⊢
    exact this
  have a2 : atI (dnats w0) 0 = some (.int 0) := by
    have := atI_nat (dnats w0) 0
    rw [ew0] at this ⊢
    exact this
  have h2' : ¬ ((w0.length : Int) < 2) := by omega
  simp [a1, dwl, a2, h2']
  exact ⟨r, rfl, hl, g3, hw, h63, g6, h⟩
end Vx

set_option Elab.async false
set_option maxRecDepth 100000
set_option linter.all false
/-! cut_words: lists within a list, read directly. -/
namespace Vx
open PySem PySem.Spec PyProof.Rows L2
/-! ### the pieces of a word, from the left -/
def cutStep (ps : List (List Nat)) (a : Nat) : List (List Nat) := if a = 0 then ps ++ [[0]] else ps.dropLast ++ [ps.getLastD [] ++ [a]]
def cutJ (q : List Nat) (w : List Nat) : List (List Nat) := match w with
  | [] => [q]
  | b :: _ => if b = 0 then q :: Rw.cut w else match Rw.cut w with
    | [] => [q]
    | p :: r => (q ++ p) :: r
theorem cutJ_one (a : Nat) (w : List Nat) : cutJ [a] w = Rw.cut (a :: w) := by
  cases w with
  | nil => rfl
  | cons b w => rfl
theorem cut_fold : ∀ (w : List Nat) (ps : List (List Nat)) (q : List Nat), w.foldl cutStep (ps ++ [q]) = ps ++ cutJ q w
  | [], ps, q => rfl
  | b :: w, ps, q => by
    rw [List.foldl_cons]
    by_cases h : b = 0
    · have e : cutStep (ps ++ [q]) b = (ps ++ [q]) ++ [[0]] := if_pos h
      rw [e, cut_fold w (ps ++ [q]) [0], cutJ_one]
      subst h
      have e2 : cutJ q (0 :: w) = q :: Rw.cut (0 :: w) := rfl
      rw [e2, List.append_assoc]; rfl
    · have e : cutStep (ps ++ [q]) b = ps ++ [q ++ [b]] := by
        have e1 : cutStep (ps ++ [q]) b = (ps ++ [q]).dropLast ++ [(ps ++ [q]).getLastD [] ++ [b]] := if_neg h
        rw [e1, List.dropLast_concat, List.getLastD_concat]
      rw [e, cut_fold w ps (q ++ [b])]
      congr 1
      have e2 : cutJ q (b :: w) = match Rw.cut (b :: w) with | [] => [q] | p :: r => (q ++ p) :: r := if_neg h
      rw [e2, ← cutJ_one]
      cases w with
      | nil => rfl
      | cons c w =>
        by_cases hc : c = 0
        · have a1 : cutJ (q ++ [b]) (c :: w) = (q ++ [b]) :: Rw.cut (c :: w) := if_pos hc
          have a2 : cutJ [b] (c :: w) = [b] :: Rw.cut (c :: w) := if_pos hc
          rw [a1, a2]
        · have a1 : cutJ (q ++ [b]) (c :: w) = match Rw.cut (c :: w) with | [] => [q ++ [b]] | p :: r => (q ++ [b] ++ p) :: r := if_neg hc
          have a2 : cutJ [b] (c :: w) = match Rw.cut (c :: w) with | [] => [[b]] | p :: r => ([b] ++ p) :: r := if_neg hc
          rw [a1, a2]
          cases Rw.cut (c :: w) with
          | nil => rfl
          | cons p r => simp
theorem atI_last {α : Type} (l : List α) (x : α) : atI (l ++ [x]) (-1) = some x := by
  have h : ixN (l ++ [x]).length (-1) = some l.length := by
    unfold ixN
    rw [if_neg (by decide), if_pos (by rw [List.length_append, List.length_singleton]; omega), List.length_append, List.length_singleton]
    congr 1
    omega
  unfold atI
  rw [h]
  simp
theorem cutStep_len {ps : List (List Nat)} {b m : Nat} (h : ∀ p ∈ ps, p.length ≤ m) : ∀ p ∈ cutStep ps b, p.length ≤ m + 1 := fun p hp => by
  unfold cutStep at hp
  split at hp
  · rw [List.mem_append, List.mem_singleton] at hp
    rcases hp with hp | hp
    · have := h p hp; omega
    · subst hp; simp
  · rw [List.mem_append, List.mem_singleton] at hp
    rcases hp with hp | hp
    · have := h p ((List.dropLast_sublist ps).subset hp); omega
    · subst hp
      rw [List.length_append, List.length_singleton]
      cases ps with
      | nil => simp
      | cons x r =>
        have e : (x :: r).getLastD [] = (x :: r).getLast (by simp) := by simp [List.getLastD]
        rw [e]
        have := h _ (List.getLast_mem (l := x :: r) (by simp))
        omega
theorem cut_len : ∀ (l : List Nat) (ps : List (List Nat)) (m : Nat), (∀ p ∈ ps, p.length ≤ m) → ∀ p ∈ l.foldl cutStep ps, p.length ≤ m + l.length
  | [], ps, m, h, p, hp => by have := h p hp; simpa using this
  | b :: l, ps, m, h, p, hp => by
    have := cut_len l (cutStep ps b) (m + 1) (cutStep_len h) p hp
    rw [List.length_cons]; omega
theorem cut_left {w : List Nat} (h : w.headD 1 = 0) : w.foldl cutStep [] = Rw.cut w := by
  cases w with
  | nil => rfl
  | cons a w =>
    have ha : a = 0 := h
    subst ha
    rw [List.foldl_cons]
    have e : cutStep [] 0 = [] ++ [[0]] := rfl
    rw [e, cut_fold, cutJ_one]; rfl
def F_cut : FS := fun los n P => ∃ w : List Nat, los = [.sh (.lst (dnats w))] ∧ w.headD 1 = 0 ∧ w.length < sizeLine ∧ P (.ow ((Rw.cut w).map dwl)) n

section
variable {T : Th} {W : Wd} {H H1 : Hp} {n : Nat}
/-- objects come, none goes -/
theorem WOk.more (ok : WOk T W H n) (k : ∀ a o, H a = some o → H1 a = some o) : WOk T W H1 n := by
  have eq : ∀ b, W.D b → H1 b = H b := fun b hb => by
    obtain ⟨o, e⟩ := ok.d b hb
    rw [k b o e, e]
  refine ⟨fun a o h => ?_, fun a r h => ?_, fun a h => ?_, ok.pd, ok.i, ?_⟩
  · obtain ⟨h1, h2, h3⟩ := ok.s a o h
    exact ⟨k _ _ h1, h2, h3⟩
  · obtain ⟨h1, h2, h3⟩ := ok.r a r h
    exact ⟨T.mono W W H H1 a r (Le.refl W) (fun b hb _ => eq b hb) h1, h2, h3⟩
  · rw [eq a h]; exact ok.d a h
  · obtain ⟨a, b, c, h1, h2⟩ := ok.p
    exact ⟨a, b, c, k _ _ h1, T.psm (Le.refl W) (fun b hb _ => eq b hb) h2⟩
structure CutI (H0 H1 : Hp) (p : Addr) (qs : List Addr) (ps : List (List Nat)) : Prop where
  hp : H1 p = some (.lst (qs.map V.ref))
  len : qs.length = ps.length
  at_ : ∀ (j : Nat) (q : Addr) (w : List Nat), qs[j]? = some q → ps[j]? = some w → H1 q = some (.lst (w.map fun (n : Nat) => V.int (n : Int)))
  nd : (p :: qs).Nodup
  fr : ∀ q ∈ p :: qs, H0 q = none
  keep : ∀ a o, H0 a = some o → H1 a = some o
theorem frzAll : ∀ {qs : List Addr} {ps : List (List Nat)} {W : Wd}, WOk T W H n → qs.length = ps.length → (∀ (j : Nat) (q : Addr) (w : List Nat), qs[j]? = some q → ps[j]? = some w → H q = some (.lst (w.map fun (n : Nat) => V.int (n : Int)))) →
    qs.Nodup → (∀ q ∈ qs, ¬ W.D q) → ∃ W', Le W W' ∧ WOk T W' H n ∧ RepL W' (ps.map dwl) (qs.map V.ref) ∧ ∀ a, W'.D a → W.D a ∨ a ∈ qs
  | [], [], W, ok, _, _, _, _ => ⟨W, Le.refl W, ok, RepL.nil, fun _ h => .inl h⟩
  | [], _ :: _, _, _, h, _, _, _ => by simp at h
  | _ :: _, [], _, _, h, _, _, _ => by simp at h
  | q :: qs, w :: ps, W, ok, hl, hat, nd, hd => by
    have hq := hat 0 q w rfl rfl
    have nq : ¬ W.D q := hd q (by simp)
    rw [List.nodup_cons] at nd
    have le : Le W (W.frz q _) := Wd.frz_le (vs := ⟨[], n⟩) nq hq ok
    have ok1 := ok.frz nq hq
    obtain ⟨W', l2, ok2, r2, g2⟩ := frzAll (qs := qs) (ps := ps) ok1 (by simpa using hl) (fun j q' w' h1 h2 => hat (j + 1) q' w' (by simpa using h1) (by simpa using h2)) nd.2 (fun q' hq' z => by
      rcases z with z | z
      · exact hd q' (by simp [hq']) z
      · exact nd.1 (z ▸ hq'))
    refine ⟨W', le.trans l2, ok2, RepL.cons ⟨q, _, rfl, l2.s _ _ (if_pos rfl), ?_⟩ r2, fun a ha => ?_⟩
    · have := RepL.of_ints (W := W') (ns := w.map fun (n : Nat) => (n : Int))
      rw [List.map_map, List.map_map] at this
      exact this
    · rcases g2 a ha with z | z
      · rcases z with z | z
        · exact .inl z
        · exact .inr (by simp [z])
      · exact .inr (by simp [z])
def tCut (K : PySem.W.Frag) : TS := tSeq (tAsg (tLst tNil) (gName 1)) (tSeq (tFor (iList K (tVar 0)) (gName 2)
  (tSeq (tIfS (tTest (tOp rEq (tVar 2) (tC (V.int 0)))) (tDrop (tBM K "list" rAppend (tVar 1) (tCons (tLst tNil) tNil))) tNext)
    (tDrop (tBM K "list" rAppend (tOp (rIxL K) (tVar 1) (tUn (rU fun i => V.int (-i)) (tC (V.int 1)))) (tCons (tVar 2) tNil))))) (tRet (tVar 1)))
theorem cut_read {K : PySem.W.Frag} {a : Addr} {wd : List Nat} {D : Ends} {P' : Lo → Nat → Prop} (ok : WOk T W H n) (hs : W.S a = some (.lst (wd.map fun (n : Nat) => V.int (n : Int)))) (h0 : wd.headD 1 = 0) (hl : wd.length < sizeLine)
    (hP : P' (.ow ((Rw.cut wd).map dwl)) n) (kk : ∀ (lo : Lo) (n' : Nat) (W' : Wd) (H' : Hp) (v : V), P' lo n' → After T W H W' H' n' → RetOk W' H' H v lo → D.rt v H') : tCut K D [some (.ref a), none, none] H := by
  have hH := (ok.s _ _ hs).1
  refine ⟨by rw [List.length_nil, sizeLine_eq]; decide, fun p hp => ?_⟩
  have k0 : ∀ b o, H b = some o → (upd H p (.lst [])) b = some o := fun b o e => by rw [upd_ne (ne_of_none e hp)]; exact e
  refine ⟨.ref a, rfl, a, rfl, ⟨_, SqL.of (k0 _ _ hH)⟩, for_list (K := K) (a := a) (xs := wd.map fun (n : Nat) => V.int (n : Int))
    (fun i σ H1 => ∃ qs v2, σ = [some (.ref a), some (.ref p), v2] ∧ CutI H H1 p qs ((wd.take i).foldl cutStep [])) ⟨[], none, rfl, ⟨upd_same, rfl, fun j q w h => by simp at h, by simp, fun q hq => by simp at hq; rw [hq]; exact hp, k0⟩⟩
    (fun i σ H1 _ ⟨qs, v2, _, I⟩ => SqL.of (I.keep _ _ hH)) (fun i y σ H1 hi ⟨qs, v2, eσ, I⟩ => ?_) (fun σ H1 ⟨qs, v2, eσ, I⟩ => ?_)⟩
  · rw [List.getElem?_map] at hi
    cases ec : wd[i]? with
    | none => rw [ec] at hi; cases hi
    | some c =>
      rw [ec] at hi
      cases hi
      subst eσ
      have hil : i < wd.length := (List.getElem?_eq_some_iff.mp ec).1
      have et : wd.take (i + 1) = wd.take i ++ [c] := by rw [List.take_add_one, ec]; rfl
      have ef : (wd.take (i + 1)).foldl cutStep [] = cutStep ((wd.take i).foldl cutStep []) c := by rw [et, List.foldl_append]; rfl
      have len : ∀ (l : List Nat) (ps : List (List Nat)), (l.foldl cutStep ps).length ≤ ps.length + l.length := by
        intro l
        induction l with
        | nil => intro ps; simp
        | cons b l ih =>
          intro ps
          rw [List.foldl_cons, List.length_cons]
          have h1 := ih (cutStep ps b)
          have h2 : (cutStep ps b).length ≤ ps.length + 1 := by
            unfold cutStep
            split
            · simp
            · rw [List.length_append, List.length_dropLast, List.length_singleton]; omega
          omega
      have hqs : qs.length < sizeLine := by
        have := len (wd.take i) []
        rw [← I.len, List.length_take] at this
        simp at this
        omega
      refine ⟨_, rfl, rfl, _, rfl, ?_⟩
      have hnew : ∀ (H2 : Hp) (qs' : List Addr), CutI H H2 p qs' (cutStep ((wd.take i).foldl cutStep []) c) → ∃ qs v2', [some (V.ref a), some (V.ref p), some (V.int (c : Int))] = [some (V.ref a), some (V.ref p), v2'] ∧ CutI H H2 p qs ((wd.take (i + 1)).foldl cutStep []) :=
        fun H2 qs' J => ⟨qs', _, rfl, by rw [ef]; exact J⟩
      by_cases hc : c = 0
      · -- a new piece
        have e1 : decide (V.int (c : Int) = V.int 0) = true := by subst hc; rfl
        dsimp only
        rw [if_pos e1]
        refine ⟨.ref p, rfl, .inl ⟨rfl, _, SqL.of I.hp⟩, by rw [List.length_nil, sizeLine_eq]; decide, fun q hq => ?_⟩
        have nqp : p ≠ q := ne_of_none I.hp hq
        refine ⟨p, qs.map V.ref, .ref q, rfl, rfl, by rw [upd_ne nqp]; exact I.hp, by rw [List.length_map]; exact hqs, ?_⟩
        have hp2 : (upd (upd H1 q (.lst [])) p (.lst (qs.map V.ref ++ [.ref q]))) p = some (.lst (qs.map V.ref ++ [.ref q])) := upd_same
        have hq2 : (upd (upd H1 q (.lst [])) p (.lst (qs.map V.ref ++ [.ref q]))) q = some (.lst []) := by rw [upd_ne (Ne.symm nqp), upd_same]
        have hat : atI (qs.map V.ref ++ [V.ref q]) (-1) = some (.ref q) := atI_last _ _
        refine ⟨.ref p, rfl, 1, rfl, p, _, _, .ref q, rfl, rfl, SqL.of hp2, hat, .inl ⟨rfl, _, SqL.of hq2⟩, V.int c, rfl, q, [], V.int c, rfl, rfl, hq2, by rw [List.length_nil, sizeLine_eq]; decide, ?_⟩
        have est : cutStep ((wd.take i).foldl cutStep []) c = (wd.take i).foldl cutStep [] ++ [[0]] := if_pos hc
        refine hnew _ (qs ++ [q]) ⟨?_, ?_, fun j q' w h1 h2 => ?_, ?_, ?_, ?_⟩
        · rw [upd_ne nqp, upd_same, List.map_append]; rfl
        · rw [est, List.length_append, List.length_append, I.len]; rfl
        · rw [est] at h2
          by_cases hj : j < qs.length
          · rw [List.getElem?_append_left hj] at h1
            rw [List.getElem?_append_left (by rw [← I.len]; exact hj)] at h2
            have hq' := I.at_ j q' w h1 h2
            have n1 : q' ≠ q := ne_of_none hq' hq
            have n2 : q' ≠ p := fun z => by
              have := I.nd
              rw [List.nodup_cons] at this
              exact this.1 (z ▸ List.mem_of_getElem? h1)
            rw [upd_ne n1, upd_ne n2, upd_ne n1]
            exact hq'
          · have hj2 : j = qs.length := by
              have h3 := (List.getElem?_eq_some_iff.mp h1).1
              rw [List.length_append, List.length_singleton] at h3
              omega
            subst hj2
            rw [List.getElem?_append_right (Nat.le_refl _), Nat.sub_self] at h1
            rw [I.len, List.getElem?_append_right (Nat.le_refl _), Nat.sub_self] at h2
            cases h1
            cases h2
            rw [upd_same]
            subst hc
            rfl
        · have := I.nd
          rw [List.nodup_cons] at this ⊢
          refine ⟨?_, ?_⟩
          · rw [List.mem_append, List.mem_singleton]
            rintro (z | z)
            · exact this.1 z
            · exact nqp z
          · rw [List.nodup_append]
            refine ⟨this.2, by simp, fun x hx y hy => ?_⟩
            rw [List.mem_singleton] at hy
            subst hy
            obtain ⟨j, hj⟩ := List.mem_iff_getElem?.mp hx
            have hj' : j < ((wd.take i).foldl cutStep []).length := by
              rw [← I.len]; exact (List.getElem?_eq_some_iff.mp hj).1
            exact ne_of_none (I.at_ j x _ hj (List.getElem?_eq_getElem hj')) hq
        · intro x hx
          rw [List.mem_cons, List.mem_append, List.mem_singleton] at hx
          rcases hx with z | z | z
          · exact I.fr x (by simp [z])
          · exact I.fr x (by simp [z])
          · subst z
            cases e : H x with
            | none => rfl
            | some o => rw [I.keep x o e] at hq; cases hq
        · intro b o e
          have h1 := I.keep b o e
          have n1 : b ≠ q := ne_of_none h1 hq
          have n2 : b ≠ p := fun z => by
            have := I.fr p (by simp)
            rw [← z, e] at this; cases this
          rw [upd_ne n1, upd_ne n2, upd_ne n1]; exact h1
      · -- the last piece grows
        have e1 : ¬ decide (V.int (c : Int) = V.int 0) = true := by
          rw [decide_eq_true_eq]
          intro z
          injection z with z
          omega
        dsimp only
        rw [if_neg e1]
        have hne : ((wd.take i).foldl cutStep []) ≠ [] := by
          cases i with
          | zero =>
            exfalso
            cases wd with
            | nil => cases ec
            | cons x r =>
              have : x = 0 := h0
              cases ec
              exact hc this
          | succ i =>
            have gen : ∀ (l : List Nat) (ps : List (List Nat)), ps ≠ [] → l.foldl cutStep ps ≠ [] := by
              intro l
              induction l with
              | nil => intro ps h; exact h
              | cons b l ih =>
                intro ps h
                rw [List.foldl_cons]
                refine ih _ ?_
                unfold cutStep
                split <;> simp
            cases wd with
            | nil => simp at hil
            | cons x r =>
              rw [List.take_succ_cons, List.foldl_cons]
              refine gen _ _ ?_
              unfold cutStep
              split <;> simp
        have hqne : qs ≠ [] := fun z => by
          have := I.len
          rw [z] at this
          exact hne (List.length_eq_zero_iff.mp this.symm)
        obtain ⟨ps0, w0, eps⟩ : ∃ ps0 w0, (wd.take i).foldl cutStep [] = ps0 ++ [w0] := ⟨_, _, (List.dropLast_concat_getLast hne).symm⟩
        obtain ⟨qs0, q, eqs⟩ : ∃ qs0 q, qs = qs0 ++ [q] := ⟨_, _, (List.dropLast_concat_getLast hqne).symm⟩
        have ll : qs0.length = ps0.length := by
          have := I.len
          rw [eps, eqs, List.length_append, List.length_append, List.length_singleton, List.length_singleton] at this
          omega
        have hq : H1 q = some (.lst (w0.map fun (n : Nat) => V.int (n : Int))) := I.at_ qs0.length q w0 (by rw [eqs]; simp) (by rw [eps, ll]; simp)
        have hat : atI (qs.map V.ref) (-1) = some (.ref q) := by
          rw [eqs, List.map_append]
          exact atI_last _ _
        have hw0 : w0.length < sizeLine := by
          have := cut_len (wd.take i) [] 0 (by simp) w0 (by rw [eps]; simp)
          rw [List.length_take] at this
          omega
        have nqp : q ≠ p := fun z => by
          have := I.nd
          rw [List.nodup_cons, eqs, List.mem_append, List.mem_singleton] at this
          exact this.1 (.inr z.symm)
        refine ⟨.ref p, rfl, 1, rfl, p, _, _, .ref q, rfl, rfl, SqL.of I.hp, hat, .inl ⟨rfl, _, SqL.of hq⟩, V.int c, rfl, q, _, V.int c, rfl, rfl, hq, by rw [List.length_map]; exact hw0, ?_⟩
        have est : cutStep ((wd.take i).foldl cutStep []) c = ps0 ++ [w0 ++ [c]] := by
          have e2 : cutStep ((wd.take i).foldl cutStep []) c = ((wd.take i).foldl cutStep []).dropLast ++ [((wd.take i).foldl cutStep []).getLastD [] ++ [c]] := if_neg hc
          rw [e2, eps, List.dropLast_concat, List.getLastD_concat]
        refine hnew _ qs ⟨?_, ?_, fun j q' w h1 h2 => ?_, I.nd, I.fr, ?_⟩
        · rw [upd_ne (Ne.symm nqp)]; exact I.hp
        · rw [est, eqs, List.length_append, List.length_append, ll]; rfl
        · rw [est] at h2
          by_cases hj : j < qs0.length
          · rw [List.getElem?_append_left (by rw [← ll]; exact hj)] at h2
            have h3 := I.at_ j q' w h1 (by rw [eps, List.getElem?_append_left (by rw [← ll]; exact hj)]; exact h2)
            have n1 : q' ≠ q := fun z => by
              have nd := I.nd
              rw [List.nodup_cons, eqs, List.nodup_append] at nd
              rw [eqs, List.getElem?_append_left hj] at h1
              exact nd.2.2.2 q' (List.mem_of_getElem? h1) q (by simp) z
            rw [upd_ne n1]; exact h3
          · have hj2 : j = qs0.length := by
              have h3 := (List.getElem?_eq_some_iff.mp h1).1
              rw [eqs, List.length_append, List.length_singleton] at h3
              omega
            subst hj2
            rw [eqs, List.getElem?_append_right (Nat.le_refl _), Nat.sub_self] at h1
            rw [ll, List.getElem?_append_right (Nat.le_refl _), Nat.sub_self] at h2
            cases h1
            cases h2
            rw [upd_same, List.map_append]; rfl
        · intro b o e
          have h1 := I.keep b o e
          have n1 : b ≠ q := fun z => by
            have := I.fr q (by rw [eqs]; simp)
            rw [← z, e] at this; cases this
          rw [upd_ne n1]; exact h1
  · subst eσ
    rw [List.length_map, List.take_length, cut_left h0] at I
    have nd := I.nd
    rw [List.nodup_cons] at nd
    have ok1 := ok.more I.keep
    have nD : ∀ q ∈ p :: qs, ¬ W.D q := fun q hq z => by
      obtain ⟨o, e⟩ := ok.d q z
      rw [I.fr q hq] at e; cases e
    obtain ⟨W', le, ok2, r2, g2⟩ := frzAll ok1 I.len I.at_ nd.2 (fun q hq => nD q (by simp [hq]))
    refine ⟨.ref p, rfl, kk _ n W' H1 _ hP ⟨le, ok2, fun b o _ e => I.keep b o e, fun b hb => ?_, ok.adv fun b hb _ => by
      obtain ⟨o, e⟩ := ok.d b hb
      rw [e]
      exact I.keep _ _ e⟩ ⟨p, _, rfl, fun z => ?_, hp, I.hp, r2⟩⟩
    · rcases g2 b hb with z | z
      · exact .inl z
      · exact .inr (I.fr b (by simp [z]))
    · rcases g2 p z with z | z
      · exact nD p (by simp) z
      · exact nd.1 z
end
end Vx

set_option Elab.async false
set_option maxRecDepth 100000
set_option linter.all false
/-! first_return; what find_returns needs. -/
namespace Vx
open PySem PySem.Spec PyProof.Rows L2
/-- words that grow to 0 twice, of a size that is covered -/
def growOk (r : List (List Nat)) : Nat → List Nat → Bool
  | 0, w => decide (2 ≤ w.count 0) && decide (w.length ≤ 100000) && decide (w.headD 1 = 0)
  | n + 1, w => (w.all fun a => decide (a < r.length)) && decide (w.length ≤ 100000) && decide (w.headD 1 = 0) && (if w.count 0 < 2 then growOk r n (Rw.ex r w) else true)
def F_first : FS := fun los n P => ∃ r : List (List Nat), los = [.sh (.row r)] ∧ growOk r r.length [0] = true ∧ P (.sh (dw (Rw.first r))) n
def b_first_return : WS :=
  (wSeq (wSet 1 (wLst (wCons (wC (.int 0)) wNil)))
    (wSeq (wWhile (wTst (w2 (gI0 fun i j => .bl (decide (i < j))) (wBm Lo.isLst gCnt (wB 1) (wC (.int 0))) (wC (.int 2))))
    (wSet 1 (wMeth 2 F_exchanged (wN 0) (wFCons (wN 1) wFNil))))
    (wRet (w1 gTuple (w2 gIx (wCallN 1 F_cut (wFCons (wN 1) wFNil)) (wC (.int 0)))))))

theorem count_ints (w : List Nat) : (w.map fun (a : Nat) => (a : Int)).count 0 = w.count 0 := by
  induction w with
  | nil => rfl
  | cons a w ih =>
    rw [List.map_cons, List.count_cons, List.count_cons, ih]
    congr 1
    by_cases h : a = 0
    · subst h; rfl
    · have : ¬ (a : Int) = 0 := by omega
      simp [h, this]
theorem cut_ne (w : List Nat) (h : w ≠ []) : Rw.cut w ≠ [] := by
  cases w with
  | nil => exact absurd rfl h
  | cons a w =>
    rw [← cutJ_one]
    cases w with
    | nil => simp [cutJ]
    | cons b w =>
      unfold cutJ
      dsimp only
      split
      · simp
      · split <;> simp
theorem m_first {los : List Lo} {n : Nat} {P : Lo → Nat → Prop} (h : F_first los n P) : bodyF 2 b_first_return los n P := by
  obtain ⟨r, e, hg, h⟩ := h
  subst e
  simp only [b_first_return, bodyF]
  rw [wSeq_ap]
  simp
  rw [wSeq_ap]
  refine ⟨by rw [sizeLine_eq]; decide, fun m vs => ∃ (w : List Nat) (lo : Lo), vs = ⟨[some (.sh (.row r)), some lo], n⟩ ∧ (lo = .ow (dnats w) ∨ lo = .sh (.lst (dnats w))) ∧ growOk r m w = true ∧ Rw.grow r m w = Rw.grow r r.length [0], ⟨r.length, [0], _, rfl, .inl rfl, hg, rfl⟩, ?_⟩
  rintro m vs ⟨w, lo, e, hlo, hg, hM⟩
  subst e
  have hl : w.length ≤ 100000 ∧ w.headD 1 = 0 := by
    cases m with
    | zero =>
      unfold growOk at hg
      simp only [Bool.and_eq_true, decide_eq_true_eq] at hg
      exact ⟨hg.1.2, hg.2⟩
    | succ m =>
      unfold growOk at hg
      simp only [Bool.and_eq_true, decide_eq_true_eq] at hg
      exact ⟨hg.1.1.2, hg.1.2⟩
  have hne : w ≠ [] := fun z => by
    rw [z] at hl
    exact absurd hl.2 (by decide)
  by_cases hc : w.count 0 < 2
  · cases m with
    | zero =>
      unfold growOk at hg
      simp only [Bool.and_eq_true, decide_eq_true_eq] at hg
      omega
    | succ m =>
      unfold growOk at hg
      rw [if_pos hc] at hg
      simp only [Bool.and_eq_true, decide_eq_true_eq, List.all_eq_true] at hg
      obtain ⟨⟨⟨g1, g2⟩, g3⟩, g4⟩ := hg
      have hx : (Rw.ex r w).length ≤ sizeLine := by
        have : (Rw.ex r w).length ≤ 100000 := by
          cases m with
          | zero =>
            unfold growOk at g4
            simp only [Bool.and_eq_true, decide_eq_true_eq] at g4
            exact g4.1.2
          | succ m =>
            unfold growOk at g4
            simp only [Bool.and_eq_true, decide_eq_true_eq] at g4
            exact g4.1.1.2
        rw [sizeLine_eq]; omega
      have eg : Rw.grow r m (Rw.ex r w) = Rw.grow r r.length [0] := by
        rw [← hM]
        show _ = if w.count 0 < 2 then _ else w
        rw [if_pos hc]
      have hc' : (w.map fun (a : Nat) => (a : Int)).count 0 < 2 := by rw [count_ints]; exact hc
      rcases hlo with e | e
      · subst e
        simp [nums_nats]
        rw [if_pos (by omega)]
        exact ⟨r, w, _, rfl, .inl rfl, g1, hx, trivial, m, by omega, Rw.ex r w, _, ⟨rfl, rfl⟩, .inl rfl, g4, eg⟩
      · subst e
        simp [nums_nats]
        rw [if_pos (by omega)]
        exact ⟨r, w, _, rfl, .inl rfl, g1, hx, trivial, m, by omega, Rw.ex r w, _, ⟨rfl, rfl⟩, .inl rfl, g4, eg⟩
  · have eM : Rw.grow r m w = w := by
      cases m with
      | zero => rfl
      | succ m =>
        show (if w.count 0 < 2 then _ else w) = w
        rw [if_neg hc]
    have hc' : ¬ (w.map fun (a : Nat) => (a : Int)).count 0 < 2 := by rw [count_ints]; exact hc
    have ef : Rw.first r = (Rw.cut w).headD [] := by
      unfold Rw.first
      rw [← hM, eM]
    obtain ⟨p, ps, ep⟩ := List.exists_cons_of_ne_nil (cut_ne w hne)
    have e0 : atI ((Rw.cut w).map dwl) 0 = some (dwl (Rw.first r)) := by
      have := atI_nat ((Rw.cut w).map dwl) 0
      rw [ef, ep] at *
      exact this
    have hz : w.length < sizeLine := by rw [sizeLine_eq]; omega
    rcases hlo with e | e
    · subst e
      simp [nums_nats]
      rw [if_neg (by omega)]
      refine ⟨w, rfl, hl.2, hz, ?_⟩
      simp [e0, dwl]
      exact h
    · subst e
      simp [nums_nats]
      rw [if_neg (by omega)]
      refine ⟨w, rfl, hl.2, hz, ?_⟩
      simp [e0, dwl]
      exact h
end Vx

set_option Elab.async false
set_option maxRecDepth 100000
set_option linter.all false
/-! Row.__init__, find_returns. -/
namespace Vx
open PySem PySem.Spec PyProof.Rows L2
/-! ### __init__ -/
def b_init1 : WE :=
  (wCallN 1 F_check (wFCons (wN 1) wFNil))
def b_init2 : WE :=
  (w1 gTuple (wComp (wIA (wN 1)) [2] (.name 2) wYes (w1 gTuple (wB 2))))
def b_init3 : WE :=
  (wLst (wCons (w2 gMul (wLst (wCons (wC (.int 1)) wNil)) (w1 gLen (wB 1))) wNil))

theorem m_init1 (d : D) (r : List (List Nat)) (n : Nat) (Q : Lo → VS → Prop) (e : rulesOf d = some r) (hf : fitR r = true) (h : ∀ lo, Q lo ⟨[none, some (.sh d), none], n⟩) : b_init1 ⟨[none, some (.sh d), none], n⟩ Q := by
  simp [b_init1]
  exact ⟨d, r, rfl, e, hf, h _⟩
theorem m_init2 (d : D) (r : List (List Nat)) (n : Nat) (Q : Lo → VS → Prop) (e : rulesOf d = some r) (hf : fitR r = true) (h : Q (.sh (rulesT r)) ⟨[none, some (.sh d), none], n⟩) : b_init2 ⟨[none, some (.sh d), none], n⟩ Q := by
  have ed := rulesOf_eq e
  subst ed
  have hl := (fitR_good hf).2
  have hz : r.length ≤ sizeLine := by rw [sizeLine_eq]; omega
  simp [b_init2, rulesL]
  refine map_all (g := fun d => match d with | .lst xs => .tup xs | d => d) _ [] _ (by simpa using hz) (fun d hd Q' hq => ?_) ?_
  · obtain ⟨w, hw, e⟩ := List.mem_map.mp hd
    subst e
    simp [dwl]
    exact hq _ _ rfl (by simp)
  · have : ([] ++ (r.map dwl).map fun d => match d with | .lst xs => .tup xs | d => d) = r.map dw := by
      rw [List.nil_append, List.map_map]
      rfl
    rw [this]
    exact h
theorem flat_ones : ∀ n : Nat, (List.replicate n [D.int 1]).flatten = dnats (List.replicate n 1)
  | 0 => rfl
  | n + 1 => by
    rw [List.replicate_succ, List.flatten_cons, flat_ones n, List.replicate_succ]
    rfl
theorem m_init3 (d : D) (r : List (List Nat)) (n : Nat) (Q : Lo → VS → Prop) (e : rulesOf d = some r) (hf : fitR r = true) (h : Q (.ow [dwl (r.map fun _ => 1)]) ⟨[none, some (.sh d), none], n⟩) : b_init3 ⟨[none, some (.sh d), none], n⟩ Q := by
  have ed := rulesOf_eq e
  subst ed
  have hl := (fitR_good hf).2
  have hz : r.length ≤ sizeLine := by rw [sizeLine_eq]; omega
  have h1 : 1 ≤ sizeLine := by rw [sizeLine_eq]; decide
  have e1 : ∀ l : List (List Nat), (List.replicate l.length 1 : List Nat) = l.map fun _ => 1 := fun l => by
    induction l with
    | nil => rfl
    | cons a l ih => rw [List.length_cons, List.replicate_succ, ih]; rfl
  simp [b_init3, rulesL, h1, hz]
  have e2 : dwl (r.map fun _ => 1) = .lst (List.replicate r.length (D.int 1)) := by
    rw [← e1]
    unfold dwl dnats
    simp
  rw [e2] at h
  exact ⟨by omega, h⟩
/-! ### what find_returns needs -/
def bfsOk (r : List (List Nat)) : Nat → List (List Nat) → Nat → Bool
  | 0, _, _ => false
  | f + 1, known, i => match known[i]? with
    | none => true
    | some w => decide ((Rw.ex r w).length ≤ 100000) && decide (known.length ≤ 100000) && (w.all fun a => decide (a < r.length)) && decide (w.headD 1 = 0) && decide ((Rw.ex r w).headD 1 = 0) && bfsOk r f (Rw.meets known (Rw.cut (Rw.ex r w))).1 (i + 1)
/-- rules whose returns, and the rules of these, are found within the sizes that are covered -/
def fitB (r : List (List Nat)) : Bool := fitR r && growOk r r.length [0] && bfsOk r Rw.FUEL [Rw.first r] 0 && fitR (Rw.below r)
def kints (w : List Nat) : List Int := w.map fun (a : Nat) => (a : Int)
theorem kints_inj {a b : List Nat} (h : kints a = kints b) : a = b := by
  unfold kints at h
  induction a generalizing b with
  | nil =>
    cases b with
    | nil => rfl
    | cons y b => simp at h
  | cons x a ih =>
    cases b with
    | nil => simp at h
    | cons y b =>
      rw [List.map_cons, List.map_cons, List.cons.injEq] at h
      rw [ih h.2]
      have : x = y := by omega
      rw [this]
def numbF (k : Nat) (l : List (List Nat)) : List (List Int × Int) := (l.zipIdx k).map fun p => (kints p.1, (p.2 : Int))
theorem dget_numb (p : List Nat) : ∀ (l : List (List Nat)) (k : Nat), dget (numbF k l) (kints p) = if p ∈ l then some ((k + l.idxOf p : Nat) : Int) else none
  | [], k => by simp [numbF, dget]
  | w :: l, k => by
    have ih := dget_numb p l (k + 1)
    unfold numbF at ih ⊢
    rw [List.zipIdx_cons, List.map_cons]
    unfold dget at ih ⊢
    rw [List.find?_cons]
    by_cases h : w = p
    · subst h
      simp
    · have hk : decide (kints w = kints p) = false := decide_eq_false fun z => h (kints_inj z)
      rw [hk]
      dsimp only
      rw [ih]
      have hp : ¬ p = w := fun z => h z.symm
      by_cases hm : p ∈ l
      · rw [if_pos hm, if_pos (List.mem_cons_of_mem _ hm), List.idxOf_cons]
        have : (w == p) = false := beq_eq_false_iff_ne.mpr h
        rw [this]
        simp; omega
      · rw [if_neg hm, if_neg (by simp [hp, hm])]
theorem numb_snoc (l : List (List Nat)) (p : List Nat) : numbF 0 (l ++ [p]) = numbF 0 l ++ [(kints p, (l.length : Int))] := by
  unfold numbF
  rw [List.zipIdx_append, List.map_append]
  simp
theorem dnats_k (w : List Nat) : dnats w = (kints w).map D.int := by
  unfold dnats kints
  rw [List.map_map]; rfl
def tFind (T : Th) (K : PySem.W.Frag) (f0 f1 : WS) (f2 f3 : WE) : TS := tSeq (tS T f0) (tSeq (tS T f1) (tSeq (sFld K (tVar 0) (tE T f2) "kept_returns") (sFld K (tVar 0) (tE T f3) "kept_below")))
def b_find0 : WS :=
  (wPar3 1 2 3 (wDisp1 (wCallN 1 F_first (wFCons (wN 0) wFNil)) (wC (.int 0))) (wLst wNil) (wLst (wCons (wCallN 1 F_first (wFCons (wN 0) wFNil)) wNil)))
def b_find1 : WS :=
  (wWhile (wTst (w2 (gEq true) (wB 3) (wLst wNil)))
    (wSeq (wSet 4 (wLst wNil))
    (wSeq (wFor (wIA (wCallN 1 F_cut (wFCons (wMeth 2 F_exchanged (wN 0) (wFCons (w2 gIx (wB 3) (wC (.int 0))) wFNil)) wFNil))) (.name 5)
    (wSeq (wSet 6 (w1 gTuple (wB 5)))
    (wSeq (wIf (wDNotIn 1 (wN 6))
    (wSeq (wDPut 1 (wN 6) (wDLen 1))
    (wApp 3 (wN 6)))
    wSkip)
    (wApp 4 (wDGet 1 (wN 6))))))
    (wSeq (wApp 2 (wN 4))
    (wSet 3 (wSl (wB 3) (wPart (wC (.int 1))) wNoP))))))
def b_find2 : WE :=
  (wDList 1)
def b_find3 : WE :=
  (wMk (wN 2))

theorem meets_ext : ∀ (ps known : List (List Nat)), ∃ ext, (Rw.meets known ps).1 = known ++ ext
  | [], known => ⟨[], by simp [Rw.meets]⟩
  | p :: ps, known => by
    obtain ⟨ext, e⟩ := meets_ext ps (Rw.meet known p).1
    by_cases h : p ∈ known
    · have em : Rw.meet known p = (known, known.idxOf p) := if_pos h
      refine ⟨ext, ?_⟩
      show (Rw.meets (Rw.meet known p).1 ps).1 = _
      rw [e, em]
    · have em : Rw.meet known p = (known ++ [p], known.length) := if_neg h
      refine ⟨[p] ++ ext, ?_⟩
      show (Rw.meets (Rw.meet known p).1 ps).1 = _
      rw [e, em, List.append_assoc]
/-- the inner loop -/
theorem lp_find {E : EndsV} (x0 R : Option Lo) (n : Nat) : ∀ (ps known : List (List Nat)) (wt : List D) (acc : List Nat) (x5 x6 : Option Lo), known.length + ps.length ≤ 1000000 → wt.length + ps.length ≤ 1000000 → acc.length + ps.length ≤ 1000000 →
    (∀ x5 x6, E.nx ⟨[x0, some (.dct (numbF 0 (Rw.meets known ps).1)), R, some (.ow (wt ++ ((Rw.meets known ps).1.drop known.length).map dw)), some (.ow (dnats (acc ++ (Rw.meets known ps).2))), x5, x6], n⟩) →
    wLoop (.name 5)
    (wSeq (wSet 6 (w1 gTuple (wB 5)))
    (wSeq (wIf (wDNotIn 1 (wN 6))
    (wSeq (wDPut 1 (wN 6) (wDLen 1))
    (wApp 3 (wN 6)))
    wSkip)
    (wApp 4 (wDGet 1 (wN 6))))) (ps.map dwl) ⟨[x0, some (.dct (numbF 0 known)), R, some (.ow wt), some (.ow (dnats acc)), x5, x6], n⟩ E
  | [], known, wt, acc, x5, x6, _, _, _, h => by
    have := h x5 x6
    simpa [Rw.meets] using this
  | p :: ps, known, wt, acc, x5, x6, h1, h2, h3, h => by
    rw [List.map_cons, wLoop_cons]
    have hd := dget_numb p known 0
    have s1 : known.length < sizeLine := by simp at h1; rw [sizeLine_eq]; omega
    have s2 : wt.length < sizeLine := by simp at h2; rw [sizeLine_eq]; omega
    have s3 : acc.length < sizeLine := by simp at h3; rw [sizeLine_eq]; omega
    have ln : ∀ l : List (List Nat), (numbF 0 l).length = l.length := fun l => by unfold numbF; simp
    by_cases hm : p ∈ known
    · rw [if_pos hm] at hd
      have em : Rw.meet known p = (known, known.idxOf p) := if_pos hm
      have e1 : (Rw.meets known (p :: ps)).1 = (Rw.meets known ps).1 := by
        show (Rw.meets (Rw.meet known p).1 ps).1 = _
        rw [em]
      have e2 : (Rw.meets known (p :: ps)).2 = known.idxOf p :: (Rw.meets known ps).2 := by
        show (Rw.meet known p).2 :: (Rw.meets (Rw.meet known p).1 ps).2 = _
        rw [em]
      have ih := lp_find (E := E) x0 R n ps known wt (acc ++ [known.idxOf p]) (some (.sh (dwl p))) (some (.sh (dw p))) (by simp at h1; omega) (by simp at h2; omega) (by simp at h3 ⊢; omega) (fun x5 x6 => by
        have := h x5 x6
        rw [e1, e2] at this
        rw [List.append_assoc]
        exact this)
      rw [dnats_append] at ih
      simp [dwl, wSeq]
      refine ⟨kints p, dnats_k p, ?_⟩
      rw [hd]
      simp [s3]
      refine ⟨kints p, dnats_k p, _, hd, ?_⟩
      have hz : ((0 + known.idxOf p : Nat) : Int) = ((known.idxOf p : Nat) : Int) := by omega
      rw [hz]
      exact ih
    · rw [if_neg hm] at hd
      have em : Rw.meet known p = (known ++ [p], known.length) := if_neg hm
      have e1 : (Rw.meets known (p :: ps)).1 = (Rw.meets (known ++ [p]) ps).1 := by
        show (Rw.meets (Rw.meet known p).1 ps).1 = _
        rw [em]
      have e2 : (Rw.meets known (p :: ps)).2 = known.length :: (Rw.meets (known ++ [p]) ps).2 := by
        show (Rw.meet known p).2 :: (Rw.meets (Rw.meet known p).1 ps).2 = _
        rw [em]
      have e3 : ((wt ++ [dw p]) ++ ((Rw.meets (known ++ [p]) ps).1.drop (known ++ [p]).length).map dw) = wt ++ ((Rw.meets (known ++ [p]) ps).1.drop known.length).map dw := by
        obtain ⟨ext, ee⟩ := meets_ext ps (known ++ [p])
        rw [ee, List.append_assoc known [p] ext, List.drop_left, ← List.append_assoc known [p] ext, List.drop_left, List.append_assoc, List.map_append]
        rfl
      have ih := lp_find (E := E) x0 R n ps (known ++ [p]) (wt ++ [dw p]) (acc ++ [known.length]) (some (.sh (dwl p))) (some (.sh (dw p))) (by simp at h1 ⊢; omega) (by simp at h2 ⊢; omega) (by simp at h3 ⊢; omega) (fun x5 x6 => by
        have := h x5 x6
        rw [e1, e2] at this
        rw [List.append_assoc acc, e3]
        exact this)
      rw [dnats_append, numb_snoc] at ih
      simp [dwl, wSeq]
      refine ⟨kints p, dnats_k p, ?_⟩
      rw [hd]
      simp [ln, s1, s2, s3]
      have hg := dget_numb p (known ++ [p]) 0
      rw [numb_snoc, if_pos (by simp)] at hg
      have hix : (known ++ [p]).idxOf p = known.length := by
        rw [List.idxOf_append, if_neg hm]
        simp
      rw [hix, Nat.zero_add] at hg
      exact ⟨kints p, dnats_k p, hd, kints p, dnats_k p, (known.length : Int), hg, ih⟩
theorem cut_drop (xs : List D) : cutD xs (some 1) none = xs.drop 1 := by
  unfold cutD
  have h : HT.sIx xs.length 0 (some 1) = min 1 xs.length := HT.sIx_nat xs.length 0 1
  rw [h, HT.sIx_none]
  cases xs with
  | nil => rfl
  | cons x xs =>
    have : min 1 (x :: xs).length = 1 := by rw [List.length_cons]; omega
    rw [this, List.drop_succ_cons, List.drop_zero, List.length_cons, Nat.add_sub_cancel, List.take_length]
theorem cut_count : ∀ (w : List Nat), (Rw.cut w).length ≤ w.length
  | [] => Nat.le_refl _
  | a :: w => by
    have ih := cut_count w
    rw [← cutJ_one]
    cases w with
    | nil => simp [cutJ]
    | cons b w =>
      by_cases hb : b = 0
      · have : cutJ [a] (b :: w) = [a] :: Rw.cut (b :: w) := if_pos hb
        rw [this]
        simp at ih ⊢
        omega
      · have : cutJ [a] (b :: w) = match Rw.cut (b :: w) with | [] => [[a]] | p :: r => ([a] ++ p) :: r := if_neg hb
        rw [this]
        cases e : Rw.cut (b :: w) with
        | nil => simp
        | cons p r =>
          rw [e] at ih
          simp at ih ⊢
          omega
theorem meets_len : ∀ (ps known : List (List Nat)), (Rw.meets known ps).2.length = ps.length ∧ (Rw.meets known ps).1.length ≤ known.length + ps.length
  | [], known => ⟨rfl, Nat.le_refl _⟩
  | p :: ps, known => by
    obtain ⟨h1, h2⟩ := meets_len ps (Rw.meet known p).1
    have h3 : (Rw.meet known p).1.length ≤ known.length + 1 := by
      unfold Rw.meet
      split <;> simp
    refine ⟨?_, ?_⟩
    · show ((Rw.meet known p).2 :: (Rw.meets (Rw.meet known p).1 ps).2).length = _
      rw [List.length_cons, h1]; rfl
    · show (Rw.meets (Rw.meet known p).1 ps).1.length ≤ _
      rw [List.length_cons]; omega
/-- the outer loop -/
def InvF (a : Addr) (r : List (List Nat)) (n m : Nat) (vs : VS) : Prop := ∃ (known rules : List (List Nat)) (i : Nat) (x4 x5 x6 : Option Lo), vs = ⟨[some (.fx a (.row r)), some (.dct (numbF 0 known)), some (.ow (rules.map dwl)), some (.ow ((known.map dw).drop i)), x4, x5, x6], n⟩ ∧
    bfsOk r m known i = true ∧ Rw.bfs r m known i rules = Rw.both r ∧ i ≤ known.length ∧ rules.length = i ∧ i ≤ 100001
theorem m_find1 {E : EndsV} (a : Addr) (r : List (List Nat)) (n : Nat) (x4 x5 x6 : Option Lo) (hok : bfsOk r Rw.FUEL [Rw.first r] 0 = true)
    (h : ∀ w x4 x5 x6, E.nx ⟨[some (.fx a (.row r)), some (.dct (numbF 0 (Rw.rets r))), some (.ow ((Rw.below r).map dwl)), w, x4, x5, x6], n⟩) :
    b_find1 ⟨[some (.fx a (.row r)), some (.dct (numbF 0 [Rw.first r])), some (.ow []), some (.ow [dw (Rw.first r)]), x4, x5, x6], n⟩ E := by
  unfold b_find1
  refine ⟨InvF a r n, ⟨Rw.FUEL, [Rw.first r], [], 0, x4, x5, x6, rfl, hok, rfl, Nat.zero_le _, rfl, by omega⟩, ?_⟩
  rintro m vs ⟨known, rules, i, x4, x5, x6, e, ho, hb, hi, hru, hi2⟩
  subst e
  cases m with
  | zero => unfold bfsOk at ho; cases ho
  | succ m =>
    unfold bfsOk at ho
    unfold Rw.bfs at hb
    cases ek : known[i]? with
    | none =>
      rw [ek] at hb
      have ed : (known.map dw).drop i = [] := List.drop_eq_nil_of_le (by rw [List.getElem?_eq_none_iff] at ek; simpa using ek)
      rw [ed]
      simp
      have := h (some (.ow [])) x4 x5 x6
      unfold Rw.rets Rw.below at this
      rw [← hb] at this
      exact this
    | some w =>
      rw [ek] at ho hb
      have hil : i < known.length := (List.getElem?_eq_some_iff.mp ek).1
      have ed : (known.map dw).drop i = dw w :: (known.map dw).drop (i + 1) := by
        rw [List.drop_eq_getElem_cons (by simpa using hil)]
        congr 1
        rw [List.getElem_map, (List.getElem?_eq_some_iff.mp ek).2]
      simp only [Bool.and_eq_true, decide_eq_true_eq, List.all_eq_true] at ho
      obtain ⟨⟨⟨⟨⟨o1, o2⟩, o3⟩, o4⟩, o5⟩, o6⟩ := ho
      have fw : D.fits 59 ((known.map dw).drop (i + 1)) = true := by
        rw [← List.map_drop]
        exact fits_dw 58 _
      rw [ed]
      simp [fw]
      rw [wSeq_ap]
      have a0 : atI (dw w :: (known.map dw).drop (i + 1)) 0 = some (dw w) := atI_nat _ 0
      have hx : (Rw.ex r w).length ≤ sizeLine := by rw [sizeLine_eq]; omega
      have hx2 : (Rw.ex r w).length < sizeLine := by rw [sizeLine_eq]; omega
      simp
      rw [wSeq_ap]
      simp [a0]
      refine ⟨r, w, dw w, rfl, .inr rfl, o3, hx, ?_⟩
      dsimp only
      refine ⟨Rw.ex r w, rfl, o5, hx2, ?_⟩
      dsimp only
      have cl := cut_count (Rw.ex r w)
      have ml := meets_len (Rw.cut (Rw.ex r w)) known
      refine lp_find _ _ n (Rw.cut (Rw.ex r w)) known (dw w :: (known.map dw).drop (i + 1)) [] _ _ (by omega) (by rw [List.length_cons, List.length_drop, List.length_map]; omega) (by simp; omega) (fun x5 x6 => ?_)
      dsimp only
      rw [wSeq_ap]
      have l1 : rules.length < sizeLine := by rw [sizeLine_eq]; omega
      simp [l1, cut_drop]
      obtain ⟨ext, ee⟩ := meets_ext (Rw.cut (Rw.ex r w)) known
      have e1 : (known.map dw).drop (i + 1) ++ ((Rw.meets known (Rw.cut (Rw.ex r w))).1.map dw).drop known.length = ((Rw.meets known (Rw.cut (Rw.ex r w))).1.map dw).drop (i + 1) := by
        rw [ee, List.map_append]
        have hl : known.length = (known.map dw).length := by rw [List.length_map]
        rw [hl, List.drop_left, List.drop_append_of_le_length (by rw [List.length_map]; omega)]
      have e2 : rules.map dwl ++ [D.lst (dnats (Rw.meets known (Rw.cut (Rw.ex r w))).2)] = (rules ++ [(Rw.meets known (Rw.cut (Rw.ex r w))).2]).map dwl := by
        rw [List.map_append]; rfl
      rw [e1, e2]
      exact ⟨m, by omega, (Rw.meets known (Rw.cut (Rw.ex r w))).1, rules ++ [(Rw.meets known (Rw.cut (Rw.ex r w))).2], i + 1, _, x5, x6, rfl, o6, hb, by rw [ee, List.length_append]; omega, by simp [hru], by omega⟩
end Vx

set_option Elab.async false
set_option maxRecDepth 100000
set_option linter.all false
/-! A row's attributes written; find_returns, returns_of, row_below. -/
namespace Vx
open PySem PySem.Spec PyProof.Rows L2
theorem putR (t L : Addr) (kr kb v : V) : putF "kept_returns" v (rowFs t L kr kb) = rowFs t L v kb := by
  unfold rowFs
  show (if ("kept_rules" : Str) = "kept_returns" then _ else (("kept_rules" : Str), V.ref t) :: (if ("lengths" : Str) = "kept_returns" then _ else (("lengths" : Str), V.ref L) :: (if ("kept_returns" : Str) = "kept_returns" then _ else _))) = _
  rw [if_neg (by decide +kernel), if_neg (by decide +kernel), if_pos rfl]
theorem putB (t L : Addr) (kr kb v : V) : putF "kept_below" v (rowFs t L kr kb) = rowFs t L kr v := by
  unfold rowFs
  show (if ("kept_rules" : Str) = "kept_below" then _ else (("kept_rules" : Str), V.ref t) :: (if ("lengths" : Str) = "kept_below" then _ else (("lengths" : Str), V.ref L) :: (if ("kept_returns" : Str) = "kept_below" then _ else (("kept_returns" : Str), kr) :: (if ("kept_below" : Str) = "kept_below" then _ else _)))) = _
  rw [if_neg (by decide +kernel), if_neg (by decide +kernel), if_neg (by decide +kernel), if_pos rfl]
section
variable {C : Addr} {W0 W : Wd} {H0 H : Hp} {O : Addr → Option Ow} {vs : VS} {σ : L2.St} {tm : List (V × Lo)} {a dx t L : Addr} {r : List (List Nat)} {kr kb v : V}
theorem Rel.setObj (R : Rel (thR C) W0 H0 W H O vs σ tm) (hr : W.R a = some r) (ha : H a = some (.ins C dx (rowFs t L kr kb))) {kr' kb' : V} (hp : RowP W a r t kr' kb') (hl : LenAt W H a L r) (hkr : kr ≠ .non → kr' ≠ .non) (hkb : kb ≠ .non → kb' ≠ .non) : Rel (thR C) W0 H0 W (upd H a (.ins C dx (rowFs t L kr' kb'))) O vs σ tm := by
  obtain ⟨h1, h2, h3⟩ := R.ok.r a r hr
  have hLa : L ≠ a := fun z => by
    obtain ⟨n, ws, e, _⟩ := hl.tab
    rw [z, ha] at e; cases e
  have ok : WOk (thR C) W (upd H a (.ins C dx (rowFs t L kr' kb'))) vs.n :=
    R.ok.poke hr (.inl ⟨rfl, dx, _, rfl⟩) h2 h3 ha hp.sne ⟨dx, t, L, kr', kb', upd_same, hp, hl.frame (Le.refl W) (upd_ne hLa), h2, h3⟩
  refine R.over (Le.refl W) ok (fun b o hd hb => by rw [upd_ne (fun (z : b = a) => hd (z ▸ h2))]; exact hb) (fun b hb => .inl hb) (fun b r' e dx' t' L' kr1 kb1 hb => ?_)
  by_cases z : b = a
  · subst z
    rw [ha] at hb
    obtain ⟨_, e2, ef⟩ := ins_inj hb
    obtain ⟨e3, e4, e5, e6⟩ := rowFs_inj ef
    subst e2 e3 e4 e5 e6
    exact ⟨kr', kb', upd_same, hkr, hkb, fun ws hw => ⟨[], by rw [List.append_nil, upd_ne hLa]; exact hw⟩⟩
  · refine ⟨kr1, kb1, by rw [upd_ne z]; exact hb, fun z => z, fun z => z, fun ws hw => ⟨[], ?_⟩⟩
    have n2 : L' ≠ a := fun z => by rw [z, ha] at hw; cases hw
    rw [List.append_nil, upd_ne n2]; exact hw
def spFind (C : Addr) : Sp := fun vs H Q _ => ∃ W n a r, vs = [.ref a] ∧ WOk (thR C) W H n ∧ W.R a = some r ∧ fitB r = true ∧
  ∀ W' H', After (thR C) W H W' H' n → (∃ dx t L kr kb, H' a = some (.ins C dx (rowFs t L kr kb)) ∧ Rep W' (retsD r) kr ∧ Rep W' (.row (Rw.below r)) kb) → Q .non H'
theorem m_find0 {E : EndsV} (a : Addr) (r : List (List Nat)) (n : Nat) (hg : growOk r r.length [0] = true) (h : E.nx ⟨[some (.fx a (.row r)), some (.dct (numbF 0 [Rw.first r])), some (.ow []), some (.ow [dw (Rw.first r)]), none, none, none], n⟩) :
    b_find0 ⟨[some (.fx a (.row r)), none, none, none, none, none, none], n⟩ E := by
  have s1 : 1 ≤ sizeLine := by rw [sizeLine_eq]; decide
  simp [b_find0]
  refine ⟨r, rfl, hg, ?_⟩
  dsimp only
  refine ⟨kints (Rw.first r), dnats_k _, r, rfl, hg, ?_⟩
  dsimp only
  simp [s1]
  exact h
theorem dkeys_numb (l : List (List Nat)) : ∀ k, dkeys (numbF k l) = l.map dw := by
  induction l with
  | nil => intro k; rfl
  | cons w l ih =>
    intro k
    have := ih (k + 1)
    unfold dkeys numbF at this ⊢
    rw [List.zipIdx_cons, List.map_cons, List.map_cons, this, List.map_cons]
    show D.tup ((kints w).map D.int) :: _ = _
    rw [← dnats_k]; rfl
end
section
variable {P : Program} {w : World} {K : PySem.W.Frag} {mg : Str → Option Value} {base : Heap} {C : Addr}
theorem ok_find {f : Addr} {fd : FuncData} {k : Nat} {st : Stmt} {N : List Str} (hN : N = [("row" : Str), "known", "rules", "waiting", "numbers", "part", "found"]) (F : Fun K "find_returns" "find_returns" st f fd) (S : FnScope N ["row"] (defScope st)) (c : RowC K C)
    (hb : ∀ (cdv : Value) (A : Around) (outer : List Env) (s : Shared) (H : Hp) (E : XK), Room k (A.deeper (envOfC "find_returns" (defScope st) s.heap.objs.size f cdv)) →
      PSs (cxOf CX0 P w K mg base N "find_returns" (defScope st) f cdv A outer s H E).nox (defBody st) (tFind (thR C) K b_find0 b_find1 b_find2 b_find3)) : FnOk P w K mg base CX0 (k + 1) f fd ["row"] (spFind C) := by
  subst hN
  refine F.ok S (fun vs H Q E h => ?_) (fun cdv A outer s H vs Q E hr h => ?_)
  · obtain ⟨W, n, a, r, e, _⟩ := h
    subst e; rfl
  · obtain ⟨W, n, a, r, e, ok, hra, hf, kk⟩ := h
    subst e
    unfold fitB at hf
    simp only [Bool.and_eq_true] at hf
    obtain ⟨⟨⟨f1, f2⟩, f3⟩, f4⟩ := hf
    refine ⟨_, hb cdv A outer s H E hr, ?_⟩
    have R0 : Rel (thR C) W H W H (fun _ => none) ⟨[some (.fx a (.row r)), none, none, none, none, none, none], n⟩ (L2.start ["row", "known", "rules", "waiting", "numbers", "part", "found"] [.ref a]) [] := by
      refine ⟨ok, Le.refl W, fun _ _ _ e => e, ⟨fun _ e => .inl e, ok.adv fun _ _ _ => rfl⟩, fun i lo e => ?_, trivial, fun i ys e => ?_, rfl⟩
      · match i, e with
        | 0, e => cases e; exact ⟨.ref a, rfl, rfl, a, rfl, hra⟩
        | i + 1, e => 
          exfalso
          have : ([none, none, none, none, none, none] : List (Option Lo))[i]? = some (some lo) := by simpa using e
          have hm := List.mem_of_getElem? this
          simp at hm
      · have hm := List.mem_of_getElem? e
        simp at hm
    refine ⟨W, H, W, fun _ => none, _, [], ⟨fun vs1 => vs1 = ⟨[some (.fx a (.row r)), some (.dct (numbF 0 [Rw.first r])), some (.ow []), some (.ow [dw (Rw.first r)]), none, none, none], n⟩, fun _ _ => False, fun _ => False, fun _ => False⟩, fun _ h => by simp at h, m_find0 a r n f2 rfl, R0, ?_⟩
    refine ⟨fun W1 H1 O1 vs1 σ1 l1 e1 R1 => ?_, fun W1 H1 v lo n' q _ => q.elim, fun W1 H1 O1 vs1 σ1 l1 q R1 => q.elim, fun W1 H1 O1 vs1 σ1 l1 q R1 => q.elim⟩
    subst e1
    refine ⟨W, H, W1, O1, _, [], ⟨fun vs1 => ∃ x3 x4 x5 x6, vs1 = ⟨[some (.fx a (.row r)), some (.dct (numbF 0 (Rw.rets r))), some (.ow ((Rw.below r).map dwl)), x3, x4, x5, x6], n⟩, fun _ _ => False, fun _ => False, fun _ => False⟩, fun _ h => by simp at h, m_find1 a r n _ _ _ f3 (fun w x4 x5 x6 => ⟨w, x4, x5, x6, rfl⟩), R1, ?_⟩
    refine ⟨fun W2 H2 O2 vs2 σ2 l2 e2 R2 => ?_, fun W1 H1 v lo n' q _ => q.elim, fun W1 H1 O1 vs1 σ1 l1 q R1 => q.elim, fun W1 H1 O1 vs1 σ1 l1 q R1 => q.elim⟩
    obtain ⟨x3, x4, x5, x6, e2⟩ := e2
    subst e2
    -- row.kept_returns = list(known)
    refine ⟨W, H, W2, O2, _, [], fun lo vs' => lo = .ow ((Rw.rets r).map dw) ∧ vs' = ⟨[some (.fx a (.row r)), some (.dct (numbF 0 (Rw.rets r))), some (.ow ((Rw.below r).map dwl)), x3, x4, x5, x6], n⟩, ?_, R2, fun W3 H3 O3 vs3 v3 lo3 l3 e3 R3 => ?_⟩
    · simp [b_find2, dkeys_numb]
    obtain ⟨e3, e3'⟩ := e3
    subst e3 e3'
    obtain ⟨W4, l4, R4⟩ := R3.frzTop
    obtain ⟨va, hva, eva, rva⟩ := R4.env 0 _ rfl
    subst eva
    obtain ⟨a', dx, t, L, kr, kb, ea, hra', ha', hp, hL, hD, hnP⟩ := R4.row rva
    cases ea
    refine ⟨.ref a, hva, a, C, dx, _, rfl, ha', c.cls, c.rets, (by show 4 < 1000; decide), ?_⟩
    rw [putR]
    have hp5 : RowP W4 a r t v3 kb := ⟨hp.rep, hp.good, .inr R4.top, hp.bel, hp.sne, hp.small⟩
    have v3n : v3 ≠ .non := fun z => by
      obtain ⟨p, ws, e, _⟩ := (show Rep W4 (retsD r) v3 from R4.top)
      rw [z] at e; cases e
    have R5 := R4.pop.setObj hra' ha' hp5 hL (fun _ => v3n) (fun z => z)
    -- row.kept_below = Row(rules): from here anew
    obtain ⟨W5, vr, l5, hvr, rvr, R5f⟩ := R5.frzEnv (i := 2) (xs := (Rw.below r).map dwl) rfl
    have hra5 : W5.R a = some r := l5.r _ _ hra'
    have R5n : Rel (thR C) W5 (upd H3 a (.ins C dx (rowFs t L v3 kb))) W5 (upd H3 a (.ins C dx (rowFs t L v3 kb))) (fun _ => none) ⟨[some (.fx a (.row r)), none, some (.sh (.lst ((Rw.below r).map dwl))), none, none, none, none], n⟩ σ2 [] := by
      refine ⟨R5f.ok, Le.refl W5, fun _ _ _ e => e, ⟨fun _ e => .inl e, R5f.ok.adv fun _ _ _ => rfl⟩, fun i lo e => ?_, trivial, fun i ys e => ?_, ?_⟩
      · match i, e with
        | 0, e => cases e; exact ⟨.ref a, hva, rfl, a, rfl, hra5⟩
        | 2, e => cases e; exact ⟨vr, hvr, rvr⟩
        | 1, e => cases e
        | i + 3, e =>
          exfalso
          have : ([none, none, none, none] : List (Option Lo))[i]? = some (some lo) := by simpa using e
          have hm := List.mem_of_getElem? this
          simp at hm
      · have hm := List.mem_of_getElem? e
        simp at hm
      · exact R5f.len
    refine ⟨W5, upd H3 a (.ins C dx (rowFs t L v3 kb)), W5, fun _ => none, _, [], fun lo vs' => lo = .sh (.row (Rw.below r)) ∧ vs' = ⟨[some (.fx a (.row r)), none, some (.sh (.lst ((Rw.below r).map dwl))), none, none, none, none], n⟩, ?_, R5n, fun W6 H6 O6 vs6 v6 lo6 l6 e6 R6 => ?_⟩
    · have er : rulesOf (.lst ((Rw.below r).map dwl)) = some (Rw.below r) := rulesOf_of (Rw.below r)
      simp [b_find3, er, f4]
    obtain ⟨e6, e6'⟩ := e6
    subst e6 e6'
    obtain ⟨va, hva2, eva, rva2⟩ := R6.env 0 _ rfl
    subst eva
    obtain ⟨a', dx6, t6, L6, kr6, kb6, ea, hra6, ha6, hp6, hL6, hD6, hnP6⟩ := R6.row rva2
    cases ea
    have kn : kr6 ≠ .non := by
      obtain ⟨kr', kb', g1, g2, _⟩ := R6.grow.2 a r hra5 dx t L v3 kb upd_same
      rw [ha6] at g1
      obtain ⟨_, _, ef⟩ := ins_inj g1
      obtain ⟨_, _, e5, _⟩ := rowFs_inj ef
      rw [e5]
      exact g2 v3n
    refine ⟨.ref a, hva2, a, C, dx6, _, rfl, ha6, c.cls, c.below, (by show 4 < 1000; decide), ?_⟩
    rw [putB]
    have v6n : v6 ≠ .non := fun z => by
      obtain ⟨p, e, _⟩ := (show Rep W6 (.row (Rw.below r)) v6 from R6.top)
      rw [z] at e; cases e
    have hp7 : RowP W6 a r t6 kr6 v6 := ⟨hp6.rep, hp6.good, hp6.ret, .inr R6.top, hp6.sne, hp6.small⟩
    have R7 := R6.pop.setObj hra6 ha6 hp7 hL6 (fun z => z) (fun _ => v6n)
    have A5 : After (thR C) W H W5 (upd H3 a (.ins C dx (rowFs t L v3 kb))) n := R5f.after
    have A7 := A5.trans R7.after
    refine kk W6 _ A7 ⟨dx6, t6, L6, kr6, v6, upd_same, ?_, R6.top⟩
    rcases hp6.ret with z | z
    · exact absurd z kn
    · exact z
end
end Vx

set_option Elab.async false
set_option maxRecDepth 100000
set_option linter.all false
/-! returns_of, row_below. -/
namespace Vx
open PySem PySem.Spec PyProof.Rows L2
def tKept (K : PySem.W.Frag) (C : Addr) (f : Str) : TS := tSeq (tIfS (tB (tIsN (tFld K (tVar 0) f))) (tDrop (tCall (spFind C) [] L2.E0 (tCons (tVar 0) tNil))) tNext) (tRet (tFld K (tVar 0) f))
section
variable (P : Program) (w : World) (K : PySem.W.Frag) (mg : Str → Option Value) (base : Heap) (C : Addr)
structure FindV (k : Nat) : Prop where
  ex : ∃ (f : Addr) (fd : FuncData), FnOk P w K mg base CX0 k f fd ["row"] (spFind C) ∧ mg "find_returns" = some (.ref f) ∧ PySem.W.keepIn K (.ref f) = true ∧ Binds K fd ["row"] []
end
def F_rets : FS := fun los n P => ∃ r, los = [.sh (.row r)] ∧ fitB r = true ∧ P (.sh (retsD r)) n
def F_below : FS := fun los n P => ∃ r, los = [.sh (.row r)] ∧ fitB r = true ∧ P (.sh (.row (Rw.below r))) n
section
variable {P : Program} {w : World} {K : PySem.W.Frag} {mg : Str → Option Value} {base : Heap} {C : Addr}
/-- the derivation -/
theorem pss_kept {X : Cx} {k : Nat} {ff : Str} {p1 p2 p3 p4 p5 p6 p7 p8 p9 p10 p11 p12 : Pos} {j : Nat} (V : FindV X.prog X.w X.K X.mg X.base C k) (hr : Room k X.A) (hg : Gl X "find_returns") (hN : X.N[0]? = some ("row" : Str)) (hv : Vis X.env.scope "row")
    (hb : ∀ p, attributeBase (.Name "row" p) ff X.env (eval (.Name "row" p) X.env) = eval (.Name "row" p) X.env)
    (hs : starEach [Expr.Name "row" p5] X.env = (false, eval (.Name "row" p5) X.env) :: starEach [] X.env) (hsw : swapsWith (.Call (.Name "find_returns" p6) [.Name "row" p5] [] p7) none p8.line X.env = pure false) :
    PSs X [.If (.Compare (.Attribute (.Name "row" p1) ff p2) [.Is] [.Constant .none j p3] p4) [.Expr (.Call (.Name "find_returns" p6) [.Name "row" p5] [] p7) p8] [] p9, .Return (some (.Attribute (.Name "row" p10) ff p11)) p12] (tKept X.K C ff) := by
  obtain ⟨f, fd, h1, h2, h3, h4⟩ := V.ex
  exact pss_cons (ps_if (pt_cmp (pc_isN (pe_fld (pe_var (i := 0) hN hv) (hb p1))) rfl) (pss_one (ps_expr (pe_call h1 hr hg h2 h3 h4 .nil pass0 (pa_cons (pe_var (i := 0) hN hv) pa_nil hs) (by decide) hs (by rfl)) hsw)) pss_nil) (pss_one (ps_ret (pe_fld (pe_var (i := 0) hN hv) (hb p10))))
theorem ok_rets {f : Addr} {fd : FuncData} {k : Nat} {st : Stmt} (F : Fun K "returns_of" "returns_of" st f fd) (S : FnScope ["row"] ["row"] (defScope st)) (c : RowC K C)
    (hb : ∀ (cdv : Value) (A : Around) (outer : List Env) (s : Shared) (H : Hp) (E : XK), Room k (A.deeper (envOfC "returns_of" (defScope st) s.heap.objs.size f cdv)) →
      PSs (cxOf CX0 P w K mg base ["row"] "returns_of" (defScope st) f cdv A outer s H E).nox (defBody st) (tKept K C "kept_returns")) : FnOk P w K mg base CX0 (k + 1) f fd ["row"] (spV (thR C) 1 F_rets) := by
  refine F.ok S (fun vs H Q E h => ?_) (fun cdv A outer s H vs Q E hr h => ?_)
  · obtain ⟨W, n, los, P', e, _⟩ := h
    exact e
  · obtain ⟨W, n, los, P', e, ok, as, ⟨r, el, hf, hP⟩, kk⟩ := h
    subst el
    obtain ⟨v, rfl, rv⟩ : ∃ v, vs = [v] ∧ Rep W (.row r) v := by
      match vs, as with
      | [v], as => exact ⟨v, rfl, as.1⟩
    obtain ⟨a, ea, hra⟩ := rv
    subst ea
    obtain ⟨dx, t, L, kr, kb, ha, hp, hL, hD, hn⟩ := (show RowAt C W H a r from (ok.r a r hra).1).ex
    refine ⟨_, hb cdv A outer s H E hr, ?_⟩
    refine ⟨.ref a, rfl, a, C, dx, _, kr, rfl, ha, c.cls, c.rets, fs_rets t L kr kb, _, rfl, ?_⟩
    dsimp only
    by_cases z : kr = .non
    · rw [if_pos (by simpa using z)]
      refine ⟨.ref a, rfl, W, n, a, r, rfl, ok, hra, hf, fun W' H' A' ⟨dx', t', L', kr', kb', ha', h1, h2⟩ => ?_⟩
      exact ⟨.ref a, rfl, a, C, dx', _, kr', rfl, ha', c.cls, c.rets, fs_rets t' L' kr' kb', kk _ n W' H' kr' hP A' h1⟩
    · rw [if_neg (by simpa using z)]
      refine ⟨.ref a, rfl, a, C, dx, _, kr, rfl, ha, c.cls, c.rets, fs_rets t L kr kb, kk _ n W H kr hP (After.refl ok) ?_⟩
      rcases hp.ret with q | q
      · exact absurd q z
      · exact q
theorem ok_below {f : Addr} {fd : FuncData} {k : Nat} {st : Stmt} (F : Fun K "row_below" "row_below" st f fd) (S : FnScope ["row"] ["row"] (defScope st)) (c : RowC K C)
    (hb : ∀ (cdv : Value) (A : Around) (outer : List Env) (s : Shared) (H : Hp) (E : XK), Room k (A.deeper (envOfC "row_below" (defScope st) s.heap.objs.size f cdv)) →
      PSs (cxOf CX0 P w K mg base ["row"] "row_below" (defScope st) f cdv A outer s H E).nox (defBody st) (tKept K C "kept_below")) : FnOk P w K mg base CX0 (k + 1) f fd ["row"] (spV (thR C) 1 F_below) := by
  refine F.ok S (fun vs H Q E h => ?_) (fun cdv A outer s H vs Q E hr h => ?_)
  · obtain ⟨W, n, los, P', e, _⟩ := h
    exact e
  · obtain ⟨W, n, los, P', e, ok, as, ⟨r, el, hf, hP⟩, kk⟩ := h
    subst el
    obtain ⟨v, rfl, rv⟩ : ∃ v, vs = [v] ∧ Rep W (.row r) v := by
      match vs, as with
      | [v], as => exact ⟨v, rfl, as.1⟩
    obtain ⟨a, ea, hra⟩ := rv
    subst ea
    obtain ⟨dx, t, L, kr, kb, ha, hp, hL, hD, hn⟩ := (show RowAt C W H a r from (ok.r a r hra).1).ex
    refine ⟨_, hb cdv A outer s H E hr, ?_⟩
    refine ⟨.ref a, rfl, a, C, dx, _, kb, rfl, ha, c.cls, c.below, fs_below t L kr kb, _, rfl, ?_⟩
    dsimp only
    by_cases z : kb = .non
    · rw [if_pos (by simpa using z)]
      refine ⟨.ref a, rfl, W, n, a, r, rfl, ok, hra, hf, fun W' H' A' ⟨dx', t', L', kr', kb', ha', h1, h2⟩ => ?_⟩
      exact ⟨.ref a, rfl, a, C, dx', _, kb', rfl, ha', c.cls, c.below, fs_below t' L' kr' kb', kk _ n W' H' kb' hP A' h2⟩
    · rw [if_neg (by simpa using z)]
      refine ⟨.ref a, rfl, a, C, dx, _, kb, rfl, ha, c.cls, c.below, fs_below t L kr kb, kk _ n W H kb hP (After.refl ok) ?_⟩
      rcases hp.bel with q | q
      · exact absurd q z
      · exact q
end
end Vx

set_option Elab.async false
set_option maxRecDepth 100000
set_option linter.all false
/-! Rows told equal or not: ==, and in a list of rows. -/
namespace Vx
open PySem PySem.Spec PyProof.Rows L2
open AutoSeq1 (wpAny_loadPart')
open MeetsSeq MeetsSeq2 MeetsSeq3 SeqRoads2
section
variable {prog : Program} {w : World} {A : Around} {R : Result → Shared → Prop}
/-- x in list: the items asked one by one -/
theorem contains_walk (l : Addr) (x : Value) (N : Nat) (e : Nat → Bool) (I : Nat → Shared → Prop) (J : Shared → Prop)
    (turn : ∀ i s, I i s → ∃ (items : Array Value) (n : Nat), s.heap.get? l = some { cls := .type "list", data := .seq items n } ∧ items.size = N ∧
      ∀ h : i < items.size, wpAny (model prog w) A.in1 (eqBool items[i] x) (fun r s' => r = e i ∧ (e i = true → J s') ∧ (e i = false → I (i + 1) s')) (fun er s' => R (.error er) s') s)
    (finT : ∀ i s, i < N → e i = true → J s → R (.ok (.ret (.bool true))) s) (finF : ∀ s, (∀ i, i < N → e i = false) → I N s → R (.ok (.ret (.bool false))) s) (k : Nat) :
    ∀ i : Nat, N - i = k → i ≤ N → (∀ j, j < i → e j = false) → ∀ s, I i s →
      wpAny (model prog w) A.in1 (Builtin.«list.__contains__.loop» ⟨[.ref l, x, rawInt i], []⟩) (GQ.FinOf prog w A R) (fun er s' => R (.error er) s') s := by
  induction k with
  | zero =>
    intro i hk hi he s h
    obtain ⟨items, n, hl, hsz, _⟩ := turn i s h
    have ei : i = N := by omega
    have fin := finF s (fun j hj => he j (by omega)) (ei ▸ h)
    obtain ⟨hp, g, d, tk, os⟩ := s
    wp_walk using wpAny_loadPart' hl
    have none_ : items[((i : Nat) : Int).toNat]? = none := by simp; omega
    rw [none_]
    wp_walk
    exact fin
  | succ k ih =>
    intro i hk hi he s h
    obtain ⟨items, n, hl, hsz, ht⟩ := turn i s h
    have lt : i < items.size := by omega
    have t1 := ht lt
    obtain ⟨hp, g, d, tk, os⟩ := s
    wp_walk using wpAny_loadPart' hl
    have some_ : items[((i : Nat) : Int).toNat]? = some items[i] := by simp [lt]
    have next : ((i : Int) + 1) = ((i + 1 : Nat) : Int) := by omega
    rw [some_]
    refine wpAny_bind (wpAny_mono t1 (fun r s2 q => ?_) fun _ _ z => z)
    obtain ⟨er, qt, qf⟩ := q
    cases ee : e i with
    | true =>
      rw [ee] at er
      subst er
      have fin := finT i s2 (by omega) ee (qt ee)
      obtain ⟨hp2, g2, d2, tk2, os2⟩ := s2
      wp_walk
      exact fin
    | false =>
      rw [ee] at er
      subst er
      have rec_ := ih (i + 1) (by omega) (by omega) (fun j hj => by
        by_cases z : j = i
        · rw [z]; exact ee
        · exact he j (by omega)) s2 (qf ee)
      obtain ⟨hp2, g2, d2, tk2, os2⟩ := s2
      wp_walk
      rw [next]
      exact ⟨plainId_quiet plain_contains_loop _, codeAny_builtin entry_contains_loop (by
        rw [Around.under_plainId plain_contains_loop _]
        exact rec_)⟩
theorem contains_start (l : Addr) (x : Value) (N : Nat) (e : Nat → Bool) (I : Nat → Shared → Prop) (J : Shared → Prop)
    (turn : ∀ i s, I i s → ∃ (items : Array Value) (n : Nat), s.heap.get? l = some { cls := .type "list", data := .seq items n } ∧ items.size = N ∧
      ∀ h : i < items.size, wpAny (model prog w) A.in1 (eqBool items[i] x) (fun r s' => r = e i ∧ (e i = true → J s') ∧ (e i = false → I (i + 1) s')) (fun er s' => R (.error er) s') s)
    (finT : ∀ i s, i < N → e i = true → J s → R (.ok (.ret (.bool true))) s) (finF : ∀ s, (∀ i, i < N → e i = false) → I N s → R (.ok (.ret (.bool false))) s) {s : Shared} (h : I 0 s) :
    wpAny (model prog w) A.in1 (Builtin.«list.__contains__» ⟨[.ref l, x], []⟩) (GQ.FinOf prog w A R) (fun er s' => R (.error er) s') s := by
  have rec_ := contains_walk l x N e I J turn finT finF N 0 (by omega) (by omega) (fun j hj => by omega) s h
  obtain ⟨items, n, hl, _, _⟩ := turn 0 s h
  obtain ⟨hp, g, d, tk, os⟩ := s
  wp_walk using wpAny_loadPart' hl
  exact ⟨plainId_quiet plain_contains_loop _, codeAny_builtin entry_contains_loop (by
    rw [Around.under_plainId plain_contains_loop _]
    exact rec_)⟩
end
def F_eq : FS := fun los n P => ∃ r1 r2, los = [.sh (.row r1), .sh (.row r2)] ∧ P (.sh (.bl (decide (r1 = r2)))) n
section
variable (P : Program) (w : World) (K : PySem.W.Frag) (mg : Str → Option Value) (base : Heap) (C : Addr)
structure EqV (k : Nat) : Prop where
  ex : ∃ (f : Addr) (fd : FuncData) (ps : List Str), FnOk P w K mg base CX0 k f fd ps (spV (thR C) 2 F_eq) ∧ PySem.W.findIn K (.ref C) "__eq__" = some (some (.ref f)) ∧ PySem.W.isFn K (.ref f) = true ∧ Binds K fd ps []
end
section
variable {X : Cx} {C : Addr} {k : Nat}
/-- the rich comparison of two rows -/
theorem rc_rows (VQ : EqV X.prog X.w X.K X.mg X.base C k) {A : Around} (sb : Sub X k A) {pins : List (Addr × Obj)} {σ : L2.St} {H : Hp} {s : Shared} {W : Wd} {n : Nat} {a b : Addr} {r1 r2 : List (List Nat)} (I : Inv X pins σ H s) (ok : WOk (thR C) W H n) (ha : W.R a = some r1) (hb : W.R b = some r2)
    {E : Value → Shared → Prop} : wpAny (model X.prog X.w) A (richCompare .Eq (.ref a) (.ref b)) (fun v s' => ∃ r, v = .bool r ∧ r = decide (r1 = r2) ∧ ∃ W' H', Inv X pins σ H' s' ∧ After (thR C) W H W' H' n) E s := by
  obtain ⟨f, fd, ps, F, hs, hf, hbi⟩ := VQ.ex
  obtain ⟨dx, t, L, kr, kb, ea, _⟩ := (show RowAt C W H a r1 from (ok.r a r1 ha).1).ex
  obtain ⟨dy, t', L', kr', kb', eb, _⟩ := (show RowAt C W H b r2 from (ok.r b r2 hb).1).ex
  obtain ⟨mA, J, _⟩ := ins_get I.hok ea
  obtain ⟨mB, J', _⟩ := ins_get I.hok eb
  obtain ⟨od, J, _⟩ := J.look
  obtain ⟨od', J', _⟩ := J'.look
  obtain ⟨m, hF⟩ := I.fr
  refine PySem.W.cmp_K (op := .Eq) (tb := .ref C) sb.room.units0 hF I.ok.mod.kin J J'.type (by simp [PySem.W.notFirst]) hs hf ?_
  have hsp : spV (thR C) 2 F_eq [.ref a, .ref b] H (fun v H' => v = .bl (decide (r1 = r2)) ∧ ∃ W', After (thR C) W H W' H' n) L2.E0 := by
    refine ⟨W, n, [.sh (.row r1), .sh (.row r2)], fun lo n' => lo = .sh (.bl (decide (r1 = r2))) ∧ n' = n, rfl, ok, ⟨⟨a, rfl, ha⟩, ⟨b, rfl, hb⟩, trivial⟩, ⟨r1, r2, rfl, rfl, rfl⟩, fun lo n' W' H' v hp A' rt => ?_⟩
    obtain ⟨e1, e2⟩ := hp
    subst e1 e2
    exact ⟨rt, W', A'⟩
  have e0 : Env0 X.prog X.w X.K X.mg X.base A X.stack s H := by
    have e := I.env0
    exact ⟨by rw [sb.fr]; exact e.frames, e.mod, e.bs, e.bsz, e.funs, e.frf, e.hok, e.bare⟩
  have hl := F.len _ _ _ _ hsp
  have r2' : Vals [V.ref a, V.ref b] [Value.ref a, Value.ref b] := .cons rfl (.cons rfl .nil)
  refine wpAny_call (codeAny_mono (F.run A X.stack s H ⟨[.ref a, .ref b], []⟩ [.ref a, .ref b] [.ref a, .ref b] _ L2.E0 sb.room e0 (by
    have := hbi s [.ref a, .ref b] I.kIn (by simpa using hl)
    simpa using this) r2' hsp) fun r s' hq => ?_)
  cases r with
  | error er => exact hq.elim
  | ok fl =>
    cases fl with
    | ret u =>
      obtain ⟨z, H', I', rz, ez, W', A'⟩ := I.after hq
      subst ez
      cases rz
      exact ⟨_, rfl, rfl, W', H', I', A'⟩
    | next => exact hq.elim
    | brk => exact hq.elim
    | cont => exact hq.elim
theorem eq_rows (VQ : EqV X.prog X.w X.K X.mg X.base C k) {A : Around} (sb : Sub X k A) {pins : List (Addr × Obj)} {σ : L2.St} {H : Hp} {s : Shared} {W : Wd} {n : Nat} {a b : Addr} {r1 r2 : List (List Nat)} (I : Inv X pins σ H s) (ok : WOk (thR C) W H n) (ha : W.R a = some r1) (hb : W.R b = some r2)
    {E : Value → Shared → Prop} : wpAny (model X.prog X.w) A (eqBool (.ref a) (.ref b)) (fun r s' => r = decide (r1 = r2) ∧ ∃ W' H', Inv X pins σ H' s' ∧ After (thR C) W H W' H' n) E s := by
  by_cases z : a = b
  · subst z
    rw [ha] at hb
    cases hb
    exact SeqAt.EqAt.same (A := A) (s := s) (.ref a) X.prog X.w E _ ⟨by simp, W, H, I, After.refl ok⟩
  · refine GQ.eqBool_refG z (wpAny_mono (rc_rows VQ sb I ok ha hb) (fun v s' q => ?_) fun _ _ z => z)
    obtain ⟨r, e1, e2, q⟩ := q
    exact ⟨r, e1, e2, q⟩
/-- the state behind some questions -/
def AskI (X : Cx) (C : Addr) (pins : List (Addr × Obj)) (σ : L2.St) (W : Wd) (H : Hp) (n : Nat) (s' : Shared) : Prop := ∃ W' H', Inv X pins σ H' s' ∧ After (thR C) W H W' H' n
def rInRow (C : Addr) (neg : Bool) : R2 := fun x y H Q => ∃ (W : Wd) (n : Nat) (a : Addr) (r : List (List Nat)) (p : Addr) (ws : List V) (rs : List (List (List Nat))), x = .ref a ∧ y = .ref p ∧ WOk (thR C) W H n ∧ W.R a = some r ∧ H p = some (.lst ws) ∧ (¬ W.D p ∨ W.S p = some (.lst ws)) ∧ RepL W (rs.map D.row) ws ∧
  ∀ W' H', After (thR C) W H W' H' n → Q (.bl (if neg then !(rs.any fun z => decide (z = r)) else rs.any fun z => decide (z = r))) H'
theorem in_rows (VQ : EqV X.prog X.w X.K X.mg X.base C k) (hr : Room (k + 1) X.A) {pins : List (Addr × Obj)} {σ : L2.St} {H : Hp} {s : Shared} {W : Wd} {n : Nat} {a p : Addr} {r : List (List Nat)} {ws : List V} {rs : List (List (List Nat))} (I : Inv X pins σ H s) (ok : WOk (thR C) W H n)
    (ha : W.R a = some r) (hp : H p = some (.lst ws)) (hd : ¬ W.D p ∨ W.S p = some (.lst ws)) (hw : RepL W (rs.map D.row) ws) {Q : Bool → Shared → Prop} (q : ∀ s', AskI X C pins σ W H n s' → Q (rs.any fun z => decide (z = r)) s') :
    wpAny (model X.prog X.w) X.A (call (.builtin "list.__contains__") [.ref p, .ref a]) (fun v s' => ∃ b, v = .bool b ∧ Q b s') X.xe s := by
  have stay : ∀ {W' : Wd} {H' : Hp}, After (thR C) W H W' H' n → H' p = some (.lst ws) := fun {W' H'} A => by
    rcases hd with hd | hd
    · exact A.frame _ _ hd hp
    · exact (A.ok.s _ _ (A.le.s _ _ hd)).1
  obtain ⟨z0, its0, k0, v0, e0⟩ := I.hok p _ hp
  refine GQ.call_here PySem.F.slot_list_contains ⟨_, e0, rfl⟩ PySem.F.entry_list_contains (PySem.F.args_list_contains_2 _ _) ?_
  refine contains_start p (.ref a) rs.length (fun i => match rs[i]? with | some z => decide (z = r) | none => false) (fun _ s' => AskI X C pins σ W H n s') (fun s' => AskI X C pins σ W H n s') (fun i s' h => ?_) (fun i s' hi he h => ?_) (fun s' he h => ?_) ⟨W, H, I, After.refl ok⟩
  · obtain ⟨W', H', I', A'⟩ := h
    obtain ⟨z, its, c, vr, e⟩ := I'.hok p _ (stay A')
    have hl : its.length = rs.length := by rw [← vr.length, hw.length, List.length_map]
    refine ⟨its.toArray, c, e, by rw [List.size_toArray]; exact hl, fun hlt => ?_⟩
    rw [List.size_toArray, hl] at hlt
    have er : (rs.map D.row)[i]? = some (.row rs[i]) := by rw [List.getElem?_map, List.getElem?_eq_getElem hlt]; rfl
    obtain ⟨v, ev, b, eb, hb⟩ := hw.get er
    obtain ⟨u, eu, ru⟩ := vr.get ev
    subst eb
    cases ru
    have ei : its.toArray[i] = .ref b := by
      have := (List.getElem?_eq_some_iff.mp eu).2
      simpa using this
    rw [ei]
    refine wpAny_mono (eq_rows VQ ⟨hr.in1, rfl⟩ I' A'.ok (A'.le.r _ _ hb) (A'.le.r _ _ ha)) (fun x s2 q2 => ?_) fun _ _ z => z
    obtain ⟨e1, W2, H2, I2, A2⟩ := q2
    have e3 : (match rs[i]? with | some z => decide (z = r) | none => false) = decide (rs[i] = r) := by rw [List.getElem?_eq_getElem hlt]
    exact ⟨by rw [e3]; exact e1, fun _ => ⟨W2, H2, I2, A'.trans A2⟩, fun _ => ⟨W2, H2, I2, A'.trans A2⟩⟩
  · refine ⟨true, rfl, ?_⟩
    have e3 : (rs.any fun z => decide (z = r)) = true := by
      rw [List.getElem?_eq_getElem hi] at he
      exact List.any_eq_true.mpr ⟨rs[i], List.getElem_mem hi, he⟩
    have := q s' h
    rw [e3] at this
    exact this
  · refine ⟨false, rfl, ?_⟩
    have e3 : (rs.any fun z => decide (z = r)) = false := by
      rw [List.any_eq_false]
      intro z hz
      obtain ⟨i, hi, e⟩ := List.mem_iff_getElem.mp hz
      have := he i hi
      rw [List.getElem?_eq_getElem hi] at this
      subst e
      simpa using this
    have := q s' h
    rw [e3] at this
    exact this
theorem op_inRow (VQ : EqV X.prog X.w X.K X.mg X.base C k) (hr : Room (k + 1) X.A) : OpR X (compareOp .In) (rInRow C false) := by
  intro pins s σ H x y v u Q I rx ry h
  obtain ⟨W, n, a, r, p, ws, rs, rfl, rfl, ok, ha, hp, hd, hw, q⟩ := h
  cases rx
  cases ry
  obtain ⟨z0, its0, k0, v0, e0⟩ := I.hok p _ hp
  show wpAny (model X.prog X.w) X.A (do return Value.bool (← contains (Value.ref p) (Value.ref a))) _ _ s
  refine wpAny_bind (wpAny_contains_slot ⟨_, e0, rfl⟩ PySem.F.slot_list_contains (wpAny_mono (in_rows VQ hr I ok ha hp hd hw (Q := fun b s' => EP X pins σ Q (.bool b) s') fun s' ⟨W', H', I', A'⟩ => ⟨.bl _, H', I', rfl, q W' H' A'⟩) (fun v s' hv => ?_) fun _ _ e => e))
  obtain ⟨b, rfl, hq⟩ := hv
  exact wpAny_truthy_bool (wpAny_pure hq)
theorem op_notInRow (VQ : EqV X.prog X.w X.K X.mg X.base C k) (hr : Room (k + 1) X.A) : OpR X (compareOp .NotIn) (rInRow C true) := by
  intro pins s σ H x y v u Q I rx ry h
  obtain ⟨W, n, a, r, p, ws, rs, rfl, rfl, ok, ha, hp, hd, hw, q⟩ := h
  cases rx
  cases ry
  obtain ⟨z0, its0, k0, v0, e0⟩ := I.hok p _ hp
  show wpAny (model X.prog X.w) X.A (do return Value.bool (!(← contains (Value.ref p) (Value.ref a)))) _ _ s
  refine wpAny_bind (wpAny_contains_slot ⟨_, e0, rfl⟩ PySem.F.slot_list_contains (wpAny_mono (in_rows VQ hr I ok ha hp hd hw (Q := fun b s' => EP X pins σ Q (.bool (!b)) s') fun s' ⟨W', H', I', A'⟩ => ⟨.bl _, H', I', rfl, q W' H' A'⟩) (fun v s' hv => ?_) fun _ _ e => e))
  obtain ⟨b, rfl, hq⟩ := hv
  exact wpAny_truthy_bool (wpAny_pure hq)
end
section
variable {C : Addr} {X : Cx} {W0 W W' W1 : Wd} {H0 H H' : Hp} {O O' : Addr → Option Ow} {vs : VS} {σ : L2.St} {tm : List (V × Lo)} {a b : Expr} {fa fb : WE} {pos : Pos} {k : Nat}
def gInR (neg : Bool) : G2 := fun a b vs Q => match a, b.lst? with
  | .sh (.row r), some ds => ∃ rs : List (List (List Nat)), ds = rs.map D.row ∧ Q (.sh (.bl (if neg then !(rs.any fun z => decide (z = r)) else rs.any fun z => decide (z = r)))) vs
  | _, _ => False
theorem Rel.lstD {k : Ow} {v : V} {lo : Lo} {xs : List D} {T : Th} (R : Rel T W0 H0 W H O vs σ tm) (h : LoOk W H H0 O k v lo) (e : lo.lst? = some xs) : ∃ p ws, v = .ref p ∧ H p = some (.lst ws) ∧ RepL W xs ws ∧ (¬ W.D p ∨ W.S p = some (.lst ws)) := by
  cases lo with
  | sh d =>
    cases d with
    | lst ys =>
      cases e
      obtain ⟨a, ws, e1, hs, r⟩ := h
      exact ⟨a, ws, e1, R.Sget hs, r, .inr hs⟩
    | _ => cases e
  | ow ys =>
    cases e
    obtain ⟨p, ws, e1, _, hd, _, hp, r⟩ := h
    exact ⟨p, ws, e1, hp, r, .inl hd⟩
  | bo ys =>
    cases e
    obtain ⟨p, ws, e1, hp, r, h⟩ := h
    refine ⟨p, ws, e1, hp, r, ?_⟩
    rcases h with ⟨_, _, hd, _⟩ | h
    · exact .inl hd
    · exact .inr h
  | pool => cases e
  | dct kvs => cases e
  | fx a d => cases e
  | oo p qs xss => cases e
theorem snd_gInR (neg : Bool) : Snd2 (thR C) (rInRow C neg) (gInR neg) := fun W0 H0 W H O vs σ tm x y a b Q Q' hf R kk => by
  unfold gInR at hf
  split at hf
  · rename_i r ds e1
    obtain ⟨rs, eds, q⟩ := hf
    subst eds
    obtain ⟨a, ea, ha⟩ := (show Rep W (.row r) x from R.pop.top)
    obtain ⟨p, ws, ep, hp, rp, hd⟩ := R.lstD R.top e1
    refine ⟨W, vs.n, a, r, p, ws, rs, ea, ep, R.ok, ha, hp, hd, rp, fun W' H' A => ?_⟩
    have R1 := R.pop.pop.over A.le A.ok A.frame A.grow.1 A.grow.2
    exact kk W' H' O vs _ _ A.le q (R1.push (by simp [Rep]))
  · exact hf.elim
theorem vt_inR (VQ : EqV X.prog X.w X.K X.mg X.base C k) (hr : Room (k + 1) X.A) (ha : VE (thR C) X a fa) (hb : VE (thR C) X b fb) (hm : behindInMarks .In b = false := by rfl) : VT (thR C) X (.Compare a [.In] [b] pos) (wTst (w2 (gInR false) fa fb)) := vt_cmp (op_inRow VQ hr) (snd_gInR false) ha hb hm
theorem vt_notinR (VQ : EqV X.prog X.w X.K X.mg X.base C k) (hr : Room (k + 1) X.A) (ha : VE (thR C) X a fa) (hb : VE (thR C) X b fb) (hm : behindInMarks .NotIn b = false := by rfl) : VT (thR C) X (.Compare a [.NotIn] [b] pos) (wTst (w2 (gInR true) fa fb)) := vt_cmp (op_notInRow VQ hr) (snd_gInR true) ha hb hm
/-- isinstance(x, Row), of a row -/
def wIsRow (f : WE) : WE := fun vs Q => f vs fun lo vs1 => match lo with
  | .sh (.row _) => Q (.sh (.bl true)) vs1
  | _ => False
theorem ve_isRow {p p2 : Pos} (ci : C8.InsC X.K C) (hg : Gl X "isinstance") (hm : X.mg "isinstance" = none) (hg2 : Gl X "Row") (hm2 : X.mg "Row" = some (.ref C)) (ha : VE (thR C) X a fa)
    (hs : starEach [a, .Name "Row" p2] X.env = (false, eval a X.env) :: starEach [.Name "Row" p2] X.env := by rfl) (hs2 : starEach [Expr.Name "Row" p2] X.env = (false, eval (.Name "Row" p2) X.env) :: starEach [] X.env := by rfl) :
    VE (thR C) X (.Call (.Name "isinstance" p) [a, .Name "Row" p2] [] pos) (wIsRow fa) :=
  .of (pe_callB (C8.call_isC ci) hg hm (by decide +kernel) (pa_cons ha.pe (pa_cons (pe_glob (v := .ref C) hg2 hm2 rfl) pa_nil hs2) hs) (by decide) (by decide) hs (by rw [hs2]; rfl)) fun W0 H0 W H O vs σ tm Q Q' hf R k => ha.sn W0 H0 W H O vs σ tm _ _ hf R fun W1 H1 O1 vs1 x lo l1 q1 R1 => by
    unfold wIsRow at *
    split at q1
    · rename_i r
      obtain ⟨a, dx, t, L, kr, kb, ev, hr, ha, _⟩ := R1.row R1.top
      have ev' : x = .ref a := ev
      subst ev'
      exact ⟨a, dx, _, rfl, ha, k W1 H1 O1 vs1 _ _ l1 q1 (R1.pop.push (by simp [Rep]))⟩
    · exact q1.elim
end
end Vx

set_option Elab.async false
set_option maxRecDepth 100000
set_option linter.all false
/-! Draws from the pool. -/
namespace Vx
open PySem PySem.Spec PyProof.Rows L2
/-- ** by a small power, of a number of some hundred bits -/
theorem op_powW {X : Cx} : OpR X (binaryOp .Pow) (rI (fun i j => 0 ≤ j ∧ (Builtin.Int.intBits i : Int) * j ≤ 2 ^ 27) fun i j => .int (i ^ j.toNat)) := by
  intro pins s σ H x y v u Q I rx ry h
  obtain ⟨i, j, rfl, rfl, hc, q⟩ := h
  obtain ⟨t, rfl⟩ := (show ∃ t, v = Value.int i t from rx)
  obtain ⟨t', rfl⟩ := (show ∃ t', u = Value.int j t' from ry)
  exact pow_int hc.1 hc.2 ⟨.int (i ^ j.toNat), H, I.tok _, ⟨_, rfl⟩, q⟩
theorem bits_le {i : Int} {k : Nat} (h : i.natAbs < 2 ^ k) : Builtin.Int.intBits i ≤ k := by
  unfold Builtin.Int.intBits
  split
  · omega
  · rename_i h0
    have hne : i.natAbs ≠ 0 := by
      intro z
      have : i = 0 := by omega
      simp [this] at h0
    have := (Nat.log2_lt hne).mpr h
    omega
abbrev tIx (K : PySem.W.Frag) (i : Int) : TE := tOp (rIxL K) (tVar 0) (tC (.int i))
abbrev rInt : List V → Hp → VK → Prop := fun xs H Q => (∃ i, xs = [V.int i] ∧ Q (.int i) H) ∨ ∃ k, xs = [V.bl k] ∧ Q (.int (if k then 1 else 0)) H
abbrev tInt (te : TE) : TE := fun σ H Q => tCons te tNil σ H fun xs H1 => rInt xs H1 Q
def tDraw (K : PySem.W.Frag) : TS :=
  tSeq (tIfS (tTest (tOp (rI0 fun i j => .bl (decide (j < i))) (tIx K 0) (tC (.int 0))))
    (tSeq (tAsg (tOp (rI (fun _ j => 0 < j) fun i j => .int (i % j)) (tInt (tIx K 0)) (tVar 1)) (gName 2))
      (tSeq (tAsg (tOp (rI CDivW fun i j => .int (i / j)) (tIx K 0) (tVar 1)) (gSub (tVar 0) (tC (.int 0)) L2.rSetL)) (tRet (tVar 2)))) tNext)
  (tSeq (tAsg (tOp (rI0 fun i j => .int (i + j)) (tIx K 2) (tC (.int 1))) (gSub (tVar 0) (tC (.int 2)) L2.rSetL))
  (tSeq (tAsg (tOp (rI (fun _ j => 0 < j) fun i j => .int (i % j)) (tInt (tOp (rI (fun i j => 0 ≤ j ∧ (Builtin.Int.intBits i : Int) * j ≤ 2 ^ 27) fun i j => .int (i ^ j.toNat))
      (tOp (rI0 fun i j => .int (i + j)) (tIx K 1) (tOp (rI CMulX fun i j => .int (i * j)) (tC (.int 15485863)) (tIx K 2))) (tC (.int 3)))) (tC (.int 162259276829213363391578010288127))) (gName 3))
  (tSeq (tAsg (tOp (rI (fun _ j => 0 < j) fun i j => .int (i % j)) (tInt (tOp (rI (fun i j => 0 ≤ j ∧ (Builtin.Int.intBits i : Int) * j ≤ 2 ^ 27) fun i j => .int (i ^ j.toNat))
      (tOp (rI0 fun i j => .int (i + j)) (tVar 3) (tOp (rI CMulX fun i j => .int (i * j)) (tC (.int 32452843)) (tIx K 2))) (tC (.int 3)))) (tC (.int 170141183460469231731687303715884105727))) (gName 3))
    (tRet (tOp (rI (fun _ j => 0 < j) fun i j => .int (i % j)) (tInt (tOp (rI CDivW fun i j => .int (i / j)) (tVar 3) (tC (.int 1048576)))) (tVar 1))))))
def F_draw : FS := fun los n P => ∃ span : Int, los = [.pool, .sh (.int span)] ∧ 0 < span ∧ span < 2 ^ 8000 ∧ n < 2 ^ 38 ∧ ∀ d, 0 ≤ d → d < span → P (.sh (.int d)) (n + 1)
section
variable {C : Addr} {W : Wd} {H : Hp} {n : Nat}
/-- the pool is written -/
theorem WOk.pool (ok : WOk (thR C) W H n) {z0 z1 z2 : Int} (h : PsOk z0 z1 z2 (n + 1)) : After (thR C) W H W (upd H W.P (.lst [.int z0, .int z1, .int z2])) (n + 1) := by
  obtain ⟨a, b, c, hp, hps⟩ := ok.p
  have sP : ∀ b o, W.S b = some o → b ≠ W.P := fun b o e => (ok.s b o e).2.2
  have eq : ∀ b, W.D b → b ≠ W.P → (upd H W.P (.lst [.int z0, .int z1, .int z2])) b = H b := fun b _ hb => upd_ne hb
  refine ⟨Le.refl W, ⟨fun b o e => ?_, fun b r e => ?_, fun b e => ?_, ok.pd, ok.i, z0, z1, z2, upd_same, h, trivial⟩, fun b o hd e => ?_, fun b e => .inl e, ok.adv eq⟩
  · obtain ⟨h1, h2, h3⟩ := ok.s b o e
    exact ⟨by rw [upd_ne h3]; exact h1, h2, h3⟩
  · obtain ⟨h1, h2, h3⟩ := ok.r b r e
    exact ⟨(thR C).mono W W H _ b r (Le.refl W) eq h1, h2, h3⟩
  · by_cases z : b = W.P
    · subst z; exact ⟨_, upd_same⟩
    · rw [upd_ne z]; exact ok.d b e
  · rw [upd_ne (fun (z : b = W.P) => hd (z ▸ ok.pd))]; exact e
theorem at0 (a b c : V) : atI [a, b, c] 0 = some a := rfl
theorem at1 (a b c : V) : atI [a, b, c] 1 = some b := rfl
theorem at2 (a b c : V) : atI [a, b, c] 2 = some c := rfl
theorem draw_read {K : PySem.W.Frag} {span : Int} {Q : VK} (ok : WOk (thR C) W H n) (h0 : 0 < span) (h1 : span < 2 ^ 8000) (hn : n < 2 ^ 38) (kk : ∀ d W' H', 0 ≤ d → d < span → After (thR C) W H W' H' (n + 1) → Q (.int d) H') {D : Ends} (hD : D.rt = Q) :
    tDraw K D [some (.ref W.P), some (.int span), none, none] H := by
  subst hD
  obtain ⟨a, b, c, hp, hps⟩ := ok.p
  obtain ⟨b0, b1, c0, (c1 : c ≤ (n : Int))⟩ := id hps.1
  have dv : CDivW a span := ⟨h0, by
    have : span.natAbs < 2 ^ 8000 := by
      have e : ((2 : Int) ^ 8000) = ((2 ^ 8000 : Nat) : Int) := by simp
      rw [e] at h1
      omega
    have hne : span.natAbs ≠ 0 := by omega
    have := (Nat.log2_lt hne).mpr this
    omega⟩
  refine ⟨.ref W.P, rfl, W.P, _, 0, .int a, rfl, rfl, SqL.of hp, at0 _ _ _, a, 0, rfl, rfl, _, rfl, ?_⟩
  dsimp only
  by_cases hpos : (0 : Int) < a
  · rw [if_pos (decide_eq_true hpos)]
    refine ⟨.ref W.P, rfl, W.P, _, 0, .int a, rfl, rfl, SqL.of hp, at0 _ _ _, .inl ⟨a, rfl, .int span, rfl, a, span, rfl, rfl, h0, ?_⟩⟩
    refine ⟨.ref W.P, rfl, W.P, _, 0, .int a, rfl, rfl, SqL.of hp, at0 _ _ _, .int span, rfl, a, span, rfl, rfl, dv, .ref W.P, rfl, W.P, _, 0, 0, rfl, rfl, hp, rfl, ?_⟩
    refine ⟨.int (a % span), rfl, kk _ W _ (Int.emod_nonneg _ (by omega)) (Int.emod_lt_of_pos _ h0) (ok.pool (z0 := a / span) (z1 := b) (z2 := c) ⟨b0, b1, c0, by omega⟩)⟩
  · rw [if_neg (by simp; omega)]
    refine ⟨.ref W.P, rfl, W.P, _, 2, .int c, rfl, rfl, SqL.of hp, at2 _ _ _, c, 1, rfl, rfl, .ref W.P, rfl, W.P, _, 2, 2, rfl, rfl, hp, rfl, ?_⟩
    have A := ok.pool (z0 := a) (z1 := b) (z2 := c + 1) ⟨b0, b1, by omega, by omega⟩
    have hp2 : (upd H W.P (.lst [.int a, .int b, .int (c + 1)])) W.P = some (.lst [.int a, .int b, .int (c + 1)]) := upd_same
    have hc : c + 1 ≤ 2 ^ 38 := by
      have : (n : Int) < 2 ^ 38 := by
        have e : ((2 : Int) ^ 38) = ((2 ^ 38 : Nat) : Int) := by simp
        rw [e]; omega
      omega
    have m1 : (b + 15485863 * (c + 1)).natAbs < 2 ^ 64 := by omega
    refine ⟨.ref W.P, rfl, W.P, _, 1, .int b, rfl, rfl, SqL.of hp2, at1 _ _ _, .ref W.P, rfl, W.P, _, 2, .int (c + 1), rfl, rfl, SqL.of hp2, at2 _ _ _, 15485863, c + 1, rfl, rfl, mulX (by omega) (by omega) (by omega) (by omega),
      b, 15485863 * (c + 1), rfl, rfl, b + 15485863 * (c + 1), 3, rfl, rfl, ⟨by omega, by have := bits_le m1; omega⟩, .inl ⟨_, rfl, _, _, rfl, rfl, (by show (0 : Int) < 162259276829213363391578010288127; decide), ?_⟩⟩
    dsimp only
    have x0 : 0 ≤ (b + 15485863 * (c + 1)) ^ (3 : Int).toNat % 162259276829213363391578010288127 := Int.emod_nonneg _ (by decide)
    have x1 : (b + 15485863 * (c + 1)) ^ (3 : Int).toNat % 162259276829213363391578010288127 < 162259276829213363391578010288127 := Int.emod_lt_of_pos _ (by decide)
    generalize (b + 15485863 * (c + 1)) ^ (3 : Int).toNat % 162259276829213363391578010288127 = x at x0 x1 ⊢
    have m2 : (x + 32452843 * (c + 1)).natAbs < 2 ^ 128 := by omega
    refine ⟨.int x, rfl, .ref W.P, rfl, W.P, _, 2, .int (c + 1), rfl, rfl, SqL.of hp2, at2 _ _ _, 32452843, c + 1, rfl, rfl, mulX (by omega) (by omega) (by omega) (by omega),
      x, 32452843 * (c + 1), rfl, rfl, x + 32452843 * (c + 1), 3, rfl, rfl, ⟨by omega, by have := bits_le m2; omega⟩, .inl ⟨_, rfl, _, _, rfl, rfl, (by show (0 : Int) < 170141183460469231731687303715884105727; decide), ?_⟩⟩
    refine ⟨.int _, rfl, _, 1048576, rfl, rfl, ⟨by decide, by decide⟩, .inl ⟨_, rfl, .int span, rfl, _, span, rfl, rfl, h0, ?_⟩⟩
    exact kk _ W _ (Int.emod_nonneg _ (by omega)) (Int.emod_lt_of_pos _ h0) A
end
end Vx

set_option Elab.async false
set_option maxRecDepth 100000
set_option linter.all false
/-! The pool is made; the law itself. -/
namespace Vx
open PySem PySem.Spec PyProof.Rows L2
abbrev rLenS (K : PySem.W.Frag) : List V → Hp → VK → Prop := fun xs H Q => ∃ p ys, xs = [V.ref p] ∧ (SqL K H p ys ∨ SqT K H p ys) ∧ Q (.int ys.length) H
abbrev rMax : List V → Hp → VK → Prop := fun xs H Q => ∃ i j, xs = [V.int i, V.int j] ∧ Q (.int (if j > i then j else i)) H
abbrev rMin : List V → Hp → VK → Prop := fun xs H Q => ∃ i j, xs = [V.int i, V.int j] ∧ Q (.int (if j < i then j else i)) H
abbrev rAbs : List V → Hp → VK → Prop := fun xs H Q => ∃ i, xs = [V.int i] ∧ Q (.int (if i < 0 then -i else i)) H
abbrev tLenN (K : PySem.W.Frag) : TE := tCB (rLenS K) (tCons (tVar 0) tNil)
def tPool (K : PySem.W.Frag) : TS :=
  tSeq (tAsg (tC (.int 0)) (gName 2))
  (tSeq (tIfS (tTest (tOp (rI0 fun i j => .bl (decide (i < j))) (tVar 1) (tLenN K))) (tAsg (tOp (rIxL K) (tVar 0) (tVar 1)) (gName 2)) tNext)
  (tRet (tLst (tCons (tCB rMax (tCons (tC (.int 0)) (tCons (tOp (rI0 fun i j => .int (i - j)) (tCB rAbs (tCons (tVar 2) tNil)) (tOp (rI CPow fun i j => .int (i ^ j.toNat)) (tC (.int 10)) (tC (.int 18)))) tNil)))
    (tCons (tOp (rI0 fun i j => .int (i + j)) (tOp (rI (fun _ j => 0 < j) fun i j => .int (i % j)) (tInt (tVar 2)) (tC (.int 2305843009213693951))) (tOp (rI CMulX fun i j => .int (i * j)) (tC (.int 7368787)) (tOp (rI0 fun i j => .int (i + j)) (tVar 1) (tC (.int 1)))))
    (tCons (tC (.int 0)) tNil))))))
def spPool (K : PySem.W.Frag) : Sp := fun vs H Q _ => ∃ (a : Addr) (ns : List Int) (spot : Nat), vs = [.ref a, .int (spot : Int)] ∧ SqL K H a (ns.map V.int) ∧ spot ≤ 100 ∧
  ∀ p z0 z1, H p = none → 0 ≤ z1 → z1 < 2 ^ 63 → Q (.ref p) (upd H p (.lst [.int z0, .int z1, .int 0]))
theorem pool_read {K : PySem.W.Frag} {H : Hp} {D : Ends} {a : Addr} {ns : List Int} {spot : Nat} (hs : SqL K H a (ns.map V.int)) (h1 : spot ≤ 100) (hD : ∀ p z0 z1, H p = none → 0 ≤ z1 → z1 < 2 ^ 63 → D.rt (.ref p) (upd H p (.lst [.int z0, .int z1, .int 0]))) :
    tPool K D [some (.ref a), some (.int (spot : Int)), none] H := by
  refine ⟨.int spot, rfl, .ref a, rfl, a, _, rfl, .inl hs, (spot : Int), ((ns.map V.int).length : Int), rfl, rfl, _, rfl, ?_⟩
  have fin : ∀ cell : Int, tRet (tLst (tCons (tCB rMax (tCons (tC (.int 0)) (tCons (tOp (rI0 fun i j => .int (i - j)) (tCB rAbs (tCons (tVar 2) tNil)) (tOp (rI CPow fun i j => .int (i ^ j.toNat)) (tC (.int 10)) (tC (.int 18)))) tNil)))
    (tCons (tOp (rI0 fun i j => .int (i + j)) (tOp (rI (fun _ j => 0 < j) fun i j => .int (i % j)) (tInt (tVar 2)) (tC (.int 2305843009213693951))) (tOp (rI CMulX fun i j => .int (i * j)) (tC (.int 7368787)) (tOp (rI0 fun i j => .int (i + j)) (tVar 1) (tC (.int 1)))))
    (tCons (tC (.int 0)) tNil)))) D [some (.ref a), some (.int (spot : Int)), some (.int cell)] H := fun cell => by
    have p1 : CPow 10 18 := ⟨by decide, by decide, by decide⟩
    have m0 : 0 ≤ cell % 2305843009213693951 := Int.emod_nonneg _ (by decide)
    have m1 : cell % 2305843009213693951 < 2305843009213693951 := Int.emod_lt_of_pos _ (by decide)
    refine ⟨.int cell, rfl, cell, rfl, 10, 18, rfl, rfl, p1, _, _, rfl, rfl, 0, _, rfl, ?_⟩
    refine ⟨.int cell, rfl, .inl ⟨cell, rfl, cell, 2305843009213693951, rfl, rfl, (by show (0 : Int) < 2305843009213693951; decide), .int spot, rfl, spot, 1, rfl, rfl, 7368787, (spot : Int) + 1, rfl, rfl, mulX (by omega) (by omega) (by omega) (by omega), _, _, rfl, rfl, ?_⟩⟩
    refine ⟨by show 3 ≤ sizeLine; rw [sizeLine_eq]; decide, fun p hp => hD p _ _ hp (by omega) (by omega)⟩
  dsimp only
  by_cases h : (spot : Int) < ((ns.map V.int).length : Int)
  · rw [if_pos (decide_eq_true h)]
    have hl : spot < ns.length := by rw [List.length_map] at h; omega
    have e : atI (ns.map V.int) (spot : Int) = some (.int ns[spot]) := by rw [atI_nat, List.getElem?_map, List.getElem?_eq_getElem hl]; rfl
    exact ⟨.ref a, rfl, .int spot, rfl, a, _, spot, _, rfl, rfl, hs, e, fin _⟩
  · rw [if_neg (by simpa using h)]
    exact fin 0
def tLaw (K : PySem.W.Frag) (M Tn : Int) (spR : Sp) : TS :=
  tSeq (tFor (iRng1 (tCons (tCB rMax (tCons (tC (.int 1)) (tCons (tCB rMin (tCons (tC (.int M)) (tCons (tLenN K) tNil))) tNil))) tNil)) (gName 1)
    (tSeq (tAsg (tCall (spPool K) [] L2.E0 (tCons (tVar 0) (tCons (tVar 1) tNil))) (gName 2))
      (tFor (iRng1 (tCons (tC (.int Tn)) tNil)) (gName 3) (tIfS (L2.tNot (tB (tCall spR [] L2.E0 (tCons (tVar 2) tNil)))) (tRet (tC (.bl false))) tNext))))
  (tRet (tC (.bl true)))
theorem sqKept {K : PySem.W.Frag} {H H' : Hp} {a : Addr} {xs : List V} (h : SqL K H a xs) (k : ∀ o, H a = some o → H' a = some o) : SqL K H' a xs := by
  rcases h with h | h
  · rcases h with h | ⟨o, h⟩
    · exact .inl (.inl (k _ h))
    · exact .inl (.inr ⟨o, k _ h⟩)
  · exact .inr h
/-- the world of a pool -/
def poolW (p : Addr) : Wd := ⟨fun _ => none, fun _ => none, fun b => b = p, p, fun _ => none⟩
theorem poolW_ok {C : Addr} {H1 : Hp} {p : Addr} {z0 z1 : Int} (h0 : 0 ≤ z1) (h1 : z1 < 2 ^ 63) : WOk (thR C) (poolW p) (upd H1 p (.lst [.int z0, .int z1, .int 0])) 0 := by
  refine ⟨fun b o e => ?_, fun b r e => ?_, fun b e => ?_, rfl, fun b c e => ?_, z0, z1, 0, upd_same, ⟨h0, h1, by omega, by show (0 : Int) ≤ ((0 : Nat) : Int); omega⟩, trivial⟩
  · have e' : (none : Option HO) = some o := e
    cases e'
  · have e' : (none : Option (List (List Nat))) = some r := e
    cases e'
  · have e' : b = p := e
    exact ⟨_, by rw [e']; exact upd_same⟩
  · have e' : (none : Option Addr) = some c := e
    cases e'
def cntOf (l M : Int) : Int := if (if l < M then l else M) > 1 then (if l < M then l else M) else 1
theorem cntOf_le (l M : Int) : 1 ≤ cntOf l M ∧ (cntOf l M ≤ M ∨ cntOf l M = 1) := by
  unfold cntOf
  split
  · split <;> omega
  · omega
theorem law_read {K : PySem.W.Frag} {C : Addr} {H : Hp} {D : Ends} {a : Addr} {ns : List Int} {M Tn Dn : Nat} {FR : FS} (hs : SqL K H a (ns.map V.int)) (hM : M ≤ 100) (hT : Tn ≤ 1000)
    (hR : ∀ (n : Nat) (P : Lo → Nat → Prop), n ≤ Tn * Dn → (∀ n', n' ≤ n + Dn → P (.sh (.bl true)) n') → FR [.pool] n P) (hD : ∀ H', D.rt (.bl true) H') :
    tLaw K M Tn (spV (thR C) 1 FR) D [some (.ref a), none, none, none] H := by
  have c0 := cntOf_le ((ns.map V.int).length : Int) (M : Int)
  refine ⟨.ref a, rfl, a, _, rfl, .inl hs, M, _, rfl, 1, _, rfl, cntOf ((ns.map V.int).length : Int) (M : Int), rfl, by omega, by omega, ?_⟩
  refine for_range (fun i σ H' => ∃ v1 v2 v3, σ = [some (.ref a), v1, v2, v3] ∧ SqL K H' a (ns.map V.int)) ⟨none, none, none, rfl, hs⟩ (fun i σ H1 hi ⟨v1, v2, v3, e, hs1⟩ => ?_) (fun σ H1 ⟨v1, v2, v3, e, hs1⟩ => hD _)
  subst e
  have hi2 : i ≤ 100 := by omega
  refine ⟨.ref a, rfl, .int (0 + (i : Int)), rfl, a, ns, i, by simp, hs1, hi2, fun p z0 z1 hp h0 h1 => ?_⟩
  -- the world of this pool
  have ok : WOk (thR C) (poolW p) (upd H1 p (.lst [.int z0, .int z1, .int 0])) 0 := poolW_ok h0 h1
  refine ⟨(Tn : Int), rfl, by omega, by omega, ?_⟩
  refine for_range (fun t σ H' => ∃ v1 v3 W' n', σ = [some (.ref a), v1, some (.ref p), v3] ∧ After (thR C) (poolW p) (upd H1 p (.lst [.int z0, .int z1, .int 0])) W' H' n' ∧ n' ≤ t * Dn) ⟨_, _, poolW p, 0, rfl, After.refl ok, by omega⟩
    (fun t σ H2 ht ⟨v1, v3, W', n', e, A, hn⟩ => ?_) (fun σ H2 ⟨v1, v3, W', n', e, A, hn⟩ => ?_)
  · subst e
    have ht2 : t < Tn := by simpa using ht
    have hb : n' ≤ Tn * Dn := Nat.le_trans hn (Nat.mul_le_mul_right Dn (Nat.le_of_lt ht2))
    refine ⟨.ref p, rfl, W', n', [.pool], fun lo n2 => lo = .sh (.bl true) ∧ n2 ≤ n' + Dn, rfl, A.ok, ⟨?_, trivial⟩, hR n' _ hb fun n2 h2 => ⟨rfl, h2⟩, fun lo n2 W2 H3 v hl A2 rt => ?_⟩
    · show V.ref p = .ref W'.P
      rw [A.le.p]; rfl
    · obtain ⟨e1, h2⟩ := hl
      subst e1
      have ev : v = .bl true := rt
      subst ev
      refine ⟨true, rfl, ?_⟩
      dsimp only
      refine ⟨_, _, W2, n2, rfl, A.trans A2, ?_⟩
      have : (t + 1) * Dn = t * Dn + Dn := Nat.succ_mul t Dn
      omega
  · refine ⟨_, _, _, e, sqKept hs1 fun o h => ?_⟩
    have nap : a ≠ p := ne_of_none h hp
    exact A.frame a o (fun z => nap z) (by rw [upd_ne nap]; exact h)
end Vx

set_option Elab.async false
set_option maxRecDepth 100000
set_option linter.all false
/-! __eq__, period, is_periodic. -/
namespace Vx
open PySem PySem.Spec PyProof.Rows L2
def b_row_eq : WS :=
  (wRet (wAndV (wIsRow (wN 1)) (w2 (gEq false) (wKept (wN 0)) (wKept (wN 1)))))

theorem m_eq {los : List Lo} {n : Nat} {P : Lo → Nat → Prop} (h : F_eq los n P) : bodyF 2 b_row_eq los n P := by
  obtain ⟨r1, r2, e, h⟩ := h
  subst e
  simp only [b_row_eq, bodyF]
  simp [wIsRow, rulesT]
  exact h
/-! ### period -/
def perGo : Nat → List (List (List Nat)) → List (List Nat) → Option (List (List (List Nat)))
  | 0, _, _ => none
  | f + 1, prev, last => if last.length ≤ 1 then some prev else if last ∈ prev then none else perGo f (prev ++ [last]) (Rw.below last)
def perOk : Nat → List (List (List Nat)) → List (List Nat) → Bool
  | 0, _, _ => false
  | f + 1, prev, last => if last.length ≤ 1 then true else if last ∈ prev then true else decide (prev.length + 1 ≤ 60) && fitB last && decide ((Rw.below last).length ≤ 60) && perOk f (prev ++ [last]) (Rw.below last)
def up1 (up : List (List Nat)) (w : List Nat) : List Nat := w.flatMap fun a => (Rw.rets up).getD a []
def upOk : List (List (List Nat)) → List Nat → Bool
  | [], _ => true
  | up :: rest, w => (w.all fun a => decide (a < (Rw.rets up).length)) && decide ((up1 up w).length ≤ 100000) && fitB up && upOk rest (up1 up w)
def perWord (ups : List (List (List Nat))) : List Nat := ups.reverse.foldl (fun w up => up1 up w) [0]
def perRes (r : List (List Nat)) : Option (List Nat) := (perGo 62 [] r).map perWord
def perFit (r : List (List Nat)) : Bool := decide (r.length ≤ 60) && perOk 62 [] r && (match perGo 62 [] r with | none => true | some ups => upOk ups.reverse [0])
def F_period : FS := fun los n P => ∃ r, los = [.sh (.row r)] ∧ perFit r = true ∧ (match perRes r with | none => P (.sh .non) n | some w => P (.ow (dnats w)) n)
def b_period : WS :=
  (wSeq (wSet 1 (wLst (wCons (wCallN 2 F_checked (wFCons (wN 0) (wFCons (wC (.int 0)) wFNil))) wNil)))
    (wSeq (wWhile (wTst (w2 (gI0 fun i j => .bl (decide (j < i))) (w1 gLen (wKept (w2 gIx (wB 1) (w1 (gI1 fun i => -i) (wC (.int 1)))))) (wC (.int 1))))
    (wSeq (wIf (wTst (w2 (gInR false) (w2 gIx (wB 1) (w1 (gI1 fun i => -i) (wC (.int 1)))) (wSl (wB 1) wNoP (wPart (w1 (gI1 fun i => -i) (wC (.int 1)))))))
    (wRet (wC .non))
    wSkip)
    (wSeq (wIf (wTst (w2 (gI0 fun i j => .bl (decide (j < i))) (w1 gLen (wB 1)) (wC (.int 60))))
    wNo
    wSkip)
    (wApp 1 (wCallN 2 F_checked (wFCons (wCallN 1 F_below (wFCons (w2 gIx (wB 1) (w1 (gI1 fun i => -i) (wC (.int 1)))) wFNil)) (wFCons (w1 gLen (wB 1)) wFNil)))))))
    (wSeq (wSet 2 (wLst (wCons (wC (.int 0)) wNil)))
    (wSeq (wFor (wIA (wRevL (wSl (wB 1) wNoP (wPart (w1 (gI1 fun i => -i) (wC (.int 1))))))) (.name 3)
    (wSeq (wPar 4 5 (wCallN 1 F_rets (wFCons (wN 3) wFNil)) (wLst wNil))
    (wSeq (wFor (wIA (wN 2)) (.name 6)
    (wExt 5 (w2 gIx (wB 4) (wN 6))))
    (wMove 2 5))))
    (wRetN 2)))))

theorem cut_init (xs : List D) : cutD xs none (some (-1)) = xs.dropLast := by
  unfold cutD
  have e1 : HT.sIx xs.length 0 none = 0 := rfl
  have e2 : HT.sIx xs.length xs.length (some (-1)) = xs.length - 1 := by
    unfold HT.sIx
    dsimp only
    rw [if_pos (by decide)]
    omega
  rw [e1, e2, List.drop_zero, Nat.sub_zero, List.dropLast_eq_take]
theorem up1_cons (up : List (List Nat)) (a : Nat) (w : List Nat) : up1 up (a :: w) = (Rw.rets up).getD a [] ++ up1 up w := by
  unfold up1
  rw [List.flatMap_cons]
theorem lp_word {E : EndsV} (x0 x1 x2 x3 : Option Lo) (n : Nat) (up : List (List Nat)) : ∀ (w acc : List Nat) (x6 : Option Lo), (∀ a ∈ w, a < (Rw.rets up).length) → (acc ++ up1 up w).length ≤ sizeLine →
    (∀ x6, E.nx ⟨[x0, x1, x2, x3, some (.sh (retsD up)), some (.ow (dnats (acc ++ up1 up w))), x6], n⟩) →
    wLoop (.name 6) (wExt 5 (w2 gIx (wB 4) (wN 6))) (dnats w) ⟨[x0, x1, x2, x3, some (.sh (retsD up)), some (.ow (dnats acc)), x6], n⟩ E
  | [], acc, x6, _, _, h => by
    have := h x6
    simpa [up1] using this
  | a :: w, acc, x6, hw, hl, h => by
    show wLoop _ _ (D.int a :: dnats w) _ _
    rw [wLoop_cons]
    have ha := hw a (by simp)
    rw [up1_cons, ← List.append_assoc] at hl
    have ih := lp_word (E := E) x0 x1 x2 x3 n up w (acc ++ (Rw.rets up).getD a []) (some (.sh (.int a))) (fun b hb => hw b (by simp [hb])) hl (fun x6 => by
      have := h x6
      rw [up1_cons, ← List.append_assoc] at this
      exact this)
    have eg : (Rw.rets up)[a]? = some ((Rw.rets up).getD a []) := by simp [List.getD_eq_getElem?_getD, ha]
    have e1 : atI ((Rw.rets up).map dw) (a : Int) = some (dw ((Rw.rets up).getD a [])) := by rw [atI_nat, List.getElem?_map, eg]; rfl
    rw [dnats_append] at ih
    have hl2 : acc.length + ((Rw.rets up).getD a []).length ≤ sizeLine := by
      rw [List.length_append, List.length_append] at hl
      omega
    have hl3 : acc.length + ((Rw.rets up)[a]?.getD []).length ≤ sizeLine := by
      rw [← List.getD_eq_getElem?_getD]; exact hl2
    rw [List.getD_eq_getElem?_getD] at ih e1
    simp [retsD, e1, dw, hl3] at ih ⊢
    exact ih
theorem lp_up {E : EndsV} (x0 x1 : Option Lo) (n : Nat) : ∀ (us : List (List (List Nat))) (w : List Nat) (x3 x4 x5 x6 : Option Lo), upOk us w = true →
    (∀ x3 x4 x5 x6, E.nx ⟨[x0, x1, some (.ow (dnats (us.foldl (fun w up => up1 up w) w))), x3, x4, x5, x6], n⟩) →
    wLoop (.name 3)
    (wSeq (wPar 4 5 (wCallN 1 F_rets (wFCons (wN 3) wFNil)) (wLst wNil))
    (wSeq (wFor (wIA (wN 2)) (.name 6)
    (wExt 5 (w2 gIx (wB 4) (wN 6))))
    (wMove 2 5))) (us.map D.row) ⟨[x0, x1, some (.ow (dnats w)), x3, x4, x5, x6], n⟩ E
  | [], w, x3, x4, x5, x6, _, h => by
    have := h x3 x4 x5 x6
    simpa using this
  | u :: us, w, x3, x4, x5, x6, ho, h => by
    unfold upOk at ho
    simp only [Bool.and_eq_true, decide_eq_true_eq, List.all_eq_true] at ho
    obtain ⟨⟨⟨o1, o2⟩, o3⟩, o4⟩ := ho
    have hx : ([] ++ up1 u w).length ≤ sizeLine := by rw [List.nil_append, sizeLine_eq]; omega
    rw [List.map_cons, wLoop_cons]
    dsimp only [bindT_name]
    simp
    rw [wSeq_ap]
    simp
    refine ⟨u, rfl, o3, ?_⟩
    dsimp only
    simp
    rw [wSeq_ap]
    simp
    refine lp_word _ _ _ _ n u w [] _ o1 hx (fun x6 => ?_)
    simp
    exact lp_up x0 x1 n us (up1 u w) _ _ _ _ o4 (fun x3 x4 x5 x6 => h x3 x4 x5 x6)
def InvP (r : List (List Nat)) (n m : Nat) (vs : VS) : Prop := ∃ prev last, vs = ⟨[some (.sh (.row r)), some (.ow ((prev ++ [last]).map D.row)), none, none, none, none, none], n⟩ ∧ perOk m prev last = true ∧ perGo m prev last = perGo 62 [] r ∧ last.length ≤ 60 ∧ prev.length ≤ 60
theorem m_period {los : List Lo} {n : Nat} {P : Lo → Nat → Prop} (h : F_period los n P) : bodyF 7 b_period los n P := by
  obtain ⟨r, e, hf, h⟩ := h
  subst e
  unfold perFit at hf
  simp only [Bool.and_eq_true, decide_eq_true_eq] at hf
  obtain ⟨⟨hr, hok⟩, hup⟩ := hf
  simp only [b_period, bodyF]
  rw [wSeq_ap]
  simp
  refine ⟨r, .int 0, rfl, hr, ?_⟩
  have s1 : 1 ≤ sizeLine := by rw [sizeLine_eq]; decide
  simp [s1]
  rw [wSeq_ap]
  refine ⟨InvP r n, ⟨62, [], r, rfl, hok, rfl, hr, by decide⟩, ?_⟩
  rintro m vs ⟨prev, last, e, ho, hg, hl, hp⟩
  subst e
  have a1 : atI (prev.map D.row ++ [D.row last]) (-1) = some (.row last) := atI_last _ _
  cases m with
  | zero => unfold perOk at ho; cases ho
  | succ m =>
    unfold perOk at ho
    have eg : perGo (m + 1) prev last = if last.length ≤ 1 then some prev else if last ∈ prev then none else perGo m (prev ++ [last]) (Rw.below last) := rfl
    rw [eg] at hg
    by_cases h1 : last.length ≤ 1
    · rw [if_pos h1] at hg
      have n1 : ¬ (1 : Int) < (last.length : Int) := by omega
      have gU : perGo 62 [] r = some prev := hg.symm
      rw [gU] at hup
      have hP : P (.ow (dnats (perWord prev))) n := by
        unfold perRes at h
        rw [gU] at h
        exact h
      simp [a1, rulesT, n1]
      rw [wSeq_ap]
      simp [s1]
      rw [wSeq_ap]
      have e1 : cutD (prev.map D.row ++ [D.row last]) none (some (-1)) = prev.map D.row := by rw [cut_init, List.dropLast_concat]
      simp [e1]
      rw [← List.map_reverse]
      refine lp_up _ _ n prev.reverse [0] _ _ _ _ hup (fun x3 x4 x5 x6 => ?_)
      have ew : perWord prev = prev.foldr (fun x y => up1 x y) [0] := by unfold perWord; rw [List.foldl_reverse]
      rw [ew] at hP
      simp
      exact hP
    · rw [if_neg h1] at hg ho
      have n1 : (1 : Int) < (last.length : Int) := by omega
      have e1 : cutD (prev.map D.row ++ [D.row last]) none (some (-1)) = prev.map D.row := by rw [cut_init, List.dropLast_concat]
      by_cases h2 : last ∈ prev
      · rw [if_pos h2] at hg
        have gU : perGo 62 [] r = none := hg.symm
        have hP : P (.sh .non) n := by
          unfold perRes at h
          rw [gU] at h
          exact h
        simp [a1, rulesT, n1]
        rw [wSeq_ap]
        simp [a1, e1]
        refine ⟨prev, rfl, ?_⟩
        have hm : (prev.any fun z => decide (z = last)) = true := List.any_eq_true.mpr ⟨last, h2, by simp⟩
        simp [hm]
        exact hP
      · rw [if_neg h2] at hg ho
        simp only [Bool.and_eq_true, decide_eq_true_eq] at ho
        obtain ⟨⟨⟨o1, o2⟩, o3⟩, o4⟩ := ho
        have hm : (prev.any fun z => decide (z = last)) = false := by
          rw [List.any_eq_false]
          intro z hz
          simp
          intro e
          exact h2 (e ▸ hz)
        simp [a1, rulesT, n1]
        rw [wSeq_ap]
        simp [a1, e1]
        refine ⟨prev, rfl, ?_⟩
        simp [hm]
        rw [wSeq_ap]
        have n2 : ¬ (60 : Int) < (prev.length : Int) + 1 := by omega
        simp [n2]
        rw [a1]
        refine ⟨last, rfl, o2, ?_⟩
        dsimp only
        refine ⟨Rw.below last, _, rfl, o3, ?_⟩
        dsimp only
        refine ⟨by rw [List.length_append, List.length_map, List.length_singleton, sizeLine_eq]; omega, m, by omega, prev ++ [last], Rw.below last, ?_, o4, hg, o3, by simp; omega⟩
        simp
def F_isper : FS := fun los n P => ∃ r, los = [.sh (.row r)] ∧ perFit r = true ∧ P (.sh (.bl (perRes r).isSome)) n
def b_is_periodic : WS :=
  (wRet (wIsN true (wCallN 1 F_period (wFCons (wN 0) wFNil))))
theorem m_isper {los : List Lo} {n : Nat} {P : Lo → Nat → Prop} (h : F_isper los n P) : bodyF 1 b_is_periodic los n P := by
  obtain ⟨r, e, hf, h⟩ := h
  subst e
  simp only [b_is_periodic, bodyF]
  simp
  refine ⟨r, rfl, hf, ?_⟩
  cases e : perRes r with
  | none =>
    rw [e] at h
    simpa using h
  | some w =>
    rw [e] at h
    simpa using h
end Vx

set_option Elab.async false
set_option maxRecDepth 100000
set_option linter.all false
/-! The law's own defs: rows made from rules, figures read. -/
namespace Vx
open PySem PySem.Spec PyProof.Rows L2
def F_made : FS := fun los n P => ∃ r, los = [.sh (rulesL r)] ∧ fitR r = true ∧ P (.sh (.row r)) n
def b_law_made : WS :=
  (wRet (wMk (wComp (wIA (wN 0)) [1] (.name 1) wYes (w1 gList (wB 1)))))

theorem m_made {los : List Lo} {n : Nat} {P : Lo → Nat → Prop} (h : F_made los n P) : bodyF 2 b_law_made los n P := by
  obtain ⟨r, e, hf, h⟩ := h
  subst e
  have hl := (fitR_good hf).2
  have hz : r.length ≤ sizeLine := by rw [sizeLine_eq]; omega
  simp only [b_law_made, bodyF]
  simp [rulesL]
  refine map_all (g := fun d => d) _ [] _ (by simpa using hz) (fun d hd Q' hq => ?_) ?_
  · obtain ⟨w, hw, e⟩ := List.mem_map.mp hd
    subst e
    simp [dwl]
    exact hq _ _ rfl (by simp)
  · have er : rulesOf (.lst (r.map dwl)) = some r := rulesOf_of r
    have e2 : ([] ++ (r.map dwl).map fun d => d) = r.map dwl := by
      rw [List.nil_append]
      exact List.map_id' _
    rw [e2]
    simp only [er, Lo.dat?]
    exact ⟨hf, h⟩
/-- the figures of a wording -/
def figC (c : Nat) : Option Nat := match PySem.intText? ⟨#[c]⟩ with
  | some i => if 0 ≤ i then some i.toNat else none
  | none => none
def figW : List Nat → Option (List Nat)
  | [] => some []
  | c :: cs => match figC c, figW cs with
    | some a, some w => some (a :: w)
    | _, _ => none
def figR : List Str → Option (List (List Nat))
  | [] => some []
  | p :: ps => match figW p.cps.toList, figR ps with
    | some w, some r => some (w :: r)
    | _, _ => none
def figs (x : Str) : Option (List (List Nat)) := if x.length ≤ 1000 ∧ (Txt.split x ",").length ≤ 1000 ∧ (∀ p ∈ Txt.split x ",", p.cps.toList.length ≤ 1000) then figR (Txt.split x ",") else none
def F_figures : FS := fun los n P => ∃ x r, los = [.sh (.str x)] ∧ figs x = some r ∧ P (.ow (r.map dwl)) n
def b_law_figures : WS :=
  (wRet (wComp (wIA (wBm Lo.isStr gSplit (wB 0) (wC (.str ",")))) [1] (.name 1) wYes (wComp (wIA (wN 1)) [2] (.name 2) wYes (w1 gInt (wB 2)))))

theorem figC_int {c a : Nat} (h : figC c = some a) : PySem.intText? ⟨#[c]⟩ = some (a : Int) := by
  unfold figC at h
  split at h
  · rename_i i e
    split at h
    · cases h
      rw [e]
      congr 1
      omega
    · cases h
  · cases h
theorem figW_get : ∀ {cs : List Nat} {w : List Nat}, figW cs = some w → ∀ c ∈ cs, ∃ a, figC c = some a
  | [], w, h, c, hc => by simp at hc
  | d :: cs, w, h, c, hc => by
    unfold figW at h
    split at h
    · rename_i a w' e1 e2
      rw [List.mem_cons] at hc
      rcases hc with hc | hc
      · exact ⟨a, by rw [hc]; exact e1⟩
      · exact figW_get e2 c hc
    · cases h
theorem figW_map : ∀ {cs : List Nat} {w : List Nat}, figW cs = some w → (cs.map fun c => match figC c with | some a => D.int (a : Nat) | none => D.non) = dnats w
  | [], w, h => by cases h; rfl
  | d :: cs, w, h => by
    unfold figW at h
    split at h
    · rename_i a w' e1 e2
      cases h
      rw [List.map_cons, e1, figW_map e2]; rfl
    · cases h
theorem figR_get : ∀ {ps : List Str} {r : List (List Nat)}, figR ps = some r → ∀ p ∈ ps, ∃ w, figW p.cps.toList = some w
  | [], r, h, p, hp => by simp at hp
  | q :: ps, r, h, p, hp => by
    unfold figR at h
    split at h
    · rename_i w r' e1 e2
      rw [List.mem_cons] at hp
      rcases hp with hp | hp
      · exact ⟨w, by rw [hp]; exact e1⟩
      · exact figR_get e2 p hp
    · cases h
theorem figR_map : ∀ {ps : List Str} {r : List (List Nat)}, figR ps = some r → (ps.map fun p => match figW p.cps.toList with | some w => dwl w | none => D.non) = r.map dwl
  | [], r, h => by cases h; rfl
  | q :: ps, r, h => by
    unfold figR at h
    split at h
    · rename_i w r' e1 e2
      cases h
      rw [List.map_cons, e1, figR_map e2]; rfl
    · cases h
theorem m_figures {los : List Lo} {n : Nat} {P : Lo → Nat → Prop} (h : F_figures los n P) : bodyF 3 b_law_figures los n P := by
  obtain ⟨x, r, e, hf, h⟩ := h
  subst e
  unfold figs at hf
  split at hf
  · rename_i hc
    obtain ⟨c1, c2, c3⟩ := hc
    have hx : x.length + 2 ≤ sizeLine := by rw [sizeLine_eq]; omega
    have hz : (Txt.split x ",").length ≤ sizeLine := by rw [sizeLine_eq]; omega
    simp only [b_law_figures, bodyF]
    simp
    refine ⟨by decide +kernel, hx, ?_⟩
    refine map_all (g := fun d => match d with | .str p => (match figW p.cps.toList with | some w => dwl w | none => D.non) | d => d) _ [] _ (by simpa using hz) (fun d hd Q' hq => ?_) ?_
    · obtain ⟨p, hp, e⟩ := List.mem_map.mp hd
      subst e
      obtain ⟨w, hw⟩ := figR_get hf p hp
      have hz2 : p.cps.toList.length ≤ sizeLine := by
        have := c3 p hp
        rw [sizeLine_eq]; omega
      simp
      refine map_all (g := fun d => match d with | .str ⟨a⟩ => (match figC (a.getD 0 0) with | some a => D.int (a : Nat) | none => D.non) | d => d) _ [] _ (by simpa using hz2) (fun d hd Q2 hq2 => ?_) ?_
      · obtain ⟨c, hc, e⟩ := List.mem_map.mp hd
        subst e
        obtain ⟨a, ha⟩ := figW_get hw c hc
        have hi := figC_int ha
        simp [hi]
        refine ⟨by show 1 ≤ 640; decide, hq2 _ _ ?_ (by simp)⟩
        simp [ha]
      · have e2 : ([] ++ ((p.cps.toList.map fun c => D.str ⟨#[c]⟩).map fun d => match d with | .str ⟨a⟩ => (match figC (a.getD 0 0) with | some a => D.int (a : Nat) | none => D.non) | d => d)) = dnats w := by
          rw [List.nil_append, List.map_map, ← figW_map hw]
          refine List.map_congr_left fun c _ => ?_
          rfl
        rw [e2]
        refine hq _ _ ?_ (by simp)
        simp [hw, dwl]
    · have e2 : ([] ++ (((Txt.split x ",").map D.str).map fun d => match d with | .str p => (match figW p.cps.toList with | some w => dwl w | none => D.non) | d => d)) = r.map dwl := by
        rw [List.nil_append, List.map_map, ← figR_map hf]
        rfl
      rw [e2]
      exact h
  · cases hf
end Vx

set_option Elab.async false
set_option maxRecDepth 100000
set_option linter.all false
/-! A list of rows: where a row stands first. -/
namespace Vx
open PySem PySem.Spec PyProof.Rows L2
open AutoSeq1 (wpAny_loadPart')
open MeetsSeq MeetsSeq2 MeetsSeq3 SeqRoads2
section
variable {prog : Program} {w : World} {A : Around} {R : Result → Shared → Prop}
theorem index_walk (l : Addr) (x : Value) (j N : Nat) (hj : j < N) (upto : Int) (hup : (j : Int) < upto) (I : Nat → Shared → Prop) (J : Shared → Prop)
    (turn : ∀ i s, i ≤ j → I i s → ∃ (items : Array Value) (n : Nat), s.heap.get? l = some { cls := .type "list", data := .seq items n } ∧ items.size = N ∧
      ∀ h : i < items.size, wpAny (model prog w) A.in1 (eqBool items[i] x) (fun r s' => r = decide (i = j) ∧ (i = j → J s') ∧ (i ≠ j → I (i + 1) s')) (fun er s' => R (.error er) s') s)
    (fin : ∀ s, J s → R (.ok (.ret (.int j s.toks))) { s with toks := s.toks + 1 }) (k : Nat) :
    ∀ i : Nat, j - i = k → i ≤ j → ∀ s, I i s →
      wpAny (model prog w) A.in1 (Builtin.«list.index.loop» ⟨[.ref l, x, rawInt i, rawInt upto], []⟩) (GQ.FinOf prog w A R) (fun er s' => R (.error er) s') s := by
  induction k with
  | zero =>
    intro i hk hi s h
    obtain ⟨items, n, hl, hsz, ht⟩ := turn i s hi h
    have ei : i = j := by omega
    have lt : i < items.size := by omega
    have t1 := ht lt
    obtain ⟨hp, g, d, tk, os⟩ := s
    wp_walk using wpAny_loadPart' hl
    have hst : (i : Int) < upto := by omega
    have hi' : (if (i : Int) < upto then items[((i : Nat) : Int).toNat]? else none) = some items[i] := by simp [hst, lt]
    rw [hi']
    refine wpAny_bind (wpAny_mono t1 (fun r s2 q => ?_) fun _ _ z => z)
    obtain ⟨er, qt, qf⟩ := q
    have er' : r = true := by rw [er]; simpa using ei
    subst er'
    have f := fin s2 (qt ei)
    obtain ⟨hp2, g2, d2, tk2, os2⟩ := s2
    wp_walk
    rw [ei]
    exact f
  | succ k ih =>
    intro i hk hi s h
    obtain ⟨items, n, hl, hsz, ht⟩ := turn i s hi h
    have lt : i < items.size := by omega
    have t1 := ht lt
    obtain ⟨hp, g, d, tk, os⟩ := s
    wp_walk using wpAny_loadPart' hl
    have hst : (i : Int) < upto := by omega
    have hi' : (if (i : Int) < upto then items[((i : Nat) : Int).toNat]? else none) = some items[i] := by simp [hst, lt]
    have next : ((i : Int) + 1) = ((i + 1 : Nat) : Int) := by omega
    rw [hi']
    refine wpAny_bind (wpAny_mono t1 (fun r s2 q => ?_) fun _ _ z => z)
    obtain ⟨er, qt, qf⟩ := q
    have ne : i ≠ j := by omega
    have er' : r = false := by rw [er]; simpa using ne
    subst er'
    have rec_ := ih (i + 1) (by omega) (by omega) s2 (qf ne)
    obtain ⟨hp2, g2, d2, tk2, os2⟩ := s2
    wp_walk
    rw [next]
    exact ⟨plainId_quiet plain_index_loop _, codeAny_builtin entry_index_loop (by
      rw [Around.under_plainId plain_index_loop _]
      exact rec_)⟩
theorem index_start (l : Addr) (x : Value) (j N : Nat) (hj : j < N) (hup : (j : Int) < 2 ^ 63 - 1) (I : Nat → Shared → Prop) (J : Shared → Prop)
    (turn : ∀ i s, i ≤ j → I i s → ∃ (items : Array Value) (n : Nat), s.heap.get? l = some { cls := .type "list", data := .seq items n } ∧ items.size = N ∧
      ∀ h : i < items.size, wpAny (model prog w) A.in1 (eqBool items[i] x) (fun r s' => r = decide (i = j) ∧ (i = j → J s') ∧ (i ≠ j → I (i + 1) s')) (fun er s' => R (.error er) s') s)
    (fin : ∀ s, J s → R (.ok (.ret (.int j s.toks))) { s with toks := s.toks + 1 }) {s : Shared} (h : I 0 s) :
    wpAny (model prog w) A.in1 (Builtin.«list.index» ⟨[.ref l, x], []⟩) (GQ.FinOf prog w A R) (fun er s' => R (.error er) s') s := by
  have rec_ := index_walk l x j N hj (2 ^ 63 - 1) hup I J turn fin j 0 (by omega) (by omega) s h
  obtain ⟨items, n, hl, _, _⟩ := turn 0 s (by omega) h
  obtain ⟨hp, g, d, tk, os⟩ := s
  have f1 := AutoSeq1.idx_int
  wp_walk using wpAny_loadPart' hl
  have a1 : ((fun i : Int => if i < 0 then max 0 (i + (items.size : Int)) else i) ((none : Option Int).getD 0)) = ((0 : Nat) : Int) := by simp
  have a2 : ((fun i : Int => if i < 0 then max 0 (i + (items.size : Int)) else i) ((none : Option Int).getD (2 ^ 63 - 1))) = 2 ^ 63 - 1 := by simp
  rw [a1, a2]
  exact ⟨plainId_quiet plain_index_loop _, codeAny_builtin entry_index_loop (by
    rw [Around.under_plainId plain_index_loop _]
    exact rec_)⟩
end
theorem ne_of_lt_idxOf {α : Type} [BEq α] [LawfulBEq α] {k : α} : ∀ {ks : List α} {j : Nat}, j < ks.idxOf k → ∀ (h2 : j < ks.length), ks[j] ≠ k
  | n :: r, 0, h, _ => by
    intro e
    have e' : n = k := e
    rw [e', List.idxOf_cons] at h
    simp at h
  | n :: r, j + 1, h, h2 => by
    rw [List.idxOf_cons] at h
    by_cases e : (n == k) = true
    · rw [e] at h; cases h
    · rw [Bool.not_eq_true] at e
      rw [e] at h
      exact ne_of_lt_idxOf (Nat.lt_of_succ_lt_succ h) (Nat.lt_of_succ_lt_succ h2)
section
variable {X : Cx} {C : Addr} {k : Nat}
def rIdxRow (C : Addr) : V → List V → Hp → VK → Prop := fun x xs H Q => ∃ (W : Wd) (n : Nat) (a : Addr) (r : List (List Nat)) (p : Addr) (ws : List V) (rs : List (List (List Nat))), x = .ref p ∧ xs = [.ref a] ∧ WOk (thR C) W H n ∧ W.R a = some r ∧ H p = some (.lst ws) ∧ (¬ W.D p ∨ W.S p = some (.lst ws)) ∧ RepL W (rs.map D.row) ws ∧ r ∈ rs ∧ rs.length ≤ sizeLine ∧
  ∀ W' H', After (thR C) W H W' H' n → Q (.int (rs.idxOf r : Nat)) H'
theorem mt_idxR (VQ : EqV X.prog X.w X.K X.mg X.base C k) (hr : Room (k + 1) X.A) : MtR X "list.index" (rIdxRow C) := by
  intro pins s σ H x xs v us Q I rx rxs h
  obtain ⟨W, n, a, r, p, ws, rs, rfl, rfl, ok, ha, hp, hd, hw, hm, hz, q⟩ := h
  cases rx
  cases rxs with
  | cons ry rt =>
  cases rt
  cases ry
  have stay : ∀ {W' : Wd} {H' : Hp}, After (thR C) W H W' H' n → H' p = some (.lst ws) := fun {W' H'} A => by
    rcases hd with hd | hd
    · exact A.frame _ _ hd hp
    · exact (A.ok.s _ _ (A.le.s _ _ hd)).1
  obtain ⟨z0, its0, k0, v0, e0⟩ := I.hok p _ hp
  have hj : rs.idxOf r < rs.length := List.idxOf_lt_length_iff.mpr hm
  rw [sizeLine_eq] at hz
  refine GQ.call_here PySem.F.slot_list_index ⟨_, e0, rfl⟩ PySem.F.entry_list_index (PySem.F.args_list_index_2 _ _) ?_
  refine index_start p (.ref a) (rs.idxOf r) rs.length hj (by omega) (fun _ s' => AskI X C pins σ W H n s') (fun s' => AskI X C pins σ W H n s') (fun i s' hi h => ?_) (fun s' h => ?_) ⟨W, H, I, After.refl ok⟩
  · obtain ⟨W', H', I', A'⟩ := h
    obtain ⟨z, its, c, vr, e⟩ := I'.hok p _ (stay A')
    have hl : its.length = rs.length := by rw [← vr.length, hw.length, List.length_map]
    refine ⟨its.toArray, c, e, by rw [List.size_toArray]; exact hl, fun hlt => ?_⟩
    rw [List.size_toArray, hl] at hlt
    have er : (rs.map D.row)[i]? = some (.row rs[i]) := by rw [List.getElem?_map, List.getElem?_eq_getElem hlt]; rfl
    obtain ⟨v, ev, b, eb, hb⟩ := hw.get er
    obtain ⟨u, eu, ru⟩ := vr.get ev
    subst eb
    cases ru
    have ei : its.toArray[i] = .ref b := by
      have := (List.getElem?_eq_some_iff.mp eu).2
      simpa using this
    rw [ei]
    refine wpAny_mono (eq_rows VQ ⟨hr.in1, rfl⟩ I' A'.ok (A'.le.r _ _ hb) (A'.le.r _ _ ha)) (fun x s2 q2 => ?_) fun _ _ z => z
    obtain ⟨e1, W2, H2, I2, A2⟩ := q2
    have e3 : decide (rs[i] = r) = decide (i = rs.idxOf r) := by
      by_cases z : i = rs.idxOf r
      · rw [decide_eq_true z, decide_eq_true_eq]
        simp only [z]
        exact List.getElem_idxOf hj
      · rw [decide_eq_false z, decide_eq_false_iff_not]
        exact ne_of_lt_idxOf (by omega) hlt
    exact ⟨by rw [← e3]; exact e1, fun _ => ⟨W2, H2, I2, A'.trans A2⟩, fun _ => ⟨W2, H2, I2, A'.trans A2⟩⟩
  · obtain ⟨W', H', I', A'⟩ := h
    exact ⟨.int _, H', I'.tok _, ⟨_, rfl⟩, q W' H' A'⟩
end
section
variable {C : Addr} {X : Cx} {W0 W W' W1 : Wd} {H0 H H' : Hp} {O O' : Addr → Option Ow} {vs : VS} {σ : L2.St} {tm : List (V × Lo)} {o a : Expr} {fo fa : WE} {apos cpos : Pos} {k : Nat}
def gIdxR : G2 := fun a b vs Q => match b, a.lst? with
  | .sh (.row r), some ds => ∃ rs : List (List (List Nat)), ds = rs.map D.row ∧ r ∈ rs ∧ rs.length ≤ sizeLine ∧ Q (.sh (.int (rs.idxOf r : Nat))) vs
  | _, _ => False
theorem snd_gIdxR : Snd2 (thR C) (fun x y H Q => rIdxRow C x [y] H Q) gIdxR := fun W0 H0 W H O vs σ tm x y a b Q Q' hf R kk => by
  unfold gIdxR at hf
  split at hf
  · rename_i r ds e1
    obtain ⟨rs, eds, hm, hz, q⟩ := hf
    subst eds
    obtain ⟨a, ea, ha⟩ := (show Rep W (.row r) y from R.top)
    obtain ⟨p, ws, ep, hp, rp, hd⟩ := R.lstD R.pop.top e1
    refine ⟨W, vs.n, a, r, p, ws, rs, ep, by rw [ea], R.ok, ha, hp, hd, rp, hm, hz, fun W' H' A => ?_⟩
    have R1 := R.pop.pop.over A.le A.ok A.frame A.grow.1 A.grow.2
    exact kk W' H' O vs _ _ A.le q (R1.push (by simp [Rep]))
  · exact hf.elim
theorem ve_indexR (VQ : EqV X.prog X.w X.K X.mg X.base C k) (hr : Room (k + 1) X.A) (ho : VE (thR C) X o fo) (ha : VE (thR C) X a fa)
    (hbase : attributeBase o "index" X.env (eval o X.env) = eval o X.env := by rfl)
    (hfew : ((backTo cpos (starEach (a :: []) X.env)).all (fun x => !x.1) && (backToKw cpos (keywordEach [] X.env)).all (fun x => x.1.isSome) && decide ((a :: []).length + ([] : List Keyword).length + (if ([] : List Keyword).isEmpty then 0 else 1) < 30)) = true := by rfl)
    (hline : (apos.endLine == cpos.line) = true := by rfl) (hs : starEach (a :: []) X.env = (false, eval a X.env) :: starEach [] X.env := by rfl) :
    VE (thR C) X (.Call (.Attribute o "index" apos) [a] [] cpos) (wBm Lo.isLst gIdxR fo fa) :=
  ve_bm1 PySem.F.plainAttrs_list PySem.F.slot_list_index PySem.F.type_list_index (mt_idxR VQ hr) isLst_ty snd_gIdxR ho ha hbase hfew hline hs
end
end Vx

set_option Elab.async false
set_option maxRecDepth 100000
set_option linter.all false
/-! returns, levels. -/
namespace Vx
open PySem PySem.Spec PyProof.Rows L2
theorem szle {k : Nat} (h : k ≤ 10000) : k ≤ sizeLine := by rw [sizeLine_eq]; omega
def F_returns : FS := fun los n P => ∃ r, los = [.sh (.row r)] ∧ fitB r = true ∧ (Rw.rets r).length ≤ 10000 ∧ P (.ow ((Rw.rets r).map dwl)) n
def b_returns : WS :=
  (wRet (wComp (wIA (wCallN 1 F_rets (wFCons (wN 0) wFNil))) [1] (.name 1) wYes (w1 gList (wB 1))))
theorem m_returns {los : List Lo} {n : Nat} {P : Lo → Nat → Prop} (h : F_returns los n P) : bodyF 2 b_returns los n P := by
  obtain ⟨r, e, hf, hl, h⟩ := h
  subst e
  simp only [b_returns, bodyF]
  simp
  refine ⟨r, rfl, hf, ?_⟩
  dsimp only
  simp [retsD]
  refine map_all (g := fun d => match d with | .tup xs => .lst xs | d => d) _ [] _ (by simpa using szle hl) (fun d hd Q' hq => ?_) ?_
  · obtain ⟨w, hw, e⟩ := List.mem_map.mp hd
    subst e
    simp [dw]
    exact hq _ _ rfl (by simp)
  · have : ([] ++ ((Rw.rets r).map dw).map fun d => match d with | .tup xs => .lst xs | d => d) = (Rw.rets r).map dwl := by
      rw [List.nil_append, List.map_map]
      rfl
    rw [this]
    exact h
def b_return_row : WS :=
  (wRet (wCallN 1 F_below (wFCons (wN 0) wFNil)))
theorem m_rrow {los : List Lo} {n : Nat} {P : Lo → Nat → Prop} (h : F_below los n P) : bodyF 1 b_return_row los n P := by
  obtain ⟨r, e, hf, h⟩ := h
  subst e
  simp only [b_return_row, bodyF]
  simp
  exact ⟨r, rfl, hf, h⟩
def F_chlevel : FS := fun los n P => ∃ m : Nat, los = [.sh (.int m)] ∧ m ≤ 60 ∧ P (.sh .non) n
def b_check_level : WS :=
  (wIf (wNot (wChain (fun i j => decide (i ≤ j)) (fun i j => decide (i ≤ j)) (wC (.int 0)) (wB 0) (wC (.int 60))))
    wNo
    wSkip)
theorem m_chlevel {los : List Lo} {n : Nat} {P : Lo → Nat → Prop} (h : F_chlevel los n P) : bodyF 1 b_check_level los n P := by
  obtain ⟨m, e, hm, h⟩ := h
  subst e
  simp only [b_check_level, bodyF]
  have h1 : (m : Int) ≤ 60 := by omega
  simp [h1]
  exact h
/-! ### level -/
def dnGo : Nat → List (List Nat) → Option (List (List Nat))
  | 0, r => some r
  | k + 1, r => if fitB r = true ∧ (Rw.below r).length ≤ 60 then dnGo k (Rw.below r) else none
def F_level : FS := fun los n P => ∃ (r : List (List Nat)) (m : Nat) (r' : List (List Nat)), los = [.sh (.row r), .sh (.int m)] ∧ m ≤ 60 ∧ r.length ≤ 60 ∧ dnGo m r = some r' ∧ P (.sh (.row r')) n
def b_level : WS :=
  (wSeq (wDrop (wCallN 1 F_chlevel (wFCons (wN 1) wFNil)))
    (wSeq (wSet 2 (wCallN 2 F_checked (wFCons (wN 0) (wFCons (wC (.int 0)) wFNil))))
    (wSeq (wFor (wIR1 (wN 1)) (.name 3)
    (wSet 2 (wCallN 2 F_checked (wFCons (wCallN 1 F_below (wFCons (wN 2) wFNil)) (wFCons (w2 gAdd (wB 3) (wC (.int 1))) wFNil)))))
    (wRetN 2))))
theorem lp_level {E : EndsV} (x0 x1 : Option Lo) (n : Nat) (r' : List (List Nat)) : ∀ (l : List Int) (r : List (List Nat)) (x3 : Option Lo), dnGo l.length r = some r' → (∀ x3, E.nx ⟨[x0, x1, some (.sh (.row r')), x3], n⟩) →
    wLoop (.name 3) (wSet 2 (wCallN 2 F_checked (wFCons (wCallN 1 F_below (wFCons (wN 2) wFNil)) (wFCons (w2 gAdd (wB 3) (wC (.int 1))) wFNil)))) (l.map D.int) ⟨[x0, x1, some (.sh (.row r)), x3], n⟩ E
  | [], r, x3, h, k => by
    have e : r = r' := Option.some.inj h
    subst e
    exact k x3
  | i :: l, r, x3, h, k => by
    rw [List.length_cons] at h
    unfold dnGo at h
    split at h
    · rename_i hh
      rw [List.map_cons, wLoop_cons]
      dsimp only [bindT_name]
      simp
      refine ⟨r, rfl, hh.1, ?_⟩
      dsimp only
      refine ⟨_, _, rfl, hh.2, ?_⟩
      simp
      exact lp_level x0 x1 n r' l (Rw.below r) _ h k
    · cases h
theorem m_level {los : List Lo} {n : Nat} {P : Lo → Nat → Prop} (h : F_level los n P) : bodyF 4 b_level los n P := by
  obtain ⟨r, m, r', e, hm, hr, hd, h⟩ := h
  subst e
  simp only [b_level, bodyF]
  rw [wSeq_ap]
  simp
  refine ⟨m, rfl, hm, ?_⟩
  dsimp only
  rw [wSeq_ap]
  simp
  refine ⟨r, .int 0, rfl, hr, ?_⟩
  simp
  rw [wSeq_ap]
  simp
  refine ⟨by omega, ?_⟩
  have e : rng 0 m 1 = ((List.range m).map fun i => (0 + (i : Nat) * 1 : Int)).map D.int := by unfold rng; rw [List.map_map]; rfl
  rw [e]
  refine lp_level _ _ n r' _ r none (by simpa using hd) (fun x3 => ?_)
  simp
  exact h
/-! ### levels_of -/
def lvGo : Nat → List (List (List Nat)) → List (List Nat) → Option (List (List (List Nat)) × Nat)
  | 0, _, _ => none
  | f + 1, prev, last => if prev.length + 1 ≤ 60 ∧ fitB last = true ∧ (Rw.below last).length ≤ 60 then
      (if Rw.below last ∈ prev ++ [last] then some (prev ++ [last], (prev ++ [last]).idxOf (Rw.below last)) else lvGo f (prev ++ [last]) (Rw.below last)) else none
def F_levels : FS := fun los n P => ∃ r fd, los = [.sh (.row r)] ∧ r.length ≤ 60 ∧ lvGo 61 [] r = some fd ∧ P (.sh (.tup [.lst (fd.1.map D.row), .int fd.2])) n
def b_levels_of : WS :=
  (wSeq (wSet 1 (wLst (wCons (wCallN 2 F_checked (wFCons (wN 0) (wFCons (wC (.int 0)) wFNil))) wNil)))
    (wSeq (wWhile (wTst (w2 (gI0 fun i j => .bl (decide (i ≤ j))) (w1 gLen (wB 1)) (wC (.int 60))))
    (wSeq (wSet 2 (wCallN 2 F_checked (wFCons (wCallN 1 F_below (wFCons (w2 gIx (wB 1) (w1 (gI1 fun i => -i) (wC (.int 1)))) wFNil)) (wFCons (w1 gLen (wB 1)) wFNil))))
    (wSeq (wIf (wTst (w2 (gInR false) (wB 2) (wB 1)))
    (wRet (wTup (wCons (wN 1) (wCons (wBm Lo.isLst gIdxR (wB 1) (wN 2)) wNil))))
    wSkip)
    (wApp 1 (wN 2)))))
    wNo))
def InvV (r : List (List Nat)) (n m : Nat) (vs : VS) : Prop := ∃ prev last x2, vs = ⟨[some (.sh (.row r)), some (.ow ((prev ++ [last]).map D.row)), x2], n⟩ ∧ (∃ fd, lvGo m prev last = some fd) ∧ lvGo m prev last = lvGo 61 [] r
theorem m_levels {los : List Lo} {n : Nat} {P : Lo → Nat → Prop} (h : F_levels los n P) : bodyF 3 b_levels_of los n P := by
  obtain ⟨r, fd, e, hr, hg, h⟩ := h
  subst e
  simp only [b_levels_of, bodyF]
  have s1 : 1 ≤ sizeLine := szle (by decide)
  rw [wSeq_ap]
  simp
  refine ⟨r, .int 0, rfl, hr, ?_⟩
  simp [s1]
  rw [wSeq_ap]
  refine ⟨InvV r n, ⟨61, [], r, none, rfl, ⟨fd, hg⟩, rfl⟩, ?_⟩
  rintro m vs ⟨prev, last, x2, e, ⟨fd', hs⟩, hg'⟩
  subst e
  have a1 : atI (prev.map D.row ++ [D.row last]) (-1) = some (.row last) := atI_last _ _
  cases m with
  | zero => unfold lvGo at hs; cases hs
  | succ m =>
    rw [hg'] at hs
    rw [hg] at hs
    have hs' := Option.some.inj hs
    subst hs'
    rw [hg] at hg'
    unfold lvGo at hg'
    split at hg'
    · rename_i hh
      obtain ⟨h1, h2, h3⟩ := hh
      have h1' : ((prev.length : Int) + 1) ≤ 60 := by omega
      simp [h1']
      rw [wSeq_ap]
      simp [a1]
      refine ⟨last, rfl, h2, ?_⟩
      dsimp only
      refine ⟨_, _, rfl, h3, ?_⟩
      simp
      rw [wSeq_ap]
      simp
      refine ⟨prev ++ [last], by simp, ?_⟩
      split at hg'
      · rename_i hm
        have e1 := Option.some.inj hg'
        have hany : ((prev ++ [last]).any fun z => decide (z = Rw.below last)) = true := List.any_eq_true.mpr ⟨_, hm, by simp⟩
        simp only [hany]
        simp
        show gIdxR _ _ _ _
        unfold gIdxR
        dsimp only [Lo.lst?]
        refine ⟨prev ++ [last], by simp, hm, szle (by simp; omega), ?_⟩
        subst e1
        simp only [szle (show 2 ≤ 10000 by decide), true_and]
        rw [List.map_append] at h
        exact h
      · rename_i hm
        have hany : ((prev ++ [last]).any fun z => decide (z = Rw.below last)) = false := by
          rw [List.any_eq_false]
          intro z hz e
          simp at e
          exact hm (e ▸ hz)
        simp only [hany]
        simp
        have hx : prev.length + 1 < sizeLine := by rw [sizeLine_eq]; omega
        refine ⟨hx, m, by omega, prev ++ [last], Rw.below last, _, by simp; rfl, ⟨fd, hg'⟩, by rw [hg', hg]⟩
    · cases hg'
def F_ladder : FS := fun los n P => ∃ r fd, los = [.sh (.row r)] ∧ r.length ≤ 60 ∧ lvGo 61 [] r = some fd ∧ P (.sh (.tup [.int fd.2, .int ((fd.1.length : Int) - fd.2)])) n
def b_ladder : WS :=
  (wSeq (wAsg (.tup [(.name 1), (.name 2)]) (wCallN 1 F_levels (wFCons (wN 0) wFNil)))
    (wRet (wTup (wCons (wN 2) (wCons (w2 (gI0 fun i j => .int (i - j)) (w1 gLen (wB 1)) (wB 2)) wNil)))))
theorem m_ladder {los : List Lo} {n : Nat} {P : Lo → Nat → Prop} (h : F_ladder los n P) : bodyF 3 b_ladder los n P := by
  obtain ⟨r, fd, e, hr, hg, h⟩ := h
  subst e
  simp only [b_ladder, bodyF]
  rw [wSeq_ap]
  simp
  refine ⟨r, fd, rfl, hr, hg, ?_⟩
  have s2 : 2 ≤ sizeLine := szle (by decide)
  simp [s2]
  exact h
def F_widths : FS := fun los n P => ∃ r fd, los = [.sh (.row r)] ∧ r.length ≤ 60 ∧ lvGo 61 [] r = some fd ∧ P (.ow (dnats (fd.1.map List.length))) n
def b_widths : WS :=
  (wRet (wComp (wIA (w2 gIx (wCallN 1 F_levels (wFCons (wN 0) wFNil)) (wC (.int 0)))) [1] (.name 1) wYes (w1 gLen (wKept (wN 1)))))
theorem lvGo_len : ∀ (f : Nat) (prev : List (List (List Nat))) (last : List (List Nat)) {fd}, lvGo f prev last = some fd → fd.1.length ≤ 60
  | 0, _, _, _, h => by cases h
  | f + 1, prev, last, fd, h => by
    unfold lvGo at h
    split at h
    · rename_i hh
      split at h
      · cases h
        have := hh.1
        simp
        omega
      · exact lvGo_len f _ _ h
    · cases h
theorem m_widths {los : List Lo} {n : Nat} {P : Lo → Nat → Prop} (h : F_widths los n P) : bodyF 2 b_widths los n P := by
  obtain ⟨r, fd, e, hr, hg, h⟩ := h
  subst e
  simp only [b_widths, bodyF]
  simp
  refine ⟨r, fd, rfl, hr, hg, ?_⟩
  have hl := lvGo_len _ _ _ hg
  have e0 : atI [D.lst (fd.1.map D.row), D.int fd.2] 0 = some (D.lst (fd.1.map D.row)) := rfl
  simp [e0]
  refine map_all (g := fun d => match d with | .row r => .int r.length | d => d) _ [] _ (by simpa using szle (by omega)) (fun d hd Q' hq => ?_) ?_
  · obtain ⟨w, hw, e⟩ := List.mem_map.mp hd
    subst e
    simp [rulesT]
    exact hq _ _ rfl (by simp)
  · have : ([] ++ (fd.1.map D.row).map fun d => match d with | .row r => .int r.length | d => d) = dnats (fd.1.map List.length) := by
      rw [List.nil_append, List.map_map, dnats, List.map_map]
      rfl
    rw [this]
    exact h
end Vx

set_option Elab.async false
set_option maxRecDepth 100000
set_option linter.all false
/-! Lengths of words behind steps; steps_over. -/
namespace Rw
/-- how long the word of 0 is behind steps -/
def L0 (r : Rules) (k : Nat) : Nat := (lens r k).getD 0 0
theorem lens_length (r : Rules) : ∀ k, (lens r k).length = r.length
  | 0 => by simp [lens]
  | k + 1 => by simp [lens]
theorem L0_mono {r : Rules} (h : (r.getD 0 []).getD 0 1 = 0) (k : Nat) : L0 r k ≤ L0 r (k + 1) := by
  cases r with
  | nil => simp at h
  | cons w r =>
    cases w with
    | nil => simp at h
    | cons a w =>
      have ha : a = 0 := by simpa using h
      subst ha
      have : L0 ((0 :: w) :: r) (k + 1) = L0 ((0 :: w) :: r) k + (w.map fun a => (lens ((0 :: w) :: r) k).getD a 0).sum := by
        show ((((0 :: w) :: r).map fun w' => (w'.map fun a => (lens ((0 :: w) :: r) k).getD a 0).sum).getD 0 0) = _
        simp [L0]
      omega
theorem L0_le {r : Rules} (h : (r.getD 0 []).getD 0 1 = 0) (i : Nat) : ∀ d, L0 r i ≤ L0 r (i + d)
  | 0 => Nat.le_refl _
  | d + 1 => Nat.le_trans (L0_le h i d) (L0_mono h (i + d))
/-- the least number of steps behind which the word of 0 has a place -/
def StepK (r : Rules) (p k : Nat) : Prop := (∀ j, j < k → L0 r j ≤ p) ∧ p < L0 r k ∧ k ≤ 1000000
end Rw
namespace Vx
open PySem PySem.Spec PyProof.Rows L2
theorem good0 {r : List (List Nat)} (h : Rw.good r = true) : (r.getD 0 []).getD 0 1 = 0 ∧ 0 < r.length ∧ (∀ w ∈ r, ∀ a ∈ w, a < r.length) := by
  unfold Rw.good at h
  simp only [Bool.and_eq_true, decide_eq_true_eq, List.all_eq_true] at h
  obtain ⟨⟨⟨⟨⟨h1, h2⟩, h3⟩, h4⟩, h5⟩, h6⟩ := h
  refine ⟨h4, ?_, fun w hw a ha => h3 w hw a ha⟩
  cases r with
  | nil => exact absurd rfl h1
  | cons w r => simp
/-! ### the table of lengths is long enough; nothing governed changes -/
def TabGe (C : Addr) (H : Hp) (a L : Addr) (k : Nat) : Prop := ∃ dx t kr kb ws, H a = some (.ins C dx (rowFs t L kr kb)) ∧ H L = some (.lst ws) ∧ k ≤ ws.length
def thF (C a0 L0 : Addr) (k0 : Nat) : Th where
  RowAt := fun W H a r => RowAt C W H a r ∧ (a = a0 → TabGe C H a L0 k0)
  Adv := fun W H H' => ∀ b, W.D b → b ≠ W.P → H' b = H b
  mono := fun W W' H H' a r le h q => by
    obtain ⟨q1, q2⟩ := q
    refine ⟨(thR C).mono W W' H H' a r le h q1, fun e => ?_⟩
    obtain ⟨dx, t, kr, kb, ws, g1, g2, g3⟩ := q2 e
    obtain ⟨dx', t', L', kr', kb', e1, e2, e3, e4, e5⟩ := q1.ex
    rw [g1] at e1
    obtain ⟨_, _, ef⟩ := ins_inj e1
    obtain ⟨_, eL, _, _⟩ := rowFs_inj ef
    subst eL
    exact ⟨dx, t, kr, kb, ws, by rw [h a e4 e5]; exact g1, by rw [h L0 e3.gov e3.np]; exact g2, g3⟩
  same := fun W H H' hr h => h
  trans := fun W W1 H H1 H2 le a1 a2 b hb hn => by rw [a2 b (le.d b hb) (by rw [le.p]; exact hn), a1 b hb hn]
section
variable {C a0 L0 : Addr} {k0 : Nat} {W W' : Wd} {H H' : Hp} {n : Nat}
theorem WOk.ofR (ok : WOk (thR C) W H n) (h : TabGe C H a0 L0 k0) : WOk (thF C a0 L0 k0) W H n :=
  ⟨ok.s, fun a r e => let ⟨h1, h2, h3⟩ := ok.r a r e; ⟨⟨h1, fun z => z ▸ h⟩, h2, h3⟩, ok.d, ok.pd, ok.i, ok.p⟩
theorem WOk.toR (ok : WOk (thF C a0 L0 k0) W H n) : WOk (thR C) W H n :=
  ⟨ok.s, fun a r e => let ⟨h1, h2, h3⟩ := ok.r a r e; ⟨h1.1, h2, h3⟩, ok.d, ok.pd, ok.i, ok.p⟩
theorem After.toR (ok : WOk (thR C) W H n) (A : After (thF C a0 L0 k0) W H W' H' n) : After (thR C) W H W' H' n :=
  ⟨A.le, A.ok.toR, A.frame, A.grow.1, ok.adv A.grow.2⟩
end
section
variable {C a0 L0 : Addr} {k0 : Nat} {X : Cx} {W0 W W' : Wd} {H0 H H' : Hp} {O O' : Addr → Option Ow} {vs : VS} {σ : L2.St} {tm : List (V × Lo)} {n : Nat} {e : Expr} {fa f1 f2 : WE} {pos : Pos}
theorem Rel.rowF {r : List (List Nat)} {v : V} (R : Rel (thF C a0 L0 k0) W0 H0 W H O vs σ tm) (h : Rep W (.row r) v) : ∃ a dx t L kr kb, v = .ref a ∧ W.R a = some r ∧ H a = some (.ins C dx (rowFs t L kr kb)) ∧ RowP W a r t kr kb ∧ LenAt W H a L r ∧ W.D a ∧ a ≠ W.P := by
  obtain ⟨a, e, hr⟩ := h
  obtain ⟨h1, _, _⟩ := R.ok.r a r hr
  obtain ⟨dx, t, L, kr, kb, g⟩ := h1.1.ex
  exact ⟨a, dx, t, L, kr, kb, e, hr, g⟩
theorem ve_keptF (c : RowC X.K C) (h : VE (thF C a0 L0 k0) X e fa) (hb : attributeBase e "kept_rules" X.env (eval e X.env) = eval e X.env := by rfl) : VE (thF C a0 L0 k0) X (.Attribute e "kept_rules" pos) (wKept fa) :=
  .of (pe_fld h.pe hb) fun W0 H0 W H O vs σ tm Q Q' hf R k => h.sn W0 H0 W H O vs σ tm _ _ hf R fun W1 H1 O1 vs1 v lo l1 q1 R1 => by
    split at q1
    · rename_i r
      obtain ⟨a, dx, t, L, kr, kb, ev, hr, ha, rp, _⟩ := R1.rowF R1.top
      exact ⟨a, C, dx, _, .ref t, ev, ha, c.cls, c.rules, fs_rules t L kr kb, k W1 H1 O1 vs1 _ _ l1 q1 (R1.pop.push rp.rep)⟩
    · exact q1.elim
theorem lensD_get {r : List (List Nat)} {m j : Nat} (h : j < m) : (lensD r m)[j]? = some (dwl (Rw.lens r j)) := by
  unfold lensD
  rw [List.getElem?_map, List.getElem?_range h]; rfl
theorem lensD_length (r : List (List Nat)) (m : Nat) : (lensD r m).length = m := by unfold lensD; simp
theorem lensD_succ (r : List (List Nat)) (m : Nat) : lensD r (m + 1) = lensD r m ++ [dwl (Rw.lens r m)] := by unfold lensD; rw [List.range_succ, List.map_append]; rfl
/-- an entry of a table -/
theorem len_at {T : Th} (ok : WOk T W H n) {r : List (List Nat)} {m j : Nat} {ws : List V} (rep : RepL W (lensD r m) ws) (hj : j < m) : ∃ q, ws[j]? = some (.ref q) ∧ Rep W (dwl (Rw.lens r j)) (.ref q) ∧ H q = some (.lst ((Rw.lens r j).map fun (x : Nat) => V.int (x : Int))) := by
  obtain ⟨v, hv, q, us, e, hs, ru⟩ := rep.get (lensD_get hj)
  subst e
  have eu : us = (Rw.lens r j).map fun (x : Nat) => V.int (x : Int) := by
    have := RepL.ints (ns := (Rw.lens r j).map fun (x : Nat) => (x : Int)) (ws := us) (by rw [List.map_map]; exact ru)
    rw [this, List.map_map]; rfl
  exact ⟨q, hv, ⟨q, us, rfl, hs, ru⟩, by rw [← eu]; exact (ok.s _ _ hs).1⟩
theorem atI_m1 {α : Type} (xs : List α) (h : 0 < xs.length) : atI xs (-1) = xs[xs.length - 1]? := by
  have e : ixN xs.length (-1) = some (xs.length - 1) := by
    unfold ixN
    rw [if_neg (by decide), if_pos (by omega)]
    congr 1
    omega
  unfold atI
  rw [e]; rfl
end
end Vx

set_option Elab.async false
set_option maxRecDepth 100000
set_option linter.all false
namespace Vx
open PySem PySem.Spec PyProof.Rows L2
def tLens (K : PySem.W.Frag) : TE := tFld K (tVar 0) "lengths"
abbrev tM1 : TE := tUn (rU fun i => V.int (-i)) (tC (V.int 1))
def tLe0 (K : PySem.W.Frag) (ti : TE) : TT := tTest (tOp (rI0 fun i j => V.bl (decide (i ≤ j))) (tOp (rIxL K) (tOp (rIxL K) (tLens K) ti) (tC (V.int 0))) (tVar 1))
def tSteps (T : Th) (K : PySem.W.Frag) (f : WE) : TS :=
  tSeq (tWhile (tLe0 K tM1) (tSeq (tAsg (tOp (rIxL K) (tLens K) tM1) (gName 2)) (tDrop (tBM K "list" rAppend (tLens K) (tCons (tE T f) tNil)))))
  (tSeq (tAsg (tC (V.int 0)) (gName 3)) (tSeq (tWhile (tLe0 K (tVar 3)) (tAug 3 (tC (V.int 1)) (rI0 fun i j => V.int (i + j)))) (tRet (tVar 3))))
def b_len : WE := (wComp (wIA (wKept (wN 0))) [4] (.name 4) wYes (w1 gSum (wComp (wIA (wN 4)) [5] (.name 5) wYes (w2 gIx (wB 2) (wN 5)))))
theorem sum_cast : ∀ l : List Nat, (l.map fun (x : Nat) => (x : Int)).sum = ((l.sum : Nat) : Int)
  | [] => rfl
  | a :: l => by
    rw [List.map_cons, List.sum_cons, List.sum_cons, sum_cast l]
    omega
theorem m_len {r : List (List Nat)} {p : D} {j n : Nat} {x3 : Option Lo} {Q : Lo → VS → Prop} (hg : ∀ w ∈ r, ∀ a ∈ w, a < r.length) (hz : r.length ≤ 1000) (hw : ∀ w ∈ r, w.length ≤ sizeLine)
    (h : Q (.ow (dnats (Rw.lens r (j + 1)))) ⟨[some (.sh (.row r)), some (.sh p), some (.sh (dwl (Rw.lens r j))), x3, none, none], n⟩) :
    b_len ⟨[some (.sh (.row r)), some (.sh p), some (.sh (dwl (Rw.lens r j))), x3, none, none], n⟩ Q := by
  unfold b_len
  simp [rulesT]
  refine map_all (g := fun d => match d with | .tup xs => .int (((xs.map fun d => match d with | .int i => ((Rw.lens r j).getD i.toNat 0 : Nat) | _ => 0).sum : Nat) : Int) | d => d) _ [] _ (by simpa using szle (by omega)) (fun d hd Q' hq => ?_) ?_
  · obtain ⟨w, hw1, e⟩ := List.mem_map.mp hd
    subst e
    simp [dw]
    refine map_all (g := fun d => match d with | .int i => .int ((Rw.lens r j).getD i.toNat 0 : Nat) | d => d) _ [] _ (by simpa using hw w hw1) (fun d hd Q2 hq2 => ?_) ?_
    · obtain ⟨a, ha, e⟩ := List.mem_map.mp hd
      subst e
      have hl : a < (Rw.lens r j).length := by rw [Rw.lens_length]; exact hg w hw1 a ha
      have ea : atI (dnats (Rw.lens r j)) (a : Int) = some (.int ((Rw.lens r j).getD a 0 : Nat)) := by
        rw [atI_nat]
        unfold dnats
        rw [List.getElem?_map, List.getElem?_eq_getElem hl, List.getD_eq_getElem?_getD, List.getElem?_eq_getElem hl]; rfl
      simp [dwl, ea]
      exact hq2 _ _ (by simp) (by simp [dwl])
    · have e2 : ([] ++ (dnats w).map fun d => match d with | .int i => D.int ((Rw.lens r j).getD i.toNat 0 : Nat) | d => d) = ((w.map fun a => (Rw.lens r j).getD a 0).map fun (x : Nat) => (x : Int)).map D.int := by
        rw [List.nil_append]
        unfold dnats
        rw [List.map_map, List.map_map, List.map_map]
        rfl
      rw [e2, ints?_map]
      dsimp only
      rw [sum_cast]
      refine hq _ _ ?_ (by simp [dwl])
      have e3 : ((dnats w).map fun d => match d with | .int i => (Rw.lens r j).getD i.toNat 0 | _ => 0) = w.map fun a => (Rw.lens r j).getD a 0 := by
        unfold dnats
        rw [List.map_map]
        rfl
      show some _ = some (D.int ((((dnats w).map _).sum : Nat) : Int))
      rw [e3]
  · have e2 : ([] ++ (r.map dw).map fun d => match d with | .tup xs => .int (((xs.map fun d => match d with | .int i => ((Rw.lens r j).getD i.toNat 0 : Nat) | _ => 0).sum : Nat) : Int) | d => d) = dnats (Rw.lens r (j + 1)) := by
      rw [List.nil_append, List.map_map]
      unfold dnats
      show _ = (r.map _).map _
      rw [List.map_map]
      refine List.map_congr_left fun w _ => ?_
      show D.int ((((dnats w).map _).sum : Nat) : Int) = _
      have e3 : ((dnats w).map fun d => match d with | .int i => (Rw.lens r j).getD i.toNat 0 | _ => 0) = w.map fun a => (Rw.lens r j).getD a 0 := by
        unfold dnats
        rw [List.map_map]
        rfl
      rw [e3]
      rfl
    rw [e2]
    exact h
/-! ### steps_over -/
def spSteps (C : Addr) : Sp := fun vs H Q _ => ∃ (W : Wd) (n : Nat) (a : Addr) (r : List (List Nat)) (p k : Nat), vs = [.ref a, .int p] ∧ WOk (thR C) W H n ∧ W.R a = some r ∧ (∀ w ∈ r, w.length ≤ sizeLine) ∧ Rw.StepK r p k ∧
  ∀ W' H', After (thR C) W H W' H' n → (∃ L, TabGe C H' a L (k + 1)) → Q (.int k) H'
section
variable {K : PySem.W.Frag} {C : Addr} {W : Wd} {H : Hp} {n : Nat} {a : Addr} {r : List (List Nat)} {p : Nat}
/-- the row at a with its table -/
theorem tab_of (ok : WOk (thR C) W H n) (ha : W.R a = some r) : ∃ dx t L kr kb m ws, H a = some (.ins C dx (rowFs t L kr kb)) ∧ RowP W a r t kr kb ∧ LenAt W H a L r ∧ W.D a ∧ a ≠ W.P ∧ H L = some (.lst ws) ∧ 0 < m ∧ RepL W (lensD r m) ws ∧ ws.length = m := by
  obtain ⟨dx, t, L, kr, kb, g1, g2, g3, g4, g5⟩ := (show RowAt C W H a r from (ok.r a r ha).1).ex
  obtain ⟨m, ws, e1, e2, e3, e4⟩ := g3.tab
  exact ⟨dx, t, L, kr, kb, m, ws, g1, g2, g3, g4, g5, e1, e2, e4, by rw [e4.length, lensD_length]⟩
/-- the table's i-th entry's first number, asked -/
theorem le0_read (c : RowC K C) (ok : WOk (thR C) W H n) (ha : W.R a = some r) {σ : L2.St} (h0 : σ[0]? = some (some (.ref a))) (h1 : σ[1]? = some (some (.int p))) {ti : TE} {j : Nat} {Q : Bool → Hp → Prop} {dx t L : Addr} {kr kb : V} {m : Nat} {ws : List V}
    (ea : H a = some (.ins C dx (rowFs t L kr kb))) (eL : H L = some (.lst ws)) (rp : RepL W (lensD r m) ws) (hj : j < m) (hr : 0 < r.length)
    (hi : ∀ Q' : VK, (∀ i, atI ws i = ws[j]? → Q' (.int i) H) → ti σ H Q') (h : Q (decide (Rw.L0 r j ≤ p)) H) : tLe0 K ti σ H Q := by
  obtain ⟨q, e1, e2, e3⟩ := len_at ok rp hj
  refine ⟨.ref a, h0, a, C, dx, _, .ref L, rfl, ea, c.cls, c.lens, fs_lens t L kr kb, hi _ fun i e => ⟨L, ws, i, .ref q, rfl, rfl, SqL.of eL, by rw [e, e1], q, _, 0, .int (Rw.L0 r j : Nat), rfl, rfl, SqL.of e3, ?_, .int p, h1, _, _, rfl, rfl, _, rfl, ?_⟩⟩
  · have hl : 0 < (Rw.lens r j).length := by rw [Rw.lens_length]; exact hr
    have e0 : ((0 : Int)) = ((0 : Nat) : Int) := rfl
    rw [e0, atI_nat, List.getElem?_map, List.getElem?_eq_getElem hl]
    show some (V.int _) = _
    unfold Rw.L0
    rw [List.getD_eq_getElem?_getD, List.getElem?_eq_getElem hl]; rfl
  · have : decide ((Rw.L0 r j : Int) ≤ (p : Int)) = decide (Rw.L0 r j ≤ p) := by
      by_cases z : Rw.L0 r j ≤ p
      · rw [decide_eq_true z, decide_eq_true (by omega)]
      · rw [decide_eq_false z, decide_eq_false (by omega)]
    rw [this]
    exact h
end
end Vx

set_option Elab.async false
set_option maxRecDepth 100000
set_option linter.all false
namespace Vx
open PySem PySem.Spec PyProof.Rows L2
section
variable {K : PySem.W.Frag} {C : Addr} {W : Wd} {H : Hp} {n : Nat} {a : Addr} {r : List (List Nat)} {p k : Nat}
/-- one more entry -/
theorem tab_grow {W1 W3 : Wd} {H1 H2 : Hp} {dx t L : Addr} {kr kb v : V} {m : Nat} {ws : List V} (ok : WOk (thR C) W1 H1 n) (ha : W1.R a = some r) (ea : H1 a = some (.ins C dx (rowFs t L kr kb))) (rp : RowP W1 a r t kr kb) (la : LenAt W1 H1 a L r) (hd : W1.D a) (hn : a ≠ W1.P)
    (eL : H1 L = some (.lst ws)) (rw' : RepL W1 (lensD r m) ws) (hl : ws.length = m) (hm : m ≤ 1000000) (A : After (thF C a L 1) W1 H1 W3 H2 n) (hv : Rep W3 (dwl (Rw.lens r m)) v) :
    After (thR C) W1 H1 W3 (upd H2 L (.lst (ws ++ [v]))) n := by
  have ne : a ≠ L := fun z => by rw [z, eL] at ea; cases ea
  have ea2 : H2 a = some (.ins C dx (rowFs t L kr kb)) := by rw [A.grow.2 a hd hn]; exact ea
  have eL2 : H2 L = some (.lst ws) := by rw [A.grow.2 L la.gov la.np]; exact eL
  have okR := A.ok.toR
  have ha3 := A.le.r _ _ ha
  have np : ∀ b, b ≠ W1.P → b ≠ W3.P := fun b h => by rw [A.le.p]; exact h
  have la3 : LenAt W3 H2 a L r := la.frame A.le (A.grow.2 L la.gov la.np)
  have new : RowAt C W3 (upd H2 L (.lst (ws ++ [v]))) a r := by
    refine ⟨dx, t, L, kr, kb, by rw [upd_ne ne]; exact ea2, rp.mono hd A.le, ⟨⟨m + 1, ws ++ [v], upd_same, Nat.succ_pos _, by omega, ?_⟩, la3.own, la3.sne, la3.gov, la3.np⟩, A.le.d _ hd, np _ hn⟩
    rw [lensD_succ]
    exact (rw'.mono A.le).append (RepL.cons hv RepL.nil)
  have ok4 : WOk (thR C) W3 (upd H2 L (.lst (ws ++ [v]))) n := okR.poke ha3 (.inr ⟨la3.own, ws, rfl⟩) la3.gov la3.np eL2 la3.sne new
  refine ⟨A.le, ok4, fun b o h1 h2 => ?_, A.grow.1, fun a' r' e dx' t' L' kr' kb' hb => ?_⟩
  · rw [upd_ne (fun (z : b = L) => h1 (z ▸ la.gov))]
    exact A.frame b o h1 h2
  · obtain ⟨g1, g2, g3⟩ := ok.r a' r' e
    obtain ⟨dy, ty, Ly, ky, by', f1, f2, f3, f4, f5⟩ := (show RowAt C W1 H1 a' r' from g1).ex
    rw [hb] at f1
    obtain ⟨_, _, ef⟩ := ins_inj f1
    obtain ⟨_, eLy, _, _⟩ := rowFs_inj ef
    subst eLy
    have ne' : a' ≠ L := fun z => by rw [z, eL] at hb; cases hb
    refine ⟨kr', kb', by rw [upd_ne ne', A.grow.2 a' g2 g3]; exact hb, id, id, fun ws0 hw0 => ?_⟩
    by_cases z : L' = L
    · subst z
      rw [eL] at hw0
      cases hw0
      exact ⟨[v], upd_same⟩
    · exact ⟨[], by rw [List.append_nil, upd_ne z, A.grow.2 L' f3.gov f3.np]; exact hw0⟩
theorem steps_read (c : RowC K C) {D : Ends} {L : Addr} (ok : WOk (thR C) W H n) (ha : W.R a = some r) (hL : TabGe C H a L 1) (hw : ∀ w ∈ r, w.length ≤ sizeLine) (hk : Rw.StepK r p k) (kk : ∀ W' H', After (thR C) W H W' H' n → (∃ L, TabGe C H' a L (k + 1)) → D.rt (.int k) H') :
    tSteps (thF C a L 1) K b_len D [some (.ref a), some (.int p), none, none, none, none] H := by
  obtain ⟨hk1, hk2, hk3⟩ := hk
  have rp0 : RowP W a r _ _ _ := (tab_of ok ha).choose_spec.choose_spec.choose_spec.choose_spec.choose_spec.choose_spec.choose_spec.2.1
  obtain ⟨g0, hr, gm⟩ := good0 rp0.good
  have hz := rp0.small
  refine ⟨fun μ σ H1 => ∃ W1 x2 j, σ = [some (.ref a), some (.int p), x2, none, none, none] ∧ After (thR C) W H W1 H1 n ∧ TabGe C H1 a L j ∧ 1 ≤ j ∧ μ + j = k + 1, ⟨k, W, none, 1, rfl, After.refl ok, hL, Nat.le_refl _, rfl⟩, ?_⟩
  rintro μ σ H1 ⟨W1, x2, j0, eσ, A1, tg, hj0, hμ⟩
  subst eσ
  have ha1 := A1.le.r _ _ ha
  obtain ⟨dx, t, L2, kr, kb, m, ws, ea, rp, la, hd, hn, eL, hm0, rw', hl⟩ := tab_of A1.ok ha1
  obtain ⟨hLL, hjm⟩ : L2 = L ∧ j0 ≤ m := by
    obtain ⟨dx', t', kr', kb', ws', f1, f2, f3⟩ := tg
    rw [ea] at f1
    obtain ⟨_, _, ef⟩ := ins_inj f1
    obtain ⟨_, eLy, _, _⟩ := rowFs_inj ef
    subst eLy
    rw [eL] at f2
    cases f2
    exact ⟨rfl, by omega⟩
  subst hLL
  refine le0_read c A1.ok ha1 rfl rfl ea eL rw' (j := m - 1) (by omega) hr (fun Q' h => ⟨1, rfl, h (-1) (by rw [atI_m1 ws (by omega), hl])⟩) ?_
  by_cases hp : Rw.L0 r (m - 1) ≤ p
  · rw [if_pos (decide_eq_true hp)]
    have hmk : m - 1 < k := by
      apply Classical.byContradiction
      intro z
      have h1 := Rw.L0_le g0 k (m - 1 - k)
      have e : k + (m - 1 - k) = m - 1 := by omega
      rw [e] at h1
      omega
    refine ⟨fun σ' H' => ∃ W1 x2 j, σ' = [some (.ref a), some (.int p), x2, none, none, none] ∧ After (thR C) W H W1 H' n ∧ TabGe C H' a L2 j ∧ 1 ≤ j ∧ μ - 1 + j = k + 1, fun σ' H' h => ⟨μ - 1, by omega, h⟩, ?_⟩
    obtain ⟨q, q1, q2, q3⟩ := len_at A1.ok rw' (j := m - 1) (by omega)
    refine ⟨.ref a, rfl, a, C, dx, _, .ref L2, rfl, ea, c.cls, c.lens, fs_lens t L2 kr kb, 1, rfl, L2, ws, -1, .ref q, rfl, rfl, SqL.of eL, by rw [atI_m1 ws (by omega), hl]; exact q1, ?_⟩
    refine ⟨.ref a, rfl, a, C, dx, _, .ref L2, rfl, ea, c.cls, c.lens, fs_lens t L2 kr kb, .inl ⟨rfl, _, SqL.of eL⟩, ?_⟩
    have R0 : Rel (thF C a L2 1) W1 H1 W1 H1 (fun _ => none) ⟨[some (.sh (.row r)), some (.sh (.int p)), some (.sh (dwl (Rw.lens r (m - 1)))), none, none, none], n⟩ [some (.ref a), some (.int p), some (.ref q), none, none, none] [] := by
      refine ⟨A1.ok.ofR ⟨dx, t, kr, kb, ws, ea, eL, by omega⟩, Le.refl W1, fun _ _ _ e => e, ⟨fun _ e => .inl e, fun _ _ _ => rfl⟩, fun i lo e => ?_, trivial, fun i ys e => ?_, rfl⟩
      · match i, e with
        | 0, e => cases e; exact ⟨.ref a, rfl, a, rfl, ha1⟩
        | 1, e => cases e; exact ⟨.int p, rfl, rfl⟩
        | 2, e => cases e; exact ⟨.ref q, rfl, q2⟩
        | i + 3, e =>
          exfalso
          have : ([none, none, none] : List (Option Lo))[i]? = some (some lo) := by simpa using e
          have hm := List.mem_of_getElem? this
          simp at hm
      · have hm := List.mem_of_getElem? e
        simp [dwl] at hm
    refine ⟨W1, H1, W1, fun _ => none, _, [], fun lo vs' => lo = .ow (dnats (Rw.lens r (m - 1 + 1))) ∧ vs'.n = n, m_len gm hz hw ⟨rfl, rfl⟩, R0, fun W2 H2 O2 vs2 v lo l2 e2 R2 => ?_⟩
    obtain ⟨e2, hvn⟩ := e2
    subst e2
    have em : m - 1 + 1 = m := by omega
    rw [em] at R2
    obtain ⟨W3, l3, R3⟩ := R2.frzTop
    have A3 := R3.after
    have hv : Rep W3 (dwl (Rw.lens r m)) v := R3.top
    have eL2 : H2 L2 = some (.lst ws) := by rw [A3.grow.2 L2 la.gov la.np]; exact eL
    refine ⟨L2, ws, v, rfl, rfl, eL2, by rw [hl, sizeLine_eq]; omega, ?_⟩
    have A4 := tab_grow A1.ok ha1 ea rp la hd hn eL rw' hl (by omega) (hvn ▸ A3) hv
    refine ⟨W3, some (.ref q), j0 + 1, rfl, A1.trans A4, ?_, by omega, by omega⟩
    have ne : a ≠ L2 := fun z => by rw [z, eL] at ea; cases ea
    exact ⟨dx, t, kr, kb, ws ++ [v], by rw [upd_ne ne, A3.grow.2 a hd hn]; exact ea, upd_same, by rw [List.length_append, List.length_singleton]; omega⟩
  · rw [if_neg (by simpa using hp)]
    have hmk : k < m := by
      apply Classical.byContradiction
      intro z
      exact hp (hk1 (m - 1) (by omega))
    refine ⟨fun μ σ' H' => H' = H1 ∧ ∃ j, j ≤ k ∧ σ' = [some (.ref a), some (.int p), x2, some (.int (j : Nat)), none, none] ∧ μ + j = k, ⟨k, rfl, 0, Nat.zero_le _, rfl, rfl⟩, ?_⟩
    rintro μ2 σ2 H2 ⟨e, j, hj, eσ, hμ2⟩
    subst e eσ
    refine le0_read c A1.ok ha1 rfl rfl ea eL rw' (j := j) (by omega) hr (fun Q' h => ⟨.int (j : Nat), rfl, h _ (atI_nat _ _)⟩) ?_
    by_cases hp2 : Rw.L0 r j ≤ p
    · rw [if_pos (decide_eq_true hp2)]
      have hjk : j ≠ k := fun z => by subst z; omega
      refine ⟨fun σ' H' => H' = H2 ∧ ∃ j, j ≤ k ∧ σ' = [some (.ref a), some (.int p), x2, some (.int (j : Nat)), none, none] ∧ μ2 - 1 + j = k, fun σ' H' h => ⟨μ2 - 1, by omega, h⟩, ?_⟩
      exact ⟨.int (j : Nat), rfl, j, 1, rfl, rfl, rfl, j + 1, by omega, rfl, by omega⟩
    · rw [if_neg (by simpa using hp2)]
      have hjk : j = k := by
        apply Classical.byContradiction
        intro z
        exact hp2 (hk1 j (by omega))
      subst hjk
      exact ⟨.int (j : Nat), rfl, kk W1 H2 A1 ⟨L2, dx, t, kr, kb, ws, ea, eL, by omega⟩⟩
end
end Vx

set_option Elab.async false
set_option maxRecDepth 100000
set_option linter.all false
/-! path_to. -/
namespace Rw
/-- through a word: the letter in which a place lies, how far in, what stands ahead -/
def desc (ls : List Nat) (s : Nat) : List Nat → Nat → List (Nat × Nat) → Nat → Nat × Nat × List (Nat × Nat)
  | [], left, ah, c => (c, left, ah)
  | b :: w, left, ah, _ => if left < ls.getD b 0 then (b, left, ah) else desc ls s w (left - ls.getD b 0) (ah ++ [(b, s)]) b
def path (r : Rules) : Nat → Nat → Nat → List (Nat × Nat) → Nat × List (Nat × Nat)
  | 0, l, _, ah => (l, ah)
  | s + 1, l, left, ah => path r s (desc (lens r s) s (r.getD l []) left ah 0).1 (desc (lens r s) s (r.getD l []) left ah 0).2.1 (desc (lens r s) s (r.getD l []) left ah 0).2.2
theorem desc_len (ls : List Nat) (s : Nat) : ∀ (w : List Nat) (left : Nat) (ah : List (Nat × Nat)) (c : Nat), ah.length ≤ (desc ls s w left ah c).2.2.length
  | [], left, ah, c => Nat.le_refl _
  | b :: w, left, ah, c => by
    unfold desc
    split
    · exact Nat.le_refl _
    · exact Nat.le_trans (by simp) (desc_len ls s w _ _ _)
theorem path_len (r : Rules) : ∀ (s l left : Nat) (ah : List (Nat × Nat)), ah.length ≤ (path r s l left ah).2.length
  | 0, l, left, ah => Nat.le_refl _
  | s + 1, l, left, ah => Nat.le_trans (desc_len _ _ _ _ _ _) (path_len r s _ _ _)
theorem desc_mem (ls : List Nat) (s : Nat) : ∀ (w : List Nat) (left : Nat) (ah : List (Nat × Nat)) (c : Nat), w ≠ [] → (desc ls s w left ah c).1 ∈ w
  | [], left, ah, c, h => absurd rfl h
  | [b], left, ah, c, _ => by
    unfold desc
    split
    · simp
    · simp [desc]
  | b :: b2 :: w, left, ah, c, _ => by
    unfold desc
    split
    · simp
    · exact List.mem_cons_of_mem _ (desc_mem ls s (b2 :: w) _ _ _ (by simp))
end Rw
namespace Vx
open PySem PySem.Spec PyProof.Rows L2
section
variable {C a0 L0 : Addr} {k0 : Nat} {X : Cx} {W0 W W' : Wd} {H0 H H' : Hp} {O O' : Addr → Option Ow} {vs : VS} {σ : L2.St} {tm : List (V × Lo)} {n : Nat} {e1 e2 : Expr} {f1 f2 : WE} {pos p1 p2 p3 : Pos}
/-- row.lengths[steps][letter] -/
def wTab (a0 : Addr) (k0 : Nat) (i : Nat) (f1 f2 : WE) : WE := fun vs Q => ∃ r : List (List Nat), vs.env[i]? = some (some (.fx a0 (.row r))) ∧ f1 vs fun lo1 vs1 => match lo1 with
  | .sh (.int s) => 0 ≤ s ∧ s.toNat < k0 ∧ f2 vs1 fun lo2 vs2 => match lo2 with
    | .sh (.int c) => 0 ≤ c ∧ c.toNat < r.length ∧ Q (.sh (.int ((Rw.lens r s.toNat).getD c.toNat 0 : Nat))) vs2
    | _ => False
  | _ => False
theorem ve_tab (c : RowC X.K C) (i : Nat) {x : Str} (h1 : VE (thF C a0 L0 k0) X e1 f1) (h2 : VE (thF C a0 L0 k0) X e2 f2) (hN : X.N[i]? = some x := by rfl) (hv : Vis X.env.scope x := by first | exact Or.inl rfl | exact Or.inr rfl) (hd : (x == ("__debug__" : Str)) = false := by decide) (hcd : (x == ("__classdict__" : Str)) = false := by decide)
    (hb : attributeBase (.Name x p1) "lengths" X.env (eval (.Name x p1) X.env) = eval (.Name x p1) X.env := by rfl)
    (hs1 : ∀ u v, subscripted e1 false u v = operate [u, v] (getItem u v) := by intros; rfl) (hs2 : ∀ u v, subscripted e2 false u v = operate [u, v] (getItem u v) := by intros; rfl) :
    VE (thF C a0 L0 k0) X (.Subscript (.Subscript (.Attribute (.Name x p1) "lengths" p2) e1 p3) e2 pos) (wTab a0 k0 i f1 f2) :=
  .of (pe_ix ix_list (pe_ix ix_list (pe_fld (pe_var (i := i) hN hv hd hcd) hb) h1.pe hs1) h2.pe hs2) fun W0 H0 W H O vs σ tm Q Q' hf R k => by
    obtain ⟨r, e0, hf⟩ := hf
    obtain ⟨va, hva, eva, a', ea', hra⟩ := R.env i _ e0
    subst eva
    cases ea'
    obtain ⟨⟨_, tg⟩, _, _⟩ := R.ok.r a0 r hra
    obtain ⟨dx, t, kr, kb, ws, ea, eL, hl⟩ := tg rfl
    refine ⟨.ref a0, hva, a0, C, dx, _, .ref L0, rfl, ea, c.cls, c.lens, fs_lens t L0 kr kb, h1.sn W0 H0 W H O vs σ tm _ _ hf R fun W1 H1 O1 vs1 v lo l1 q1 R1 => ?_⟩
    split at q1
    · rename_i s
      obtain ⟨s0, s1, q1⟩ := q1
      have ev : v = .int s := R1.top
      subst ev
      have hra1 := l1.r _ _ hra
      obtain ⟨⟨ra1, tg1⟩, _, _⟩ := R1.ok.r a0 r hra1
      obtain ⟨dx1, t1, kr1, kb1, ws1, ea1, eL1, hl1⟩ := tg1 rfl
      obtain ⟨dx2, t2, L2, kr2, kb2, g1, g2, g3, g4, g5⟩ := ra1.ex
      rw [ea1] at g1
      obtain ⟨_, _, ef⟩ := ins_inj g1
      obtain ⟨_, eL2, _, _⟩ := rowFs_inj ef
      subst eL2
      obtain ⟨m, ws2, m1, m2, m3, m4⟩ := g3.tab
      rw [eL1] at m1
      cases m1
      have hm : ws1.length = m := by rw [m4.length, lensD_length]
      obtain ⟨q, z1, z2, z3⟩ := len_at R1.ok m4 (j := s.toNat) (by omega)
      have es : atI ws1 s = some (.ref q) := by
        have : s = ((s.toNat : Nat) : Int) := by omega
        rw [this, atI_nat]
        exact z1
      refine ⟨L0, ws1, s, .ref q, rfl, rfl, SqL.of eL1, es, h2.sn W0 H0 W1 H1 O1 vs1 σ _ _ _ q1 (R1.pop.push z2) fun W3 H3 O3 vs3 v3 lo3 l3 q3 R3 => ?_⟩
      split at q3
      · rename_i cc
        obtain ⟨c0, c1, q3⟩ := q3
        have ev : v3 = .int cc := R3.top
        subst ev
        have rq : Rep W3 (dwl (Rw.lens r s.toNat)) (.ref q) := R3.pop.top
        obtain ⟨q', us, eq, hs, ru⟩ := rq
        cases eq
        have hl3 : cc.toNat < (Rw.lens r s.toNat).length := by rw [Rw.lens_length]; exact c1
        obtain ⟨w, hw, rw'⟩ := ru.get (i := cc.toNat) (d := .int ((Rw.lens r s.toNat).getD cc.toNat 0 : Nat)) (by
          unfold dnats
          rw [List.getElem?_map, List.getElem?_eq_getElem hl3, List.getD_eq_getElem?_getD, List.getElem?_eq_getElem hl3]; rfl)
        have ew : w = .int ((Rw.lens r s.toNat).getD cc.toNat 0 : Nat) := rw'
        subst ew
        have ec := atI_nat us cc.toNat
        rw [hw, Int.toNat_of_nonneg c0] at ec
        exact ⟨q, us, cc, _, rfl, rfl, SqL.of (R3.ok.s _ _ hs).1, ec, k W3 H3 O3 vs3 _ _ (l1.trans l3) q3 (R3.pop.pop.push (by simp [Rep]))⟩
      · exact q3.elim
    · exact q1.elim
end
/-! ### the body behind steps -/
def pairD (p : Nat × Nat) : D := .tup [.int (p.1 : Nat), .int (p.2 : Nat)]
def b_pin (a0 : Addr) (k0 : Nat) : WS := (wSeq (wIf (wTst (w2 (gI0 fun i j => .bl (decide (i < j))) (wB 4) (wTab a0 k0 0 (wB 2) (wB 6))))
      wBrk wSkip)
    (wSeq (wAug 4 (gAug fun i j => i - j) (wTab a0 k0 0 (wB 2) (wB 6)))
    (wApp 5 (wTup (wCons (wN 6) (wCons (wN 2) wNil))))))
def b_path (a0 : Addr) (k0 : Nat) : WS :=
  (wSeq (wPar3 3 4 5 (wC (.int 0)) (wN 1) (wLst wNil))
  (wSeq (wWhile (wTst (w2 (gI0 fun i j => .bl (decide (j < i))) (wB 2) (wC (.int 0))))
    (wSeq (wAug 2 (gAug fun i j => i - j) (wC (.int 1)))
    (wSeq (wFor (wIA (w2 gIx (wKept (wN 0)) (wB 3))) (.name 6) (b_pin a0 k0))
    (wSet 3 (wN 6)))))
  (wRet (wTup (wCons (wN 3) (wCons (wN 5) wNil))))))
theorem lp_desc {E : EndsV} {a0 : Addr} {k0 n s : Nat} {r : List (List Nat)} {x1 x3 : Option Lo} (hs : s < k0) : ∀ (w : List Nat) (left : Nat) (ah : List (Nat × Nat)) (c : Nat) (x6 : Option Lo), (∀ b ∈ w, b < r.length) → (w = [] → x6 = some (.sh (.int (c : Nat)))) → (Rw.desc (Rw.lens r s) s w left ah c).2.2.length ≤ 1000000 →
    E.nx ⟨[some (.fx a0 (.row r)), x1, some (.sh (.int (s : Nat))), x3, some (.sh (.int ((Rw.desc (Rw.lens r s) s w left ah c).2.1 : Nat))), some (.ow ((Rw.desc (Rw.lens r s) s w left ah c).2.2.map pairD)), some (.sh (.int ((Rw.desc (Rw.lens r s) s w left ah c).1 : Nat)))], n⟩ →
    wLoop (.name 6) (b_pin a0 k0) (dnats w) ⟨[some (.fx a0 (.row r)), x1, some (.sh (.int (s : Nat))), x3, some (.sh (.int (left : Nat))), some (.ow (ah.map pairD)), x6], n⟩ E
  | [], left, ah, c, x6, _, h6, _, h => by
    rw [h6 rfl]
    exact h
  | b :: w, left, ah, c, x6, hb, _, hl, h => by
    show wLoop _ _ (D.int b :: dnats w) _ _
    rw [wLoop_cons]
    have hbr := hb b (by simp)
    unfold Rw.desc at hl h
    simp only [bindT_name]
    rw [if_pos (by simp)]
    dsimp only
    unfold b_pin
    rw [wSeq_ap]
    have c1 : (Int.toNat (b : Int)) = b := Int.toNat_natCast b
    have c2 : (Int.toNat (s : Int)) = s := Int.toNat_natCast s
    by_cases z : left < (Rw.lens r s).getD b 0
    · rw [if_pos z] at h
      have z' : (left : Int) < (((Rw.lens r s).getD b 0 : Nat) : Int) := by omega
      simp [wTab]
      refine ⟨hs, hbr, ?_⟩
      rw [List.getD_eq_getElem?_getD] at z
      rw [if_pos z]
      exact h
    · rw [if_neg z] at h hl
      have z' : ¬ (left : Int) < (((Rw.lens r s).getD b 0 : Nat) : Int) := by omega
      simp [wTab]
      refine ⟨hs, hbr, ?_⟩
      rw [List.getD_eq_getElem?_getD] at z hl h
      rw [if_neg z, wSeq_ap]
      simp [wTab]
      refine ⟨hs, hbr, ?_⟩
      have e1 : ((left : Int) - (((Rw.lens r s)[b]?.getD 0 : Nat) : Int)) = ((left - (Rw.lens r s)[b]?.getD 0 : Nat) : Int) := by omega
      have hz : ah.length < sizeLine := by
        have := Rw.desc_len (Rw.lens r s) s w (left - (Rw.lens r s)[b]?.getD 0) (ah ++ [(b, s)]) b
        rw [List.length_append, List.length_singleton] at this
        rw [sizeLine_eq]; omega
      simp [szle (show 2 ≤ 10000 by decide), hz, e1]
      have := lp_desc (E := E) (a0 := a0) (k0 := k0) (n := n) (x1 := x1) (x3 := x3) hs w (left - (Rw.lens r s)[b]?.getD 0) (ah ++ [(b, s)]) b (some (.sh (.int (b : Nat)))) (fun b' h' => hb b' (by simp [h'])) (fun _ => rfl) hl h
      rw [List.map_append] at this
      exact this
theorem m_path {E : EndsV} {a0 : Addr} {n k p : Nat} {r : List (List Nat)} (hg : Rw.good r = true) (hl : (Rw.path r k 0 p []).2.length ≤ 1000000) (hw : ∀ w ∈ r, w ≠ [])
    (h : E.rt (.sh (.tup [.int ((Rw.path r k 0 p []).1 : Nat), .lst ((Rw.path r k 0 p []).2.map pairD)])) n) :
    b_path a0 (k + 1) ⟨[some (.fx a0 (.row r)), some (.sh (.int (p : Nat))), some (.sh (.int (k : Nat))), none, none, none, none], n⟩ E := by
  obtain ⟨g0, hr, gm⟩ := good0 hg
  unfold b_path
  rw [wSeq_ap]
  simp
  rw [wSeq_ap]
  refine ⟨fun μ vs => ∃ l left ah x6, vs = ⟨[some (.fx a0 (.row r)), some (.sh (.int (p : Nat))), some (.sh (.int (μ : Nat))), some (.sh (.int (l : Nat))), some (.sh (.int (left : Nat))), some (.ow (ah.map pairD)), x6], n⟩ ∧ μ ≤ k ∧ l < r.length ∧ Rw.path r μ l left ah = Rw.path r k 0 p [], ⟨k, 0, p, [], none, rfl, Nat.le_refl _, hr, rfl⟩, ?_⟩
  rintro μ vs ⟨l, left, ah, x6, e, hμ, hlr, hp⟩
  subst e
  cases μ with
  | zero =>
    have e1 : (l, ah) = Rw.path r k 0 p [] := hp
    simp [szle (show 2 ≤ 10000 by decide)]
    rw [← e1] at h
    exact h
  | succ μ =>
    have ew : r[l]? = some (r.getD l []) := by simp [List.getD_eq_getElem?_getD, hlr]
    have hwm : r.getD l [] ∈ r := List.mem_of_getElem? ew
    have ea : atI (r.map dw) (l : Int) = some (dw (r.getD l [])) := by rw [atI_nat, List.getElem?_map, ew]; rfl
    have hp' : Rw.path r μ (Rw.desc (Rw.lens r μ) μ (r.getD l []) left ah 0).1 (Rw.desc (Rw.lens r μ) μ (r.getD l []) left ah 0).2.1 (Rw.desc (Rw.lens r μ) μ (r.getD l []) left ah 0).2.2 = Rw.path r k 0 p [] := hp
    generalize r.getD l [] = w at ew hwm ea hp'
    have hmem := Rw.desc_mem (Rw.lens r μ) μ w left ah 0 (hw w hwm)
    have hlen : (Rw.desc (Rw.lens r μ) μ w left ah 0).2.2.length ≤ 1000000 := by
      have := Rw.path_len r μ (Rw.desc (Rw.lens r μ) μ w left ah 0).1 (Rw.desc (Rw.lens r μ) μ w left ah 0).2.1 (Rw.desc (Rw.lens r μ) μ w left ah 0).2.2
      rw [hp'] at this
      omega
    simp
    rw [wSeq_ap]
    have e1 : ((μ : Int) + 1 - 1) = (μ : Int) := by omega
    simp [e1]
    rw [wSeq_ap]
    simp [rulesT, ea, dw]
    refine lp_desc (by omega) w left ah 0 x6 (fun b hb => gm w hwm b hb) (fun z => absurd z (hw w hwm)) hlen ?_
    simp
    refine ⟨μ, by omega, (Rw.desc (Rw.lens r μ) μ w left ah 0).1, (Rw.desc (Rw.lens r μ) μ w left ah 0).2.1, (Rw.desc (Rw.lens r μ) μ w left ah 0).2.2, ?_⟩
    simp
    exact ⟨by omega, gm w hwm _ hmem, hp'⟩

/-! ### the def -/
def pathOk (r : List (List Nat)) (k p : Nat) : Prop := (∀ w ∈ r, w ≠ [] ∧ w.length ≤ sizeLine) ∧ Rw.StepK r p k ∧ (Rw.path r k 0 p []).2.length ≤ 1000000
def F_path : FS := fun los n P => ∃ (r : List (List Nat)) (p k : Nat), los = [.sh (.row r), .sh (.int (p : Nat))] ∧ pathOk r k p ∧ P (.sh (.tup [.int ((Rw.path r k 0 p []).1 : Nat), .lst ((Rw.path r k 0 p []).2.map pairD)])) n
section
variable (P : Program) (w : World) (K : PySem.W.Frag) (mg : Str → Option Value) (base : Heap) (C : Addr)
structure StepsV (k : Nat) : Prop where
  ex : ∃ (f : Addr) (fd : FuncData), Meth K C "steps_over" f ∧ FnOk P w K mg base CX0 k f fd ["self", "place"] (spSteps C) ∧ Binds K fd ["self", "place"] []
end
section
variable {P : Program} {w : World} {K : PySem.W.Frag} {mg : Str → Option Value} {base : Heap} {C : Addr}
theorem ok_path {f : Addr} {fd : FuncData} {k : Nat} {st : Stmt} {N : List Str} (hN : N = [("row" : Str), "place", "steps", "letter", "left", "ahead", "child"]) (F : Fun K "path_to" "path_to" st f fd) (S : FnScope N ["row", "place"] (defScope st)) (c : RowC K C)
    (hb : ∀ (a0 L0 : Addr) (k0 : Nat) (cdv : Value) (A : Around) (outer : List Env) (s : Shared) (H : Hp) (E : XK), Room k (A.deeper (envOfC "path_to" (defScope st) s.heap.objs.size f cdv)) →
      PSs (cxOf CX0 P w K mg base N "path_to" (defScope st) f cdv A outer s H E).nox (defBody st) (tSeq (tAsg (tMeth C "steps_over" (spSteps C) [] L2.E0 (tVar 0) (tCons (tVar 1) tNil)) (gName 2)) (tS (thF C a0 L0 k0) (b_path a0 k0)))) : FnOk P w K mg base CX0 (k + 1) f fd ["row", "place"] (spV (thR C) 2 F_path) := by
  subst hN
  refine F.ok S (fun vs H Q E h => ?_) (fun cdv A outer s H vs Q E hr h => ?_)
  · obtain ⟨W, n, los, P', e, _⟩ := h
    exact e
  · obtain ⟨W, n, los, P', e, ok, as, ⟨r, p, kk, el, ⟨hw, hk, hl⟩, hP⟩, fin⟩ := h
    subst el
    obtain ⟨va, vb, rfl, ra, rb⟩ : ∃ va vb, vs = [va, vb] ∧ Rep W (.row r) va ∧ Rep W (.int (p : Nat)) vb := by
      match vs, as with
      | [v, u], as => exact ⟨v, u, rfl, as.1, as.2.1⟩
    obtain ⟨a, ea, hra⟩ := ra
    have eb : vb = .int (p : Nat) := rb
    subst ea eb
    obtain ⟨dx, t, L, kr, kb, m, ws, g1, rp, la, hd, hn, g6, g7, g8, g9⟩ := tab_of ok hra
    refine ⟨_, hb a L (kk + 1) cdv A outer s H E hr, ?_⟩
    refine ⟨.ref a, rfl, a, dx, _, rfl, g1, fs_no (by decide +kernel) t L kr kb, .int (p : Nat), rfl, ?_⟩
    refine ⟨W, n, a, r, p, kk, rfl, ok, hra, fun w q => (hw w q).2, hk, fun W1 H1 A1 ⟨L1, tg⟩ => ?_⟩
    have hLL : L1 = L := by
      obtain ⟨dx1, t1, kr1, kb1, ws1, f1, f2, f3⟩ := tg
      obtain ⟨kr', kb', q1, _⟩ := A1.grow.2 a r hra dx t L kr kb g1
      rw [f1] at q1
      obtain ⟨_, _, ef⟩ := ins_inj q1
      exact (rowFs_inj ef).2.1
    subst hLL
    have ok1 := A1.ok.ofR tg
    have hra1 := A1.le.r _ _ hra
    have R0 : Rel (thF C a L1 (kk + 1)) W1 H1 W1 H1 (fun _ => none) ⟨[some (.fx a (.row r)), some (.sh (.int (p : Nat))), some (.sh (.int (kk : Nat))), none, none, none, none], n⟩ [some (.ref a), some (.int (p : Nat)), some (.int (kk : Nat)), none, none, none, none] [] := by
      refine ⟨ok1, Le.refl W1, fun _ _ _ e => e, ⟨fun _ e => .inl e, fun _ _ _ => rfl⟩, fun i lo e => ?_, trivial, fun i ys e => ?_, rfl⟩
      · match i, e with
        | 0, e => cases e; exact ⟨.ref a, rfl, rfl, a, rfl, hra1⟩
        | 1, e => cases e; exact ⟨.int (p : Nat), rfl, rfl⟩
        | 2, e => cases e; exact ⟨.int (kk : Nat), rfl, rfl⟩
        | i + 3, e =>
          exfalso
          have : ([none, none, none, none] : List (Option Lo))[i]? = some (some lo) := by simpa using e
          have hm := List.mem_of_getElem? this
          simp at hm
      · have hm := List.mem_of_getElem? e
        simp at hm
    refine ⟨W1, H1, W1, fun _ => none, _, [], ⟨fun _ => False, fun lo n' => lo = .sh (.tup [.int ((Rw.path r kk 0 p []).1 : Nat), .lst ((Rw.path r kk 0 p []).2.map pairD)]) ∧ n' = n, fun _ => False, fun _ => False⟩, fun _ h => by simp at h, m_path rp.good hl (fun w q => (hw w q).1) ⟨rfl, rfl⟩, R0, ?_⟩
    refine ⟨fun W' H' O' vs' σ' l q R => q.elim, fun W' H' v lo n' q r => ?_, fun W' H' O' vs' σ' l q R => q.elim, fun W' H' O' vs' σ' l q R => q.elim⟩
    obtain ⟨e1, e2⟩ := q
    subst e1 e2
    exact fin _ _ W' H' v hP (A1.trans (r.af.toR A1.ok)) r.rt
end
end Vx

set_option Elab.async false
set_option maxRecDepth 100000
set_option linter.all false
/-! max(.., default=d) -/
namespace Vx
open PySem PySem.Spec PyProof.Rows L2
section
variable {X : Cx}
def rMaxDef (K : PySem.W.Frag) : List V → List V → Hp → VK → Prop := fun xs zs H Q => ∃ (a : Addr) (ns : List Int) (d : Int), xs = [.ref a] ∧ zs = [.int d] ∧ SqL K H a (ns.map V.int) ∧ Q (.int (match ns with | [] => d | n :: ms => ms.foldl max n)) H
theorem dpAll_ints {K : PySem.W.Frag} {H : Hp} : ∀ ns : List Int, DpAll K H (ns.map V.int) (ns.map PyData.int)
  | [] => .nil
  | n :: ns => .cons (.int n) (dpAll_ints ns)
theorem depth_ints : ∀ ns : List Int, PyData.depthAll (ns.map PyData.int) ≤ 1
  | [] => by simp [PyData.depthAll]
  | n :: ns => by
    have := depth_ints ns
    simp only [List.map_cons, PyData.depthAll, PyData.depth]
    omega
theorem call_maxDef (hc : X.calm = true) (hu : X.A.units + 65 < cLine) : CallRK X (.builtin "max") [("default" : Str)] (rMaxDef X.K) := by
  intro pins s σ H xs zs us ws Q I r1 r2 h
  obtain ⟨a, ns, d, rfl, rfl, hs, q⟩ := h
  obtain ⟨its, rv, hl, _⟩ := I.list hs
  rw [Vals.ref1 r1]
  cases r2 with
  | cons rd rt =>
  cases rt
  obtain ⟨t, rfl⟩ := (show ∃ t, _ = Value.int d t from rd)
  obtain ⟨as, hr⟩ := Dp.readsAll I (ns.map PyData.int) _ its (dpAll_ints ns) rv
  refine PySem.W.max_list_default (I.ok.hd hc) hl.isList (xs := ns.map PyData.int) (as := as) (by simpa using hr) ⟨fun x hx y hy => ?_, fun x hx => ?_⟩ (by have := depth_ints ns; omega) (fun e h' tk hk => ?_) (fun y ys i v h' tk bs e hv rd hk => ?_)
  · obtain ⟨i, _, e⟩ := List.mem_map.mp hx
    obtain ⟨j, _, e2⟩ := List.mem_map.mp hy
    subst e e2
    rfl
  · obtain ⟨i, _, e⟩ := List.mem_map.mp hx
    subst e
    simp
  · have e' : ns = [] := List.map_eq_nil_iff.mp e
    subst e'
    exact ⟨.int d, H, I.kept hk, ⟨_, rfl⟩, q⟩
  · cases ns with
    | nil => cases e
    | cons n ns =>
      rw [List.map_cons] at e
      cases e
      rw [PySem.W.maxD_ints] at rd
      cases rd
      exact ⟨.int _, H, I.kept hk, ⟨_, rfl⟩, q⟩
end

section
variable {T : Th} {X : Cx} {W0 W W' W1 : Wd} {H0 H H' : Hp} {O O' : Addr → Option Ow} {vs : VS} {σ : L2.St} {tm : List (V × Lo)} {a b : Expr} {fa fb : WE} {pos : Pos}
@[simp] def wMaxD (fa fb : WE) : WE := fun vs Q => fa vs fun x vs1 => fb vs1 fun y vs2 => match x.lst?, y with
  | some xs, .sh (.int d) => (match ints? xs with
    | some ns => Q (.sh (.int (match ns with | [] => d | n :: ms => ms.foldl max n))) vs2
    | none => False)
  | _, _ => False
theorem ve_maxD {p kpos : Pos} (hc : X.calm = true) (hu : X.A.units + 65 < cLine) (hg : Gl X "max") (hm : X.mg "max" = none) (ha : VE T X a fa) (hb : VE T X b fb) (hs : starEach [a] X.env = (false, eval a X.env) :: starEach [] X.env := by rfl)
    (he : backTo pos (starEach (a :: []) X.env) = (false, eval a X.env) :: backTo pos (starEach [] X.env) := by rfl) (hpl : (backTo pos (starEach (a :: []) X.env)).any (·.1) = false := by rfl)
    (hall : (backToKw pos (keywordEach [⟨some "default", b, kpos⟩] X.env)).all (·.1.isSome) = true := by rfl) (hnone : (backToKw pos (keywordEach [⟨some "default", b, kpos⟩] X.env)).any (·.1.isNone) = false := by rfl) (hks : (backToKw pos (keywordEach [⟨some "default", b, kpos⟩] X.env)).filterMap (·.1) = [("default" : Str)] := by rfl) :
    VE T X (.Call (.Name "max" p) [a] [⟨some "default", b, kpos⟩] pos) (wMaxD fa fb) :=
  .of (pe_callBK (call_maxDef hc hu) hg hm (by decide +kernel) (pa_cons ha.pe pa_nil hs) (pk_cons hb.pe pk_nil) (by decide) (by decide) he hpl hall hnone hks) fun W0 H0 W H O vs σ tm Q Q' hf R k => ha.sn W0 H0 W H O vs σ tm _ _ hf R fun W1 H1 O1 vs1 x lo l1 q1 R1 =>
    hb.sn W0 H0 W1 H1 O1 vs1 σ _ _ _ q1 R1 fun W2 H2 O2 vs2 y lo2 l2 q2 R2 => by
      split at q2
      · rename_i xs d e1
        split at q2
        · rename_i ns en
          obtain ⟨p, ws, ep, hp, rp⟩ := R2.lst R2.pop.top e1
          have ex := ints?_eq en
          subst ex
          have ew := rp.ints
          subst ew
          have ey : y = .int d := R2.top
          have ep' : x = .ref p := ep
          subst ey ep'
          exact ⟨p, ns, d, rfl, rfl, SqL.of hp, k W2 H2 O2 vs2 _ _ (l1.trans l2) q2 (R2.pop.pop.push (by simp [Rep]))⟩
        · exact q2.elim
      · exact q2.elim
end
end Vx

set_option Elab.async false
set_option maxRecDepth 100000
set_option linter.all false
/-! Steps of a reading, one by one. -/
namespace Vx
open PySem PySem.Spec PyProof.Rows L2
theorem set_at {i : Nat} {f : WE} {vs : VS} {E : EndsV} {lo : Lo} (h : ∀ Q : Lo → VS → Prop, Q lo vs → f vs Q) (hi : i < vs.env.length) (hn : lo.noBo) (k : E.nx (vs.put i lo)) : wSet i f vs E := h _ ⟨hi, hn, k⟩
theorem app_at {i : Nat} {f : WE} {vs : VS} {E : EndsV} {lo : Lo} {xs : List D} {d : D} (h0 : vs.env[i]? = some (some (.ow xs))) (h : ∀ Q : Lo → VS → Prop, Q lo vs → f vs Q) (hd : lo.dat? = some d) (hl : xs.length < sizeLine) (k : E.nx (vs.put i (.ow (xs ++ [d])))) : wApp i f vs E := by
  unfold wApp
  rw [h0]
  refine h _ ?_
  rw [hd, h0]
  exact ⟨hl, k⟩
theorem for_at {f : WE} {tg : Tg} {b : WS} {vs : VS} {E : EndsV} {lo : Lo} {xs : List D} (h : ∀ Q : Lo → VS → Prop, Q lo vs → f vs Q) (hs : lo.seq1? = some xs) (k : wLoop tg b xs vs E) : wFor (wIA f) tg b vs E := by
  refine h _ ?_
  rw [hs]
  exact k
theorem wTst_ap (f : WE) (vs : VS) (Q : Bool → VS → Prop) : wTst f vs Q = f vs fun lo vs1 => match lo with
  | .sh (.bl b) => Q b vs1
  | _ => False := rfl
theorem w2_ap (g : G2) (f1 f2 : WE) (vs : VS) (Q : Lo → VS → Prop) : w2 g f1 f2 vs Q = f1 vs fun a vs1 => f2 vs1 fun b vs2 => g a b vs2 Q := rfl
theorem w1_ap (g : G1) (f1 : WE) (vs : VS) (Q : Lo → VS → Prop) : w1 g f1 vs Q = f1 vs fun a vs1 => g a vs1 Q := rfl
theorem wCons_ap (f : WE) (g : WA) (vs : VS) (Q : List D → VS → Prop) : wCons f g vs Q = f vs fun lo vs1 => match lo.dat? with
  | some d => g vs1 fun ds vs2 => Q (d :: ds) vs2
  | none => False := rfl
theorem no_if {c : WT} {f g : WS} {vs : VS} {E : EndsV} (h : ∀ Q : Bool → VS → Prop, Q false vs → c vs Q) (k : g vs E) : wIf c f g vs E := by
  refine h _ ?_
  rw [if_neg (by decide)]
  exact k
theorem no_ifS {c : WT} {f : WS} {vs : VS} {E : EndsV} (h : ∀ Q : Bool → VS → Prop, Q false vs → c vs Q) (k : E.nx vs) : wIf c f wSkip vs E := no_if h k
theorem no_or {c d : WT} {vs : VS} {Q : Bool → VS → Prop} (h1 : ∀ Q : Bool → VS → Prop, Q false vs → c vs Q) (h2 : d vs Q) : wOr c d vs Q := by
  refine h1 _ ?_
  rw [if_neg (by decide)]
  exact h2
theorem szs : ∀ k : Nat, k ≤ 1000 → k ≤ sizeLine := fun k hk => szle (by omega)
theorem mk_set {i : Nat} {f : WE} {vs : VS} {E : EndsV} {r : List (List Nat)} (h : ∀ Q : Lo → VS → Prop, Q (.ow (r.map dwl)) vs → f vs Q) (hr : fitR r = true) (hi : i < vs.env.length) (k : E.nx (vs.put i (.sh (.row r)))) : wSet i (wMk f) vs E := by
  refine set_at (lo := .sh (.row r)) (fun Q hq => ?_) hi trivial k
  refine h _ ?_
  have er : rulesOf (.lst (r.map dwl)) = some r := rulesOf_of r
  simp [er, hr]
  exact hq
end Vx

set_option Elab.async false
set_option maxRecDepth 100000
set_option linter.all false
/-! sums_of, sum_ahead, letter_at, count_to, piece. -/
namespace Rw
/-- sums of shares over words behind steps -/
def sums (r : Rules) (sh : List Nat) : Nat → List Nat
  | 0 => sh
  | k + 1 => r.map fun w => (w.map fun a => (sums r sh k).getD a 0).sum
theorem sums_length {r : Rules} {sh : List Nat} (h : sh.length = r.length) : ∀ k, (sums r sh k).length = r.length
  | 0 => h
  | k + 1 => by simp [sums]
def aheadSum (r : Rules) (sh : List Nat) (ah : List (Nat × Nat)) : Nat := (ah.map fun p => (sums r sh p.2).getD p.1 0).sum
end Rw
namespace Vx
open PySem PySem.Spec PyProof.Rows L2
def rowOk (r : List (List Nat)) : Bool := Rw.good r && decide (r.length ≤ 1000) && r.all fun w => decide (w ≠ []) && decide (w.length ≤ 100000)
theorem rowOk_ok {r : List (List Nat)} (h : rowOk r = true) : Rw.good r = true ∧ r.length ≤ 1000 ∧ (∀ w ∈ r, w ≠ [] ∧ w.length ≤ sizeLine) ∧ (∀ w ∈ r, ∀ a ∈ w, a < r.length) := by
  unfold rowOk at h
  simp only [Bool.and_eq_true, decide_eq_true_eq, List.all_eq_true] at h
  obtain ⟨⟨h1, h2⟩, h3⟩ := h
  refine ⟨h1, h2, fun w hw => ?_, (good0 h1).2.2⟩
  obtain ⟨z1, z2⟩ := h3 w hw
  exact ⟨z1, by rw [sizeLine_eq]; omega⟩
def sumTab (r : List (List Nat)) (sh : List Nat) (k : Nat) : List D := (List.range (k + 1)).map fun j => dwl (Rw.sums r sh j)
theorem sumTab_succ (r : List (List Nat)) (sh : List Nat) (k : Nat) : sumTab r sh (k + 1) = sumTab r sh k ++ [dwl (Rw.sums r sh (k + 1))] := by unfold sumTab; rw [List.range_succ, List.map_append]; rfl
theorem sumTab_last (r : List (List Nat)) (sh : List Nat) : ∀ k, atI (sumTab r sh k) (-1) = some (dwl (Rw.sums r sh k))
  | 0 => rfl
  | k + 1 => by rw [sumTab_succ]; exact atI_last _ _
theorem sumTab_len (r : List (List Nat)) (sh : List Nat) (k : Nat) : (sumTab r sh k).length = k + 1 := by unfold sumTab; simp
theorem sumTab_get {r : List (List Nat)} {sh : List Nat} {k j : Nat} (h : j ≤ k) : atI (sumTab r sh k) (j : Int) = some (dwl (Rw.sums r sh j)) := by
  rw [atI_nat]
  unfold sumTab
  rw [List.getElem?_map, List.getElem?_range (by omega)]; rfl
def F_sums : FS := fun los n P => ∃ (r : List (List Nat)) (sh : List Nat) (k : Nat), los = [.sh (.row r), .sh (.lst (dnats sh)), .sh (.int (k : Nat))] ∧ rowOk r = true ∧ sh.length = r.length ∧ k ≤ 1000000 ∧ P (.ow (sumTab r sh k)) n
def b_sums_of : WS :=
  (wSeq (wSet 3 (wLst (wCons (w1 gList (wB 1)) wNil)))
    (wSeq (wFor (wIR1 (wN 2)) (.name 4)
    (wSeq (wSet 5 (w2 gIx (wB 3) (w1 (gI1 fun i => -i) (wC (.int 1)))))
    (wApp 3 (wComp (wIA (wKept (wN 0))) [6] (.name 6) wYes (w1 gSum (wComp (wIA (wN 6)) [7] (.name 7) wYes (w2 gIx (wB 5) (wN 7))))))))
    (wRetN 3)))
theorem m_sums1 {r : List (List Nat)} {ls : List Nat} {n : Nat} {x1 x2 x3 x4 : Option Lo} {Q : Lo → VS → Prop} (hl : ls.length = r.length) (hg : ∀ w ∈ r, ∀ a ∈ w, a < r.length) (hz : r.length ≤ 1000) (hw : ∀ w ∈ r, w.length ≤ sizeLine)
    (h : Q (.ow (dnats (r.map fun w => (w.map fun a => ls.getD a 0).sum))) ⟨[some (.sh (.row r)), x1, x2, x3, x4, some (.sh (dwl ls)), none, none], n⟩) :
    (wComp (wIA (wKept (wN 0))) [6] (.name 6) wYes (w1 gSum (wComp (wIA (wN 6)) [7] (.name 7) wYes (w2 gIx (wB 5) (wN 7))))) ⟨[some (.sh (.row r)), x1, x2, x3, x4, some (.sh (dwl ls)), none, none], n⟩ Q := by
  simp [rulesT]
  refine map_all (g := fun d => match d with | .tup xs => .int (((xs.map fun d => match d with | .int i => (ls.getD i.toNat 0 : Nat) | _ => 0).sum : Nat) : Int) | d => d) _ [] _ (by simpa using szle (by omega)) (fun d hd Q' hq => ?_) ?_
  · obtain ⟨w, hw1, e⟩ := List.mem_map.mp hd
    subst e
    simp [dw]
    refine map_all (g := fun d => match d with | .int i => .int (ls.getD i.toNat 0 : Nat) | d => d) _ [] _ (by simpa using hw w hw1) (fun d hd Q2 hq2 => ?_) ?_
    · obtain ⟨a, ha, e⟩ := List.mem_map.mp hd
      subst e
      have hl : a < ls.length := by rw [hl]; exact hg w hw1 a ha
      have ea : atI (dnats ls) (a : Int) = some (.int (ls.getD a 0 : Nat)) := by
        rw [atI_nat]
        unfold dnats
        rw [List.getElem?_map, List.getElem?_eq_getElem hl, List.getD_eq_getElem?_getD, List.getElem?_eq_getElem hl]; rfl
      simp [dwl, ea]
      exact hq2 _ _ (by simp) (by simp [dwl])
    · have e2 : ([] ++ (dnats w).map fun d => match d with | .int i => D.int (ls.getD i.toNat 0 : Nat) | d => d) = ((w.map fun a => ls.getD a 0).map fun (x : Nat) => (x : Int)).map D.int := by
        rw [List.nil_append]
        unfold dnats
        rw [List.map_map, List.map_map, List.map_map]
        rfl
      rw [e2, ints?_map]
      dsimp only
      rw [sum_cast]
      refine hq _ _ ?_ (by simp [dwl])
      have e3 : ((dnats w).map fun d => match d with | .int i => ls.getD i.toNat 0 | _ => 0) = w.map fun a => ls.getD a 0 := by
        unfold dnats
        rw [List.map_map]
        rfl
      show some _ = some (D.int ((((dnats w).map _).sum : Nat) : Int))
      rw [e3]
  · have e2 : ([] ++ (r.map dw).map fun d => match d with | .tup xs => .int (((xs.map fun d => match d with | .int i => (ls.getD i.toNat 0 : Nat) | _ => 0).sum : Nat) : Int) | d => d) = dnats (r.map fun w => (w.map fun a => ls.getD a 0).sum) := by
      rw [List.nil_append, List.map_map]
      unfold dnats
      rw [List.map_map]
      refine List.map_congr_left fun w _ => ?_
      show D.int ((((dnats w).map _).sum : Nat) : Int) = _
      have e3 : ((dnats w).map fun d => match d with | .int i => ls.getD i.toNat 0 | _ => 0) = w.map fun a => ls.getD a 0 := by
        unfold dnats
        rw [List.map_map]
        rfl
      rw [e3]
      rfl
    rw [e2]
    exact h
theorem lp_sums {E : EndsV} {r : List (List Nat)} {sh : List Nat} {x1 x2 : Option Lo} {n : Nat} (ok : rowOk r = true) (hs : sh.length = r.length) : ∀ (l : List Int) (j : Nat) (x4 x5 : Option Lo), (x5 = none ∨ ∃ d, x5 = some (.sh d)) → j + l.length ≤ 1000000 → (∀ x4 x5, E.nx ⟨[some (.sh (.row r)), x1, x2, some (.ow (sumTab r sh (j + l.length))), x4, x5, none, none], n⟩) →
    wLoop (.name 4) (wSeq (wSet 5 (w2 gIx (wB 3) (w1 (gI1 fun i => -i) (wC (.int 1)))))
    (wApp 3 (wComp (wIA (wKept (wN 0))) [6] (.name 6) wYes (w1 gSum (wComp (wIA (wN 6)) [7] (.name 7) wYes (w2 gIx (wB 5) (wN 7))))))) (l.map D.int) ⟨[some (.sh (.row r)), x1, x2, some (.ow (sumTab r sh j)), x4, x5, none, none], n⟩ E
  | [], j, x4, x5, _, _, h => by
    have := h x4 x5
    simpa using this
  | i :: l, j, x4, x5, _, hj, h => by
    rw [List.map_cons, wLoop_cons]
    obtain ⟨k1, k2, k3, k4⟩ := rowOk_ok ok
    rw [List.length_cons] at hj h
    simp only [bindT_name]
    rw [if_pos (by simp)]
    dsimp only
    rw [wSeq_ap]
    have hz : (sumTab r sh j).length < sizeLine := by rw [sumTab_len, sizeLine_eq]; omega
    refine set_at (lo := .sh (dwl (Rw.sums r sh j))) (fun Q hq => ?_) (by simp) trivial ?_
    · simp [sumTab_last]
      exact hq
    dsimp only [VS.put, List.set]
    refine app_at (lo := .ow (dnats (Rw.sums r sh (j + 1)))) (d := dwl (Rw.sums r sh (j + 1))) rfl (fun Q hq => m_sums1 (Rw.sums_length hs j) k4 k2 (fun w hw => (k3 w hw).2) hq) rfl hz ?_
    dsimp only [VS.put, List.set]
    rw [← sumTab_succ]
    exact lp_sums ok hs l (j + 1) _ _ (.inr ⟨_, rfl⟩) (by omega) (fun x4 x5 => by
      have := h x4 x5
      rw [show j + (l.length + 1) = j + 1 + l.length by omega] at this
      exact this)
theorem m_sums {los : List Lo} {n : Nat} {P : Lo → Nat → Prop} (h : F_sums los n P) : bodyF 8 b_sums_of los n P := by
  obtain ⟨r, sh, k, e, ok, hs, hk, h⟩ := h
  subst e
  simp only [b_sums_of, bodyF]
  rw [wSeq_ap]
  have hz : k < 4611686018427387904 := by omega
  refine set_at (lo := .ow (sumTab r sh 0)) (fun Q hq => ?_) (by simp) trivial ?_
  · have s1 := szs 1 (by decide)
    simp [s1]
    exact hq
  dsimp only [VS.put, List.set, List.map, List.replicate, List.append]
  rw [wSeq_ap]
  simp
  refine ⟨by omega, ?_⟩
  have e : rng 0 k 1 = ((List.range k).map fun i => (0 + (i : Nat) * 1 : Int)).map D.int := by unfold rng; rw [List.map_map]; rfl
  rw [e]
  refine lp_sums ok hs _ 0 none none (.inl rfl) (by simp; omega) (fun x4 x5 => ?_)
  simp
  exact h
end Vx

set_option Elab.async false
set_option maxRecDepth 100000
set_option linter.all false
namespace Rw
theorem desc_ahead (ls : List Nat) (s : Nat) : ∀ (w : List Nat) (left : Nat) (ah : List (Nat × Nat)) (c : Nat), ∀ q ∈ (desc ls s w left ah c).2.2, q ∈ ah ∨ (q.2 = s ∧ q.1 ∈ w)
  | [], left, ah, c, q, h => .inl h
  | b :: w, left, ah, c, q, h => by
    unfold desc at h
    split at h
    · exact .inl h
    · rcases desc_ahead ls s w _ _ _ q h with z | z
      · rw [List.mem_append, List.mem_singleton] at z
        rcases z with z | z
        · exact .inl z
        · subst z; exact .inr ⟨rfl, by simp⟩
      · exact .inr ⟨z.1, List.mem_cons_of_mem _ z.2⟩
theorem path_ahead {r : Rules} (hg : ∀ w ∈ r, ∀ a ∈ w, a < r.length) (hn : ∀ w ∈ r, w ≠ []) : ∀ (s l left : Nat) (ah : List (Nat × Nat)), l < r.length → ∀ q ∈ (path r s l left ah).2, q ∈ ah ∨ (q.2 < s ∧ q.1 < r.length)
  | 0, l, left, ah, _, q, h => .inl h
  | s + 1, l, left, ah, hl, q, h => by
    have ew : r[l]? = some (r.getD l []) := by simp [List.getD_eq_getElem?_getD, hl]
    have hw : r.getD l [] ∈ r := List.mem_of_getElem? ew
    rcases path_ahead hg hn s _ _ _ (hg _ hw _ (desc_mem (lens r s) s (r.getD l []) left ah 0 (hn _ hw))) q h with z | z
    · rcases desc_ahead _ _ _ _ _ _ q z with z | z
      · exact .inl z
      · exact .inr ⟨by omega, hg _ hw _ z.2⟩
    · exact .inr ⟨by omega, z.2⟩
def mx : List Nat → Nat
  | [] => 0
  | n :: ms => ms.foldl max n
theorem foldl_max_ge : ∀ (l : List Nat) (n : Nat), n ≤ l.foldl max n ∧ ∀ x ∈ l, x ≤ l.foldl max n
  | [], n => ⟨Nat.le_refl _, fun x h => by simp at h⟩
  | a :: l, n => by
    obtain ⟨h1, h2⟩ := foldl_max_ge l (max n a)
    refine ⟨Nat.le_trans (Nat.le_max_left _ _) h1, fun x h => ?_⟩
    rw [List.mem_cons] at h
    rcases h with h | h
    · subst h; exact Nat.le_trans (Nat.le_max_right _ _) h1
    · exact h2 x h
theorem mx_ge {l : List Nat} {x : Nat} (h : x ∈ l) : x ≤ mx l := by
  cases l with
  | nil => simp at h
  | cons n l =>
    rw [List.mem_cons] at h
    rcases h with h | h
    · subst h; exact (foldl_max_ge l x).1
    · exact (foldl_max_ge l n).2 x h
theorem foldl_max_le {k : Nat} : ∀ (l : List Nat) (n : Nat), n ≤ k → (∀ x ∈ l, x ≤ k) → l.foldl max n ≤ k
  | [], n, h, _ => h
  | a :: l, n, h, h2 => foldl_max_le l (max n a) (Nat.max_le.mpr ⟨h, h2 a (by simp)⟩) fun x hx => h2 x (by simp [hx])
theorem mx_le {k : Nat} {l : List Nat} (h : ∀ x ∈ l, x ≤ k) : mx l ≤ k := by
  cases l with
  | nil => exact Nat.zero_le _
  | cons n l => exact foldl_max_le l n (h n (by simp)) fun x hx => h x (by simp [hx])
theorem foldl_max_cast : ∀ (l : List Nat) (n : Nat), (l.map fun (x : Nat) => (x : Int)).foldl max (n : Int) = ((l.foldl max n : Nat) : Int)
  | [], n => rfl
  | a :: l, n => by
    rw [List.map_cons, List.foldl_cons, List.foldl_cons, ← foldl_max_cast l (max n a)]
    congr 1
    omega
end Rw
namespace Vx
open PySem PySem.Spec PyProof.Rows L2
def F_chplace : FS := fun los n P => ∃ p : Nat, los = [.sh (.int (p : Nat))] ∧ P (.sh .non) n
def b_check_place : WS :=
  (wIf (wTst (w2 (gI0 fun i j => .bl (decide (i < j))) (wB 0) (wC (.int 0))))
    wNo
    wSkip)
theorem m_chplace {los : List Lo} {n : Nat} {P : Lo → Nat → Prop} (h : F_chplace los n P) : bodyF 1 b_check_place los n P := by
  obtain ⟨p, e, h⟩ := h
  subst e
  simp only [b_check_place, bodyF]
  simp
  exact h
def F_letter : FS := fun los n P => ∃ (r : List (List Nat)) (p k : Nat), los = [.sh (.row r), .sh (.int (p : Nat))] ∧ pathOk r k p ∧ P (.sh (.int ((Rw.path r k 0 p []).1 : Nat))) n
def b_letter_at : WS :=
  (wSeq (wDrop (wCallN 1 F_chplace (wFCons (wN 1) wFNil)))
    (wRet (w2 gIx (wCallN 2 F_path (wFCons (wN 0) (wFCons (wN 1) wFNil))) (wC (.int 0)))))
theorem m_letter {los : List Lo} {n : Nat} {P : Lo → Nat → Prop} (h : F_letter los n P) : bodyF 2 b_letter_at los n P := by
  obtain ⟨r, p, k, e, hp, h⟩ := h
  subst e
  simp only [b_letter_at, bodyF]
  rw [wSeq_ap]
  simp
  refine ⟨p, rfl, ?_⟩
  simp
  refine ⟨r, p, k, rfl, hp, ?_⟩
  have e0 : atI [D.int ((Rw.path r k 0 p []).1 : Nat), D.lst ((Rw.path r k 0 p []).2.map pairD)] 0 = some (.int ((Rw.path r k 0 p []).1 : Nat)) := rfl
  simp [e0]
  exact h
def F_ahead : FS := fun los n P => ∃ (r : List (List Nat)) (sh : List Nat) (p k : Nat), los = [.sh (.row r), .sh (.lst (dnats sh)), .sh (.int (p : Nat))] ∧ rowOk r = true ∧ sh.length = r.length ∧ pathOk r k p ∧ P (.sh (.int (Rw.aheadSum r sh (Rw.path r k 0 p []).2 : Nat))) n
def b_sum_ahead : WS :=
  (wSeq (wSet 3 (w2 gIx (wCallN 2 F_path (wFCons (wN 0) (wFCons (wN 2) wFNil))) (wC (.int 1))))
    (wSeq (wSet 4 (wCallN 3 F_sums (wFCons (wN 0) (wFCons (wN 1) (wFCons (wMaxD (wComp (wIA (wN 3)) [5, 6] (.tup [(.name 5), (.name 6)]) wYes (wN 6)) (wC (.int 0))) wFNil)))))
    (wRet (w1 gSum (wComp (wIA (wN 3)) [5, 6] (.tup [(.name 5), (.name 6)]) wYes (w2 gIx (w2 gIx (wB 4) (wN 6)) (wN 5)))))))
theorem m_ahead {los : List Lo} {n : Nat} {P : Lo → Nat → Prop} (h : F_ahead los n P) : bodyF 7 b_sum_ahead los n P := by
  obtain ⟨r, sh, p, k, e, ok, hs, hp, h⟩ := h
  subst e
  obtain ⟨k1, k2, k3, k4⟩ := rowOk_ok ok
  have hah : ∀ q ∈ (Rw.path r k 0 p []).2, q.2 < k ∧ q.1 < r.length := fun q hq => by
    rcases Rw.path_ahead k4 (fun w hw => (k3 w hw).1) k 0 p [] (good0 k1).2.1 q hq with z | z
    · simp at z
    · exact z
  have hk : k ≤ 1000000 := hp.2.1.2.2
  have hal := hp.2.2
  simp only [b_sum_ahead, bodyF]
  have h1 : ∀ Q : Lo → VS → Prop, Q (.sh (.lst ((Rw.path r k 0 p []).2.map pairD))) ⟨[some (.sh (.row r)), some (.sh (.lst (dnats sh))), some (.sh (.int (p : Nat))), none, none, none, none], n⟩ →
      (w2 gIx (wCallN 2 F_path (wFCons (wN 0) (wFCons (wN 2) wFNil))) (wC (.int 1))) ⟨[some (.sh (.row r)), some (.sh (.lst (dnats sh))), some (.sh (.int (p : Nat))), none, none, none, none], n⟩ Q := fun Q hq => by
    simp
    refine ⟨r, p, k, rfl, hp, ?_⟩
    have e1 : atI [D.int ((Rw.path r k 0 p []).1 : Nat), D.lst ((Rw.path r k 0 p []).2.map pairD)] 1 = some (D.lst ((Rw.path r k 0 p []).2.map pairD)) := rfl
    simp [e1]
    exact hq
  generalize Rw.path r k 0 p [] = pa at h h1 hah hal
  obtain ⟨lt, ah⟩ := pa
  dsimp only at h h1 hah hal
  have hz : ah.length ≤ sizeLine := by rw [sizeLine_eq]; omega
  rw [wSeq_ap]
  refine set_at (fun Q hq => h1 Q hq) (by simp) trivial ?_
  dsimp only [VS.put, List.set]
  rw [wSeq_ap]
  have hm : Rw.mx (ah.map Prod.snd) ≤ k := Rw.mx_le fun x hx => by
    obtain ⟨q, hq, e⟩ := List.mem_map.mp hx
    subst e
    exact Nat.le_of_lt (hah q hq).1
  refine set_at (lo := .ow (sumTab r sh (Rw.mx (ah.map Prod.snd)))) (fun Q hq => ?_) (by simp) trivial ?_
  · simp
    refine map_all (g := fun d => match d with | .tup [_, s] => s | d => d) _ [] _ (by simpa using hz) (fun d hd Q' hq' => ?_) ?_
    · obtain ⟨q, hq2, e⟩ := List.mem_map.mp hd
      subst e
      simp [pairD]
      exact hq' _ _ (by simp [pairD]) (by simp [wipeE])
    · have e2 : ([] ++ (ah.map pairD).map fun d => match d with | .tup [_, s] => s | d => d) = ((ah.map Prod.snd).map fun (x : Nat) => (x : Int)).map D.int := by
        rw [List.nil_append, List.map_map, List.map_map, List.map_map]
        rfl
      rw [e2, ints?_map]
      dsimp only
      refine ⟨r, sh, Rw.mx (ah.map Prod.snd), ?_, ok, hs, by omega, hq⟩
      congr 4
      cases ah.map Prod.snd with
      | nil => rfl
      | cons a l => exact congrArg D.int (Rw.foldl_max_cast l a)
  dsimp only [VS.put, List.set]
  simp
  refine map_all (g := fun d => match d with | .tup [.int c, .int s] => .int ((Rw.sums r sh s.toNat).getD c.toNat 0 : Nat) | d => d) _ [] _ (by simpa using hz) (fun d hd Q' hq' => ?_) ?_
  · obtain ⟨q, hq2, e⟩ := List.mem_map.mp hd
    subst e
    have hq := hah q hq2
    have hle : q.2 ≤ Rw.mx (ah.map Prod.snd) := Rw.mx_ge (List.mem_map_of_mem hq2)
    have hl : q.1 < (Rw.sums r sh q.2).length := by rw [Rw.sums_length hs]; exact hq.2
    have ea : atI (dnats (Rw.sums r sh q.2)) (q.1 : Int) = some (.int ((Rw.sums r sh q.2).getD q.1 0 : Nat)) := by
      rw [atI_nat]
      unfold dnats
      rw [List.getElem?_map, List.getElem?_eq_getElem hl, List.getD_eq_getElem?_getD, List.getElem?_eq_getElem hl]; rfl
    simp [pairD, sumTab_get hle, dwl, ea]
    exact hq' _ _ (by simp [pairD]) (by simp [wipeE])
  · have e2 : ([] ++ (ah.map pairD).map fun d => match d with | .tup [.int c, .int s] => .int ((Rw.sums r sh s.toNat).getD c.toNat 0 : Nat) | d => d) = ((ah.map fun q => (Rw.sums r sh q.2).getD q.1 0).map fun (x : Nat) => (x : Int)).map D.int := by
      rw [List.nil_append, List.map_map, List.map_map, List.map_map]
      rfl
    rw [e2, ints?_map]
    dsimp only
    rw [sum_cast]
    exact h

def indic (m c : Nat) : List Nat := (List.range m).map fun o => if o = c then 1 else 0
def F_count : FS := fun los n P => ∃ (r : List (List Nat)) (c p k : Nat), los = [.sh (.row r), .sh (.int (c : Nat)), .sh (.int (p : Nat))] ∧ rowOk r = true ∧ c < r.length ∧ pathOk r k p ∧ P (.sh (.int (Rw.aheadSum r (indic r.length c) (Rw.path r k 0 p []).2 : Nat))) n
def b_count_to : WS :=
  (wSeq (wIf (wNot (wChain (fun i j => decide (i ≤ j)) (fun i j => decide (i < j)) (wC (.int 0)) (wB 1) (w1 gLen (wKept (wN 0)))))
    wNo
    wSkip)
    (wSeq (wDrop (wCallN 1 F_chplace (wFCons (wN 2) wFNil)))
    (wRet (wCallN 3 F_ahead (wFCons (wN 0) (wFCons (wComp (wIR1 (w1 gLen (wKept (wN 0)))) [3] (.name 3) wYes (w1 gInt (w2 (gEq false) (wB 3) (wB 1)))) (wFCons (wN 2) wFNil)))))))
theorem m_count {los : List Lo} {n : Nat} {P : Lo → Nat → Prop} (h : F_count los n P) : bodyF 4 b_count_to los n P := by
  obtain ⟨r, c, p, k, e, ok, hc, hp, h⟩ := h
  subst e
  obtain ⟨k1, k2, k3, k4⟩ := rowOk_ok ok
  simp only [b_count_to, bodyF]
  rw [wSeq_ap]
  simp [rulesT, hc]
  rw [wSeq_ap]
  simp
  refine ⟨p, rfl, ?_⟩
  simp [rulesT]
  refine ⟨by omega, ?_⟩
  refine map_all (g := fun d => match d with | .int i => .int (if i.toNat = c then 1 else 0) | d => d) _ [] _ (by rw [rng_length]; simpa using szle (by omega)) (fun d hd Q' hq' => ?_) ?_
  · obtain ⟨i, hi, e⟩ := List.mem_map.mp hd
    subst e
    simp
    by_cases z : i = c
    · subst z
      simp
      exact hq' _ _ (by simp) (by simp [wipeE])
    · have z' : ¬ (i : Int) = (c : Int) := by omega
      simp [z']
      exact hq' _ _ (by simp [z]) (by simp [wipeE])
  · have e2 : ([] ++ (rng 0 r.length 1).map fun d => match d with | .int i => .int (if i.toNat = c then 1 else 0) | d => d) = dnats (indic r.length c) := by
      unfold rng dnats indic
      rw [List.nil_append, List.map_map, List.map_map]
      refine List.map_congr_left fun i _ => ?_
      simp
      split <;> rfl
    rw [e2]
    exact ⟨r, indic r.length c, p, k, rfl, ok, by simp [indic], hp, h⟩
def F_piece : FS := fun los n P => ∃ (r : List (List Nat)) (p m : Nat) (g : Nat → Nat), los = [.sh (.row r), .sh (.int (p : Nat)), .sh (.int (m : Nat))] ∧ m ≤ 1000000 ∧ (∀ i, i < m → ∃ k, pathOk r k (p + i) ∧ (Rw.path r k 0 (p + i) []).1 = g i) ∧ P (.ow (dnats ((List.range m).map g))) n
def b_piece : WS :=
  (wSeq (wDrop (wCallN 1 F_chplace (wFCons (wN 1) wFNil)))
    (wSeq (wIf (wTst (w2 (gI0 fun i j => .bl (decide (i < j))) (wB 2) (wC (.int 0))))
    wNo
    wSkip)
    (wRet (wComp (wIR1 (wN 2)) [3] (.name 3) wYes (w2 gIx (wCallN 2 F_path (wFCons (wN 0) (wFCons (w2 gAdd (wB 1) (wB 3)) wFNil))) (wC (.int 0)))))))
theorem m_piece {los : List Lo} {n : Nat} {P : Lo → Nat → Prop} (h : F_piece los n P) : bodyF 4 b_piece los n P := by
  obtain ⟨r, p, m, g, e, hm, hg, h⟩ := h
  subst e
  simp only [b_piece, bodyF]
  rw [wSeq_ap]
  simp
  refine ⟨p, rfl, ?_⟩
  dsimp only
  rw [wSeq_ap]
  simp
  refine ⟨by omega, ?_⟩
  refine map_all (g := fun d => match d with | .int i => .int (g i.toNat : Nat) | d => d) _ [] _ (by rw [rng_length, sizeLine_eq]; simp; omega) (fun d hd Q' hq' => ?_) ?_
  · obtain ⟨i, hi, e⟩ := List.mem_map.mp hd
    subst e
    have hi' : i < m := by simpa using hi
    obtain ⟨k, hk, eg⟩ := hg i hi'
    simp
    refine ⟨r, p + i, k, by simp, hk, ?_⟩
    have e1 : atI [D.int ((Rw.path r k 0 (p + i) []).1 : Nat), D.lst ((Rw.path r k 0 (p + i) []).2.map pairD)] 0 = some (.int ((Rw.path r k 0 (p + i) []).1 : Nat)) := rfl
    simp [e1, eg]
    exact hq' _ _ (by simp) (by simp [wipeE])
  · have e2 : ([] ++ (rng 0 m 1).map fun d => match d with | .int i => .int (g i.toNat : Nat) | d => d) = dnats ((List.range m).map g) := by
      unfold rng dnats
      rw [List.nil_append, List.map_map, List.map_map]
      refine List.map_congr_left fun i _ => ?_
      simp
    rw [e2]
    exact h
end Vx

set_option Elab.async false
set_option maxRecDepth 100000
set_option linter.all false
/-! enumerate(zip(a, b)) of two lists, of two tuples: below. -/
namespace Vx
open PySem PySem.Spec PyProof.Rows L2
open PySem.Sem (wp)
/-- an iterator of a list (true), of a tuple (false) -/
def ItAt (b : Bool) (h : Heap) (it l : Addr) (k : Nat) : Prop := if b = true then h.IsListIter it l k else h.IsTupleIter it l k
def SeqIn (b : Bool) (h : Heap) (l : Addr) (xs : Array Value) : Prop := if b = true then h.IsList l xs else h.IsTuple l xs
theorem ItAt.mv {b : Bool} {h h' : Heap} {it l : Addr} {k : Nat} (x : ItAt b h it l k) (e : ∀ o, h.get? it = some o → h'.get? it = some o) : ItAt b h' it l k := by
  cases b with
  | true => exact (show h.IsListIter it l k from x).at e
  | false => exact (show h.IsTupleIter it l k from x).at e
theorem ItAt.ob {b : Bool} {h : Heap} {it l : Addr} {k : Nat} (x : ItAt b h it l k) : ∃ o, h.get? it = some o ∧ ∀ v, o.data ≠ .cell v := by
  cases b with
  | true =>
    obtain ⟨o, e1, _, d1⟩ := (show h.IsListIter it l k from x)
    exact ⟨o, e1, fun v q => by rw [d1] at q; cases q⟩
  | false =>
    obtain ⟨o, e1, _, d1⟩ := (show h.IsTupleIter it l k from x)
    exact ⟨o, e1, fun v q => by rw [d1] at q; cases q⟩
theorem SeqIn.mv {b : Bool} {h h' : Heap} {l : Addr} {xs : Array Value} (x : SeqIn b h l xs) (e : ∀ o, h.get? l = some o → h'.get? l = some o) : SeqIn b h' l xs := by
  cases b with
  | true => obtain ⟨o, ho, r⟩ := (show h.IsList l xs from x); exact ⟨o, e _ ho, r⟩
  | false => obtain ⟨o, ho, r⟩ := (show h.IsTuple l xs from x); exact ⟨o, e _ ho, r⟩
section
variable {prog : Program} {w : World} {A : Around} {E : Value → Shared → Prop} {s : Shared}
theorem next_item {b : Bool} {it l : Addr} {k : Nat} {xs : Array Value} {x : Value} {Q : Value → Shared → Prop} (hit : ItAt b s.heap it l k) (hl : SeqIn b s.heap l xs) (hx : xs[k]? = some x)
    (hQ : ∀ h', ItAt b h' it l (k + 1) → Heap.SameBut it s.heap h' → Q x { s with heap := h' }) : wpAny (model prog w) A (Builtin.SmallTypes.nextOf (.ref it)) Q E s := by
  cases b with
  | true => exact wpAny_nextOf_list_item hit hl hx hQ
  | false => exact RZ.nextOf_tuple_item hit hl hx hQ
theorem next_end {b : Bool} {it l : Addr} {k : Nat} {xs : Array Value} {Q : Value → Shared → Prop} (hh : A.handled = none) (hit : ItAt b s.heap it l k) (hl : SeqIn b s.heap l xs) (hx : xs[k]? = none)
    (hE : ∀ h' e, Heap.ExtBut it s.heap h' → (∃ o, h'.get? e = some o ∧ o.cls = .type "StopIteration") → E (.ref e) { s with heap := h' }) : wpAny (model prog w) A (Builtin.SmallTypes.nextOf (.ref it)) Q E s := by
  cases b with
  | true => exact wpAny_nextOf_list_end hh hit hl hx hE
  | false => exact RZ.nextOf_tuple_end hh hit hl hx hE
/-- a zip: whose tuple it has out, if any -/
def ZF (h : Heap) (z TI TO : Addr) (f0 f1 : Value) : Prop := h.get? z = some { cls := .type "zip", dict := none, data := .fields #[f0, f1, .bool false, .ref TI, .ref TO], slots := #[] }
def Own0 (f0 : Value) : Prop := f0 = .none ∨ ∃ T : Nat, f0 = rawInt T
theorem alive_any {a : Addr} {Q : Option Obj → Shared → Prop} (h : Q (s.heap.get? a) s) : wpAny (model prog w) A (loadIfAlive a) Q E s := fun _ _ _ => h
theorem free_any {z TI TO : Addr} {f0 f1 : Value} {Q : Bool → Shared → Prop} (hz : ZF s.heap z TI TO f0 f1) (hf : Own0 f0)
    (h : ∀ b h' g1, ZF h' z TI TO f0 g1 → Heap.SameBut z s.heap h' → Q b { s with heap := h' }) : wpAny (model prog w) A (Builtin.SmallTypes.ownedTupleIsFree (.ref z)) Q E s := by
  unfold Builtin.SmallTypes.ownedTupleIsFree
  refine wpAny_bind (wpAny_field hz rfl (x := f0) rfl ?_)
  rcases hf with e | ⟨T, e⟩
  · subst e
    exact wpAny_pure (h true s.heap f1 hz (Heap.SameBut.refl _ _))
  · subst e
    show wpAny _ _ (loadIfAlive ((T : Int).toNat) >>= fun _ => _) _ _ _
    refine wpAny_bind (alive_any ?_)
    cases s.heap.get? ((T : Int).toNat) with
    | none =>
      simp only [Option.isNone_none, if_true]
      exact wpAny_pure (h true s.heap f1 hz (Heap.SameBut.refl _ _))
    | some o =>
      simp only [Option.isNone_some, Bool.false_eq_true, if_false]
      refine wpAny_bind (wpAny_field hz rfl (x := f1) rfl ?_)
      split
      · exact wpAny_bind (wpAny_setField_rec hz (by simp) fun h1 z1 s1 => wpAny_pure (h false h1 (.bool true) z1 s1))
      · exact wpAny_pure (h false s.heap f1 hz (Heap.SameBut.refl _ _))
theorem zip_step {b : Bool} {z TI TO i1 i2 l1 l2 : Addr} {f0 f1 : Value} {k : Nat} {xs ys : Array Value} {x y a0 b0 : Value} {Q : Value → Shared → Prop} (D : ZipApart z TI TO i1 i2 l1 l2)
    (hz : ZF s.heap z TI TO f0 f1) (hf : Own0 f0) (pI : IsPair s.heap TI (.ref i1) (.ref i2)) (pO : IsPair s.heap TO a0 b0)
    (j1 : ItAt b s.heap i1 l1 k) (j2 : ItAt b s.heap i2 l2 k) (q1 : SeqIn b s.heap l1 xs) (q2 : SeqIn b s.heap l2 ys) (hx : xs[k]? = some x) (hy : ys[k]? = some y)
    (hQ : ∀ h' g0 g1, Own0 g0 → ZF h' z TI TO g0 g1 → (∃ a b, IsPair h' TO a b) → ItAt b h' i1 l1 (k + 1) → ItAt b h' i2 l2 (k + 1) → IsPair h' s.heap.objs.size x y → h'.objs.size = s.heap.objs.size + 1 →
      (∀ c o, c ≠ z → c ≠ TO → c ≠ i1 → c ≠ i2 → s.heap.get? c = some o → h'.get? c = some o) → Q (.ref s.heap.objs.size) { s with heap := h' }) :
    wpAny (model prog w) A (Builtin.«zip.__next__» ⟨[.ref z], []⟩) (fun fin s' => ∃ v, fin = .done (.ret v) ∧ Q v s') E s := by
  show wpAny _ _ (field (.ref z) 2 >>= fun _ => _) _ _ _
  refine wpAny_bind (wpAny_field hz rfl (x := .bool false) rfl ?_)
  show wpAny _ _ (field (.ref z) 3 >>= fun _ => _) _ _ _
  refine wpAny_bind (wpAny_field hz rfl (x := .ref TI) rfl (wpAny_bind (wpAny_seqItems pI rfl ?_)))
  show wpAny _ _ (Builtin.SmallTypes.ownedTupleIsFree (.ref z) >>= fun _ => _) _ _ _
  refine wpAny_bind (free_any hz hf fun fr h0 g1 z0 s0 => ?_)
  have up0 : ∀ c o, c ≠ z → s.heap.get? c = some o → h0.get? c = some o := fun c o c1 e => s0.extBut _ _ c1 e
  have pO0 := up0 _ _ D.TOz pO
  have j10 := j1.mv (h' := h0) fun o e => up0 _ o D.i1z e
  have j20 := j2.mv (h' := h0) fun o e => up0 _ o D.i2z e
  have q10 := q1.mv (h' := h0) fun o e => up0 _ o D.l1z e
  have q20 := q2.mv (h' := h0) fun o e => up0 _ o D.l2z e
  cases fr with
  | true =>
    simp only [if_true]
    refine wpAny_bind (wpAny_rule (wpAny_bind (wpAny_field z0 rfl (x := .ref TO) rfl ?_)))
    refine wpAny_bind (wpAny_setField_rec z0 (by simp) fun h1 z1 s1 => ?_)
    replace z1 : ZF h1 z TI TO .ellipsis g1 := z1
    refine wpAny_bind ?_
    simp only [List.zipIdx_cons, List.zipIdx_nil, List.forIn_cons, List.forIn_nil]
    have up1 : ∀ c o, c ≠ z → s.heap.get? c = some o → h1.get? c = some o := fun c o c1 e => s1.extBut _ _ c1 (up0 c o c1 e)
    refine wpAny_bind (wpAny_bind (wpAny_onRaise ?_))
    show wpAny _ _ (Builtin.SmallTypes.nextOf (.ref i1) >>= fun _ => _) _ _ _
    refine wpAny_bind (next_item (j1.mv fun o e => up1 _ o D.i1z e) (q1.mv fun o e => up1 _ o D.l1z e) hx fun h2 j12 s2 => wpAny_pure ?_)
    have pO2 : IsPair h2 TO a0 b0 := s2.extBut _ _ D.TOi1 (up1 _ _ D.TOz pO)
    refine wpAny_bind (wpAny_seqItems pO2 rfl (wpAny_bind (wpAny_updateSeq_pair pO2 fun h3 pO3 s3 => ?_)))
    replace pO3 : IsPair h3 TO x b0 := pO3
    refine wpAny_bind (wpAny_letGo (wpAny_pure ?_))
    have up3 : ∀ c o, c ≠ z → c ≠ TO → c ≠ i1 → s.heap.get? c = some o → h3.get? c = some o := fun c o c1 c2 c3 e => s3.extBut _ _ c2 (s2.extBut _ _ c3 (up1 c o c1 e))
    refine wpAny_bind (wpAny_bind (wpAny_onRaise ?_))
    show wpAny _ _ (Builtin.SmallTypes.nextOf (.ref i2) >>= fun _ => _) _ _ _
    refine wpAny_bind (next_item (j2.mv fun o e => up3 _ o D.i2z D.TOi2.symm D.i12.symm e) (q2.mv fun o e => up3 _ o D.l2z D.l2TO D.l2i1 e) hy fun h4 j24 s4 => wpAny_pure ?_)
    have pO4 : IsPair h4 TO x b0 := s4.extBut _ _ D.TOi2 pO3
    refine wpAny_bind (wpAny_seqItems pO4 rfl (wpAny_bind (wpAny_updateSeq_pair pO4 fun h5 pO5 s5 => ?_)))
    replace pO5 : IsPair h5 TO x y := pO5
    refine wpAny_bind (wpAny_letGo (wpAny_pure (wpAny_pure ?_)))
    refine wpAny_bind (wpAny_seqItems pO5 rfl (wpAny_bind (wpAny_newTuple ?_)))
    have sz5 : h5.objs.size = s.heap.objs.size := by rw [s5.1, s4.1, s3.1, s2.1, s1.1, s0.1]
    have z5 : ZF h5 z TI TO .ellipsis g1 := s5.extBut _ _ D.TOz.symm (s4.extBut _ _ D.i2z.symm (s3.extBut _ _ D.TOz.symm (s2.extBut _ _ D.i1z.symm z1)))
    have up5 : ∀ c o, c ≠ z → c ≠ TO → c ≠ i1 → c ≠ i2 → s.heap.get? c = some o → h5.get? c = some o := fun c o c1 c2 c3 c4 e => s5.extBut _ _ c2 (s4.extBut _ _ c4 (up3 c o c1 c2 c3 e))
    have j15 : ItAt b h5 i1 l1 (k + 1) := j12.mv fun o e => s5.extBut _ _ D.TOi1.symm (s4.extBut _ _ D.i12 (s3.extBut _ _ D.TOi1.symm e))
    have j25 : ItAt b h5 i2 l2 (k + 1) := j24.mv fun o e => s5.extBut _ _ D.TOi2.symm e
    have zlt : z < h5.objs.size := Heap.lt_size z5
    show wpAny _ _ (Builtin.SmallTypes.ownedTupleHandOut (.ref z) (.ref h5.objs.size) >>= fun _ => _) _ _ _
    refine wpAny_bind ?_
    unfold Builtin.SmallTypes.ownedTupleHandOut
    have z6 : ZF (h5.push { cls := .type "tuple", data := .seq #[x, y] }) z TI TO .ellipsis g1 := Heap.get?_push_of_some _ z5
    refine wpAny_bind (wpAny_setField_rec z6 (by simp) fun h7 z7 s7 => ?_)
    replace z7 : ZF h7 z TI TO (rawInt h5.objs.size) g1 := z7
    refine wpAny_setField_rec z7 (by simp) fun h8 z8 s8 => wpAny_pure ⟨_, rfl, ?_⟩
    replace z8 : ZF h8 z TI TO (rawInt h5.objs.size) (.bool false) := z8
    have up8 : ∀ c o, c ≠ z → h5.get? c = some o → h8.get? c = some o := fun c o c1 e => s8.extBut _ _ c1 (s7.extBut _ _ c1 (Heap.get?_push_of_some _ e))
    have p8 : IsPair h8 h5.objs.size x y := s8.extBut _ _ (Nat.ne_of_gt zlt) (s7.extBut _ _ (Nat.ne_of_gt zlt) (Heap.get?_push_size _ rfl))
    have sz8 : h8.objs.size = h5.objs.size + 1 := by rw [s8.1, s7.1, Heap.size_push]
    show Q (.ref h5.objs.size) _
    rw [sz5] at z8 p8 sz8 ⊢
    exact hQ h8 _ _ (.inr ⟨_, rfl⟩) z8 ⟨x, y, up8 _ _ D.TOz pO5⟩ (j15.mv fun o e => up8 _ o D.i1z e) (j25.mv fun o e => up8 _ o D.i2z e) p8 sz8 fun c o c1 c2 c3 c4 e => up8 c o c1 (up5 c o c1 c2 c3 c4 e)
  | false =>
    simp only [Bool.false_eq_true, if_false]
    refine wpAny_bind ?_
    rw [← Array.forIn_toList]
    simp only [List.forIn_cons, List.forIn_nil]
    refine wpAny_bind (wpAny_bind (wpAny_holding ?_))
    show wpAny _ _ (Builtin.SmallTypes.nextOf (.ref i1) >>= fun _ => _) _ _ _
    refine wpAny_bind (next_item (s := { s with heap := h0 }) j10 q10 hx fun h2 j12 s2 => wpAny_pure (wpAny_pure ?_))
    refine wpAny_bind (wpAny_bind (wpAny_holding ?_))
    show wpAny _ _ (Builtin.SmallTypes.nextOf (.ref i2) >>= fun _ => _) _ _ _
    refine wpAny_bind (next_item (s := { s with heap := h2 }) (j20.mv fun o e => s2.extBut _ _ D.i12.symm e) (q20.mv fun o e => s2.extBut _ _ D.l2i1 e) hy fun h3 j23 s3 => wpAny_pure (wpAny_pure (wpAny_pure ?_)))
    show wpAny _ _ (newTuple [x, y] >>= fun _ => _) _ _ _
    refine wpAny_bind (wpAny_newTuple (wpAny_pure ⟨_, rfl, ?_⟩))
    have sz3 : h3.objs.size = s.heap.objs.size := by rw [s3.1, s2.1, s0.1]
    have z3 : ZF h3 z TI TO f0 g1 := s3.extBut _ _ D.i2z.symm (s2.extBut _ _ D.i1z.symm z0)
    have up3 : ∀ c o, c ≠ z → c ≠ i1 → c ≠ i2 → s.heap.get? c = some o → h3.get? c = some o := fun c o c1 c2 c3 e => s3.extBut _ _ c3 (s2.extBut _ _ c2 (up0 c o c1 e))
    have pu : ∀ c o, h3.get? c = some o → (h3.push { cls := .type "tuple", data := .seq #[x, y] }).get? c = some o := fun c o e => Heap.get?_push_of_some _ e
    have p4 : IsPair (h3.push { cls := .type "tuple", data := .seq #[x, y] }) h3.objs.size x y := Heap.get?_push_size _ rfl
    have sz4 : (h3.push { cls := .type "tuple", data := .seq #[x, y] }).objs.size = h3.objs.size + 1 := Heap.size_push ..
    show Q (.ref h3.objs.size) _
    rw [sz3] at p4 sz4 ⊢
    exact hQ _ f0 g1 hf (pu _ _ z3) ⟨a0, b0, pu _ _ (up3 _ _ D.TOz D.TOi1 D.TOi2 pO)⟩ ((j12.mv fun o e => s3.extBut _ _ D.i12 e).mv fun o e => pu _ o e) (j23.mv fun o e => pu _ o e) p4 sz4 fun c o c1 c2 c3 c4 e => pu c o (up3 c o c1 c3 c4 e)
end
end Vx

set_option Elab.async false
set_option maxRecDepth 100000
set_option linter.all false
/-! enumerate(zip(a, b)): the end, the steps of enumerate. -/
namespace Vx
open PySem PySem.Spec PyProof.Rows L2
open PySem.Sem (wp)
section
variable {prog : Program} {w : World} {A : Around} {E : Value → Shared → Prop} {s : Shared}
theorem zip_stop {b : Bool} {z TI TO i1 i2 l1 l2 : Addr} {f0 f1 : Value} {k : Nat} {xs ys : Array Value} {a0 b0 : Value} {Q : Fin → Shared → Prop} (hh : A.handled = none) (D : ZipApart z TI TO i1 i2 l1 l2)
    (hz : ZF s.heap z TI TO f0 f1) (hf : Own0 f0) (pI : IsPair s.heap TI (.ref i1) (.ref i2)) (pO : IsPair s.heap TO a0 b0)
    (j1 : ItAt b s.heap i1 l1 k) (j2 : ItAt b s.heap i2 l2 k) (q1 : SeqIn b s.heap l1 xs) (q2 : SeqIn b s.heap l2 ys) (hend : xs[k]? = none ∨ ys[k]? = none)
    (hE : ∀ h' e, (∀ c o, c ≠ z → c ≠ TO → c ≠ i1 → c ≠ i2 → s.heap.get? c = some o → h'.get? c = some o) → (∃ o, h'.get? e = some o ∧ o.cls = .type "StopIteration") → E (.ref e) { s with heap := h' }) :
    wpAny (model prog w) A (Builtin.«zip.__next__» ⟨[.ref z], []⟩) Q E s := by
  show wpAny _ _ (field (.ref z) 2 >>= fun _ => _) _ _ _
  refine wpAny_bind (wpAny_field hz rfl (x := .bool false) rfl ?_)
  show wpAny _ _ (field (.ref z) 3 >>= fun _ => _) _ _ _
  refine wpAny_bind (wpAny_field hz rfl (x := .ref TI) rfl (wpAny_bind (wpAny_seqItems pI rfl ?_)))
  show wpAny _ _ (Builtin.SmallTypes.ownedTupleIsFree (.ref z) >>= fun _ => _) _ _ _
  refine wpAny_bind (free_any hz hf fun fr h0 g1 z0 s0 => ?_)
  have up0 : ∀ c o, c ≠ z → s.heap.get? c = some o → h0.get? c = some o := fun c o c1 e => s0.extBut _ _ c1 e
  have j10 := j1.mv (h' := h0) fun o e => up0 _ o D.i1z e
  have j20 := j2.mv (h' := h0) fun o e => up0 _ o D.i2z e
  have q10 := q1.mv (h' := h0) fun o e => up0 _ o D.l1z e
  have q20 := q2.mv (h' := h0) fun o e => up0 _ o D.l2z e
  cases fr with
  | true =>
    simp only [if_true]
    refine wpAny_bind (wpAny_rule (wpAny_bind (wpAny_field z0 rfl (x := .ref TO) rfl ?_)))
    refine wpAny_bind (wpAny_setField_rec z0 (by simp) fun h1 z1 s1 => ?_)
    replace z1 : ZF h1 z TI TO .ellipsis g1 := z1
    refine wpAny_bind ?_
    simp only [List.zipIdx_cons, List.zipIdx_nil, List.forIn_cons, List.forIn_nil]
    have up1 : ∀ c o, c ≠ z → s.heap.get? c = some o → h1.get? c = some o := fun c o c1 e => s1.extBut _ _ c1 (up0 c o c1 e)
    refine wpAny_bind (wpAny_bind (wpAny_onRaise ?_))
    show wpAny _ _ (Builtin.SmallTypes.nextOf (.ref i1) >>= fun _ => _) _ _ _
    cases hx : xs[k]? with
    | none =>
      refine wpAny_bind (next_end hh (j1.mv fun o e => up1 _ o D.i1z e) (q1.mv fun o e => up1 _ o D.l1z e) hx fun h2 e s2 he => ?_)
      obtain ⟨oe, hoe, hce⟩ := he
      have z2 : ZF h2 z TI TO .ellipsis g1 := s2 _ _ D.i1z.symm z1
      have ez : e ≠ z := fun q => by
        subst q
        unfold ZF at z2
        rw [z2] at hoe
        cases hoe
        simp at hce
      exact wpAny_setField_rec z2 (by simp) fun h3 _ s3 => hE h3 e (fun c o c1 _ c3 _ q => s3.extBut _ _ c1 (s2 _ _ c3 (up1 c o c1 q))) ⟨oe, s3.extBut _ _ ez hoe, hce⟩
    | some x =>
      have hy : ys[k]? = none := by
        rcases hend with q | q
        · rw [hx] at q; cases q
        · exact q
      refine wpAny_bind (next_item (j1.mv fun o e => up1 _ o D.i1z e) (q1.mv fun o e => up1 _ o D.l1z e) hx fun h2 j12 s2 => wpAny_pure ?_)
      have pO2 : IsPair h2 TO a0 b0 := s2.extBut _ _ D.TOi1 (up1 _ _ D.TOz pO)
      refine wpAny_bind (wpAny_seqItems pO2 rfl (wpAny_bind (wpAny_updateSeq_pair pO2 fun h3 pO3 s3 => wpAny_bind (wpAny_letGo (wpAny_pure ?_)))))
      have up3 : ∀ c o, c ≠ z → c ≠ TO → c ≠ i1 → s.heap.get? c = some o → h3.get? c = some o := fun c o c1 c2 c3 e => s3.extBut _ _ c2 (s2.extBut _ _ c3 (up1 c o c1 e))
      refine wpAny_bind (wpAny_bind (wpAny_onRaise ?_))
      show wpAny _ _ (Builtin.SmallTypes.nextOf (.ref i2) >>= fun _ => _) _ _ _
      refine wpAny_bind (next_end hh (j2.mv fun o e => up3 _ o D.i2z D.TOi2.symm D.i12.symm e) (q2.mv fun o e => up3 _ o D.l2z D.l2TO D.l2i1 e) hy fun h4 e s4 he => ?_)
      obtain ⟨oe, hoe, hce⟩ := he
      have z4 : ZF h4 z TI TO .ellipsis g1 := s4 _ _ D.i2z.symm (s3.extBut _ _ D.TOz.symm (s2.extBut _ _ D.i1z.symm z1))
      have ez : e ≠ z := fun q => by
        subst q
        unfold ZF at z4
        rw [z4] at hoe
        cases hoe
        simp at hce
      exact wpAny_setField_rec z4 (by simp) fun h5 _ s5 => hE h5 e (fun c o c1 c2 c3 c4 q => s5.extBut _ _ c1 (s4 _ _ c4 (up3 c o c1 c2 c3 q))) ⟨oe, s5.extBut _ _ ez hoe, hce⟩
  | false =>
    simp only [Bool.false_eq_true, if_false]
    refine wpAny_bind ?_
    rw [← Array.forIn_toList]
    simp only [List.forIn_cons, List.forIn_nil]
    refine wpAny_bind (wpAny_bind (wpAny_holding ?_))
    show wpAny _ _ (Builtin.SmallTypes.nextOf (.ref i1) >>= fun _ => _) _ _ _
    cases hx : xs[k]? with
    | none =>
      exact wpAny_bind (next_end (s := { s with heap := h0 }) hh j10 q10 hx fun h2 e s2 he => hE h2 e (fun c o c1 _ c3 _ q => s2 _ _ c3 (up0 c o c1 q)) he)
    | some x =>
      have hy : ys[k]? = none := by
        rcases hend with q | q
        · rw [hx] at q; cases q
        · exact q
      refine wpAny_bind (next_item (s := { s with heap := h0 }) j10 q10 hx fun h2 j12 s2 => wpAny_pure (wpAny_pure ?_))
      refine wpAny_bind (wpAny_bind (wpAny_holding ?_))
      show wpAny _ _ (Builtin.SmallTypes.nextOf (.ref i2) >>= fun _ => _) _ _ _
      exact wpAny_bind (next_end (s := { s with heap := h2 }) hh (j20.mv fun o e => s2.extBut _ _ D.i12.symm e) (q20.mv fun o e => s2.extBut _ _ D.l2i1 e) hy fun h3 e s3 he => hE h3 e (fun c o c1 _ c3 c4 q => s3 _ _ c4 (s2.extBut _ _ c3 (up0 c o c1 q))) he)
/-- one turn of enumerate, whatever it is over -/
theorem enum_step {e it : Addr} {i : Int} {old : Value} {Q : Value → Shared → Prop} (he : IsEnum s.heap e it i old)
    (hn : wpAny (model prog w) A (Builtin.SmallTypes.nextOf (.ref it)) (fun x s1 => IsEnum s1.heap e it i old ∧ ∀ h', IsEnumOut h' e it (i + 1) x s1.heap.objs.size → h'.get? s1.heap.objs.size = some { cls := .type "tuple", data := .seq #[.int i s1.toks, x] } →
      h'.objs.size = s1.heap.objs.size + 1 → (∀ c o, c ≠ e → s1.heap.get? c = some o → h'.get? c = some o) → Q (.ref s1.heap.objs.size) { s1 with heap := h', toks := s1.toks + 1 }) E s) :
    wpAny (model prog w) A (Builtin.«enumerate.__next__» ⟨[.ref e], []⟩) (fun fin s' => ∃ v, fin = .done (.ret v) ∧ Q v s') E s := by
  show wpAny _ _ (field (.ref e) 2 >>= fun _ => _) _ _ _
  refine wpAny_bind (wpAny_field he rfl (x := .ref it) rfl (wpAny_bind (wpAny_mono hn (fun x s1 q => ?_) fun _ _ q => q)))
  obtain ⟨e1, hQ⟩ := q
  obtain ⟨hp, g, d, tk, os⟩ := s1
  replace e1 : IsEnum hp e it i old := e1
  show wpAny _ _ (field (.ref e) 3 >>= fun _ => _) _ _ ⟨hp, g, d, tk, os⟩
  refine wpAny_bind (wpAny_field e1 rfl (x := rawInt i) rfl ?_)
  show wpAny _ _ (field (.ref e) 4 >>= fun _ => _) _ _ ⟨hp, g, d, tk, os⟩
  refine wpAny_bind (wpAny_field e1 rfl (x := .none) rfl ?_)
  show wpAny _ _ (mkInt i >>= fun _ => _) _ _ ⟨hp, g, d, tk, os⟩
  refine wpAny_bind (wpAny_mkInt ?_)
  show wpAny _ _ (setField (.ref e) 3 (rawInt (i + 1)) >>= fun _ => _) _ _ ⟨hp, g, d, tk + 1, os⟩
  refine wpAny_bind (wpAny_setField_rec e1 (by simp) fun h2 e2 s2 => ?_)
  replace s2 : Heap.SameBut e hp h2 := s2
  replace e2 : IsEnum h2 e it (i + 1) old := e2
  show wpAny _ _ (setField (.ref e) 4 .none >>= fun _ => _) _ _ ⟨h2, g, d, tk + 1, os⟩
  refine wpAny_bind (wpAny_setField_rec e2 (by simp) fun h3 e3 s3 => ?_)
  replace s3 : Heap.SameBut e h2 h3 := s3
  replace e3 : IsEnum h3 e it (i + 1) old := e3
  show wpAny _ _ (newTuple [.int i tk, x] >>= fun _ => _) _ _ ⟨h3, g, d, tk + 1, os⟩
  refine wpAny_bind (wpAny_newTuple ?_)
  have sz3 : h3.objs.size = hp.objs.size := by rw [s3.1, s2.1]
  have elt : e < hp.objs.size := Heap.lt_size e1
  generalize hh4 : h3.push { cls := .type "tuple", data := .seq #[.int i tk, x] } = h4
  have e4 : IsEnum h4 e it (i + 1) old := by rw [← hh4]; exact Heap.get?_push_of_some _ e3
  have t4 : h4.get? hp.objs.size = some { cls := .type "tuple", data := .seq #[.int i tk, x] } := by rw [← hh4, ← sz3]; exact Heap.get?_push_size _ rfl
  have sz4 : h4.objs.size = hp.objs.size + 1 := by rw [← hh4, Heap.size_push, sz3]
  have k4 : ∀ c o, c ≠ e → hp.get? c = some o → h4.get? c = some o := fun c o c1 q => by rw [← hh4]; exact Heap.get?_push_of_some _ (s3.extBut c o c1 (s2.extBut c o c1 q))
  show wpAny _ _ (Builtin.SmallTypes.ownedTupleIsFree (.ref e) >>= fun _ => _) _ _ ⟨h4, g, d, tk + 1, os⟩
  rw [sz3]
  refine wpAny_bind ?_
  unfold Builtin.SmallTypes.ownedTupleIsFree
  refine wpAny_bind (wpAny_field e4 rfl (x := .none) rfl (wpAny_pure ?_))
  simp only [if_true]
  refine wpAny_bind (wpAny_rule (wpAny_bind (wpAny_field e4 rfl (x := old) rfl ?_)))
  refine wpAny_bind (wpAny_setField_rec e4 (by simp) fun h5 e5 s5 => ?_)
  replace s5 : Heap.SameBut e h4 h5 := s5
  replace e5 : IsEnum h5 e it (i + 1) x := e5
  show wpAny _ _ (Builtin.SmallTypes.ownedTupleHandOut (.ref e) (.ref hp.objs.size) >>= fun _ => _) _ _ ⟨h5, g, d, tk + 1, os⟩
  refine wpAny_bind ?_
  unfold Builtin.SmallTypes.ownedTupleHandOut
  refine wpAny_bind (wpAny_setField_rec e5 (by simp) fun h6 e6 s6 => ?_)
  replace s6 : Heap.SameBut e h5 h6 := s6
  replace e6 : IsEnumOut h6 e it (i + 1) x hp.objs.size := e6
  refine wpAny_setField_rec e6 (by simp) fun h7 e7 s7 => ?_
  replace s7 : Heap.SameBut e h6 h7 := s7
  replace e7 : IsEnumOut h7 e it (i + 1) x hp.objs.size := e7
  have k7 : ∀ c o, c ≠ e → h4.get? c = some o → h7.get? c = some o := fun c o c1 q => s7.extBut _ _ c1 (s6.extBut _ _ c1 (s5.extBut _ _ c1 q))
  exact wpAny_bind (wpAny_letGo (wpAny_pure ⟨_, rfl, hQ h7 e7 (k7 _ _ (Nat.ne_of_gt elt) t4) (by rw [s7.1, s6.1, s5.1, sz4]) fun c o c1 q => k7 c o c1 (k4 c o c1 q)⟩))
end
end Vx

set_option Elab.async false
set_option maxRecDepth 100000
set_option linter.all false
/-! enumerate(zip(a, b)): the loop. -/
namespace Vx
open PySem PySem.Spec PyProof.Rows L2
open PySem.Sem (wp)
def SqB (b : Bool) (K : PySem.W.Frag) (H : Hp) (a : Addr) (xs : List V) : Prop := if b = true then SqL K H a xs else SqT K H a xs
section
variable {prog : Program} {w : World} {A : Around} {E : Value → Shared → Prop} {s : Shared}
theorem next_zip {b : Bool} {z TI TO i1 i2 l1 l2 : Addr} {f0 f1 : Value} {k : Nat} {xs ys : Array Value} {x y a0 b0 : Value} {Q : Value → Shared → Prop} (D : ZipApart z TI TO i1 i2 l1 l2)
    (hz : ZF s.heap z TI TO f0 f1) (hf : Own0 f0) (pI : IsPair s.heap TI (.ref i1) (.ref i2)) (pO : IsPair s.heap TO a0 b0)
    (j1 : ItAt b s.heap i1 l1 k) (j2 : ItAt b s.heap i2 l2 k) (q1 : SeqIn b s.heap l1 xs) (q2 : SeqIn b s.heap l2 ys) (hx : xs[k]? = some x) (hy : ys[k]? = some y)
    (hQ : ∀ h' g0 g1, Own0 g0 → ZF h' z TI TO g0 g1 → (∃ a b, IsPair h' TO a b) → ItAt b h' i1 l1 (k + 1) → ItAt b h' i2 l2 (k + 1) → IsPair h' s.heap.objs.size x y → h'.objs.size = s.heap.objs.size + 1 →
      (∀ c o, c ≠ z → c ≠ TO → c ≠ i1 → c ≠ i2 → s.heap.get? c = some o → h'.get? c = some o) → Q (.ref s.heap.objs.size) { s with heap := h' }) :
    wpAny (model prog w) A (Builtin.SmallTypes.nextOf (.ref z)) Q E s := by
  have hT : s.TypeIs (.ref z) "zip" := ⟨_, hz, rfl⟩
  unfold Builtin.SmallTypes.nextOf
  exact wpAny_bind (wpAny_callSpecial?_slot (name := Str.ofString "__next__") hT PySem.F.slot_zip_next (wpAny_call_entry PySem.F.slot_zip_next hT PySem.F.entry_zip_next
    (zip_step D hz hf pI pO j1 j2 q1 q2 hx hy fun h' g0 g1 a1 a2 a3 a4 a5 a6 a7 a8 => wpAny_pure (hQ h' g0 g1 a1 a2 a3 a4 a5 a6 a7 a8)) (PySem.F.args_zip_next_1 _)))
theorem stop_zip {b : Bool} {z TI TO i1 i2 l1 l2 : Addr} {f0 f1 : Value} {k : Nat} {xs ys : Array Value} {a0 b0 : Value} {Q : Value → Shared → Prop} (hh : A.handled = none) (D : ZipApart z TI TO i1 i2 l1 l2)
    (hz : ZF s.heap z TI TO f0 f1) (hf : Own0 f0) (pI : IsPair s.heap TI (.ref i1) (.ref i2)) (pO : IsPair s.heap TO a0 b0)
    (j1 : ItAt b s.heap i1 l1 k) (j2 : ItAt b s.heap i2 l2 k) (q1 : SeqIn b s.heap l1 xs) (q2 : SeqIn b s.heap l2 ys) (hend : xs[k]? = none ∨ ys[k]? = none)
    (hE : ∀ h' e, (∀ c o, c ≠ z → c ≠ TO → c ≠ i1 → c ≠ i2 → s.heap.get? c = some o → h'.get? c = some o) → (∃ o, h'.get? e = some o ∧ o.cls = .type "StopIteration") → E (.ref e) { s with heap := h' }) :
    wpAny (model prog w) A (Builtin.SmallTypes.nextOf (.ref z)) Q E s := by
  have hT : s.TypeIs (.ref z) "zip" := ⟨_, hz, rfl⟩
  unfold Builtin.SmallTypes.nextOf
  exact wpAny_bind (wpAny_callSpecial?_slot (name := Str.ofString "__next__") hT PySem.F.slot_zip_next (wpAny_call_entry PySem.F.slot_zip_next hT PySem.F.entry_zip_next
    (zip_stop hh D hz hf pI pO j1 j2 q1 q2 hend hE) (PySem.F.args_zip_next_1 _)))
theorem meets_enum_zip (z TI TO : Addr) : Meets (Builtin.«enumerate.__new__» ⟨[.type "enumerate", .ref z], []⟩) (fun _ R s => IsZip s.heap z TI TO .none ∧
      R (.ok (.ret (.ref s.heap.objs.size))) { s with heap := s.heap.push { cls := .type "enumerate", data := .fields #[.none, .bool false, .ref z, rawInt 0, .none, .none] } }) :=
  .of_wp fun prog w A R s h => by
    obtain ⟨hp, g, d, tk, os⟩ := s
    obtain ⟨hz, h⟩ := h
    have hsub := sub_enumerate
    have hz' : IsZip (Shared.heap ⟨hp, g, d, tk, os⟩) z TI TO .none := hz
    wp_walk
    refine wpAny_stack_any fun st => wpAny_pure ?_
    split
    · rename_i c _ _ _ _ _
      cases (c == Value.type "enumerate")
      · wp_walk using wpAny_pyIter_zip hz'
        exact ⟨_, rfl, h⟩
      · wp_walk using wpAny_pyIter_zip hz'
        exact ⟨_, rfl, h⟩
    · wp_walk using wpAny_pyIter_zip hz'
      exact ⟨_, rfl, h⟩
theorem call_enum_zip {z TI TO : Addr} {Q : Value → Shared → Prop} (hz : IsZip s.heap z TI TO .none)
    (h : ∀ h', IsEnum h' s.heap.objs.size z 0 .none → h'.objs.size = s.heap.objs.size + 1 → (∀ c o, s.heap.get? c = some o → h'.get? c = some o) → Q (.ref s.heap.objs.size) { s with heap := h' }) :
    wpAny (model prog w) A (call (.type "enumerate") [.ref z]) Q E s := by
  refine callType_new PySem.F.called_enumerate (by decide) (PySem.F.typeCall_enumerate_1 _) (PySem.F.newCall_enumerate_1 _) (fun obj => PySem.F.args_object_init_2 obj _) PySem.F.entry_enumerate_new
    (meets_enum_zip z TI TO) ⟨hz, ?_⟩
  have he : IsEnum (s.heap.push { cls := .type "enumerate", data := .fields #[.none, .bool false, .ref z, rawInt 0, .none, .none] }) s.heap.objs.size z 0 .none := Heap.get?_push_size _ rfl
  exact ⟨⟨_, he, rfl⟩, h _ he (Heap.size_push ..) fun c o q => Heap.get?_push_of_some _ q⟩
end
/-- the two as they stand at each turn: their items in a new pair, that with its number in another -/
def Itez (b : Bool) (K : PySem.W.Frag) (l1 l2 : Addr) : It :=
  ⟨fun i H => ∃ (xs ys : List V) (x y : V), SqB b K H l1 xs ∧ SqB b K H l2 ys ∧ xs[i]? = some x ∧ ys[i]? = some y,
    fun i H v H' => ∃ T2 T x y, v = .ref T ∧ H T2 = none ∧ H T = none ∧ T ≠ T2 ∧ H' = upd (upd H T2 (.tup [x, y])) T (.tup [.int (i : Nat), .ref T2]) ∧ (∀ xs, SqB b K H l1 xs → xs[i]? = some x) ∧ ∀ ys, SqB b K H l2 ys → ys[i]? = some y,
    fun i H => ∃ xs ys : List V, SqB b K H l1 xs ∧ SqB b K H l2 ys ∧ (xs.length ≤ i ∨ ys.length ≤ i)⟩
theorem SqB.at_ {X : Cx} {pins : List (Addr × Obj)} {σ : L2.St} {H : Hp} {s : Shared} {b : Bool} {a : Addr} {xs : List V} (I : Inv X pins σ H s) (h : SqB b X.K H a xs) : ∃ its : List Value, Vals xs its ∧ SeqIn b s.heap a its.toArray ∧ a < s.heap.objs.size := by
  cases b with
  | true =>
    obtain ⟨its, rv, p, _⟩ := I.list (show SqL X.K H a xs from h)
    exact ⟨its, rv, p.isList, p.lt⟩
  | false =>
    obtain ⟨its, rv, p, _⟩ := I.tuple (show SqT X.K H a xs from h)
    obtain ⟨o1, ho1, _⟩ := id p
    exact ⟨its, rv, p, Heap.lt_size ho1⟩
theorem SqB.inj {X : Cx} {pins : List (Addr × Obj)} {σ : L2.St} {H : Hp} {s : Shared} {b : Bool} {a : Addr} {xs ys : List V} (I : Inv X pins σ H s) (h : SqB b X.K H a xs) (h' : SqB b X.K H a ys) : xs = ys := by
  cases b with
  | true => exact I.list_inj (show SqL X.K H a xs from h) h'
  | false => exact I.tuple_inj (show SqT X.K H a xs from h) h'
structure EnzApart (e z TI TO i1 i2 : Addr) : Prop where
  z : z ≠ e
  TI : TI ≠ e
  TO : TO ≠ e
  i1 : i1 ≠ e
  i2 : i2 ≠ e
def EnzAt (b : Bool) (l1 l2 e z TI TO i1 i2 : Addr) (i : Nat) (h : Heap) : Prop :=
  (∃ old, IsEnum h e z ((i : Nat) : Int) old) ∧ (∃ f0 f1, Own0 f0 ∧ ZF h z TI TO f0 f1) ∧ IsPair h TI (.ref i1) (.ref i2) ∧ (∃ x y, IsPair h TO x y) ∧ ItAt b h i1 l1 i ∧ ItAt b h i2 l2 i
theorem turn_enz {P : Program} {w : World} {K : PySem.W.Frag} {elts : List Expr} {kk : Nat} {tpos : Pos} {b : Bool} {l1 l2 e z TI TO i1 i2 : Addr} (D : ZipApart z TI TO i1 i2 l1 l2) (D2 : EnzApart e z TI TO i1 i2) :
    Turn P w K (.Tuple elts kk tpos) (Itez b K l1 l2) [e, z, TI, TO, i1, i2] e (EnzAt b l1 l2 e z TI TO i1 i2) where
  mem := by simp
  obj := fun i h st c hc => by
    obtain ⟨⟨old, he⟩, ⟨f0, f1, _, hz⟩, hTI, ⟨x, y, hTO⟩, h1, h2⟩ := st
    have e' : c = e ∨ c = z ∨ c = TI ∨ c = TO ∨ c = i1 ∨ c = i2 := by simpa using hc
    rcases e' with q | q | q | q | q | q
    · rw [q]; exact ⟨_, he, fun v q => nomatch q⟩
    · rw [q]; exact ⟨_, hz, fun v q => nomatch q⟩
    · rw [q]; exact ⟨_, hTI, fun v q => nomatch q⟩
    · rw [q]; exact ⟨_, hTO, fun v q => nomatch q⟩
    · rw [q]; exact h1.ob
    · rw [q]; exact h2.ob
  keep := fun i h h' st k => by
    obtain ⟨⟨old, he⟩, ⟨f0, f1, hf, hz⟩, hTI, ⟨x, y, hTO⟩, h1, h2⟩ := st
    exact ⟨⟨old, k e (by simp) _ he⟩, ⟨f0, f1, hf, k z (by simp) _ hz⟩, k TI (by simp) _ hTI, ⟨x, y, k TO (by simp) _ hTO⟩, h1.mv fun o q => k i1 (by simp) o q, h2.mv fun o q => k i2 (by simp) o q⟩
  item := by
    intro X hP hw hK hc i pins s σ H E I hf st hg
    subst hP hw hK
    obtain ⟨⟨old, he⟩, ⟨f0, f1, ho, hz⟩, hTI, ⟨x0, y0, hTO⟩, h1, h2⟩ := st
    obtain ⟨xs, ys, x, y, hqx, hqy, hx, hy⟩ := hg
    obtain ⟨its, rv, p, _⟩ := hqx.at_ I
    obtain ⟨its2, rv2, p2, _⟩ := hqy.at_ I
    obtain ⟨u, hu, ru⟩ := rv.get hx
    obtain ⟨u2, hu2, ru2⟩ := rv2.get hy
    have elt : e < s.heap.objs.size := Heap.lt_size he
    have hTe : s.TypeIs (.ref e) "enumerate" := ⟨_, he, rfl⟩
    unfold pyNext
    refine wpAny_bind (wpAny_attempt (wpAny_callSpecial?_slot (name := Str.ofString "__next__") hTe PySem.F.slot_enumerate_next (wpAny_call_entry PySem.F.slot_enumerate_next hTe PySem.F.entry_enumerate_next ?_ (PySem.F.args_enumerate_next_1 _))))
    refine enum_step he (next_zip D hz ho hTI hTO h1 h2 p p2 (x := u) (y := u2) (by simpa using hu) (by simpa using hu2) fun hA g0 g1 ho' zA TOA j1 j2 pA szA kA => ?_)
    refine ⟨kA _ _ D2.z.symm D2.TO.symm D2.i1.symm D2.i2.symm he, fun hB eB tB szB kB => wpAny_pure ?_⟩
    refine ⟨_, rfl, wpAny_letOwnedTupleGo_enum (s := { s with heap := hB, toks := s.toks + 1 }) eB fun hC eC sC => ?_⟩
    have szA' : hA.objs.size = s.heap.objs.size + 1 := szA
    have kC : ∀ c o, c ≠ e → hA.get? c = some o → hC.get? c = some o := fun c o c1 q => sC.extBut _ _ c1 (kB c o c1 q)
    have nA : hA.objs.size ≠ e := Nat.ne_of_gt (by rw [szA']; exact Nat.lt_succ_of_lt elt)
    have nS : s.heap.objs.size ≠ e := Nat.ne_of_gt elt
    have tC : hC.get? hA.objs.size = some { cls := .type "tuple", data := .seq #[.int i s.toks, .ref s.heap.objs.size] } := sC.extBut _ _ nA tB
    have pC : hC.get? s.heap.objs.size = some { cls := .type "tuple", data := .seq #[u, u2] } := kC _ _ nS pA
    have fpS : ∀ c ∈ [e, z, TI, TO, i1, i2], c < s.heap.objs.size := fun c hcm => by
      have e' : c = e ∨ c = z ∨ c = TI ∨ c = TO ∨ c = i1 ∨ c = i2 := by simpa using hcm
      rcases e' with q | q | q | q | q | q
      · rw [q]; exact elt
      · rw [q]; exact Heap.lt_size hz
      · rw [q]; exact Heap.lt_size hTI
      · rw [q]; exact Heap.lt_size hTO
      · rw [q]; obtain ⟨_, e1, _⟩ := h1.ob; exact Heap.lt_size e1
      · rw [q]; obtain ⟨_, e2, _⟩ := h2.ob; exact Heap.lt_size e2
    -- the first new pair, as if it stood alone
    have new1 : ObjOk X.prog X.w (upd H s.heap.objs.size (.tup [x, y])) (s.heap.push { cls := .type "tuple", data := .seq #[u, u2] }) s.heap.objs.size (.tup [x, y]) :=
      ⟨by show 2 ≤ sizeLine; decide, [u, u2], .cons ru (.cons ru2 .nil), ⟨_, Heap.get?_push_size _ rfl, rfl, _, rfl⟩⟩
    have I1 : Inv X pins σ (upd H s.heap.objs.size (.tup [x, y])) { s with heap := s.heap.push { cls := .type "tuple", data := .seq #[u, u2] } } :=
      I.laid (t' := s.toks) (fun c o q => Heap.get?_push_of_some _ q) (Nat.le_refl _) new1
    have new2 : ObjOk X.prog X.w (upd (upd H s.heap.objs.size (.tup [x, y])) hA.objs.size (.tup [.int (i : Nat), .ref s.heap.objs.size])) hC hA.objs.size (.tup [.int (i : Nat), .ref s.heap.objs.size]) :=
      ⟨by show 2 ≤ sizeLine; decide, [.int i s.toks, .ref s.heap.objs.size], .cons ⟨_, rfl⟩ (.cons rfl .nil), ⟨_, tC, rfl, _, rfl⟩⟩
    have hf1 : ∀ c ∈ [e, z, TI, TO, i1, i2], FpOk X pins (upd H s.heap.objs.size (.tup [x, y])) c := fun c hcm => by
      obtain ⟨q1, q2⟩ := hf c hcm
      exact ⟨by rw [upd_ne (Nat.ne_of_lt (fpS c hcm))]; exact q1, q2⟩
    have I2 : Inv X pins σ (upd (upd H s.heap.objs.size (.tup [x, y])) hA.objs.size (.tup [.int (i : Nat), .ref s.heap.objs.size])) { s with heap := hC, toks := s.toks + 1 } :=
      I1.turnedNew (t' := s.toks + 1) (ch := [e, z, TI, TO, i1, i2]) (fun c o hcm q => by
        have hcm' : c ≠ e ∧ c ≠ z ∧ c ≠ TI ∧ c ≠ TO ∧ c ≠ i1 ∧ c ≠ i2 := by simpa using hcm
        obtain ⟨c1, c2, c3, c4, c5, c6⟩ := hcm'
        by_cases hcs : c = s.heap.objs.size
        · subst hcs
          have := Heap.get?_push_size s.heap (o := { cls := .type "tuple", data := .seq #[u, u2] }) rfl
          rw [this] at q
          cases q
          exact pC
        · refine kC c o c1 (kA c o c2 c4 c5 c6 ?_)
          rcases Heap.get?_push_cases q with ⟨q1, _⟩ | q1
          · exact absurd q1 hcs
          · exact q1) hf1 (by show (s.heap.push _).objs.size ≤ _; rw [Heap.size_push, szA']; exact Nat.le_refl _) new2
    refine ⟨.ref hA.objs.size, _, I2, rfl, ⟨s.heap.objs.size, hA.objs.size, x, y, rfl, I.hok.fresh (Nat.le_refl _), I.hok.fresh (by rw [szA']; exact Nat.le_succ _), (fun q => Nat.succ_ne_self _ (szA'.symm.trans q)), rfl, fun l hl => by rw [hl.inj I hqx]; exact hx, fun l hl => by rw [hl.inj I hqy]; exact hy⟩, ⟨⟨Value.ref s.heap.objs.size, ?_⟩, ⟨g0, g1, ho', kC _ _ D2.z zA⟩, kC _ _ D2.TI (kA _ _ D.TIz D.TITO D.TIi1 D.TIi2 hTI), ?_, j1.mv fun o q => kC _ o D2.i1 q, j2.mv fun o q => kC _ o D2.i2 q⟩, fun c hcm => ?_⟩
    · have e1 : ((i + 1 : Nat) : Int) = (i : Int) + 1 := by omega
      rw [e1]; exact eC
    · obtain ⟨p, q, hpq⟩ := TOA
      exact ⟨p, q, kC _ _ D2.TO hpq⟩
    · have hlt := fpS c hcm
      rw [upd_ne (Nat.ne_of_lt (by rw [szA']; exact Nat.lt_succ_of_lt hlt)), upd_ne (Nat.ne_of_lt hlt)]
      exact (hf c hcm).1
  done := by
    intro X hP hw hK hc i pins s σ H E I hf st hg
    subst hP hw hK
    obtain ⟨⟨old, he⟩, ⟨f0, f1, ho, hz⟩, hTI, ⟨x0, y0, hTO⟩, h1, h2⟩ := st
    obtain ⟨xs, ys, hqx, hqy, hend⟩ := hg
    obtain ⟨its, rv, p, _⟩ := hqx.at_ I
    obtain ⟨its2, rv2, p2, _⟩ := hqy.at_ I
    have l1 := rv.length
    have l2 := rv2.length
    have hn : its.toArray[i]? = none ∨ its2.toArray[i]? = none := by
      rcases hend with q | q
      · exact .inl (by simp; omega)
      · exact .inr (by simp; omega)
    have hTe : s.TypeIs (.ref e) "enumerate" := ⟨_, he, rfl⟩
    unfold pyNext
    refine wpAny_bind (wpAny_attempt (wpAny_callSpecial?_slot (name := Str.ofString "__next__") hTe PySem.F.slot_enumerate_next (wpAny_call_entry PySem.F.slot_enumerate_next hTe PySem.F.entry_enumerate_next ?_ (PySem.F.args_enumerate_next_1 _))))
    show wpAny _ _ (field (.ref e) 2 >>= fun _ => _) _ _ _
    refine wpAny_bind (wpAny_field he rfl (x := .ref z) rfl (wpAny_bind (stop_zip (show X.A.in1.in1.handled = none from I.ok.hd hc) D hz ho hTI hTO h1 h2 p p2 hn fun h' ex hk hs => ?_)))
    obtain ⟨o, hoo, hcl⟩ := hs
    refine wpAny_bind (wpAny_isInstance (T := "StopIteration") (b := true) ⟨o, hoo, hcl⟩ isSubtype_stop (wpAny_pure ?_))
    exact ⟨rfl, I.turnedL (t' := s.toks) (ch := [e, z, TI, TO, i1, i2]) (fun c o hb q => hk c o (fun q' => hb (by simp [q'])) (fun q' => hb (by simp [q'])) (fun q' => hb (by simp [q'])) (fun q' => hb (by simp [q'])) q) hf⟩
  self := fun A i s Q E st h => let ⟨⟨_, he⟩, _⟩ := st; wpAny_pyIter_enum he h
end Vx

set_option Elab.async false
set_option maxRecDepth 100000
set_option linter.all false
/-! enumerate(zip(a, b)): the rule. -/
namespace Vx
open PySem PySem.Spec PyProof.Rows L2
open PySem.Sem (wp)
def iEnz (K : PySem.W.Frag) (ta : TA) : TI := fun σ H R => ta σ H fun vs H1 => ∃ (bb : Bool) (a b : Addr) (xs ys : List V), vs = [.ref a, .ref b] ∧ SqB bb K H1 a xs ∧ SqB bb K H1 b ys ∧ R (Itez bb K a b) H1
theorem pi_enz {X : Cx} {e1 e2 : Expr} {ta : TA} {p p2 pos pos2 tpos : Pos} {elts : List Expr} {kk : Nat} (hg : Gl X "enumerate") (hm : X.mg "enumerate" = none) (hg2 : Gl X "zip") (hm2 : X.mg "zip" = none) (ha : PA X [e1, e2] ta)
    (hs : starEach [Expr.Call (.Name "zip" p2) [e1, e2] [] pos2] X.env = (false, eval (.Call (.Name "zip" p2) [e1, e2] [] pos2) X.env) :: starEach [] X.env := by rfl)
    (hs2 : starEach [e1, e2] X.env = (false, eval e1 X.env) :: starEach [e2] X.env := by rfl) (hpl : (backTo pos2 (starEach [e2] X.env)).any (·.1) = false := by rfl) :
    PI X (.Tuple elts kk tpos) (.Call (.Name "enumerate" p) [.Call (.Name "zip" p2) [e1, e2] [] pos2] [] pos) (iEnz X.K ta) := by
  refine ⟨fun pins s σ H R I h => ?_⟩
  refine Call_ (ld_blt I hg hm PyProof.Rows.boot_enumerate (PyProof.Rows.callWith_type1 ?_ hs rfl))
  rw [hs]
  show wpAny _ _ (spliced ((false, eval (.Call (.Name "zip" p2) [e1, e2] [] pos2) X.env) :: backTo pos (starEach [] X.env))) _ _ s
  refine Calls.spliced_cons (Call_ (ld_blt I hg2 hm2 PyProof.Rows.boot_zip (PyProof.Rows.callWith_type1 (thn (ha.run pos2 pins s σ H _ I h) fun us s1 ⟨vs, H1, I1, r1, q1⟩ => ?_) hs2 hpl)))
  obtain ⟨bb, a, b, xs, ys, ex, hqx, hqy, q⟩ := q1
  subst ex
  cases r1 with
  | cons r rr =>
  cases rr with
  | cons r' rr =>
  cases rr
  cases r
  cases r'
  obtain ⟨its, rv, p1, la⟩ := hqx.at_ I1
  obtain ⟨its2, rv2, p2', lb⟩ := hqy.at_ I1
  -- what follows once the zip stands
  have fin : ∀ h', IsZip h' (s1.heap.objs.size + 4) (s1.heap.objs.size + 2) (s1.heap.objs.size + 3) .none → IsPair h' (s1.heap.objs.size + 2) (.ref s1.heap.objs.size) (.ref (s1.heap.objs.size + 1)) → IsPair h' (s1.heap.objs.size + 3) .none .none →
      ItAt bb h' s1.heap.objs.size a 0 → ItAt bb h' (s1.heap.objs.size + 1) b 0 → h'.objs.size = s1.heap.objs.size + 5 → (∀ c o, s1.heap.get? c = some o → h'.get? c = some o) →
      wpAny (model X.prog X.w) X.A (spliced (backTo pos (starEach [] X.env))) (fun us s2 => wpAny (model X.prog X.w) X.A (call (.type "enumerate") (Value.ref (s1.heap.objs.size + 4) :: us)) (fun v s3 => wpAny (model X.prog X.w) X.A (pyIter v) (PIE X pins σ (.Tuple elts kk tpos) R) X.xe s3) X.xe s2) X.xe { s1 with heap := h' } := fun h' hz hTI hTO j1 j2 hsz hk => by
    refine Calls.spliced_nil (call_enum_zip hz fun h2 he hsz2 hk2 => wpAny_pyIter_enum he ?_)
    have he' : IsEnum h2 h'.objs.size (s1.heap.objs.size + 4) 0 .none := he
    rw [hsz] at he'
    have I2 : Inv X pins σ H1 { s1 with heap := h2 } := I1.kept (t' := s1.toks) fun c o e => hk2 c o (hk c o e)
    have fresh : ∀ c, c ∈ [s1.heap.objs.size + 5, s1.heap.objs.size + 4, s1.heap.objs.size + 2, s1.heap.objs.size + 3, s1.heap.objs.size, s1.heap.objs.size + 1] → FpOk X pins H1 c := fun c hcm => by
      have hle : s1.heap.objs.size ≤ c := by
        have e' : c = s1.heap.objs.size + 5 ∨ c = s1.heap.objs.size + 4 ∨ c = s1.heap.objs.size + 2 ∨ c = s1.heap.objs.size + 3 ∨ c = s1.heap.objs.size ∨ c = s1.heap.objs.size + 1 := by simpa using hcm
        rcases e' with z | z | z | z | z | z
        · rw [z]; exact Nat.le_add_right _ _
        · rw [z]; exact Nat.le_add_right _ _
        · rw [z]; exact Nat.le_add_right _ _
        · rw [z]; exact Nat.le_add_right _ _
        · rw [z]; exact Nat.le_refl _
        · rw [z]; exact Nat.le_add_right _ _
      exact I1.fpOk hle (I1.hok.fresh hle)
    have ne5 : ∀ k, k < 5 → s1.heap.objs.size + k ≠ s1.heap.objs.size + 5 := fun k hk z => by
      have := Nat.add_left_cancel z
      omega
    show PIE X pins σ (.Tuple elts kk tpos) R (.ref h'.objs.size) { s1 with heap := h2 }
    rw [hsz]
    exact ⟨s1.heap.objs.size + 5, [s1.heap.objs.size + 5, s1.heap.objs.size + 4, s1.heap.objs.size + 2, s1.heap.objs.size + 3, s1.heap.objs.size, s1.heap.objs.size + 1], _, _, H1, rfl, I2,
      turn_enz (PySem.W.ktu_apart s1.heap.objs.size a b la lb) ⟨ne5 4 (by decide), ne5 2 (by decide), ne5 3 (by decide), ne5 0 (by decide), ne5 1 (by decide)⟩,
      ⟨⟨_, he'⟩, ⟨.none, .bool false, .inl rfl, hk2 _ _ hz⟩, hk2 _ _ hTI, ⟨_, _, hk2 _ _ hTO⟩, j1.mv fun o e => hk2 _ o e, j2.mv fun o e => hk2 _ o e⟩, fresh, q⟩
  cases bb with
  | true => exact call_zip_2 p1 p2' fun h' hz hTI hTO h1 h2 hsz hk => fin h' hz hTI hTO h1 h2 hsz hk
  | false => exact RZ.call_zipT p1 p2' fun h' hz hTI hTO h1 h2 hsz hk => fin h' hz hTI hTO h1 h2 hsz hk
end Vx

set_option Elab.async false
set_option maxRecDepth 100000
set_option linter.all false
/-! unlike_letters. -/
namespace Vx
open PySem PySem.Spec PyProof.Rows L2
def unl : Nat → List Nat → List Nat → Option (Nat × Nat × Nat)
  | i, a :: xs, b :: ys => if a = b then unl (i + 1) xs ys else some (i, a, b)
  | _, _, _ => none
def unlD : Option (Nat × Nat × Nat) → D
  | none => .non
  | some q => .tup [.int (q.1 : Nat), .int (q.2.1 : Nat), .int (q.2.2 : Nat)]
theorem unl_drop : ∀ (i j : Nat) (xs ys : List Nat), i < xs.length → i < ys.length → unl j (xs.drop i) (ys.drop i) = if xs.getD i 0 = ys.getD i 0 then unl (j + 1) (xs.drop (i + 1)) (ys.drop (i + 1)) else some (j, xs.getD i 0, ys.getD i 0) := fun i j xs ys h1 h2 => by
  rw [List.drop_eq_getElem_cons h1, List.drop_eq_getElem_cons h2]
  simp [unl, List.getD_eq_getElem?_getD, h1, h2]
theorem unl_nil (j : Nat) : ∀ xs ys : List Nat, xs = [] ∨ ys = [] → unl j xs ys = none
  | [], ys, _ => by simp [unl]
  | x :: xs, [], _ => by simp [unl]
  | x :: xs, y :: ys, h => by simp at h
def sqD (b : Bool) (xs : List Nat) : D := if b = true then .lst (dnats xs) else .tup (dnats xs)
def sqH (b : Bool) (xs : List Nat) : HO := if b = true then .lst (xs.map fun (n : Nat) => V.int (n : Int)) else .tup (xs.map fun (n : Nat) => V.int (n : Int))
theorem SqB.of {b : Bool} {K : PySem.W.Frag} {H : Hp} {a : Addr} {xs : List Nat} (h : H a = some (sqH b xs)) : SqB b K H a (xs.map fun (n : Nat) => V.int (n : Int)) := by
  cases b with
  | true => exact SqL.of h
  | false => exact SqT.of h
theorem sqD_at {b : Bool} {W : Wd} {xs : List Nat} {v : V} (h : Rep W (sqD b xs) v) : ∃ a, v = .ref a ∧ W.S a = some (sqH b xs) := by
  have go : ∀ ws, RepL W (dnats xs) ws → ws = xs.map fun (n : Nat) => V.int (n : Int) := fun ws r => by
    have := RepL.ints (ns := xs.map fun (n : Nat) => (n : Int)) (ws := ws) (by rw [List.map_map]; exact r)
    rw [this, List.map_map]; rfl
  cases b with
  | true =>
    obtain ⟨a, ws, e, hs, r⟩ := (show Rep W (.lst (dnats xs)) v from h)
    exact ⟨a, e, by rw [hs, go ws r]; rfl⟩
  | false =>
    obtain ⟨a, ws, e, hs, r⟩ := (show Rep W (.tup (dnats xs)) v from h)
    exact ⟨a, e, by rw [hs, go ws r]; rfl⟩
def b_unl : WS :=
  (wIf (wTst (w2 (gEq true) (wB 3) (wB 4)))
    (wRet (wTup (wCons (wN 2) (wCons (wN 3) (wCons (wN 4) wNil)))))
    wSkip)
def tUnl (T : Th) (K : PySem.W.Frag) : TS := tSeq (tFor (iEnz K (tCons (tVar 0) (tCons (tVar 1) tNil))) (gTup K 2 (gCons (gName 2) (gCons (gTup K 2 (gCons (gName 3) (gCons (gName 4) gNil))) gNil))) (tS T b_unl)) (tRet (tC V.non))
def F_unlike : FS := fun los n P => ∃ (b : Bool) (xs ys : List Nat), los = [.sh (sqD b xs), .sh (sqD b ys)] ∧ P (.sh (unlD (unl 0 xs ys))) n
section
variable {K : PySem.W.Frag} {C : Addr} {W : Wd} {H : Hp} {n : Nat}
theorem unl_read {D : Ends} {b : Bool} {xs ys : List Nat} {p q : Addr} (ok : WOk (thR C) W H n) (hp : W.S p = some (sqH b xs)) (hq : W.S q = some (sqH b ys)) (hdp : Rep W (sqD b xs) (.ref p)) (hdq : Rep W (sqD b ys) (.ref q))
    (kk : ∀ W' H' v, After (thR C) W H W' H' n → Rep W' (unlD (unl 0 xs ys)) v → D.rt v H') : tUnl (thR C) K D [some (.ref p), some (.ref q), none, none, none] H := by
  have inS : ∀ {W1 H1}, WOk (thR C) W1 H1 n → Le W W1 → SqB b K H1 p (xs.map fun (n : Nat) => V.int (n : Int)) ∧ SqB b K H1 q (ys.map fun (n : Nat) => V.int (n : Int)) := fun {W1 H1} ok1 le => ⟨.of (ok1.s _ _ (le.s _ _ hp)).1, .of (ok1.s _ _ (le.s _ _ hq)).1⟩
  refine ⟨.ref p, rfl, .ref q, rfl, b, p, q, _, _, rfl, (inS ok (Le.refl W)).1, (inS ok (Le.refl W)).2, ?_⟩
  have R0 : Rel (thR C) W H W H (fun _ => none) ⟨[some (.sh (sqD b xs)), some (.sh (sqD b ys)), none, none, none], n⟩ [some (.ref p), some (.ref q), none, none, none] [] := by
    refine ⟨ok, Le.refl W, fun _ _ _ e => e, ⟨fun _ e => .inl e, ok.adv fun _ _ _ => rfl⟩, fun i lo e => ?_, trivial, fun i zs e => ?_, rfl⟩
    · match i, e with
      | 0, e => cases e; exact ⟨.ref p, rfl, hdp⟩
      | 1, e => cases e; exact ⟨.ref q, rfl, hdq⟩
      | i + 2, e =>
        exfalso
        have : ([none, none, none] : List (Option Lo))[i]? = some (some lo) := by simpa using e
        have hm := List.mem_of_getElem? this
        simp at hm
    · have hm := List.mem_of_getElem? e
      simp at hm
  refine ⟨fun i m σ H1 => m = min xs.length ys.length - i ∧ i ≤ min xs.length ys.length ∧ unl 0 xs ys = unl i (xs.drop i) (ys.drop i) ∧ ∃ W1 O x2 x3 x4, Rel (thR C) W H W1 H1 O ⟨[some (.sh (sqD b xs)), some (.sh (sqD b ys)), x2, x3, x4], n⟩ σ [], ⟨_, rfl, Nat.zero_le _, rfl, W, _, none, none, none, R0⟩, ?_⟩
  rintro i m σ H1 ⟨rfl, hi, hu, W1, O, x2, x3, x4, R⟩
  obtain ⟨s1, s2⟩ := inS R.ok R.le
  by_cases hlt : i < min xs.length ys.length
  · have h1 : i < xs.length := by omega
    have h2 : i < ys.length := by omega
    have g1 : (xs.map fun (n : Nat) => V.int (n : Int))[i]? = some (V.int (xs.getD i 0 : Nat)) := by simp [List.getD_eq_getElem?_getD, h1]
    have g2 : (ys.map fun (n : Nat) => V.int (n : Int))[i]? = some (V.int (ys.getD i 0 : Nat)) := by simp [List.getD_eq_getElem?_getD, h2]
    rw [unl_drop i i xs ys h1 h2] at hu
    refine .inr ⟨⟨_, _, _, _, s1, s2, g1, g2⟩, fun σ' H' => i + 1 ≤ min xs.length ys.length ∧ unl 0 xs ys = unl (i + 1) (xs.drop (i + 1)) (ys.drop (i + 1)) ∧ ∃ W1 O x2 x3 x4, Rel (thR C) W H W1 H' O ⟨[some (.sh (sqD b xs)), some (.sh (sqD b ys)), x2, x3, x4], n⟩ σ' [], fun σ' H' h => ⟨min xs.length ys.length - (i + 1), by omega, rfl, h⟩, fun v H' y => ?_⟩
    obtain ⟨T2, T, x, y', rfl, hT2, hT, hne, rfl, f1, f2⟩ := y
    have ex := f1 _ s1
    rw [g1] at ex
    cases ex
    have ey := f2 _ s2
    rw [g2] at ey
    cases ey
    generalize hx : xs.getD i 0 = x at hu
    generalize hy : ys.getD i 0 = y at hu
    have Ra := (R.alloc (o := .tup [V.int (x : Nat), V.int (y : Nat)]) hT2).alloc (p := T) (o := .tup [V.int (i : Nat), .ref T2]) (by rw [upd_ne hne]; exact hT)
    refine ⟨T, _, rfl, SqT.of upd_same, rfl, .int (i : Nat), _, rfl, .ref T2, _, rfl, T2, _, rfl, SqT.of (by rw [upd_ne (Ne.symm hne)]; exact upd_same), rfl, .int (x : Nat), _, rfl, .int (y : Nat), _, rfl, rfl, rfl, ?_⟩
    obtain ⟨O2, Rb⟩ := (Ra.push (d := .int (i : Nat)) (v := .int (i : Nat)) (by simp [Rep])).store (i := 2) (by simp) (by simp)
    obtain ⟨O3, Rc⟩ := (Rb.push (d := .int (x : Nat)) (v := .int (x : Nat)) (by simp [Rep])).store (i := 3) (by simp) (by simp)
    obtain ⟨O4, Rd⟩ := (Rc.push (d := .int (y : Nat)) (v := .int (y : Nat)) (by simp [Rep])).store (i := 4) (by simp) (by simp)
    refine ⟨W, H, W1, O4, _, [], ⟨fun vs' => x = y ∧ vs' = ⟨[some (.sh (sqD b xs)), some (.sh (sqD b ys)), some (.sh (.int (i : Nat))), some (.sh (.int (x : Nat))), some (.sh (.int (y : Nat)))], n⟩, fun lo n' => x ≠ y ∧ lo = .sh (.tup [.int (i : Nat), .int (x : Nat), .int (y : Nat)]) ∧ n' = n, fun _ => False, fun _ => False⟩, fun _ h => by simp at h, ?_, Rd, ?_⟩
    · by_cases z : x = y
      · subst z
        simp [b_unl]
      · have z' : ¬ (x : Int) = (y : Int) := by omega
        simp [b_unl, z, szs]
        omega
    · refine ⟨fun W' H' O' vs' σ' l h R' => ?_, fun W' H' v lo n' h r => ?_, fun W' H' O' vs' σ' l h R' => h.elim, fun W' H' O' vs' σ' l h R' => h.elim⟩
      · obtain ⟨z, e⟩ := h
        subst e
        rw [if_pos z] at hu
        exact ⟨by omega, hu, W', O', _, _, _, R'⟩
      · obtain ⟨z, e, e'⟩ := h
        subst e e'
        rw [if_neg z] at hu
        refine kk W' H' v r.af ?_
        rw [hu]
        exact r.rt
  · refine .inl ⟨⟨_, _, s1, s2, ?_⟩, ?_⟩
    · simp only [List.length_map]; omega
    · have he : unl 0 xs ys = none := by
        rw [hu]
        refine unl_nil _ _ _ ?_
        by_cases z : xs.length ≤ i
        · exact .inl (List.drop_eq_nil_of_le z)
        · exact .inr (List.drop_eq_nil_of_le (by omega))
      refine kk W1 H1 .non R.after ?_
      rw [he]
      show Rep W1 .non .non
      simp [Rep]
end

section
variable {P : Program} {w : World} {K : PySem.W.Frag} {mg : Str → Option Value} {base : Heap} {C : Addr}
theorem ok_unlike {f : Addr} {fd : FuncData} {k : Nat} {st : Stmt} {N : List Str} (hN : N = [("one" : Str), "other", "place", "letter", "mate"]) (F : Fun K "unlike_letters" "unlike_letters" st f fd) (S : FnScope N ["one", "other"] (defScope st))
    (hb : ∀ (cdv : Value) (A : Around) (outer : List Env) (s : Shared) (H : Hp) (E : XK), Room k (A.deeper (envOfC "unlike_letters" (defScope st) s.heap.objs.size f cdv)) →
      PSs (cxOf CX0 P w K mg base N "unlike_letters" (defScope st) f cdv A outer s H E).nox (defBody st) (tUnl (thR C) K)) : FnOk P w K mg base CX0 (k + 1) f fd ["one", "other"] (spV (thR C) 2 F_unlike) := by
  subst hN
  refine F.ok S (fun vs H Q E h => ?_) (fun cdv A outer s H vs Q E hr h => ?_)
  · obtain ⟨W, n, los, P', e, _⟩ := h
    exact e
  · obtain ⟨W, n, los, P', e, ok, as, ⟨b, xs, ys, el, hP⟩, fin⟩ := h
    subst el
    obtain ⟨va, vb, rfl, ra, rb⟩ : ∃ va vb, vs = [va, vb] ∧ Rep W (sqD b xs) va ∧ Rep W (sqD b ys) vb := by
      match vs, as with
      | [v, u], as => exact ⟨v, u, rfl, as.1, as.2.1⟩
    obtain ⟨p, ep, hp⟩ := sqD_at ra
    obtain ⟨q, eq, hq⟩ := sqD_at rb
    subst ep eq
    exact ⟨_, hb cdv A outer s H E hr, unl_read ok hp hq ra rb fun W' H' v A' r => fin _ _ W' H' v hP A' r⟩
end
end Vx

set_option Elab.async false
set_option maxRecDepth 100000
set_option linter.all false
/-! Pairs of rows in a list of pairs. -/
namespace Vx
open PySem PySem.Spec PyProof.Rows L2
open AutoSeq1 (wpAny_loadPart')
open MeetsSeq MeetsSeq2 MeetsSeq3 SeqRoads2
section
variable {prog : Program} {w : World} {A : Around} {R : Result → Shared → Prop}
theorem tup_eqP (l b : Addr) (items items2 : Array Value) (n n2 : Nat) (dd dd2 : Option Addr) (sl sl2 : Array (Option Value)) (hsz : items.size = items2.size) (e : Nat → Bool) (I : Nat → Shared → Prop) (J : Shared → Prop)
    (turn : ∀ i (h1 : i < items.size) (h2 : i < items2.size) s, I i s → wpAny (model prog w) A.in1 (eqBool items[i] items2[i]) (fun r s' => r = e i ∧ (e i = true → I (i + 1) s') ∧ (e i = false → J s')) (fun er s' => R (.error er) s') s)
    (finT : ∀ s, (∀ i, i < items.size → e i = true) → I items.size s → R (.ok (.ret (.bool true))) s) (finF : ∀ i s, i < items.size → e i = false → J s → R (.ok (.ret (.bool false))) s)
    {s : Shared} (q1 : s.heap.get? l = some { cls := .type "tuple", dict := dd, data := .seq items n, slots := sl }) (q2 : s.heap.get? b = some { cls := .type "tuple", dict := dd2, data := .seq items2 n2, slots := sl2 }) (h : I 0 s) :
    wpAny (model prog w) A.in1 (Builtin.«tuple.__eq__» ⟨[.ref l, .ref b], []⟩) (GQ.FinOf prog w A R) (fun er s' => R (.error er) s') s := by
  have f2 := AutoSeq1.sub_tuple_tuple
  have zlen : (items.toList.zip items2.toList).length = items.size := by simp [hsz]
  have start := h
  obtain ⟨hp, g, d, tk, os⟩ := s
  wp_walk using wpAny_loadPart' q1, wpAny_loadPart' q2, wpAny_forIn_list _ (fun rest c s' => c.1 = none ∧ ∃ i, rest = (items.toList.zip items2.toList).drop i ∧ i ≤ items.size ∧ I i s' ∧ ∀ j, j < i → e j = true) _
  case turn =>
    rintro ⟨y, x⟩ rest c s' ⟨hc, i, hz, hi, hI, hall⟩
    have lt : i < (items.toList.zip items2.toList).length := by
      rcases Nat.lt_or_ge i (items.toList.zip items2.toList).length with q | q
      · exact q
      · rw [List.drop_of_length_le q] at hz; cases hz
    have h1 : i < items.size := zlen ▸ lt
    have h2 : i < items2.size := hsz ▸ h1
    rw [List.drop_eq_getElem_cons lt] at hz
    injection hz with e1 e2
    have ey : y = items[i] := by simpa using congrArg Prod.fst e1
    have ex : x = items2[i] := by simpa using congrArg Prod.snd e1
    subst ey ex
    refine wpAny_bind (wpAny_mono (turn i h1 h2 s' hI) (fun r s2 q => ?_) fun _ _ q => q)
    obtain ⟨er, qt, qf⟩ := q
    cases ee : e i with
    | true =>
      rw [ee] at er
      subst er
      wp_walk
      refine ⟨rfl, i + 1, e2, h1, qt ee, fun j hj => ?_⟩
      by_cases z : j = i
      · rw [z]; exact ee
      · exact hall j (by omega)
    | false =>
      rw [ee] at er
      subst er
      have fin := finF i s2 h1 ee (qf ee)
      wp_walk
      exact fin
  case fin =>
    rintro ⟨b1, b2⟩ s' ⟨hc, i, hz, hi, hI, hall⟩
    simp only at hc
    subst hc
    have ge : items.size ≤ i := by
      rcases Nat.lt_or_ge i (items.toList.zip items2.toList).length with q | q
      · rw [List.drop_eq_getElem_cons q] at hz; cases hz
      · exact zlen ▸ q
    have ei : i = items.size := by omega
    have fin : R (.ok (.ret (.bool true))) s' := finT s' (ei ▸ hall) (ei ▸ hI)
    wp_walk
    simpa [Builtin.Tuple.tupleCompareSizes, hsz] using fin
  case h =>
    exact ⟨rfl, 0, rfl, Nat.zero_le _, start, fun j hj => by omega⟩
theorem rc_tupP {E : Value → Shared → Prop} {s : Shared} {l b : Addr} {items items2 : Array Value} {Q : Value → Shared → Prop} (hsz : items.size = items2.size) (hu : A.units < cLine) (e : Nat → Bool) (I : Nat → Shared → Prop) (J : Shared → Prop)
    (hl : s.heap.IsTuple l items) (hb : s.heap.IsTuple b items2)
    (turn : ∀ i (h1 : i < items.size) (h2 : i < items2.size) s, I i s → wpAny (model prog w) A.in1 (eqBool items[i] items2[i]) (fun r s' => r = e i ∧ (e i = true → I (i + 1) s') ∧ (e i = false → J s')) E s)
    (finT : ∀ s, (∀ i, i < items.size → e i = true) → I items.size s → Q (.bool true) s) (finF : ∀ i s, i < items.size → e i = false → J s → Q (.bool false) s) (h : I 0 s) : wpAny (model prog w) A (richCompare .Eq (.ref l) (.ref b)) Q E s := by
  obtain ⟨⟨cls, dd, data, sl⟩, ho, hc, n, hd⟩ := id hl
  obtain ⟨⟨cls2, dd2, data2, sl2⟩, ho2, hc2, n2, hd2⟩ := id hb
  simp only at hc hd hc2 hd2
  subst hc hd hc2 hd2
  refine wpAny_richCompare_same_room (op := .Eq) ⟨_, ho, rfl⟩ ⟨_, ho2, rfl⟩ PySem.F.slot_tuple_eq (GQ.call_here PySem.F.slot_tuple_eq ⟨_, ho, rfl⟩ PySem.F.entry_tuple_eq (PySem.F.args_tuple_eq_2 _ _) ?_) hu
  exact tup_eqP (R := wants (fun v s' => v ≠ .notImplemented ∧ Q v s') E) l b items items2 n n2 dd dd2 sl sl2 hsz e I J turn (fun s' ha q => ⟨(fun x => nomatch x), finT s' ha q⟩) (fun i s' hi he q => ⟨(fun x => nomatch x), finF i s' hi he q⟩) ho ho2 h
end
section
variable {X : Cx} {C : Addr} {k : Nat}
def prD (z : List (List Nat) × List (List Nat)) : D := .tup [.row z.1, .row z.2]
/-- a pair of rows, in the heap -/
theorem prD_at {W : Wd} {z : List (List Nat) × List (List Nat)} {v : V} (h : Rep W (prD z) v) : ∃ t a b, v = .ref t ∧ W.S t = some (.tup [.ref a, .ref b]) ∧ W.R a = some z.1 ∧ W.R b = some z.2 := by
  obtain ⟨t, ws, e, hs, r⟩ := (show Rep W (.tup [.row z.1, .row z.2]) v from h)
  unfold RepL at r
  obtain ⟨w1, r1, e1, ⟨a, ea, ha⟩, r⟩ := r
  unfold RepL at r
  obtain ⟨w2, r2, e2, ⟨b, eb, hb⟩, r⟩ := r
  unfold RepL at r
  subst e1 e2 ea eb r
  exact ⟨t, a, b, e, hs, ha, hb⟩
theorem eq_pairs (VQ : EqV X.prog X.w X.K X.mg X.base C k) {A : Around} (hu : A.units < cLine) (sb : Sub X k A.in1) {pins : List (Addr × Obj)} {σ : L2.St} {H : Hp} {s : Shared} {W : Wd} {n : Nat} {t t' a b a' b' : Addr} {z z' : List (List Nat) × List (List Nat)} (I : Inv X pins σ H s) (ok : WOk (thR C) W H n)
    (ht : W.S t = some (.tup [.ref a, .ref b])) (ha : W.R a = some z.1) (hb : W.R b = some z.2) (ht' : W.S t' = some (.tup [.ref a', .ref b'])) (ha' : W.R a' = some z'.1) (hb' : W.R b' = some z'.2)
    {E : Value → Shared → Prop} : wpAny (model X.prog X.w) A (eqBool (.ref t) (.ref t')) (fun r s' => r = decide (z = z') ∧ AskI X C pins σ W H n s') E s := by
  by_cases zt : t = t'
  · subst zt
    rw [ht] at ht'
    cases ht'
    rw [ha] at ha'
    rw [hb] at hb'
    have e : z = z' := Prod.ext (Option.some.inj ha') (Option.some.inj hb')
    exact SeqAt.EqAt.same (A := A) (s := s) (.ref t) X.prog X.w E _ ⟨by simp [e], W, H, I, After.refl ok⟩
  · have tupOf : ∀ {t0 a0 b0 : Addr}, W.S t0 = some (.tup [.ref a0, .ref b0]) → ∃ its : List Value, its = [.ref a0, .ref b0] ∧ s.heap.IsTuple t0 its.toArray := fun {t0 a0 b0} h => by
      obtain ⟨its, rv, p, _⟩ := I.tuple (SqT.of (ok.s _ _ h).1)
      refine ⟨its, ?_, p⟩
      cases rv with
      | cons r1 rr =>
      cases rr with
      | cons r2 rr =>
      cases rr
      cases r1
      cases r2
      rfl
    obtain ⟨i1, e1, p1⟩ := tupOf ht
    obtain ⟨i2, e2, p2⟩ := tupOf ht'
    subst e1 e2
    refine GQ.eqBool_refG zt (rc_tupP (items := #[.ref a, .ref b]) (items2 := #[.ref a', .ref b']) (Q := fun v s' => ∃ r, v = .bool r ∧ r = decide (z = z') ∧ AskI X C pins σ W H n s') rfl hu (fun i => match i with | 0 => decide (z.1 = z'.1) | _ => decide (z.2 = z'.2)) (fun _ s' => AskI X C pins σ W H n s') (fun s' => AskI X C pins σ W H n s') p1 p2 (fun i h1 h2 s' h => ?_) (fun s' ha h => ?_) (fun i s' hi he h => ?_) ⟨W, H, I, After.refl ok⟩)
    · obtain ⟨W1, H1, I1, A1⟩ := h
      have hi : i = 0 ∨ i = 1 := by
        have : i < 2 := h1
        omega
      rcases hi with hi | hi
      · subst hi
        refine wpAny_mono (eq_rows VQ sb I1 A1.ok (A1.le.r _ _ ha) (A1.le.r _ _ ha')) (fun r s2 q => ?_) fun _ _ q => q
        obtain ⟨er, W2, H2, I2, A2⟩ := q
        exact ⟨er, fun _ => ⟨W2, H2, I2, A1.trans A2⟩, fun _ => ⟨W2, H2, I2, A1.trans A2⟩⟩
      · subst hi
        refine wpAny_mono (eq_rows VQ sb I1 A1.ok (A1.le.r _ _ hb) (A1.le.r _ _ hb')) (fun r s2 q => ?_) fun _ _ q => q
        obtain ⟨er, W2, H2, I2, A2⟩ := q
        exact ⟨er, fun _ => ⟨W2, H2, I2, A1.trans A2⟩, fun _ => ⟨W2, H2, I2, A1.trans A2⟩⟩
    · have h0 := ha 0 (show 0 < 2 by decide)
      have h1 := ha 1 (show 1 < 2 by decide)
      have e : z = z' := Prod.ext (of_decide_eq_true h0) (of_decide_eq_true h1)
      exact ⟨true, rfl, by simp [e], h⟩
    · refine ⟨false, rfl, ?_, h⟩
      have hi' : i = 0 ∨ i = 1 := by
        have : i < 2 := hi
        omega
      have ne : z ≠ z' := fun e => by
        subst e
        rcases hi' with q | q <;> (subst q; simp at he)
      simp [ne]
def rInPair (C : Addr) (neg : Bool) : R2 := fun x y H Q => ∃ (W : Wd) (n : Nat) (z : List (List Nat) × List (List Nat)) (p : Addr) (ws : List V) (rs : List (List (List Nat) × List (List Nat))), Rep W (prD z) x ∧ y = .ref p ∧ WOk (thR C) W H n ∧ H p = some (.lst ws) ∧ (¬ W.D p ∨ W.S p = some (.lst ws)) ∧ RepL W (rs.map prD) ws ∧
  ∀ W' H', After (thR C) W H W' H' n → Q (.bl (if neg then !(rs.any fun y => decide (y = z)) else rs.any fun y => decide (y = z))) H'
theorem in_pairs (VQ : EqV X.prog X.w X.K X.mg X.base C k) (hr : Room (k + 2) X.A) {pins : List (Addr × Obj)} {σ : L2.St} {H : Hp} {s : Shared} {W : Wd} {n : Nat} {t a b p : Addr} {z : List (List Nat) × List (List Nat)} {ws : List V} {rs : List (List (List Nat) × List (List Nat))} (I : Inv X pins σ H s) (ok : WOk (thR C) W H n)
    (ht : W.S t = some (.tup [.ref a, .ref b])) (ha : W.R a = some z.1) (hb : W.R b = some z.2) (hp : H p = some (.lst ws)) (hd : ¬ W.D p ∨ W.S p = some (.lst ws)) (hw : RepL W (rs.map prD) ws) {Q : Bool → Shared → Prop} (q : ∀ s', AskI X C pins σ W H n s' → Q (rs.any fun y => decide (y = z)) s') :
    wpAny (model X.prog X.w) X.A (call (.builtin "list.__contains__") [.ref p, .ref t]) (fun v s' => ∃ b, v = .bool b ∧ Q b s') X.xe s := by
  have stay : ∀ {W' : Wd} {H' : Hp}, After (thR C) W H W' H' n → H' p = some (.lst ws) := fun {W' H'} A => by
    rcases hd with hd | hd
    · exact A.frame _ _ hd hp
    · exact (A.ok.s _ _ (A.le.s _ _ hd)).1
  obtain ⟨z0, its0, k0, v0, e0⟩ := I.hok p _ hp
  refine GQ.call_here PySem.F.slot_list_contains ⟨_, e0, rfl⟩ PySem.F.entry_list_contains (PySem.F.args_list_contains_2 _ _) ?_
  refine contains_start p (.ref t) rs.length (fun i => match rs[i]? with | some y => decide (y = z) | none => false) (fun _ s' => AskI X C pins σ W H n s') (fun s' => AskI X C pins σ W H n s') (fun i s' h => ?_) (fun i s' hi he h => ?_) (fun s' he h => ?_) ⟨W, H, I, After.refl ok⟩
  · obtain ⟨W', H', I', A'⟩ := h
    obtain ⟨_, its, c, vr, e⟩ := I'.hok p _ (stay A')
    have hl : its.length = rs.length := by rw [← vr.length, hw.length, List.length_map]
    refine ⟨its.toArray, c, e, by rw [List.size_toArray]; exact hl, fun hlt => ?_⟩
    rw [List.size_toArray, hl] at hlt
    have er : (rs.map prD)[i]? = some (prD rs[i]) := by rw [List.getElem?_map, List.getElem?_eq_getElem hlt]; rfl
    obtain ⟨v, ev, rv⟩ := hw.get er
    obtain ⟨t1, a1, b1, et, hs1, ha1, hb1⟩ := prD_at rv
    obtain ⟨u, eu, ru⟩ := vr.get ev
    subst et
    cases ru
    have ei : its.toArray[i] = .ref t1 := by
      have := (List.getElem?_eq_some_iff.mp eu).2
      simpa using this
    rw [ei]
    refine wpAny_mono (eq_pairs (A := X.A.in1) VQ (by have := hr.in1.un; omega) ⟨hr.in1.in1, rfl⟩ I' A'.ok (A'.le.s _ _ hs1) (A'.le.r _ _ ha1) (A'.le.r _ _ hb1) (A'.le.s _ _ ht) (A'.le.r _ _ ha) (A'.le.r _ _ hb)) (fun x s2 q2 => ?_) fun _ _ z => z
    obtain ⟨e1, W2, H2, I2, A2⟩ := q2
    have e3 : (match rs[i]? with | some y => decide (y = z) | none => false) = decide (rs[i] = z) := by rw [List.getElem?_eq_getElem hlt]
    exact ⟨by rw [e3]; exact e1, fun _ => ⟨W2, H2, I2, A'.trans A2⟩, fun _ => ⟨W2, H2, I2, A'.trans A2⟩⟩
  · refine ⟨true, rfl, ?_⟩
    have e3 : (rs.any fun y => decide (y = z)) = true := by
      rw [List.getElem?_eq_getElem hi] at he
      exact List.any_eq_true.mpr ⟨rs[i], List.getElem_mem hi, he⟩
    have := q s' h
    rw [e3] at this
    exact this
  · refine ⟨false, rfl, ?_⟩
    have e3 : (rs.any fun y => decide (y = z)) = false := by
      rw [List.any_eq_false]
      intro y hy
      obtain ⟨i, hi, e⟩ := List.mem_iff_getElem.mp hy
      have := he i hi
      rw [List.getElem?_eq_getElem hi] at this
      subst e
      simpa using this
    have := q s' h
    rw [e3] at this
    exact this
theorem op_notInPair (VQ : EqV X.prog X.w X.K X.mg X.base C k) (hr : Room (k + 2) X.A) : OpR X (compareOp .NotIn) (rInPair C true) := by
  intro pins s σ H x y v u Q I rx ry h
  obtain ⟨W, n, z, p, ws, rs, hx, rfl, ok, hp, hd, hw, q⟩ := h
  obtain ⟨t, a, b, et, hs, ha, hb⟩ := prD_at hx
  subst et
  cases rx
  cases ry
  obtain ⟨z0, its0, k0, v0, e0⟩ := I.hok p _ hp
  show wpAny (model X.prog X.w) X.A (do return Value.bool (!(← contains (Value.ref p) (Value.ref t)))) _ _ s
  refine wpAny_bind (wpAny_contains_slot ⟨_, e0, rfl⟩ PySem.F.slot_list_contains (wpAny_mono (in_pairs VQ hr I ok hs ha hb hp hd hw (Q := fun b s' => EP X pins σ Q (.bool (!b)) s') fun s' ⟨W', H', I', A'⟩ => ⟨.bl _, H', I', rfl, q W' H' A'⟩) (fun v s' hv => ?_) fun _ _ e => e))
  obtain ⟨b, rfl, hq⟩ := hv
  exact wpAny_truthy_bool (wpAny_pure hq)
end
section
variable {C : Addr} {X : Cx} {W0 W W' W1 : Wd} {H0 H H' : Hp} {O O' : Addr → Option Ow} {vs : VS} {σ : L2.St} {tm : List (V × Lo)} {a b : Expr} {fa fb : WE} {pos : Pos} {k : Nat}
def gNotInP : G2 := fun a b vs Q => ∃ (z : List (List Nat) × List (List Nat)) (rs : List (List (List Nat) × List (List Nat))), a = .sh (prD z) ∧ b.lst? = some (rs.map prD) ∧ Q (.sh (.bl (!(rs.any fun y => decide (y = z))))) vs
theorem snd_gNotInP : Snd2 (thR C) (rInPair C true) gNotInP := fun W0 H0 W H O vs σ tm x y a b Q Q' hf R kk => by
  obtain ⟨z, rs, ea, e1, q⟩ := hf
  subst ea
  obtain ⟨p, ws, ep, hp, rp, hd⟩ := R.lstD R.top e1
  refine ⟨W, vs.n, z, p, ws, rs, R.pop.top, ep, R.ok, hp, hd, rp, fun W' H' A => ?_⟩
  have R1 := R.pop.pop.over A.le A.ok A.frame A.grow.1 A.grow.2
  exact kk W' H' O vs _ _ A.le q (R1.push (by simp [Rep]))
theorem vt_notinP (VQ : EqV X.prog X.w X.K X.mg X.base C k) (hr : Room (k + 2) X.A) (ha : VE (thR C) X a fa) (hb : VE (thR C) X b fb) (hm : behindInMarks .NotIn b = false := by rfl) : VT (thR C) X (.Compare a [.NotIn] [b] pos) (wTst (w2 gNotInP fa fb)) := vt_cmp (op_notInPair VQ hr) snd_gNotInP ha hb hm
end
end Vx

set_option Elab.async false
set_option maxRecDepth 100000
set_option linter.all false
/-! *items in a display; l.index(number); *=. -/
namespace Vx
open PySem PySem.Spec PyProof.Rows L2
section
variable {T : Th} {X : Cx} {W0 W W' W1 : Wd} {H0 H H' : Hp} {O O' : Addr → Option Ow} {vs : VS} {σ : L2.St} {tm : List (V × Lo)} {a b e o : Expr} {es : List Expr} {f fa fb fo : WE} {g : WA} {pos apos cpos : Pos}
@[simp] def wStar (f : WE) (g : WA) : WA := fun vs Q => f vs fun lo vs1 => match lo with
  | .sh (.tup xs) => g vs1 fun ds vs2 => Q (xs ++ ds) vs2
  | .sh (.lst xs) => g vs1 fun ds vs2 => Q (xs ++ ds) vs2
  | _ => False
theorem va_star {p : Pos} (he : VE T X e f) (hr : VA T X es g) (hs : starEach (.Starred e p :: es) X.env = (true, eval e X.env) :: starEach es X.env := by rfl) : VA T X (.Starred e p :: es) (wStar f g) :=
  .of (StX.pa_star he.pe hr.pe hs) (fun W0 H0 W H O vs σ tm Q Q' hf R k => he.sn W0 H0 W H O vs σ tm _ _ hf R fun W1 H1 O1 vs1 v lo l1 q1 R1 => by
    split at q1
    · rename_i xs
      obtain ⟨p, ws, ev, hs, r⟩ := (show Rep W1 (.tup xs) v from R1.top)
      exact ⟨p, ws, ev, .inl (SqT.of (R1.Sget hs)), hr.sn W0 H0 W1 H1 O1 vs1 σ tm _ _ q1 R1.pop fun W2 H2 O2 vs2 us ds l2 q3 r2 R2 => k W2 H2 O2 vs2 (ws ++ us) (xs ++ ds) (l1.trans l2) q3 ((r.mono l2).append r2) R2⟩
    · rename_i xs
      obtain ⟨p, ws, ev, hs, r⟩ := (show Rep W1 (.lst xs) v from R1.top)
      exact ⟨p, ws, ev, .inr (SqL.of (R1.Sget hs)), hr.sn W0 H0 W1 H1 O1 vs1 σ tm _ _ q1 R1.pop fun W2 H2 O2 vs2 us ds l2 q3 r2 R2 => k W2 H2 O2 vs2 (ws ++ us) (xs ++ ds) (l1.trans l2) q3 ((r.mono l2).append r2) R2⟩
    · exact q1.elim)
def gIdxI : G2 := fun a b vs Q => match b, a.lst? with
  | .sh (.int k), some ds => ∃ ns : List Int, ints? ds = some ns ∧ k ∈ ns ∧ Q (.sh (.int (ns.idxOf k : Nat))) vs
  | _, _ => False
theorem snd_gIdxI {K : PySem.W.Frag} : Snd2 T (fun x y H Q => rIndex K x [y] H Q) gIdxI := fun W0 H0 W H O vs σ tm x y a b Q Q' hf R kk => by
  unfold gIdxI at hf
  split at hf
  · rename_i k ds e1
    obtain ⟨ns, en, hm, q⟩ := hf
    obtain ⟨p, ws, ep, hp, rp⟩ := R.lst R.pop.top e1
    have ex := ints?_eq en
    subst ex
    have ew := rp.ints
    subst ew
    have ey : y = .int k := R.top
    subst ey
    have hj : ns.idxOf k < ns.length := List.idxOf_lt_length_iff.mpr hm
    refine ⟨p, ns.map V.int, .int k, ns.idxOf k, .int k, ep, rfl, SqL.of hp, rfl, ?_, ?_, ?_, fun m z hlt hz => ?_, kk W H O vs _ _ (Le.refl W) q (R.pop.pop.push (by simp [Rep]))⟩
    · simp [List.all_eq_true, flatV]
    · rw [List.getElem?_map, List.getElem?_eq_getElem hj, List.getElem_idxOf hj]; rfl
    · simp [eqV]
    · have hml : m < ns.length := by omega
      rw [List.getElem?_map, List.getElem?_eq_getElem hml] at hz
      cases hz
      have := ne_of_lt_idxOf hlt hml
      simp [eqV, this]
  · exact hf.elim
theorem ve_index (ho : VE T X o fo) (ha : VE T X a fa)
    (hbase : attributeBase o "index" X.env (eval o X.env) = eval o X.env := by rfl)
    (hfew : ((backTo cpos (starEach (a :: []) X.env)).all (fun x => !x.1) && (backToKw cpos (keywordEach [] X.env)).all (fun x => x.1.isSome) && decide ((a :: []).length + ([] : List Keyword).length + (if ([] : List Keyword).isEmpty then 0 else 1) < 30)) = true := by rfl)
    (hline : (apos.endLine == cpos.line) = true := by rfl) (hs : starEach (a :: []) X.env = (false, eval a X.env) :: starEach [] X.env := by rfl) :
    VE T X (.Call (.Attribute o "index" apos) [a] [] cpos) (wBm Lo.isLst gIdxI fo fa) :=
  ve_bm1 PySem.F.plainAttrs_list PySem.F.slot_list_index PySem.F.type_list_index mt_index isLst_ty snd_gIdxI ho ha hbase hfew hline hs
theorem ve_call0 {CX : CXT} {k m : Nat} {x : Str} {F : FS} {p : Pos} (h : FnV T X.prog X.w X.K X.mg X.base CX k x m F) (hr : Room k X.A) (hx : Passes CX X E0) (hg : Gl X x)
    (hdb : (x == ("__debug__" : Str)) = false := by decide) : VE T X (.Call (.Name x p) [] [] pos) (wCallN m F wFNil) := by
  obtain ⟨f, fd, ps, h1, h2, h3, h4⟩ := h.ex
  exact .of (pe_call0 h1 hr hg h2 h3 h4 .nil hx hdb) (sn_call fun W0 H0 W H O vs σ tm Q Q' hf R k => k W H O vs [] [] (Le.refl W) hf trivial R)
end
end Vx

set_option Elab.async false
set_option maxRecDepth 100000
set_option linter.all false
/-! x, y = a, b with a cell among the names: stored from the left. -/
namespace Vx
open PySem PySem.Spec PyProof PyProof.Rows L2
section
variable {T : Th} {X : Cx} {a b : Expr} {fa fb : WE} {pos : Pos}
theorem ps_parC {i j : Nat} {x y : Str} {a b : Expr} {ta : TA} {px py pt : Pos} {kt k2 pt2} (hc : X.calm = true) (hN : X.N.Nodup) (hi : X.N[i]? = some x) (hj : X.N[j]? = some y)
    (hx : Loc X.env.scope x) (hy : Loc X.env.scope y) (ha : PA X [a, b] ta)
    (hw : swappedStores [.Tuple [.Name x px, .Name y py] kt pt] (.Tuple [a, b] k2 pt2) X.env = pure none := by rfl)
    (hs : swapsWithSole [.Tuple [.Name x px, .Name y py] kt pt] (.Tuple [a, b] k2 pt2) pos.line X.env = pure false := by rfl)
    (h1 : (assignEach [.Tuple [.Name x px, .Name y py] kt pt] X.env).map (·.2) = [assign (.Tuple [.Name x px, .Name y py] kt pt) X.env] := by rfl)
    (h2 : assignEach [.Name x px, .Name y py] X.env = [(false, assign (.Name x px) X.env), (false, assign (.Name y py) X.env)] := by rfl)
    (fx : X.fn x = true ∨ X.env.scope.names.lookup x = some .local) (fy : X.fn y = true ∨ X.env.scope.names.lookup y = some .local) :
    PS X (.Assign [.Tuple [.Name x px, .Name y py] kt pt] (.Tuple [a, b] k2 pt2) pos) (tPar i j ta) := by
  refine ⟨fun pins s σ H D I h => ?_⟩
  refine wpAny_Assign_stores (Tuple_ (thn (ha.run _ pins s σ H _ I h) fun us s1 ⟨vs, H1, I1, r1, q1⟩ => ?_)) hs hw
  obtain ⟨v, w, e1, q1⟩ := q1
  subst e1
  obtain ⟨u1, u2, rfl, rv, rw'⟩ : ∃ u1 u2, us = [u1, u2] ∧ RelV v u1 ∧ RelV w u2 := by
    cases r1 with
    | cons p q =>
      cases q with
      | cons p' q' =>
        cases q'
        exact ⟨_, _, rfl, p, p'⟩
  refine wpAny_newObj_type ?_ (by show 2 ≤ sizeLine; decide)
  have I2 : Inv X pins σ H1 { s1 with heap := s1.heap.push { cls := .type "tuple", data := .seq [u1, u2].toArray } } := I1.kept (t' := s1.toks) fun b o e => Heap.get?_push_of_some _ e
  rw [h1]
  show wpAny _ _ (assign (.Tuple [.Name x px, .Name y py] kt pt) X.env _) _ _ _
  refine assign_Tuple_tuple (items := #[u1, u2]) (I1.ok.hd hc) (IsTup.new s1.heap _) (by rw [h2]; rfl) (by rw [h2]; rfl) fun h' hx' => ?_
  have I3 := I2.kept (h' := h') (t' := s1.toks) fun b o e => hx' b o (Nat.ne_of_lt (Heap.lt_size e)) e
  rw [h2]
  show wpAny _ _ (assignInOrder [assign (.Name x px) X.env, assign (.Name y py) X.env] [u1, u2]) _ _ _
  refine assignInOrder_cons (wpAny_assign_Name (store_ok I3 hN hi hx rv (fun s2 I4 => ?_) fx))
  refine assignInOrder_cons (wpAny_assign_Name (store_ok I4 hN hj hy rw' (fun s3 I5 => assignInOrder_nil ?_) fy))
  exact ⟨_, H1, I5, q1⟩
theorem vp_parC (i j : Nat) {x y : Str} {px py pt : Pos} {kt k2 pt2} (hc : X.calm = true) (hN : X.N.Nodup) (hi : X.N[i]? = some x) (hj : X.N[j]? = some y) (hij : i ≠ j)
    (hx : Loc X.env.scope x) (hy : Loc X.env.scope y) (ha : VE T X a fa) (hb : VE T X b fb)
    (hw : swappedStores [.Tuple [.Name x px, .Name y py] kt pt] (.Tuple [a, b] k2 pt2) X.env = pure none := by rfl)
    (hs : swapsWithSole [.Tuple [.Name x px, .Name y py] kt pt] (.Tuple [a, b] k2 pt2) pos.line X.env = pure false := by rfl)
    (h3 : (assignEach [.Tuple [.Name x px, .Name y py] kt pt] X.env).map (·.2) = [assign (.Tuple [.Name x px, .Name y py] kt pt) X.env] := by rfl)
    (h4 : assignEach [.Name x px, .Name y py] X.env = [(false, assign (.Name x px) X.env), (false, assign (.Name y py) X.env)] := by rfl)
    (h1 : starEach [a, b] X.env = (false, eval a X.env) :: starEach [b] X.env := by rfl) (h2 : starEach [b] X.env = (false, eval b X.env) :: starEach [] X.env := by rfl)
    (fx : X.fn x = true ∨ X.env.scope.names.lookup x = some .local := by first | exact .inl rfl | exact .inr rfl | assumption) (fy : X.fn y = true ∨ X.env.scope.names.lookup y = some .local := by first | exact .inl rfl | exact .inr rfl | assumption) :
    VP T X (.Assign [.Tuple [.Name x px, .Name y py] kt pt] (.Tuple [a, b] k2 pt2) pos) (wPar i j fa fb) :=
  .of (ps_parC hc hN hi hj hx hy (pa_cons ha.pe (pa_cons hb.pe pa_nil h2) h1) hw hs h3 h4 fx fy) fun W0 H0 W H O vs σ tm D D' nb hf R C =>
    ha.sn W0 H0 W H O vs σ tm _ _ hf R fun W1 H1 O1 vs1 v lo1 l1 q1 R1 => hb.sn W0 H0 W1 H1 O1 vs1 σ _ _ _ q1 R1 fun W2 H2 O2 vs2 w lo2 l2 q2 R2 => by
      obtain ⟨q2, q3, q4, q5, q6⟩ := q2
      refine ⟨v, w, rfl, ?_⟩
      obtain ⟨O3, R3⟩ := R2.store (Lo.noBo' q5) q3
      obtain ⟨O4, R4⟩ := R3.store (Lo.noBo' q4) (i := i) (by simpa using q2)
      have e1 : (σ.set j (some w)).set i (some v) = (σ.set i (some v)).set j (some w) := List.set_comm _ _ (Ne.symm hij)
      have e2 : (vs2.env.set j (some lo2)).set i (some lo1) = (vs2.env.set i (some lo1)).set j (some lo2) := List.set_comm _ _ (Ne.symm hij)
      rw [e1] at R4
      simp only [e2] at R4
      exact C.nx W2 H2 O4 _ _ (l1.trans l2) q6 R4
end
end Vx

set_option Elab.async false
set_option maxRecDepth 100000
set_option linter.all false
/-! list(range(..)) by value. -/
namespace Vx
open PySem PySem.Spec PyProof PyProof.Rows L2
section
variable {T : Th} {X : Cx} {a b : Expr} {fa fb : WE} {pos : Pos}
@[simp] def wLR1 (f : WE) : WE := fun vs Q => f vs fun lo vs1 => match lo with
  | .sh (.int j) => j ≤ 16777216 ∧ -(2 ^ 62) ≤ j ∧ Q (.ow (rng 0 j.toNat 1)) vs1
  | _ => False
@[simp] def wLR2 (f g : WE) : WE := fun vs Q => f vs fun lo vs1 => g vs1 fun lo2 vs2 => match lo, lo2 with
  | .sh (.int i), .sh (.int j) => (0 ≤ i ∧ i ≤ 16777216 ∧ 0 ≤ j ∧ j ≤ 16777216) ∧ Q (.ow (rng i (j - i).toNat 1)) vs2
  | _, _ => False
theorem repL_rng (W : Wd) (a b : Int) : RepL W (rng a (b - a).toNat 1) (rgV a b) := by
  unfold rng rgV
  generalize (List.range (b - a).toNat) = l
  induction l with
  | nil => exact RepL.nil
  | cons i l ih =>
    rw [List.map_cons, List.map_cons]
    refine ⟨_, _, rfl, ?_, ih⟩
    simp [Rep]
theorem ve_listRg2 {p q pos2 : Pos} (hc : X.calm = true) (hg : Gl X "list") (hm : X.mg "list" = none) (hg2 : Gl X "range") (hm2 : X.mg "range" = none) (ha : VE T X a fa) (hb : VE T X b fb)
    (na : starEach [a, b] X.env = (false, eval a X.env) :: starEach [b] X.env := by rfl) (nb : starEach [b] X.env = (false, eval b X.env) :: starEach [] X.env := by rfl) (hp : (backTo pos2 (starEach [b] X.env)).any (·.1) = false := by rfl)
    (nc : starEach [Expr.Call (.Name "range" q) [a, b] [] pos2] X.env = (false, eval (Expr.Call (.Name "range" q) [a, b] [] pos2) X.env) :: starEach [] X.env := by rfl) :
    VE T X (.Call (.Name "list" p) [.Call (.Name "range" q) [a, b] [] pos2] [] pos) (wLR2 fa fb) :=
  .of (pe_listRg hc hg hm (prg_2 hg2 hm2 ha.pe hb.pe na nb hp) nc) fun W0 H0 W H O vs σ tm Q Q' hf R k =>
    ha.sn W0 H0 W H O vs σ tm _ _ hf R fun W1 H1 O1 vs1 v lo l1 q1 R1 => hb.sn W0 H0 W1 H1 O1 vs1 σ _ _ _ q1 R1 fun W2 H2 O2 vs2 w lo2 l2 q2 R2 => by
      split at q2
      · rename_i i j
        obtain ⟨⟨c1, c2, c3, c4⟩, q2⟩ := q2
        have ew : w = .int j := R2.top
        have ev : v = .int i := R2.pop.top
        subst ew
        subst ev
        refine ⟨i, j, rfl, rfl, .of_le c1 c4 c2 c3, fun p hp => ?_⟩
        exact k W2 _ _ vs2 _ _ (l1.trans l2) q2 (R2.pop.pop.fresh hp (repL_rng W2 i j))
      · exact q2.elim
theorem ve_listRg1 {p q pos2 : Pos} (hc : X.calm = true) (hg : Gl X "list") (hm : X.mg "list" = none) (hg2 : Gl X "range") (hm2 : X.mg "range" = none) (ha : VE T X a fa)
    (na : starEach [a] X.env = (false, eval a X.env) :: starEach [] X.env := by rfl)
    (nc : starEach [Expr.Call (.Name "range" q) [a] [] pos2] X.env = (false, eval (Expr.Call (.Name "range" q) [a] [] pos2) X.env) :: starEach [] X.env := by rfl) :
    VE T X (.Call (.Name "list" p) [.Call (.Name "range" q) [a] [] pos2] [] pos) (wLR1 fa) :=
  .of (pe_listRg hc hg hm (prg_1 hg2 hm2 ha.pe na) nc) fun W0 H0 W H O vs σ tm Q Q' hf R k =>
    ha.sn W0 H0 W H O vs σ tm _ _ hf R fun W1 H1 O1 vs1 v lo l1 q1 R1 => by
      split at q1
      · rename_i j
        obtain ⟨c1, c2, q1⟩ := q1
        have ev : v = .int j := R1.top
        subst ev
        have hr : RgOk 0 j := ⟨by omega, by omega, by omega, by omega, by omega⟩
        refine ⟨j, rfl, hr, fun p hp => ?_⟩
        have e := repL_rng W1 0 j
        rw [Int.sub_zero] at e
        have er : rgV 0 j = rgV 0 j := rfl
        exact k W1 _ _ vs1 _ _ l1 q1 (R1.pop.fresh hp e)
      · exact q1.elim
end
end Vx

set_option Elab.async false
set_option maxRecDepth 100000
set_option linter.all false
/-! len(set(list of whole numbers)) by value. -/
namespace Vx
open PySem PySem.Spec PyProof PyProof.Rows L2
section
variable {T : Th} {X : Cx} {a b : Expr} {fa fb : WE} {pos : Pos}
def tLenSetA (K : PySem.W.Frag) (ta : TE) : TE := fun σ H Q => ta σ H fun x H1 => ∃ (l : Addr) (ks : List Int), x = .ref l ∧ SqL K H1 l (ks.map V.int) ∧ ks.length + 1 < scanBound ∧ ∀ es : List Int, es.Nodup → (∀ k, k ∈ es ↔ k ∈ ks) → es.length ≤ 4096 ∧ Q (.int (es.length : Nat)) H1
theorem pe_lenSetA {ta : TE} {p p2 q pos : Pos} (hg : Gl X "len") (hm : X.mg "len" = none) (hg2 : Gl X "set") (hm2 : X.mg "set" = none) (ha : PE X a ta) (hc : X.calm = true := by rfl)
    (na : starEach [a] X.env = (false, eval a X.env) :: starEach [] X.env := by rfl) : PE X (.Call (.Name "len" p) [.Call (.Name "set" p2) [a] [] q] [] pos) (tLenSetA X.K ta) := by
  refine ⟨fun pins s σ H Q I h => ?_⟩
  refine Call_ (ld_blt I hg hm boot_len ?_)
  refine PyProof.Rows.callWith_builtin1 (PyProof.Rows.args_cons ?_ rfl) rfl rfl
  refine Call_ (ld_blt I hg2 hm2 boot_set ?_)
  refine PyProof.Rows.callWith_type1 (PyProof.Rows.args_cons (thn (ha.run pins s σ H _ I h) fun v s1 ⟨x, H1, I1, r1, q1⟩ => PyProof.Rows.args_nil ?_) na) na rfl
  obtain ⟨l, ks, rfl, hs, hb, q1⟩ := q1
  cases r1
  obtain ⟨its, rv, ⟨o, n, ho, hcl, hdn, hd⟩, hlen⟩ := I1.list hs
  have hi : IntsAre its.toArray.toList ks := ints_of_vals rv
  refine call_set_listI ks (I1.ok.hd hc) ⟨o, ho, hcl, n, hd⟩ hi hb fun h' tk c R1 hcn k => ?_
  refine PyProof.Rows.args_nil ?_
  obtain ⟨o2, es, ep, t, ho2, hex, hdt, g, nd, hm2, hb2, hf, he, hr⟩ := id R1
  have e1 : (es.toList.map keyOf).length = c := by rw [List.length_map, Array.length_toList]; exact he
  obtain ⟨q2, q3⟩ := q1 (es.toList.map keyOf) nd (fun k => by rw [← hm2 k, decide_eq_true_eq])
  have I2 : Inv X pins σ H1 { s1 with heap := h', toks := tk } := I1.kept fun b o e => k b o e
  rw [e1] at q2 q3
  exact call_len_set ho2 hex hdt hf (by rw [he]; omega) ⟨.int c, H1, I2.tok _, ⟨_, by rw [he]⟩, q3⟩
@[simp] def gLenSet : G1 := fun a vs Q => match a.lst? with
  | some ds => match D.nums ds with
    | some ks => ks.length + 1 < 4096 ∧ ∀ es : List Int, es.Nodup → (∀ k, k ∈ es ↔ k ∈ ks) → es.length ≤ 4096 ∧ Q (.sh (.int (es.length : Nat))) vs
    | none => False
  | none => False
theorem ve_lenSet {p p2 q : Pos} (hg : Gl X "len") (hm : X.mg "len" = none) (hg2 : Gl X "set") (hm2 : X.mg "set" = none) (ha : VE T X a fa) (hc : X.calm = true := by rfl)
    (na : starEach [a] X.env = (false, eval a X.env) :: starEach [] X.env := by rfl) : VE T X (.Call (.Name "len" p) [.Call (.Name "set" p2) [a] [] q] [] pos) (w1 gLenSet fa) :=
  .of (pe_lenSetA hg hm hg2 hm2 ha.pe hc na) fun W0 H0 W H O vs σ tm Q Q' hf R k => ha.sn W0 H0 W H O vs σ tm _ _ hf R fun W1 H1 O1 vs1 x lo l1 q1 R1 => by
    unfold gLenSet at q1
    split at q1
    · rename_i ds e1
      split at q1
      · rename_i ks e2
        obtain ⟨hb, q⟩ := q1
        obtain ⟨p, ws, ep, hp, rp⟩ := R1.lst R1.top e1
        have ep' : x = .ref p := ep
        subst ep'
        rw [D.nums_eq e2] at rp
        have ew := rp.ints
        subst ew
        exact ⟨p, ks, rfl, SqL.of hp, hb, fun es nd hm => ⟨(q es nd hm).1, k W1 H1 O1 vs1 _ _ l1 (q es nd hm).2 (R1.pop.push (by simp [Rep]))⟩⟩
      · exact q1.elim
    · exact q1.elim
end
end Vx

set_option Elab.async false
set_option maxRecDepth 100000
set_option linter.all false
/-! x.append(y.pop(k)) by value. -/
namespace Vx
open PySem PySem.Spec PyProof PyProof.Rows L2
section
variable {T : Th} {X : Cx} {a b : Expr} {fa fb : WE}
@[simp] def wAppPop (i j : Nat) (f : WE) : WS := fun vs D => (∃ a0, vs.env[i]? = some (some (.ow a0))) ∧ (∃ b0, vs.env[j]? = some (some (.ow b0))) ∧ i ≠ j ∧ f vs fun lo vs1 => match lo, vs1.env[j]?, vs1.env[i]? with
  | .sh (.int k), some (some (.ow ys)), some (some (.ow xs)) => 0 ≤ k ∧ k < 2 ^ 63 ∧ xs.length < sizeLine ∧ ∃ d, ys[k.toNat]? = some d ∧ D.nx ((vs1.put j (.ow (ys.eraseIdx k.toNat))).put i (.ow (xs ++ [d])))
  | _, _, _ => False
theorem vp_appPop (i j : Nat) {x y : Str} {p p2 apos apos2 cpos cpos2 pos : Pos} (ha : VE T X a fa) (hN : X.N[i]? = some x := by rfl) (hN2 : X.N[j]? = some y := by rfl)
    (hv : Vis X.env.scope x := by first | exact Or.inl rfl | exact Or.inr (Or.inl rfl) | exact Or.inr (Or.inr rfl)) (hv2 : Vis X.env.scope y := by first | exact Or.inl rfl | exact Or.inr (Or.inl rfl) | exact Or.inr (Or.inr rfl))
    (hd : (x == ("__debug__" : Str)) = false := by decide) (hcd : (x == ("__classdict__" : Str)) = false := by decide) (hd2 : (y == ("__debug__" : Str)) = false := by decide) (hcd2 : (y == ("__classdict__" : Str)) = false := by decide)
    (hbase2 : attributeBase (.Name y p2) "pop" X.env (eval (.Name y p2) X.env) = eval (.Name y p2) X.env := by rfl)
    (hfew2 : ((backTo cpos2 (starEach (a :: []) X.env)).all (fun x => !x.1) && (backToKw cpos2 (keywordEach [] X.env)).all (fun x => x.1.isSome) && decide ((a :: []).length + ([] : List Keyword).length + (if ([] : List Keyword).isEmpty then 0 else 1) < 30)) = true := by rfl)
    (hline2 : (apos2.endLine == cpos2.line) = true := by rfl) (h12 : starEach (a :: []) X.env = (false, eval a X.env) :: starEach [] X.env := by rfl)
    (hbase : attributeBase (.Name x p) "append" X.env (eval (.Name x p) X.env) = eval (.Name x p) X.env := by rfl)
    (hfew : ((backTo cpos (starEach [Expr.Call (.Attribute (.Name y p2) "pop" apos2) [a] [] cpos2] X.env)).all (fun x => !x.1) && (backToKw cpos (keywordEach [] X.env)).all (fun x => x.1.isSome) && decide (([Expr.Call (.Attribute (.Name y p2) "pop" apos2) [a] [] cpos2] : List Expr).length + ([] : List Keyword).length + (if ([] : List Keyword).isEmpty then 0 else 1) < 30)) = true := by rfl)
    (hline : (apos.endLine == cpos.line) = true := by rfl) (h1 : starEach [Expr.Call (.Attribute (.Name y p2) "pop" apos2) [a] [] cpos2] X.env = (false, eval (Expr.Call (.Attribute (.Name y p2) "pop" apos2) [a] [] cpos2) X.env) :: starEach [] X.env := by rfl)
    (hs : swapsWith (.Call (.Attribute (.Name x p) "append" apos) [Expr.Call (.Attribute (.Name y p2) "pop" apos2) [a] [] cpos2] [] cpos) none pos.line X.env = pure false := by rfl) :
    VP T X (.Expr (.Call (.Attribute (.Name x p) "append" apos) [Expr.Call (.Attribute (.Name y p2) "pop" apos2) [a] [] cpos2] [] cpos) pos) (wAppPop i j fa) :=
  .of (ps_expr (pe_bm PySem.F.plainAttrs_list PySem.F.slot_list_append PySem.F.type_list_append mt_append (pe_var hN hv hd hcd) (pa_cons (pe_bm PySem.F.plainAttrs_list PySem.F.slot_list_pop PySem.F.type_list_pop mt_popAt (pe_var hN2 hv2 hd2 hcd2) (pa_cons ha.pe pa_nil h12) hbase2 hfew2 hline2 h12 (by rfl)) pa_nil h1) hbase hfew hline h1 (by rfl)) hs) fun W0 H0 W H O vs σ tm E0 D' nb hf R C => by
    obtain ⟨⟨a0, ea⟩, ⟨b0, eb⟩, hij, hf⟩ := hf
    obtain ⟨vx, hvx, px, wx, ex1, hox, hdx, h0x, hpx, rx⟩ := R.env i _ ea
    subst ex1
    refine ⟨.ref px, hvx, .inl ⟨rfl, _, SqL.of hpx⟩, ?_⟩
    obtain ⟨vy, hvy, py, wy, ey1, hoy, hdy, h0y, hpy, ry⟩ := R.env j _ eb
    subst ey1
    refine ⟨.ref py, hvy, .inl ⟨rfl, _, SqL.of hpy⟩, ?_⟩
    refine ha.sn W0 H0 W H O vs σ tm _ _ hf R fun W1 H1 O1 vs1 y lo l1 q1 R1 => ?_
    split at q1
    · rename_i k ys xs ej ei
      obtain ⟨k0, k1, kl, d, ed, q⟩ := q1
      have ey : y = .int k := R1.top
      subst ey
      obtain ⟨v2, hv2', p2', ws2, e2, ho2, hd2', h02, hp2, r2⟩ := R1.env j _ ej
      rw [hvy] at hv2'
      cases hv2'
      cases e2
      obtain ⟨w, hw, rw'⟩ := r2.get ed
      have hk : k.toNat < ws2.length := (List.getElem?_eq_some_iff.mp hw).1
      have hsi : seqIndex? k ws2.length = some k.toNat := by
        unfold seqIndex?
        have e1 : ¬ k < 0 := by omega
        simp only [e1, if_false]
        rw [if_pos]
        simp only [Bool.and_eq_true, decide_eq_true_eq]
        omega
      refine ⟨py, ws2, k, k.toNat, w, rfl, rfl, hp2, by omega, k1, hsi, hw, ?_⟩
      have R2 := R1.pop.write nb ej hvy (r2.eraseIdx k.toNat)
      have ei2 : (vs1.put j (.ow (ys.eraseIdx k.toNat))).env[i]? = some (some (.ow xs)) := by
        show (vs1.env.set j _)[i]? = _
        rw [List.getElem?_set_ne (Ne.symm hij)]
        exact ei
      obtain ⟨v3, hv3, p3, ws3, e3, ho3, hd3, h03, hp3, r3⟩ := R2.env i _ ei2
      rw [hvx] at hv3
      cases hv3
      cases e3
      refine ⟨px, ws3, w, rfl, rfl, hp3, by rw [r3.length]; exact kl, ?_⟩
      exact C.nx W1 _ O1 _ σ l1 q (R2.write nb ei2 hvx (r3.append (RepL.cons rw' RepL.nil)))
    · exact q1.elim
end
end Vx

set_option Elab.async false
set_option maxRecDepth 100000
set_option linter.all false
/-! sorted(list of whole numbers) by value. -/
namespace Vx
open PySem PySem.Spec PyProof PyProof.Rows L2
section
variable {T : Th} {X : Cx} {a : Expr} {fa : WE} {pos : Pos}
@[simp] def gSortI : G1 := fun a vs Q => match a.lst? with
  | some ds => match D.nums ds with
    | some ks => ∀ ns : List Int, ns.Perm ks → ns.Pairwise (· ≤ ·) → Q (.ow (ns.map D.int)) vs
    | none => False
  | none => False
theorem ve_sortedI {p : Pos} (hg : Gl X "sorted") (hm : X.mg "sorted" = none) (ha : VE T X a fa) (hs : starEach [a] X.env = (false, eval a X.env) :: starEach [] X.env := by rfl) :
    VE T X (.Call (.Name "sorted" p) [a] [] pos) (w1 gSortI fa) :=
  .of (pe_callB cr_sortedI hg hm (by decide +kernel) (pa_cons ha.pe pa_nil hs) (by decide) (by decide) hs) fun W0 H0 W H O vs σ tm Q Q' hf R k => ha.sn W0 H0 W H O vs σ tm _ _ hf R fun W1 H1 O1 vs1 x lo l1 q1 R1 => by
    unfold gSortI at q1
    split at q1
    · rename_i ds e1
      split at q1
      · rename_i ks e2
        obtain ⟨p, ws, ep, hp, rp⟩ := R1.lst R1.top e1
        have ep' : x = .ref p := ep
        subst ep'
        rw [D.nums_eq e2] at rp
        rw [RepL.ints rp] at hp
        refine ⟨p, ks, rfl, SqL.of hp, fun ns p2 h1 h2 hn => ?_⟩
        exact k W1 _ _ vs1 _ _ l1 (q1 ns h1 h2) (R1.pop.fresh hn RepL.of_ints)
      · exact q1.elim
    · exact q1.elim
end
end Vx

set_option Elab.async false
set_option maxRecDepth 100000
set_option linter.all false
/-! x is True by value, x a bool. -/
namespace Vx
open PySem PySem.Spec PyProof PyProof.Rows L2
section
variable {T : Th} {X : Cx} {a : Expr} {fa : WE} {pos : Pos}
def tIsB (b : Bool) (ta : TE) : TE := fun σ H Q => ta σ H fun x H1 => ∃ c : Bool, x = .bl c ∧ Q (.bl (c == b)) H1
theorem is_bb (c b : Bool) : compareOp .Is (.bool c) (.bool b) = pure (.bool (c == b)) := by
  cases c <;> cases b <;> rfl
theorem pc_isB {ta : TE} {b : Bool} {j pos'} (ha : PE X a ta) : PC X .Is a (.Constant (.bool b) j pos') (tIsB b ta) := by
  refine ⟨fun pins s σ H Q I h => ?_⟩
  refine thn (ha.run pins s σ H _ I h) fun v s1 ⟨x, H1, I1, r1, q1⟩ => ?_
  obtain ⟨c, rfl, q1⟩ := q1
  cases r1
  refine thn (pe_bl.run pins s1 σ H1 (fun x H2 => x = .bl b ∧ H2 = H1) I1 ⟨rfl, rfl⟩) fun u s2 ⟨y, H2, I2, r2, e1, e2⟩ => ?_
  subst e1
  subst e2
  cases r2
  exact wpAny_of_eq (is_bb c b) ⟨.bl _, H2, I2, rfl, q1⟩
@[simp] def wIsB (b : Bool) (f : WE) : WE := fun vs Q => f vs fun lo vs1 => match lo with
  | .sh (.bl c) => Q (.sh (.bl (c == b))) vs1
  | _ => False
theorem ve_isB {b : Bool} {j pos'} (ha : VE T X a fa) : VE T X (.Compare a [.Is] [.Constant (.bool b) j pos'] pos) (wIsB b fa) :=
  .of (pe_cmp (pc_isB ha.pe) rfl) fun W0 H0 W H O vs σ tm Q Q' hf R k => ha.sn W0 H0 W H O vs σ tm _ _ hf R fun W1 H1 O1 vs1 v lo l1 q1 R1 => by
    split at q1
    · rename_i c
      have e : v = .bl c := R1.top
      exact ⟨c, e, k W1 H1 O1 vs1 _ _ l1 q1 (R1.pop.push (by simp [Rep]))⟩
    · exact q1.elim
end
end Vx

set_option Elab.async false
set_option maxRecDepth 100000
set_option linter.all false
/-! A list that a name holds is frozen ahead of an expression. -/
namespace Vx
open PySem PySem.Spec PyProof.Rows L2
@[simp] def wFz (i : Nat) (f : WE) : WE := fun vs Q => match vs.env[i]? with
  | some (some (.ow xs)) => f { vs with env := vs.env.set i (some (.sh (.lst xs))) } Q
  | _ => f vs Q
section
variable {T : Th} {X : Cx} {e : Expr} {f : WE}
theorem ve_fz {i : Nat} (h : VE T X e f) : VE T X e (wFz i f) :=
  .of h.pe fun W0 H0 W H O vs σ tm Q Q' hf R k => by
    unfold wFz at hf
    split at hf
    · rename_i xs he
      obtain ⟨W', v, l1, h1, h2, R'⟩ := R.frzEnv he
      exact h.sn W0 H0 W' H O _ σ tm Q Q' hf R' fun W1 H1 O1 vs1 v1 lo1 l2 q1 R1 => k W1 H1 O1 vs1 v1 lo1 (l1.trans l2) q1 R1
    · exact h.sn W0 H0 W H O vs σ tm Q Q' hf R k
end
end Vx

set_option Elab.async false
set_option maxRecDepth 100000
set_option linter.all false
/-! xs.index(x), the items data of any depth. -/
namespace Vx
open PySem PySem.Spec PyProof.Rows L2
theorem pys_get : ∀ (es : List D) (j : Nat), (D.pys es)[j]? = (es[j]?).map D.py
  | [], j => by simp [D.pys]
  | d :: es, 0 => by simp [D.pys]
  | d :: es, j + 1 => by
    show (d.py :: D.pys es)[j + 1]? = _
    simp [pys_get es j]
section
variable {T : Th} {X : Cx} {W0 W W' : Wd} {H0 H H' : Hp} {O O' : Addr → Option Ow} {vs : VS} {σ : L2.St} {tm : List (V × Lo)} {o a : Expr} {fo fa : WE} {apos cpos : Pos}
def gIdxD : G2 := fun a b vs Q => match b.dt?, a.lst? with
  | some d, some es => D.fit 60 d = true ∧ D.fits 59 es = true ∧ ∃ j z, es[j]? = some z ∧ D.eqv z d = true ∧ (∀ m z', m < j → es[m]? = some z' → D.eqv z' d = false) ∧ Q (.sh (.int (j : Nat))) vs
  | _, _ => False
theorem snd_gIdxD {K : PySem.W.Frag} : Snd2 T (fun x y H Q => rIndexD K x [y] H Q) gIdxD := fun W0 H0 W H O vs σ tm x y a b Q Q' hf R kk => by
  unfold gIdxD at hf
  split at hf
  · rename_i d es ed ee
    obtain ⟨f1, f2, j, z, h1, h2, h3, q⟩ := hf
    have f3 : D.fit 60 (.lst es) = true := by unfold D.fit; exact f2
    have hd := R.dp (K := K) R.top ed f1
    have hl := R.dp (K := K) R.pop.top (lst_dt ee) f3
    have s2 := fit_shaped f3 (by decide)
    unfold D.py at hl s2
    obtain ⟨p, ws, ep, hp, rp⟩ := R.lst R.pop.top ee
    subst ep
    refine ⟨p, y, d.py, D.pys es, j, z.py, rfl, rfl, hl, hd, s2, fit_shaped f1 (by decide), by rw [pys_get, h1]; rfl, h2, fun m z' hm hz => ?_, kk W H O vs _ _ (Le.refl W) q (R.pop.pop.push (by simp [Rep]))⟩
    rw [pys_get] at hz
    cases hm' : es[m]? with
    | none => rw [hm'] at hz; cases hz
    | some z2 =>
      rw [hm'] at hz
      cases hz
      exact h3 m z2 hm hm'
  · exact hf.elim
theorem ve_indexD (hu : X.A.units + 65 < cLine) (ho : VE T X o fo) (ha : VE T X a fa)
    (hbase : attributeBase o "index" X.env (eval o X.env) = eval o X.env := by rfl)
    (hfew : ((backTo cpos (starEach (a :: []) X.env)).all (fun x => !x.1) && (backToKw cpos (keywordEach [] X.env)).all (fun x => x.1.isSome) && decide ((a :: []).length + ([] : List Keyword).length + (if ([] : List Keyword).isEmpty then 0 else 1) < 30)) = true := by rfl)
    (hline : (apos.endLine == cpos.line) = true := by rfl) (hs : starEach (a :: []) X.env = (false, eval a X.env) :: starEach [] X.env := by rfl) :
    VE T X (.Call (.Attribute o "index" apos) [a] [] cpos) (wBm Lo.isLst gIdxD fo fa) :=
  ve_bm1 PySem.F.plainAttrs_list PySem.F.slot_list_index PySem.F.type_list_index (mt_indexD hu) isLst_ty snd_gIdxD ho ha hbase hfew hline hs
end
end Vx

set_option Elab.async false
set_option maxRecDepth 100000
set_option linter.all false
/-! isinstance(x, int) of a whole number or a tuple; try: .. where nothing is raised. -/
namespace Vx
open PySem PySem.Spec PyProof PyProof.Rows L2
section
variable {T : Th} {X : Cx} {a : Expr} {fa : WE} {pos : Pos}
theorem kit_ii (K : PySem.W.Frag) : PySem.W.kitOne K (.type "int") (.type "int") = some true := by
  unfold PySem.W.kitOne
  rfl
theorem kit_ti (K : PySem.W.Frag) : PySem.W.kitOne K (.type "tuple") (.type "int") = some false := by
  rfl
def tIsI (ta : TE) : TE := fun σ H Q => ta σ H fun x H1 => ∃ b, ((∃ i, x = .int i ∧ b = true) ∨ (∃ a xs, x = .ref a ∧ H1 a = some (.tup xs) ∧ b = false)) ∧ Q (.bl b) H1
theorem boot_isinst : bootBuiltins "isinstance" = some (.builtin "isinstance") := by decide +kernel
theorem boot_intT : bootBuiltins "int" = some (.type "int") := by decide +kernel
theorem pe_isI {ta : TE} {p p2 : Pos} (hg : Gl X "isinstance") (hm : X.mg "isinstance" = none) (hg2 : Gl X "int") (hm2 : X.mg "int" = none) (ha : PE X a ta)
    (na : starEach [a, .Name "int" p2] X.env = (false, eval a X.env) :: starEach [.Name "int" p2] X.env := by rfl) (nb : starEach [Expr.Name "int" p2] X.env = (false, eval (.Name "int" p2) X.env) :: starEach [] X.env := by rfl) :
    PE X (.Call (.Name "isinstance" p) [a, .Name "int" p2] [] pos) (tIsI ta) := by
  refine ⟨fun pins s σ H Q I h => ?_⟩
  refine Call_ (ld_blt I hg hm boot_isinst ?_)
  refine PyProof.Rows.callWith_builtin1 (PyProof.Rows.args_cons (thn (ha.run pins s σ H _ I h) fun v s1 ⟨x, H1, I1, r1, q1⟩ => ?_) na) na (by rw [nb]; rfl)
  refine PyProof.Rows.args_cons (ld_blt I1 hg2 hm2 boot_intT (PyProof.Rows.args_nil ?_)) nb
  obtain ⟨b, hb, q1⟩ := q1
  rcases hb with ⟨i, rfl, rfl⟩ | ⟨c, xs, rfl, hc, rfl⟩
  · exact isinst_ok I1 r1 (.int i) (kit_ii _) fun tk => ⟨.bl true, H1, I1.kept fun b o e => e, rfl, q1⟩
  · exact isinst_ok I1 r1 (.tup hc) (kit_ti _) fun tk => ⟨.bl false, H1, I1.kept fun b o e => e, rfl, q1⟩
@[simp] def wIsI (f : WE) : WE := fun vs Q => f vs fun lo vs1 => match lo with
  | .sh (.int _) => Q (.sh (.bl true)) vs1
  | .sh (.tup _) => Q (.sh (.bl false)) vs1
  | _ => False
theorem ve_isI {p p2 : Pos} (hg : Gl X "isinstance") (hm : X.mg "isinstance" = none) (hg2 : Gl X "int") (hm2 : X.mg "int" = none) (ha : VE T X a fa)
    (na : starEach [a, .Name "int" p2] X.env = (false, eval a X.env) :: starEach [.Name "int" p2] X.env := by rfl) (nb : starEach [Expr.Name "int" p2] X.env = (false, eval (.Name "int" p2) X.env) :: starEach [] X.env := by rfl) :
    VE T X (.Call (.Name "isinstance" p) [a, .Name "int" p2] [] pos) (wIsI fa) :=
  .of (pe_isI hg hm hg2 hm2 ha.pe na nb) fun W0 H0 W H O vs σ tm Q Q' hf R k => ha.sn W0 H0 W H O vs σ tm _ _ hf R fun W1 H1 O1 vs1 x lo l1 q1 R1 => by
    split at q1
    · rename_i i
      have e : x = .int i := R1.top
      exact ⟨true, .inl ⟨i, e, rfl⟩, k W1 H1 O1 vs1 _ _ l1 q1 (R1.pop.push (by simp [Rep]))⟩
    · rename_i xs
      obtain ⟨p, ws, e, hs, _⟩ := (show Rep W1 (.tup xs) x from R1.top)
      exact ⟨false, .inr ⟨p, ws, e, R1.Sget hs, rfl⟩, k W1 H1 O1 vs1 _ _ l1 q1 (R1.pop.push (by simp [Rep]))⟩
    · exact q1.elim
theorem vt_isI {p p2 : Pos} (hg : Gl X "isinstance") (hm : X.mg "isinstance" = none) (hg2 : Gl X "int") (hm2 : X.mg "int" = none) (ha : VE T X a fa)
    (na : starEach [a, .Name "int" p2] X.env = (false, eval a X.env) :: starEach [.Name "int" p2] X.env := by rfl) (nb : starEach [Expr.Name "int" p2] X.env = (false, eval (.Name "int" p2) X.env) :: starEach [] X.env := by rfl) :
    VE T X (.Call (.Name "isinstance" p) [a, .Name "int" p2] [] pos) (wIsI fa) := ve_isI hg hm hg2 hm2 ha na nb
end
end Vx

set_option Elab.async false
set_option maxRecDepth 100000
set_option linter.all false
/-! Defs that are run where no repr is under way: what repr of lists needs. -/
namespace Vx
open PySem PySem.Spec PyProof.Rows L2
/-- a def's promise where no repr is under way; nothing is raised -/
structure FnG (P : Program) (w : World) (K : PySem.W.Frag) (mg : Str → Option Value) (base : Heap) (k : Nat) (f : Addr) (fd : FuncData) (ps : List Str) (sp : Sp) : Prop where
  len : ∀ vs H Q, sp vs H Q L2.E0 → vs.length = ps.length
  run : ∀ (A : Around) (outer : List Env) (s : Shared) (H : Hp) (args : Args) (us : List Value) (vs : List V) (Q : L2.VK), A.guards = some [] → Room k A → Env0 P w K mg base A outer s H → BindsTo s fd args (ps.zip us) → Vals vs us → sp vs H Q L2.E0 →
    codeAny (model P w) A (.call (.ref f) args) (CR L2.CX0 outer P w H s Q L2.E0) s
section
variable {P : Program} {w : World} {K : PySem.W.Frag} {mg : Str → Option Value} {base : Heap} {T : Th}
theorem FnG.ofBody {x qual : Str} {st : Stmt} {f : Addr} {fd : FuncData} {N ps : List Str} {k : Nat} {sp : Sp} (F : L2.Fun K x qual st f fd) (S : FnScope N ps (L2.defScope st)) (hlen : ∀ vs H Q, sp vs H Q L2.E0 → vs.length = ps.length)
    (hb : ∀ (cdv : Value) (A : Around) (outer : List Env) (s : Shared) (H : Hp) (vs : List V) (Q : L2.VK), A.guards = some [] → Room k (A.deeper (envOfC qual (L2.defScope st) s.heap.objs.size f cdv)) → sp vs H Q L2.E0 →
      ∃ t, PSs (cxOf L2.CX0 P w K mg base N qual (L2.defScope st) f cdv A outer s H L2.E0).nox (L2.defBody st) t ∧ t { nx := fun _ H' => Q .non H', rt := Q } (L2.start N vs) H) : FnG P w K mg base (k + 1) f fd ps sp := by
  obtain ⟨oc, od, kV, doc, pm, an, cdv, ct, osl, rfl, lk, hcd⟩ := F.ex
  refine ⟨hlen, fun A outer s H args us vs Q hgd hr e0 bt rv hsp => ?_⟩
  have kin : K.In s.heap := e0.mod.kin.keeps fun b o e => (e0.bs b o e).1
  have nolim : s.heap.NoLimit := e0.mod.nolimit.keeps fun b o e => (e0.bs b o e).1
  obtain ⟨t, ht, hq⟩ := hb cdv A outer s H vs Q hgd (hr.deeper _) hsp
  refine codeAny_call_function hr.depth (kin _ _ lk) rfl S.co S.gen rfl (PySem.W.codeRec_of kin hcd) (bt _ _ _ _ (wpAny_newFunctionEnv_cells S.kind ?_ fun env he s1 x => ?_))
  · intro y hy
    rcases S.par y.1 (List.of_mem_zip (a := y.1) (b := y.2) hy).1 with q | q
    · exact .inl q
    · exact .inr ⟨q, PySem.W.cellsFrom_some _ _ _ (.inl q)⟩
  · subst he
    refine ⟨nolim.keeps x.toInCall.keep, codeAny_func ?_⟩
    have I : Inv (cxOf L2.CX0 P w K mg base N qual (L2.defScope st) f cdv A outer s H L2.E0) [] (L2.start N vs) H s1 := inv_start (CX := L2.CX0) (E := L2.E0) S hr.hd e0 (hlen _ _ _ hsp) rv x
    refine wpAny_mono (ht.nox.run [] s1 (L2.start N vs) H _ I hq) (fun fl s' hs => ?_) fun e s' hs => hs
    cases fl with
    | ret u =>
      obtain ⟨v, σ', H', J, r, q⟩ := hs
      exact ⟨v, H', J.os, J.bare, J.base, J.hok, r, q⟩
    | next =>
      obtain ⟨σ', H', J, q⟩ := hs
      exact ⟨.non, H', J.os, J.bare, J.base, J.hok, rfl, q⟩
    | brk =>
      obtain ⟨_, _, _, q⟩ := hs
      exact False.elim q
    | cont =>
      obtain ⟨_, _, _, q⟩ := hs
      exact False.elim q
/-- a def whose body is read by value -/
theorem fng_of {x qual : Str} {st : Stmt} {f : Addr} {fd : FuncData} {N ps : List Str} {k : Nat} {body : WS} (F : L2.Fun K x qual st f fd) (S : FnScope N ps (L2.defScope st))
    (hb : ∀ (cdv : Value) (A : Around) (outer : List Env) (s : Shared) (H : Hp), A.guards = some [] → Room k (A.deeper (envOfC qual (L2.defScope st) s.heap.objs.size f cdv)) →
      VPs T (cxOf L2.CX0 P w K mg base N qual (L2.defScope st) f cdv A outer s H L2.E0).nox (L2.defBody st) body) :
    FnG P w K mg base (k + 1) f fd ps (spV T ps.length (bodyF N.length body)) := by
  have hlen : ps.length ≤ N.length := by
    rw [← S.pre, List.length_take]
    omega
  refine FnG.ofBody F S (fun vs H Q h => ?_) (fun cdv A outer s H vs Q hgd hr h => ?_)
  · obtain ⟨W, n, los, P, e, _⟩ := h
    exact e
  · obtain ⟨W, n, los, P', e, ok, as, hf, k⟩ := h
    refine ⟨_, (hb cdv A outer s H hgd hr).ps, W, H, W, fun _ => none, ⟨los.map some ++ List.replicate (N.length - los.length) none, n⟩, [], _, fun _ h => by simp at h, hf, rel_start ok as (by omega), ?_⟩
    refine ⟨fun W' H' O' vs' σ' l q R => ?_, fun W' H' v lo n' q r => ?_, fun W' H' O' vs' σ' l q R => q.elim, fun W' H' O' vs' σ' l q R => q.elim⟩
    · exact k _ _ W' H' .non q R.after (by show Rep W' .non .non; simp [Rep])
    · exact k lo n' W' H' v q r.af r.rt
end
section
variable {X : Cx} {k : Nat} {f : Addr} {fd : FuncData} {ps : List Str} {sp : Sp} {x : Str} {p pos : Pos} {e : Expr} {es : List Expr} {t : TA}
/-- f(e, ..) -/
theorem pe_callG (F : FnG X.prog X.w X.K X.mg X.base k f fd ps sp) (hgd : X.A.guards = some []) (hr : Room k X.A) (hg : Gl X x) (hm : X.mg x = some (.ref f)) (hk : PySem.W.keepIn X.K (.ref f) = true) (hb : Binds X.K fd ps [])
    (ha : PA X (e :: es) t) (hdb : (x == ("__debug__" : Str)) = false := by decide) (he : starEach (e :: es) X.env = (false, eval e X.env) :: starEach es X.env := by rfl) (hpl : (backTo pos (starEach es X.env)).any (·.1) = false := by rfl) :
    PE X (.Call (.Name x p) (e :: es) [] pos) (tCall sp [] L2.E0 t) := by
  refine ⟨fun pins s σ H Q I h => wpAny_Call_Name_kw (ld_glob I hg hm ?_ hdb)⟩
  refine PySem.W.callWith_K (h₀ := X.base) I.ok.mod.kin hk (thn (ha.run pos pins s σ H _ I h) fun us s1 ⟨vs, H1, I1, r, q⟩ => ⟨I1.kIn, ?_⟩) he hpl
  have q : sp vs H1 Q L2.E0 := by simpa using q
  have hl : (us ++ []).length = ps.length := by rw [List.append_nil, ← r.length]; exact F.len _ _ _ q
  have bt : BindsTo s1 fd ⟨us, []⟩ (ps.zip us) := by simpa using hb s1 us I1.kIn hl
  refine wpAny_call (codeAny_mono (F.run X.A X.stack s1 H1 ⟨us, []⟩ us vs Q hgd hr I1.env0 bt r q) fun r s' hq => ?_)
  cases r with
  | error e => exact hq.elim
  | ok fl =>
    cases fl with
    | ret u => exact I1.after hq
    | next => exact hq.elim
    | brk => exact hq.elim
    | cont => exact hq.elim
end
/-! ### the head -/
/-- the abstract heap of a law's call: the script alone, if the module does not know it -/
def scrH (K : PySem.W.Frag) (a : Addr) (ob : Obj) (ns : List Int) : Hp := fun b => if b = a ∧ K.lookup a = none then some (.frz ob (.lst (ns.map V.int))) else none
theorem scrH_only (K : PySem.W.Frag) (a : Addr) (ob : Obj) (ns : List Int) {b : Addr} {u : HO} (h : scrH K a ob ns b = some u) : b = a ∧ K.lookup a = none ∧ u = .frz ob (.lst (ns.map V.int)) := by
  unfold scrH at h
  split at h
  · rename_i z
    cases h
    exact ⟨z.1, z.2, rfl⟩
  · cases h
theorem walkG {l : PySem.W.OpenLaw} {n k : Nat} {q : Program} {loose : List Str} {XP : (Str → Option Value) → Heap → Prop} {YP : World → Heap → Prop} {d : DefRec} {K : Params → PySem.W.Frag} {sp : World → Sp} {x : Str}
    (hn : l.most = some n) (hn2 : n ≤ sizeLine) (hdf : d.params.defaults = []) (hr : Room k callerA) (hY : ∀ (w : World) (h : Heap), YP w h → (K w.params).In h)
    (F : ∀ (w : World) (mg : Str → Option Value) (fa : Addr) (h : Heap), (K w.params).In h → h.Ns mainGlobals mg → mg d.name = some (.ref fa) →
      ∃ fd : FuncData, (∀ (s : Shared) (u : Value), BindsTo s fd ⟨[u], []⟩ [(x, u)]) ∧ ∀ base : Heap, (K w.params).In base → base.Ns mainGlobals mg → FnG l.prog w (K w.params) mg base k fa fd [x] (sp w))
    (hsp : ∀ (w : World) (H : Hp) (a : Addr) (ns : List Int), ns.length ≤ n → SqL (K w.params) H a (ns.map V.int) → sp w [.ref a] H (fun v _ => v = .bl true) L2.E0) :
    PySem.W.WalkO q loose XP YP l.row.toRowW d [] (fun f vs => PySem.call f vs) := by
  refine Att.attach_call hn hdf fun w s₀ s₁ mg mb fa o pm cd doc a vs ns G Y ho hd hcd hmg hobj hints hlen hg => ?_
  have kin := hY w _ Y
  obtain ⟨fd, hbind, hF⟩ := F w mg fa _ kin G.T.g hmg
  generalize hK : K w.params = K0 at *
  have rv := vals_ints hints
  have lv : ns.length = vs.length := by rw [hints.length]
  have hle : ns.length ≤ sizeLine := Nat.le_trans hlen hn2
  -- what is tracked
  generalize hH : scrH K0 a { cls := .type "list", data := .seq vs.toArray } ns = H
  have onl : ∀ {b : Addr} {u : HO}, H b = some u → b = a ∧ K0.lookup a = none ∧ u = .frz { cls := .type "list", data := .seq vs.toArray } (.lst (ns.map V.int)) := fun h => scrH_only _ _ _ _ (hH ▸ h)
  have hS : SqL K0 H a (ns.map V.int) := by
    cases hk : K0.lookup a with
    | none => exact .inl (.inr ⟨{ cls := .type "list", data := .seq vs.toArray }, by rw [← hH]; exact if_pos ⟨rfl, hk⟩⟩)
    | some ob =>
      have e := kin a ob hk
      rw [hobj] at e
      cases e
      exact .inr ⟨_, vs.toArray, _, hk, rfl, rfl, rfl, by rw [List.size_toArray]; omega, by simpa using rv⟩
  have hok : HOk l.prog w H s₁.heap := fun b u h => by
    obtain ⟨e1, _, e2⟩ := onl h
    subst e1
    subst e2
    exact ⟨hobj, by rw [List.length_map]; exact hle, vs, _, rv, hobj⟩
  have free : ∀ {b : Addr} {ob : Obj} {es : Array DictEntry} {ep : Nat}, s₁.heap.get? b = some ob → ob.data = .dict es ep → H b = none := fun {b ob es ep} e dd => by
    cases hb : H b with
    | none => rfl
    | some u =>
      obtain ⟨e1, _, _⟩ := onl hb
      subst e1
      rw [hobj] at e
      cases e
      have dd : Data.seq vs.toArray _ = Data.dict es ep := dd
      cases dd
  have ns' : ∀ {b : Addr} {m : Str → Option Value}, s₁.heap.Ns b m → (hidT s₁.heap H).Ns b m := fun {b m} ⟨ob, es, ep, e, dd, r⟩ => ⟨ob, es, ep, hidT_get e (free e dd), dd, r⟩
  have kin' : K0.In (hidT s₁.heap H) := fun b ob e => hidT_get (kin b ob e) (by
    cases hb : H b with
    | none => rfl
    | some u =>
      obtain ⟨e1, e2, _⟩ := onl hb
      subst e1
      rw [e2] at e
      cases e)
  have md : Mod K0 mg (hidT s₁.heap H) := ⟨kin', ns' G.T.g, ⟨mb, ns' G.T.b, G.T.builtins⟩, let ⟨mc, h1, h2⟩ := G.T.nolimit; ⟨mc, ns' h1, h2⟩⟩
  have e0 : Env0 l.prog w K0 mg (hidT s₁.heap H) callerA [] s₁ H := ⟨rfl, md, fun b ob e => of_hidT e, Nat.le_of_eq (hidT_size _ _), trivial, (fun b hb => by cases hb), hok, .of_eq hg⟩
  refine codeAny_mono ((hF _ kin' (ns' G.T.g)).run callerA [] s₁ H ⟨[.ref a], []⟩ [.ref a] [.ref a] _ rfl hr e0 (hbind s₁ (.ref a)) (.cons rfl .nil) (hsp w H a ns hlen (by rw [hK]; exact hS))) fun r s' h => ?_
  cases r with
  | error e => exact h.elim
  | ok fl =>
    cases fl with
    | next => exact h.elim
    | brk => exact h.elim
    | cont => exact h.elim
    | ret u =>
      obtain ⟨v, H', os, bare, un, hok', r', q⟩ := h
      have q : v = .bl true := q
      subst q
      obtain rfl : u = Value.bool true := r'
      refine ⟨rfl, OldK.of_keep fun b ob e => ?_, os, bare⟩
      cases hb : H b with
      | none => exact un.keep b ob e hb (by intro z; cases z) (by simp)
      | some u =>
        obtain ⟨e1, _, e2⟩ := onl hb
        subst e2
        have z2 := un.frzs b _ _ hb
        obtain ⟨g1, _⟩ := hok' b _ z2
        obtain ⟨g2, _⟩ := hok b _ hb
        rw [e] at g2
        cases g2
        exact g1
end Vx

set_option Elab.async false
set_option maxRecDepth 100000
set_option linter.all false
/-! repr of data, where no repr is under way. -/
namespace Vx
open PySem PySem.Spec PyProof PyProof.Rows L2
section
variable {T : Th} {X : Cx} {a : Expr} {fa : WE} {pos : Pos}
theorem FnG.mono {P : Program} {w : World} {K : PySem.W.Frag} {mg : Str → Option Value} {base : Heap} {j k : Nat} {f : Addr} {fd : FuncData} {ps : List Str} {sp : Sp} (F : FnG P w K mg base j f fd ps sp) (h : j ≤ k) : FnG P w K mg base k f fd ps sp :=
  ⟨F.len, fun A outer s H args us vs Q hgd hr => F.run A outer s H args us vs Q hgd (hr.mono h)⟩
theorem FnG.imp {P : Program} {w : World} {K : PySem.W.Frag} {mg : Str → Option Value} {base : Heap} {k m : Nat} {f : Addr} {fd : FuncData} {ps : List Str} {F G : FS} (h : FnG P w K mg base k f fd ps (spV T m F)) (i : ∀ los n Q, G los n Q → F los n Q) : FnG P w K mg base k f fd ps (spV T m G) := by
  have i2 : ∀ vs H Q E, spV T m G vs H Q E → spV T m F vs H Q E := fun vs H Q E ⟨W, n, los, P, a, b, c, d, e⟩ => ⟨W, n, los, P, a, b, c, i _ _ _ d, e⟩
  exact ⟨fun vs H Q z => h.len vs H Q (i2 _ _ _ _ z), fun A outer s H args us vs Q hgd hr e0 bt rv z => h.run A outer s H args us vs Q hgd hr e0 bt rv (i2 _ _ _ _ z)⟩
def rRepr (K : PySem.W.Frag) : List V → Hp → L2.VK → Prop := fun xs H Q => ∃ x d, xs = [x] ∧ Dp K H x d ∧ d.canLay0 = true ∧ d.showable = true ∧ d.shown.length ≤ sizeLine ∧ d.depth ≤ 64 ∧ Q (.str d.shown) H
theorem cr_repr (hgd : X.A.guards = some []) (hu : X.A.units + 66 < cLine) : CallR X (.builtin "repr") (rRepr X.K) := by
  intro pins s σ H xs us Q I r h
  obtain ⟨x, d, rfl, hd, hc, hs, hz, hp, q⟩ := h
  have nd := PyData.hasDict_of_canLay d hc
  cases r with
  | cons r1 r2 =>
  cases r2
  rename_i u
  cases hd with
  | non =>
    cases r1
    have e : PyData.shown .none = "None" := by simp [PyData.shown]
    rw [e] at q
    exact PySem.P.repr_of_none ⟨.str "None", H, I.tok _, ⟨_, rfl⟩, q⟩
  | bl b =>
    cases r1
    cases b with
    | true =>
      have e : PyData.shown (.bool true) = "True" := by simp [PyData.shown]
      rw [e] at q
      exact PySem.P.repr_of_bool ⟨.str "True", H, I.tok _, ⟨_, rfl⟩, q⟩
    | false =>
      have e : PyData.shown (.bool false) = "False" := by simp [PyData.shown]
      rw [e] at q
      exact PySem.P.repr_of_bool ⟨.str "False", H, I.tok _, ⟨_, rfl⟩, q⟩
  | int i =>
    obtain ⟨t, rfl⟩ := r1
    have e : PyData.shown (.int i) = toString i := by simp [PyData.shown]
    rw [e] at q
    have hi : i.natAbs.log2 < 1920 := by simpa [PyData.showable] using hs
    exact PySem.P.repr_of_int hi ⟨.str (toString i), H, I.tok _, ⟨_, rfl⟩, q⟩
  | str y =>
    obtain ⟨t, rfl⟩ := r1
    have e : PyData.shown (.str y) = reprText y := by simp [PyData.shown]
    rw [e] at q hz
    exact PySem.P.repr_of_str ⟨.str (reprText y), H, I.tok _, ⟨_, rfl⟩, q⟩ hz
  | lst h1 h2 =>
    obtain ⟨as, rd⟩ := Dp.reads I _ _ _ (Dp.lst h1 h2) r1
    cases r1
    exact repr_of_reads' rd hs (PyData.noDict_hsm nd) hgd (by omega) (fun _ _ e => e) (fun h' u tk hk => ⟨.str _, H, I.kept hk, ⟨_, rfl⟩, q⟩) hz
  | tup h1 h2 =>
    obtain ⟨as, rd⟩ := Dp.reads I _ _ _ (Dp.tup h1 h2) r1
    cases r1
    exact repr_of_reads' rd hs (PyData.noDict_hsm nd) hgd (by omega) (fun _ _ e => e) (fun h' u tk hk => ⟨.str _, H, I.kept hk, ⟨_, rfl⟩, q⟩) hz
def gRepr : G1 := fun a vs Q => match a.dt? with
  | some d => D.fit 60 d = true ∧ d.py.showable = true ∧ d.py.shown.length ≤ sizeLine ∧ Q (.sh (.str d.py.shown)) vs
  | none => False
theorem ve_repr {p : Pos} (hgd : X.A.guards = some []) (hu : X.A.units + 66 < cLine) (hg : Gl X "repr") (hm : X.mg "repr" = none) (ha : VE T X a fa) (hs : starEach [a] X.env = (false, eval a X.env) :: starEach [] X.env := by rfl) :
    VE T X (.Call (.Name "repr" p) [a] [] pos) (w1 gRepr fa) :=
  .of (pe_callB (cr_repr hgd hu) hg hm (by decide +kernel) (pa_cons ha.pe pa_nil hs) (by decide) (by decide) hs) fun W0 H0 W H O vs σ tm Q Q' hf R k => ha.sn W0 H0 W H O vs σ tm _ _ hf R fun W1 H1 O1 vs1 x lo l1 q1 R1 => by
    unfold gRepr at q1
    split at q1
    · rename_i d ed
      obtain ⟨f1, f2, f3, q⟩ := q1
      have hd := R1.dp (K := X.K) R1.top ed f1
      obtain ⟨c1, c2⟩ := fit_lay 60 d f1
      exact ⟨x, d.py, rfl, hd, c1, f2, f3, by omega, k W1 H1 O1 vs1 _ _ l1 q (R1.pop.push (by simp [Rep]))⟩
    · exact q1.elim
end
theorem hu66 {A : Around} {k : Nat} (hr : Room k A) : A.units + 66 < cLine := by have := hr.un; omega
end Vx

set_option Elab.async false
set_option maxRecDepth 100000
set_option linter.all false
/-! isinstance(x, int), isinstance(x, tuple) of None, a whole number or a tuple. -/
namespace Vx
open PySem PySem.Spec PyProof PyProof.Rows L2
section
variable {T : Th} {X : Cx} {a : Expr} {fa : WE} {pos : Pos}
theorem kitT_ni (K : PySem.W.Frag) : PySem.W.kitOne K (.type "NoneType") (.type "int") = some false := by rfl
theorem kitT_nt (K : PySem.W.Frag) : PySem.W.kitOne K (.type "NoneType") (.type "tuple") = some false := by rfl
theorem kitT_it (K : PySem.W.Frag) : PySem.W.kitOne K (.type "int") (.type "tuple") = some false := by rfl
theorem kitT_tt (K : PySem.W.Frag) : PySem.W.kitOne K (.type "tuple") (.type "tuple") = some true := by
  unfold PySem.W.kitOne
  rfl
theorem boot_tupT : bootBuiltins "tuple" = some (.type "tuple") := by decide +kernel
/-- which of the two types is asked for -/
def tyS (t : Bool) : Str := if t = true then "tuple" else "int"
def tIsT (t : Bool) (ta : TE) : TE := fun σ H Q => ta σ H fun x H1 => ∃ b, ((x = .non ∧ b = false) ∨ (∃ i, x = .int i ∧ b = !t) ∨ (∃ a xs, x = .ref a ∧ H1 a = some (.tup xs) ∧ b = t)) ∧ Q (.bl b) H1
theorem pe_isTi {ta : TE} {p p2 : Pos} (hg : Gl X "isinstance") (hm : X.mg "isinstance" = none) (hg2 : Gl X "int") (hm2 : X.mg "int" = none) (ha : PE X a ta)
    (na : starEach [a, .Name "int" p2] X.env = (false, eval a X.env) :: starEach [.Name "int" p2] X.env := by rfl) (nb : starEach [Expr.Name "int" p2] X.env = (false, eval (.Name "int" p2) X.env) :: starEach [] X.env := by rfl) :
    PE X (.Call (.Name "isinstance" p) [a, .Name "int" p2] [] pos) (tIsT false ta) := by
  refine ⟨fun pins s σ H Q I h => ?_⟩
  refine Call_ (ld_blt I hg hm boot_isinst ?_)
  refine PyProof.Rows.callWith_builtin1 (PyProof.Rows.args_cons (thn (ha.run pins s σ H _ I h) fun v s1 ⟨x, H1, I1, r1, q1⟩ => ?_) na) na (by rw [nb]; rfl)
  refine PyProof.Rows.args_cons (ld_blt I1 hg2 hm2 boot_intT (PyProof.Rows.args_nil ?_)) nb
  obtain ⟨b, hb, q1⟩ := q1
  rcases hb with ⟨rfl, rfl⟩ | ⟨i, rfl, rfl⟩ | ⟨c, xs, rfl, hc, rfl⟩
  · exact isinst_ok I1 r1 .non (kitT_ni _) fun tk => ⟨.bl false, H1, I1.kept fun b o e => e, rfl, q1⟩
  · exact isinst_ok I1 r1 (.int i) (kit_ii _) fun tk => ⟨.bl true, H1, I1.kept fun b o e => e, rfl, q1⟩
  · exact isinst_ok I1 r1 (.tup hc) (kit_ti _) fun tk => ⟨.bl false, H1, I1.kept fun b o e => e, rfl, q1⟩
theorem pe_isTt {ta : TE} {p p2 : Pos} (hg : Gl X "isinstance") (hm : X.mg "isinstance" = none) (hg2 : Gl X "tuple") (hm2 : X.mg "tuple" = none) (ha : PE X a ta)
    (na : starEach [a, .Name "tuple" p2] X.env = (false, eval a X.env) :: starEach [.Name "tuple" p2] X.env := by rfl) (nb : starEach [Expr.Name "tuple" p2] X.env = (false, eval (.Name "tuple" p2) X.env) :: starEach [] X.env := by rfl) :
    PE X (.Call (.Name "isinstance" p) [a, .Name "tuple" p2] [] pos) (tIsT true ta) := by
  refine ⟨fun pins s σ H Q I h => ?_⟩
  refine Call_ (ld_blt I hg hm boot_isinst ?_)
  refine PyProof.Rows.callWith_builtin1 (PyProof.Rows.args_cons (thn (ha.run pins s σ H _ I h) fun v s1 ⟨x, H1, I1, r1, q1⟩ => ?_) na) na (by rw [nb]; rfl)
  refine PyProof.Rows.args_cons (ld_blt I1 hg2 hm2 boot_tupT (PyProof.Rows.args_nil ?_)) nb
  obtain ⟨b, hb, q1⟩ := q1
  rcases hb with ⟨rfl, rfl⟩ | ⟨i, rfl, rfl⟩ | ⟨c, xs, rfl, hc, rfl⟩
  · exact isinst_ok I1 r1 .non (kitT_nt _) fun tk => ⟨.bl false, H1, I1.kept fun b o e => e, rfl, q1⟩
  · exact isinst_ok I1 r1 (.int i) (kitT_it _) fun tk => ⟨.bl false, H1, I1.kept fun b o e => e, rfl, q1⟩
  · exact isinst_ok I1 r1 (.tup hc) (kitT_tt _) fun tk => ⟨.bl true, H1, I1.kept fun b o e => e, rfl, q1⟩
@[simp] def gIsT (t : Bool) : Lo → Option Bool
  | .sh .non => some false
  | .sh (.int _) => some (!t)
  | .sh (.tup _) => some t
  | _ => none
@[simp] def wIsT (t : Bool) (f : WE) : WE := fun vs Q => f vs fun lo vs1 => match gIsT t lo with
  | some b => Q (.sh (.bl b)) vs1
  | none => False
theorem sn_isT {t : Bool} {ta : TE} (ha : SndE T ta fa) : SndE T (tIsT t ta) (wIsT t fa) := fun W0 H0 W H O vs σ tm Q Q' hf R k => ha W0 H0 W H O vs σ tm _ _ hf R fun W1 H1 O1 vs1 x lo l1 q1 R1 => by
    split at q1
    · rename_i b e
      refine ⟨b, ?_, k W1 H1 O1 vs1 _ _ l1 q1 (R1.pop.push (by simp [Rep]))⟩
      unfold gIsT at e
      split at e
      · cases e
        exact .inl ⟨R1.top, rfl⟩
      · rename_i i
        cases e
        have e : x = .int i := R1.top
        exact .inr (.inl ⟨i, e, rfl⟩)
      · rename_i xs
        cases e
        obtain ⟨p, ws, e, hs, _⟩ := (show Rep W1 (.tup xs) x from R1.top)
        exact .inr (.inr ⟨p, ws, e, R1.Sget hs, rfl⟩)
      · cases e
    · exact q1.elim
theorem ve_isTi {p p2 : Pos} (hg : Gl X "isinstance") (hm : X.mg "isinstance" = none) (hg2 : Gl X "int") (hm2 : X.mg "int" = none) (ha : VE T X a fa)
    (na : starEach [a, .Name "int" p2] X.env = (false, eval a X.env) :: starEach [.Name "int" p2] X.env := by rfl) (nb : starEach [Expr.Name "int" p2] X.env = (false, eval (.Name "int" p2) X.env) :: starEach [] X.env := by rfl) :
    VE T X (.Call (.Name "isinstance" p) [a, .Name "int" p2] [] pos) (wIsT false fa) := .of (pe_isTi hg hm hg2 hm2 ha.pe na nb) (sn_isT ha.sn)
theorem ve_isTt {p p2 : Pos} (hg : Gl X "isinstance") (hm : X.mg "isinstance" = none) (hg2 : Gl X "tuple") (hm2 : X.mg "tuple" = none) (ha : VE T X a fa)
    (na : starEach [a, .Name "tuple" p2] X.env = (false, eval a X.env) :: starEach [.Name "tuple" p2] X.env := by rfl) (nb : starEach [Expr.Name "tuple" p2] X.env = (false, eval (.Name "tuple" p2) X.env) :: starEach [] X.env := by rfl) :
    VE T X (.Call (.Name "isinstance" p) [a, .Name "tuple" p2] [] pos) (wIsT true fa) := .of (pe_isTt hg hm hg2 hm2 ha.pe na nb) (sn_isT ha.sn)
end
end Vx

set_option Elab.async false
set_option maxRecDepth 100000
set_option linter.all false
/-! RowError.__init__: super().__init__(value), self.value = value, for classes over an own class over ValueError. -/
namespace L2
open PySem PySem.Spec PyProof.Rows
structure SubE (K : PySem.W.Frag) (C D : Addr) : Prop where
  oex : OexC K C
  sub : PySem.W.mroIn K C (.ref D) = some true
  sup : PySem.W.ks_superIn K C D "__init__" = some (some (.builtin "ValueError.__init__"))
  ve : PySem.W.subIn K (.ref C) (.type "ValueError") = some true
  nov : PySem.W.findIn K (.ref C) "value" = some none
def spRow (K : PySem.W.Frag) (D : Addr) : Sp := fun vs H Q _ => ∃ (a C : Addr) (v : V), vs = [.ref a, v] ∧ SubE K C D ∧ H a = some (exo a C none) ∧ ∀ dx, H dx = none → dx ≠ a → Q .non (upd (upd H dx (exd dx [("value", v)])) a (exo a C (some dx)))
section
open PySem.W
variable {prog : Program} {w : World} {A : Around} {E : Value → Shared → Prop} {s : Shared} {L x C D f cc cda : Addr} {ox : Obj} {odx : Option Obj} {K : Frag} {m mg mb : Str → Option Value}
/-- super() within a method -/
theorem node_super {body : List Stmt} {q : Str} {scope : Scope} {p0 p1 : Pos} {attr : Str} {whole : Sem Value} {fd : FuncData} {ar : Arg} {vs : Array Value} {file : Str} {tf : Tok} {oc ccl cl : Value} {od cdd cld : Option Addr} {osl ccs csl : Array (Option Value)} {cdD : ClassData} {Q : Value → Shared → Prop}
    (X : K.In s.heap) (hns : s.heap.Ns L m) (hg : s.heap.Ns mainGlobals mg) (hb : s.heap.Ns builtinsNs mb) (hmg : mg "super" = none) (hmb : mb "super" = some (.type "super"))
    (hf : K.lookup f = some ⟨oc, od, .func fd, osl⟩) (hp : (fd.params.posonlyargs ++ fd.params.args).head? = some ar) (hv : m ar.arg = some (.ref x)) (I : InstAt s.heap x ox C odx)
    (hcode : K.lookup cda = some ⟨ccl, cdd, .fields vs, ccs⟩) (hvs : vs[2]? = some (.str file tf)) (hfile : ((prog.main.file : Str) == file) = true)
    (hcell : K.lookup cc = some ⟨cl, cld, .cell (some (.ref D)), csl⟩) (hD : clsIn K D = some cdD) (hsub : mroIn K C (.ref D) = some true)
    (hat : (attr == ("__class__" : Str)) = false) (hks : scope.names.lookup ("super" : Str) = some .globalImplicit) (hkc : scope.names.lookup ("__class__" : Str) = some .free) (hka : scope.names.lookup ar.arg = some .local) (hk : scope.kind = .function)
    (htop : (prog.main.scope.names.lookup ("super" : Str)).isSome = false)
    (h : ∀ h', (∀ b o, s.heap.get? b = some o → h'.get? b = some o) → h'.get? s.heap.objs.size = some (ks_superObj D x C) → Q (.ref s.heap.objs.size) { s with heap := h' }) :
    _root_.PySem.wpAt (model prog w) A (.func body (ksEnv q scope L f (.ref cda) cc)) (attributeBase (.Call (.Name "super" p0) [] [] p1) attr (ksEnv q scope L f (.ref cda) cc) whole) Q E s := by
  obtain ⟨hh, g, d, t, os⟩ := s
  obtain ⟨oD, hD1, hD2⟩ : ∃ oD, hh.get? D = some oD ∧ oD.data = .cls cdD := by
    unfold clsIn at hD
    split at hD
    · rename_i c d cd' sl ho
      cases hD
      exact ⟨_, X _ _ ho, rfl⟩
    · cases hD
  refine ks_wpAt_super_base (env := ksEnv q scope L f (.ref cda) cc) hks hkc hat rfl (X _ _ hf) rfl hp rfl (X _ _ hcode) rfl hvs hfile htop ?_
  refine ks_loadName_global hk hks (Calls.loadGlobal_builtin (env := ksEnv q scope L f (.ref cda) cc) hg hmg hb hmb ⟨rfl, ?_⟩)
  refine wpAny_loadName_free hk hkc rfl ⟨_, X _ _ hcell, rfl⟩ ?_
  refine wpAny_loadName_local hk hka hns hv ?_
  refine ks_wpAny_isType_cls hD1 hD2 ⟨rfl, ?_⟩
  refine ks_wpAny_call_super hD1 hD2 I.at_ I.cls (fun c e => ?_) (looks_mroIn X hsub) (fun h' e k => ?_)
  · have := I.no
    unfold notCls at this
    rw [e] at this
    exact Bool.noConfusion this
  · exact h _ k e
/-- the bound ValueError.__init__, called -/
theorem call_mwV {nm q : Str} {N e t0 u : Addr} {bs bm : List Value} {hdct : Bool} {sn : List Str} {sub : List Value} {ab : Bool} {col : Option Bool} {dd : Option Addr} {k0 k1 k2 k3 k5 : Option Value} {h : Heap} {g : Array GenState} {d : Drawn} {t : Nat} {os : OsState} {rest : List Value} {Q : Value → Shared → Prop}
    (hC : h.get? C = some (excClassObj nm q C N bs bm hdct sn sub ab col dd k0 k1 k2 k3 k5 "ValueError.__new__")) (he : h.get? e = some (PySem.HandSPX.excO C t0)) (hu : h.get? u = some (kxs_mw "ValueError.__init__" e)) (hrest : rest.length ≤ sizeLine)
    (hq : ∀ h' t1, (∀ b o, b ≠ e → h.get? b = some o → h'.get? b = some o) → h'.get? e = some (PySem.HandSPX.excO C t1) → Q .none ⟨h', g, d, t, os⟩) :
    wpAny (model prog w) A (call (.ref u) rest) Q E ⟨h, g, d, t, os⟩ := by
  refine wpAny_call (codeAny_of_tree ?_)
  show wpAny _ A.in1 (callAny (.ref u) ⟨rest, []⟩) _ _ _
  simp only [callAny]
  refine wpAny_bind (wpAny_load hu ?_)
  simp only [kxs_mw, show (Value.type "method-wrapper" == Value.type "method" || Value.type "method-wrapper" == Value.type "builtin_function_or_method" || Value.type "method-wrapper" == Value.type "method-wrapper") = true by decide, if_true]
  refine KFB.if_so (by decide) ?_
  refine wpAny_bind (check_bound_init F.excBase_ValueError.toExcCallFacts hC he rfl ?_)
  refine wpAny_bind (wpAny_pure (wpAny_pure ?_))
  refine ⟨plainId_quiet F.excBase_ValueError.init.plain _, codeAny_builtin F.excBase_ValueError.initEntry ?_⟩
  exact exc_init_tree (cls := .ref C) (t0 := t0) (dv := none) (c2 := .none) (c3 := .none) (b4 := .bool false) he hrest fun h' k hx _ => hq h' _ k hx
end
section
open PySem.W
theorem fn_rowE {CX : CXT} {P : Program} {w : World} {K : Frag} {mg : Str → Option Value} {base : Heap} {k : Nat} {fI D cc cda : Addr} {name qual : Str} {params : Arguments} {body : List Stmt} {scope : Scope} {dV kV doc pm ct oc ccl cl : Value} {an od cdd cld : Option Addr} {osl ccs csl : Array (Option Value)} {vs0 : Array Value} {file : Str} {tf : Tok} {cdD : ClassData} {ar : Arg} {p0 p1 p2 p3 p4 p5 p6 p7 p8 p9 : Pos}
    (lk : K.lookup fI = some ⟨oc, od, .func (ksFn name qual params body scope dV kV doc pm an (.ref cda) ct cc), osl⟩) (hcd : codeIn K (.ref cda) qual = true)
    (hcode : K.lookup cda = some ⟨ccl, cdd, .fields vs0, ccs⟩) (hvs : vs0[2]? = some (.str file tf)) (hfile : ((P.main.file : Str) == file) = true)
    (hcell : K.lookup cc = some ⟨cl, cld, .cell (some (.ref D)), csl⟩) (hD : clsIn K D = some cdD) (hms : mg "super" = none) (hst : nsIn K cStatics "thirdparty.any" = some none)
    (hpar : (params.posonlyargs ++ params.args).head? = some ar) (har : ar.arg = "self") (S : NdefX.NScope ["self", "value", "__class__"] ["self", "value"] ["__class__"] scope)
    (hks : scope.names.lookup ("super" : Str) = some .globalImplicit) (htop : (P.main.scope.names.lookup ("super" : Str)).isSome = false) (hbs : bootBuiltins "super" = some (.type "super"))
    {pl : Addr → Sem Bool} (he : ∀ L, eval (.Call (.Attribute (.Call (.Name "super" p0) [] [] p1) "__init__" p2) [.Name "value" p3] [] p4) (ksEnv qual scope L fI (.ref cda) cc) = (do
      let ov ← attributeBase (.Call (.Name "super" p0) [] [] p1) "__init__" (ksEnv qual scope L fI (.ref cda) cc) (eval (.Call (.Name "super" p0) [] [] p1) (ksEnv qual scope L fI (.ref cda) cc))
      standAt p2.atName
      let (f, first) ← holding [ov] (getMethod ov "__init__" (pl L))
      callWith p4 f first (backTo p4 (starEach [.Name "value" p3] (ksEnv qual scope L fI (.ref cda) cc))) []))
    (hbody : body = [.Expr (.Call (.Attribute (.Call (.Name "super" p0) [] [] p1) "__init__" p2) [.Name "value" p3] [] p4) p5, .Assign [.Attribute (.Name "self" p6) "value" p7] (.Name "value" p8) p9]) :
    FnOk P w K mg base CX (k + 1) fI (ksFn name qual params body scope dV kV doc pm an (.ref cda) ct cc) ["self", "value"] (spRow K D) := by
  refine ⟨fun vs H Q E ⟨a, C, v, e, _⟩ => by rw [e]; rfl, fun A outer s H args us vs Q E hr e0 hb r hsp => ?_⟩
  obtain ⟨a, C, v, rfl, T, ha, hq⟩ := hsp
  have KX : K.In s.heap := e0.mod.kin.keeps fun b o e => (e0.bs b o e).1
  have lim : s.heap.NoLimit := e0.mod.nolimit.keeps fun b o e => (e0.bs b o e).1
  obtain ⟨mb, hmb1, hmb2⟩ := e0.mod.blt
  obtain ⟨nm, q, N, bs, bm, sn, sub, ab, col, dd, k0, k1, k2, k3, k5, hC, hbm⟩ := T.oex.cls
  have hcl : clsIn K C = some { name := nm, bases := bs, mro := .ref C :: bm, ns := N, qualname := q, hasDict := true, slotNames := sn, subclasses := sub, abstract := ab, collection := col, hasDel := false } := by unfold clsIn; rw [hC] <;> rfl
  have hsup := T.sup
  unfold ks_superIn at hsup
  rw [hcl] at hsup
  obtain ⟨t0, ho⟩ := exo_at e0.hok ha
  obtain ⟨u, rfl, rv⟩ : ∃ u, us = [.ref a, u] ∧ RelV v u := by
    cases r with
    | @cons _ u0 _ ur ra rw' =>
      obtain rfl : u0 = Value.ref a := ra
      cases rw' with
      | @cons _ u1 _ ur2 rb rz =>
        cases rz
        exact ⟨u1, rfl, rb⟩
  have CA : NdefX.CellsAt [("__class__", cc)] ["__class__"] [none] s.heap H := by
    refine ⟨rfl, fun y c e => ?_, fun x y c e1 e2 => ?_, fun i y e => ?_⟩
    · have ec : c = cc := by
        simp only [List.lookup] at e
        split at e
        · cases e; rfl
        · cases e
      subst ec
      exact ⟨(e0.bs _ _ (e0.mod.kin _ _ hcell)).2, _, _, KX _ _ hcell, rfl⟩
    · have ex : ∀ z, List.lookup z [(("__class__" : Str), cc)] = some c → z = "__class__" := fun z e => by
        simp only [List.lookup] at e
        split at e
        · rename_i h
          exact eq_of_beq h
        · cases e
      rw [ex x e1, ex y e2]
    · cases i with
      | zero =>
        cases e
        exact ⟨cc, rfl, fun v z => by cases z⟩
      | succ i => cases e
  refine ks_codeAny_call_defAt (fd := ksFn name qual params body scope dV kV doc pm an (.ref cda) ct cc) (body := body) (binds := (["self", "value"] : List Str).zip [.ref a, u]) hr.depth (KX _ _ lk) rfl lim (codeRec_of KX hcd) rfl hb S.nocell (fun y hy => S.par _ (List.of_mem_zip hy).1) (fun h₀ hns kp => ?_) S.co S.gen S.kind
  have I0 := NdefX.inv_startN (CX := CX) (E := E) (F := ⟨name, qual, params, [], scope, [("__class__", cc)], cda⟩) (f := fI) (tk := s.toks + 2) S hr.hd e0 rfl r CA hns kp
  subst hbody
  have X0 : K.In h₀ := KX.keeps kp
  have s1 : (fun x => ((["self", "value"] : List Str).zip [Value.ref a, u]).reverse.lookup x) ("self" : Str) = some (.ref a) := rfl
  have s2 : (fun x => ((["self", "value"] : List Str).zip [Value.ref a, u]).reverse.lookup x) ("value" : Str) = some u := rfl
  have lself : scope.names.lookup ("self" : Str) = some .local := S.par _ (by simp)
  have lval : scope.names.lookup ("value" : Str) = some .local := S.par _ (by simp)
  have lcls : scope.names.lookup ("__class__" : Str) = some .free := S.frk _ (by simp)
  have gk : ∀ b o, base.get? b = some o → h₀.get? b = some o := fun b o e => kp b o (e0.bs b o e).1
  show PySem.wpAt (model P w) (A.deeper (ksEnv qual scope s.heap.objs.size fI (.ref cda) cc)) (.func _ (ksEnv qual scope s.heap.objs.size fI (.ref cda) cc)) (execs _ (ksEnv qual scope s.heap.objs.size fI (.ref cda) cc)) _ _ _
  refine ks_wpAt_execs_cons ?_
  have hin : interactive (ksEnv qual scope s.heap.objs.size fI (.ref cda) cc) = false := by
    have hk := S.kind
    simp [interactive, ksEnv, envX, hk]
  refine ks_wpAt_Expr_any ?_ hin rfl
  refine ks_wpAt_MethodCall ?_ (he _)
  refine node_super (s := ⟨h₀, _, _, _, _⟩) X0 hns (e0.mod.glob.keeps gk) (hmb1.keeps gk) hms ((hmb2 _ (by decide)).trans hbs) lk hpar (by rw [har]; exact s1) (InstAt.mk (h := h₀) (od := none) (kp _ _ ho) rfl rfl trivial) hcode hvs hfile hcell hD T.sub (by decide) hks lcls (by rw [har]; exact lself) S.kind htop ?_
  intro h1 k1 hso
  have X1 : K.In h1 := X0.keeps k1
  have ho1 := k1 _ _ (kp _ _ ho)
  have I1 : InstAt h1 a _ C none := InstAt.mk ho1 rfl rfl trivial
  have nea : a ≠ C := ks_ne X1 I1 hcl
  refine kxs_getMethod kxs_ValueError hso (looks_opaque X1 hst) (l₀ := .ref C :: bm) (fun A Q E s k q => wpAny_bind ((looks_clsIn X1 hcl) A _ E s k (wpAny_pure q))) rfl X1 hsup (I1.type.andThen (looks_subIn X1 T.ve)) nea (by decide) ?_
  dsimp only
  have k2 : ∀ b o, h1.get? b = some o → (h1.push (kxs_mw "ValueError.__init__" a)).get? b = some o := fun b o e => Heap.get?_push_of_some _ e
  have hmw : (h1.push (kxs_mw "ValueError.__init__" a)).get? h1.objs.size = some (kxs_mw "ValueError.__init__" a) := Heap.get?_push_size _ rfl
  have hns2 := (hns.keeps k1).keeps k2
  refine kxs_callWith (i := "ValueError.__init__") (x := a) rfl (PySem.Calls.evalArgs_plain (args_cons (PySem.ESX.ldL (env := ksEnv qual scope s.heap.objs.size fI (.ref cda) cc) hns2 s2 (args_nil ⟨hmw, ?_⟩) S.kind lval) rfl))
  refine call_mwV (X1.keeps k2 _ _ hC) (k2 _ _ ho1) hmw (by rw [sizeLine_eq]; show 1 ≤ _; decide) fun h3 t1 k3 hx => ?_
  have J1 : Inv _ [] _ H _ := (I0.kept (t' := s.toks + 2 + 1) (h' := h1.push (kxs_mw "ValueError.__init__" a)) fun b o e => k2 _ _ (k1 _ _ e))
  have J2 := J1.write (t' := s.toks + 2 + 1) (x := a) (e := a) (o := exo a C none) (by rw [ha]; exact True.intro) (.inl rfl) k3 ⟨_, hx⟩ (exo_ok hx)
  have eu : upd H a (exo a C none) = H := by
    funext b
    by_cases hb : b = a
    · rw [hb, upd_same, ha]
    · rw [upd_ne hb]
  rw [eu] at J2
  have st := ps_ost (X := NdefX.ncx CX P w K mg base ["self", "value", "__class__"] ⟨name, qual, params, [], scope, [("__class__", cc)], cda⟩ fI A outer s H E) (f := "value") (p' := p7) (pos := p9) (pe_var (i := 0) (x := "self") (pos := p6) rfl (Or.inl lself)) (pe_var (i := 1) (x := "value") (pos := p8) rfl (Or.inl lval))
  refine ks_wpAt_execs_cons (wpAt_of_wpAny (wpAny_mono (st.run [] _ _ H { nx := fun _ H' => Q .non H', rt := Q } J2 ?_) (fun fl s' hs => ?_) (fun e s' hs => hs)))
  · exact ⟨v, rfl, .ref a, rfl, a, C, rfl, T.oex, T.nov, .inl ⟨ha, fun dx n ne => hq dx n ne⟩⟩
  · cases fl with
    | next =>
      obtain ⟨σ', H', J, q⟩ := hs
      exact wpAt_of_wpAny (wpAny_execs_nil ⟨.non, H', J.os, J.bare, J.base, J.hok, rfl, q⟩)
    | ret u =>
      obtain ⟨v', σ', H', J, rv', q⟩ := hs
      exact ⟨v', H', J.os, J.bare, J.base, J.hok, rv', q⟩
    | brk =>
      obtain ⟨_, _, _, q⟩ := hs
      exact False.elim q
    | cont =>
      obtain ⟨_, _, _, q⟩ := hs
      exact False.elim q
end
end L2

set_option Elab.async false
set_option maxRecDepth 100000
set_option linter.all false
/-! Statements that may raise, by value. -/
namespace L2
open PySem PySem.Spec PyProof PyProof.Rows
section
variable {X : Cx}
theorem PS.nox {st : Stmt} {t : TS} (h : PS X.nox st t) : PS X st t := ⟨fun pins s σ H D I hw =>
  wpAny_mono (h.run pins s σ H D (I.wish _) hw) (fun f s1 q => SP.unwish q) fun e s1 z => z.elim⟩
/-- C(e), an error of the program: its class, its dict with the value -/
def tErr (C : Addr) (ta : TA) : St → Hp → XK → Prop := fun σ H Q => ta σ H fun vs H1 => ∃ v, vs = [v] ∧ ∀ d, H1 d = none → Q (.ref C) (some d) (upd H1 d (.xd [("value", v)]))
def tUp (ta : TA) : TA := fun σ H K => ∃ K1 : List V → Hp → Prop, ta σ H K1 ∧ ∀ vs H1, K1 vs H1 → K vs H1
theorem pa_up {es : List Expr} {ta : TA} (h : PA X es ta) : PA X es (tUp ta) := ⟨fun pos pins s σ H K I ⟨K1, h1, h2⟩ =>
  wpAny_mono (h.run pos pins s σ H K1 I h1) (fun us s1 ⟨vs, H1, I1, r, q⟩ => ⟨vs, H1, I1, r, h2 _ _ q⟩) fun _ _ z => z⟩
theorem pmk_err {x : Str} {e : Expr} {C D fI : Addr} {k : Nat} {fd : FuncData} {ta : TA} {p pos : Pos} (T : SubE X.K C D) (iC : PySem.W.findIn X.K (.ref C) "__init__" = some (some (.ref fI))) (tI : PySem.W.typeIn X.K (.ref fI) = some (.type "function"))
    (F1 : FnOk X.prog X.w X.K X.mg X.base (L2.CX X.prog X.w) k fI fd ["self", "value"] (spRow X.K D)) (hr : Room (k + 1) X.A) (hb : Binds X.K fd ["self", "value"] []) (hg : Gl X x) (hm : X.mg x = some (.ref C)) (ha : PA X [e] ta)
    (hdb : (x == ("__debug__" : Str)) = false := by decide) (he : starEach [e] X.env = (false, eval e X.env) :: starEach [] X.env := by rfl) (hpl : (backTo pos (starEach [] X.env)).any (·.1) = false := by rfl) :
    PMk X (.Call (.Name x p) [e] [] pos) (tErr C ta) := by
  intro pins s σ H Q I h
  refine pmk_oex (es := []) (ds := []) (dvs := []) T.oex iC tI F1 hr hb .nil passL hg hm (pa_up ha) hdb he hpl pins s σ H Q I ⟨fun vs H1 => ∃ v, vs = [v] ∧ ∀ d, H1 d = none → Q (.ref C) (some d) (upd H1 d (.xd [("value", v)])), h, fun vs H1 ⟨v, e, q⟩ => ?_⟩
  subst e
  refine ⟨by show 1 ≤ 1000; decide, fun a na => ⟨a, C, v, rfl, T, upd_same, fun dx n ne => ⟨rfl, dx, [("value", v)], upd_same, ?_, ?_, ?_⟩⟩⟩
  · rw [upd_ne ne, upd_same]
  · rw [upd_ne ne] at n
    exact n
  · rw [upd_ne ne] at n
    have e2 : upd (del (upd (upd (upd H1 a (exo a C none)) dx (exd dx [("value", v)])) a (exo a C (some dx))) a) dx (.xd [("value", v)]) = upd H1 dx (.xd [("value", v)]) := by
      funext b
      by_cases hb : b = dx
      · rw [hb, upd_same, upd_same]
      · rw [upd_ne hb, upd_ne hb]
        by_cases ha : b = a
        · rw [ha, del_same, na]
        · rw [del_ne ha, upd_ne ha, upd_ne hb, upd_ne ha]
    rw [e2]
    exact q dx n
end
end L2

namespace Vx
open PySem PySem.Spec PyProof PyProof.Rows L2
/-- errors told by value: the class, the value, the state -/
abbrev XG := Addr → D → VS → Prop
abbrev XN := Addr → D → Nat → Prop
/-- what G allows lies within the wish Wx -/
def Wish (T : Th) (W0 : Wd) (H0 : Hp) (Wb : Wd) (tm : List (V × Lo)) (G : XG) (Wx : WX) : Prop := ∀ (W1 : Wd) (H1 : Hp) (O1 : Addr → Option Ow) (vs1 : VS) (σ1 : L2.St) (C : Addr) (d : D) (v : V) (dd : Addr), Le Wb W1 → G C d vs1 → Rel T W0 H0 W1 H1 O1 vs1 σ1 tm → Rep W1 d v → H1 dd = none →
  Wx (.ref C) (some dd) σ1 (upd H1 dd (.xd [("value", v)]))
/-- a promise that may raise -/
abbrev FX := List Lo → Nat → (Lo → Nat → Prop) → XN → Prop
def spVX (T : Th) (m : Nat) (F : FX) : Sp := fun vs H Q E => ∃ (W : Wd) (n : Nat) (los : List Lo) (P : Lo → Nat → Prop) (G : XN), vs.length = m ∧ WOk T W H n ∧ ArgsOk W vs los ∧ F los n P G ∧
  (∀ lo n' W' H' v, P lo n' → After T W H W' H' n' → RetOk W' H' H v lo → Q v H') ∧
  ∀ C d n' W' H' v dd, G C d n' → After T W H W' H' n' → Rep W' d v → H' dd = none → E (.ref C) (some dd) (upd H' dd (.xd [("value", v)]))
/-- a body within the world W0, H0 -/
def tQ (T : Th) (W0 : Wd) (H0 : Hp) (Wb : Wd) (tm : List (V × Lo)) (f : WS) : TS := fun D' σ H => ∃ (W : Wd) (O : Addr → Option Ow) (vs : VS) (D : EndsV),
  Le Wb W ∧ f vs D ∧ Rel T W0 H0 W H O vs σ tm ∧ Corr T W0 H0 W tm D D'
structure VQ (T : Th) (X : Cx) (W0 : Wd) (H0 : Hp) (Wb : Wd) (tm : List (V × Lo)) (st : Stmt) (f : WS) : Prop where
  ps : PS X st (tQ T W0 H0 Wb tm f)
structure VQs (T : Th) (X : Cx) (W0 : Wd) (H0 : Hp) (Wb : Wd) (tm : List (V × Lo)) (sts : List Stmt) (f : WS) : Prop where
  ps : PSs X sts (tQ T W0 H0 Wb tm f)
section
variable {T : Th} {X : Cx} {W0 Wb : Wd} {H0 : Hp} {tm : List (V × Lo)} {st : Stmt} {sts : List Stmt} {f g : WS} {G : XG} {Wx : WX}
theorem VQ.of {t : TS} (h : PS X st t) (s : ∀ W H O vs σ D D', Le Wb W → f vs D → Rel T W0 H0 W H O vs σ tm → Corr T W0 H0 W tm D D' → t D' σ H) : VQ T X W0 H0 Wb tm st f :=
  ⟨⟨fun pins s0 σ H D' I ⟨W, O, vs, D, nb, hf, R, C⟩ => h.run pins s0 σ H D' I (s W H O vs σ D D' nb hf R C)⟩⟩
theorem VQs.of {t : TS} (h : PSs X sts t) (s : ∀ W H O vs σ D D', Le Wb W → f vs D → Rel T W0 H0 W H O vs σ tm → Corr T W0 H0 W tm D D' → t D' σ H) : VQs T X W0 H0 Wb tm sts f :=
  ⟨⟨fun pins s0 σ H D' I ⟨W, O, vs, D, nb, hf, R, C⟩ => h.run pins s0 σ H D' I (s W H O vs σ D D' nb hf R C)⟩⟩
theorem vq_of (nb : NoBo tm) (h : VP T X.nox st f) : VQ T X W0 H0 Wb tm st f := .of h.ps.nox fun W H O vs σ D D' _ hf R C => ⟨W0, H0, W, O, vs, tm, D, nb, hf, R, C⟩
theorem vqs_of (nb : NoBo tm) (h : VPs T X.nox sts f) : VQs T X W0 H0 Wb tm sts f := .of h.ps.nox fun W H O vs σ D D' _ hf R C => ⟨W0, H0, W, O, vs, tm, D, nb, hf, R, C⟩
theorem vqs_one (h : VQ T X W0 H0 Wb tm st f) : VQs T X W0 H0 Wb tm [st] f := .of (pss_one h.ps) fun W H O vs σ D D' l hf R C => ⟨W, O, vs, D, l, hf, R, C⟩
theorem vqs_cons (h1 : VQ T X W0 H0 Wb tm st f) (h2 : VQs T X W0 H0 Wb tm sts g) : VQs T X W0 H0 Wb tm (st :: sts) (wSeq f g) :=
  .of (pss_cons h1.ps h2.ps) fun W H O vs σ D D' l hf R C => ⟨W, O, vs, _, l, hf, R,
    ⟨fun W1 H1 O1 vs1 σ1 l1 q1 R1 => ⟨W1, O1, vs1, D, l.trans l1, q1, R1, C.mono l1⟩, C.rt, C.bk, C.ct⟩⟩
theorem vq_if {c : Expr} {tc : WT} {as bs : List Stmt} {pos : Pos} (hc : VT T X.nox c tc) (ha : VQs T X W0 H0 Wb tm as f) (hb : VQs T X W0 H0 Wb tm bs g) : VQ T X W0 H0 Wb tm (.If c as bs pos) (wIf tc f g) :=
  .of (ps_if hc.pe.nox ha.ps hb.ps) fun W H O vs σ D D' l hf R C => hc.sn W0 H0 W H O vs σ tm _ _ hf R fun W1 H1 O1 vs1 b l1 q1 R1 => by
    cases b with
    | true => exact ⟨W1, O1, vs1, D, l.trans l1, q1, R1, C.mono l1⟩
    | false => exact ⟨W1, O1, vs1, D, l.trans l1, q1, R1, C.mono l1⟩
/-- raise C(e) -/
def wRz (G : XG) (C : Addr) (fa : WE) : WS := fun vs _ => fa vs fun lo vs1 => match lo with
  | .sh d => G C d vs1
  | _ => False
theorem vq_raise {x : Str} {e : Expr} {fa : WE} {C D0 fI : Addr} {k : Nat} {fd : FuncData} {p p1 pos : Pos} (hc : X.calm = true) (tk : Takes X Wx) (wi : Wish T W0 H0 Wb tm G Wx)
    (S : SubE X.K C D0) (iC : PySem.W.findIn X.K (.ref C) "__init__" = some (some (.ref fI))) (tI : PySem.W.typeIn X.K (.ref fI) = some (.type "function"))
    (F1 : FnOk X.prog X.w X.K X.mg X.base (L2.CX X.prog X.w) k fI fd ["self", "value"] (spRow X.K D0)) (hr : Room (k + 1) X.A) (hb : Binds X.K fd ["self", "value"] []) (hg : Gl X x) (hm : X.mg x = some (.ref C)) (he : VE T X.nox e fa)
    (hdb : (x == ("__debug__" : Str)) = false := by decide) (hst : starEach [e] X.env = (false, eval e X.env) :: starEach [] X.env := by rfl) (hpl : (backTo p1 (starEach [] X.env)).any (·.1) = false := by rfl) :
    VQ T X W0 H0 Wb tm (.Raise (some (.Call (.Name x p) [e] [] p1)) none pos) (wRz G C fa) :=
  .of (ps_raise hc tk (t := fun σ H K => tErr C (tCons (tE T fa) tNil) σ H fun cls d H' => K cls d H') (pmk_err S iC tI F1 hr hb hg hm (pa_cons he.pe.nox pa_nil hst) hdb hst hpl)) fun W H O vs σ D D' l hf R _ =>
    he.sn W0 H0 W H O vs σ tm _ _ hf R fun W1 H1 O1 vs1 v lo l1 q1 R1 => by
      split at q1
      · rename_i d
        exact ⟨v, rfl, fun dd hd => wi W1 H1 O1 vs1 σ C d v dd (l.trans l1) q1 R1.pop R1.top hd⟩
      · exact q1.elim
/-- an error class of the program, made by C(e) -/
structure ErrC (P : Program) (w : World) (K : PySem.W.Frag) (mg : Str → Option Value) (base : Heap) (x : Str) (C : Addr) : Prop where
  ex : ∃ (D0 fI : Addr) (fd : FuncData), SubE K C D0 ∧ PySem.W.findIn K (.ref C) "__init__" = some (some (.ref fI)) ∧ PySem.W.typeIn K (.ref fI) = some (.type "function") ∧ FnOk P w K mg base (L2.CX P w) 1 fI fd ["self", "value"] (spRow K D0) ∧ Binds K fd ["self", "value"] []
  mx : mg x = some (.ref C)
theorem vq_rz {x : Str} {e : Expr} {fa : WE} {C : Addr} {p p1 pos : Pos} (c : ErrC X.prog X.w X.K X.mg X.base x C) (hc : X.calm = true) (tk : Takes X Wx) (wi : Wish T W0 H0 Wb tm G Wx) (hr : Room 2 X.A) (hg : Gl X x) (he : VE T X.nox e fa)
    (hdb : (x == ("__debug__" : Str)) = false := by decide) (hst : starEach [e] X.env = (false, eval e X.env) :: starEach [] X.env := by rfl) (hpl : (backTo p1 (starEach [] X.env)).any (·.1) = false := by rfl) :
    VQ T X W0 H0 Wb tm (.Raise (some (.Call (.Name x p) [e] [] p1)) none pos) (wRz G C fa) := by
  obtain ⟨D0, fI, fd, h1, h2, h3, h4, h5⟩ := c.ex
  exact vq_raise hc tk wi h1 h2 h3 h4 hr h5 hg c.mx he hdb hst hpl
theorem PA.nox {es : List Expr} {t : TA} (h : PA X.nox es t) : PA X es t := ⟨fun pos pins s σ H Q I hw =>
  wpAny_mono (h.run pos pins s σ H Q (I.wish _) hw) (fun _ _ ⟨v, H', I', r, q⟩ => ⟨v, H', I'.unwish, r, q⟩) fun _ _ z => False.elim z⟩
/-- f(..), a statement, f may raise -/
def wCallX (m : Nat) (F : FX) (G : XG) (ga : WF) : WS := fun vs D => ga vs fun los vs1 => los.length = m ∧ F los vs1.n (fun _ n' => D.nx { vs1 with n := n' }) fun C d n' => G C d { vs1 with n := n' }
theorem vq_call {x : Str} {e : Expr} {es : List Expr} {ga : WF} {F : FX} {m k : Nat} {fn : Addr} {fd : FuncData} {ps : List Str} {p p1 pos : Pos} (tk : Takes X Wx) (wi : Wish T W0 H0 Wb tm G Wx)
    (h : FnOk X.prog X.w X.K X.mg X.base (L2.CX X.prog X.w) k fn fd ps (spVX T m F)) (hr : Room k X.A) (hg : Gl X x) (hm : X.mg x = some (.ref fn)) (hk : PySem.W.keepIn X.K (.ref fn) = true) (hb : Binds X.K fd ps []) (ha : VF T X.nox (e :: es) ga)
    (hdb : (x == ("__debug__" : Str)) = false := by decide) (he : starEach (e :: es) X.env = (false, eval e X.env) :: starEach es X.env := by rfl) (hpl : (backTo p1 (starEach es X.env)).any (·.1) = false := by rfl)
    (hs : swapsWith (.Call (.Name x p) (e :: es) [] p1) none pos.line X.env = pure false := by rfl) :
    VQ T X W0 H0 Wb tm (.Expr (.Call (.Name x p) (e :: es) [] p1) pos) (wCallX m F G ga) :=
  .of (ps_expr (pe_callS h hr hg hm hk hb (fun σ => passAt tk σ) (PA.nox ha.pe) hdb he hpl) hs) fun W H O vs σ D D' l hf R C =>
    ha.sn W0 H0 W H O vs σ tm _ _ hf R fun W1 H1 O1 vs1 ws los l1 q1 as R1 => by
      obtain ⟨q0, q1⟩ := q1
      refine ⟨W1, vs1.n, los, _, _, by rw [as.length]; exact q0, R1.ok, as, q1, fun lo n' W' H' v hp A r => ?_, fun C2 d n' W' H' v dd hp A r hd => ?_⟩
      · obtain ⟨O', R'⟩ := R1.ret A r
        exact C.nx W' H' O' _ σ (l1.trans A.le) hp R'.pop
      · exact wi W' H' O1 _ σ C2 d v dd ((l.trans l1).trans A.le) hp (R1.over A.le A.ok A.frame A.grow.1 A.grow.2) r hd
/-- try: body / except x as n: suite -/
theorem vq_try {x n : Str} {c : Value} {i : Nat} {body suite : List Stmt} {b₀ : Stmt} {np pos pos' : Pos} {ts : Addr → Value → Option Addr → TS} {fb : XG → WS} (Sok : XG → EndsV → Prop)
    (hst : X.stack = X.env :: X.outer) (hfr : X.env.frame = some X.env.locals) (hN : X.N.Nodup) (hi : X.N[i]? = some n) (hln : X.env.kindOf n = some .local) (hc : Names X x c) (tk : Takes X Wx)
    (hS : ∀ W G' D D', Le Wb W → Sok G' D → Corr T W0 H0 W tm D D' → Wish T W0 H0 W tm G' (wAs X.K c i ts Wx D'))
    (hb : ∀ (W : Wd) (pn : List (Addr × Obj)) (xe : Value → Shared → Prop) (G' : XG) (Wy : WX), Takes (X.tr pn xe) Wy → PassesOwn (model X.prog X.w) X.A X.env xe → Wish T W0 H0 W tm G' Wy → VQs T (X.tr pn xe) W0 H0 W tm body (fb G'))
    (hsu : ∀ (a : Addr) (oe : Obj) (cls : Value) (d : Option Addr) (pn : List (Addr × Obj)), Zc cls d oe → (∃ vs, oe.data = .fields vs) → PSs (X.suite a ((a, oe) :: pn)) (b₀ :: suite) (ts a cls d)) :
    VQ T X W0 H0 Wb tm (.Try body [.ExceptHandler (some (.Name x np)) (some n) (b₀ :: suite) pos'] [] [] pos) (fun vs D => ∃ G', Sok G' D ∧ fb G' vs D) :=
  .of (ps_try_as (tb := fun Wy D' σ H => ∃ (W : Wd) (G' : XG), Wish T W0 H0 W tm G' Wy ∧ tQ T W0 H0 W tm (fb G') D' σ H) hst hfr hN hi hln hc tk
    (fun Wy pn xe tk' ps => ⟨fun pins s σ H D I ⟨W, G', wi, q⟩ => (hb W pn xe G' Wy tk' ps wi).ps.run pins s σ H D I q⟩) hsu) fun W H O vs σ D D' l ⟨G', so, hf⟩ R C => ⟨W, G', hS W G' D D' l so C, W, O, vs, D, Le.refl W, hf, R, C⟩
/-- THE RULE for a def that may raise -/
def bodyX (len : Nat) (body : XG → WS) : FX := fun los n P G => body (fun C d vs => G C d vs.n) ⟨los.map some ++ List.replicate (len - los.length) none, n⟩ ⟨fun vs => P (.sh .non) vs.n, P, fun _ => False, fun _ => False⟩
theorem fnx_of {P : Program} {w : World} {K : PySem.W.Frag} {mg : Str → Option Value} {base : Heap} {x qual : Str} {st : Stmt} {f : Addr} {fd : FuncData} {N ps : List Str} {k : Nat} {body : XG → WS} (F : Fun K x qual st f fd) (S : FnScope N ps (defScope st))
    (hb : ∀ (cdv : Value) (A : Around) (outer : List Env) (s : Shared) (H : Hp) (E : XK) (W0 : Wd) (G : XG), Room k (A.deeper (envOfC qual (defScope st) s.heap.objs.size f cdv)) →
      Takes (cxOf (L2.CX P w) P w K mg base N qual (defScope st) f cdv A outer s H E) (fun cls d _ H => E cls d H) → Wish T W0 H W0 [] G (fun cls d _ H => E cls d H) →
      VQs T (cxOf (L2.CX P w) P w K mg base N qual (defScope st) f cdv A outer s H E) W0 H W0 [] (defBody st) (body G)) :
    FnOk P w K mg base (L2.CX P w) (k + 1) f fd ps (spVX T ps.length (bodyX N.length body)) := by
  have hlen : ps.length ≤ N.length := by
    rw [← S.pre, List.length_take]
    omega
  refine F.okX S (fun vs H Q E h => ?_) (fun cdv A outer s H vs Q E hr h => ?_)
  · obtain ⟨W, n, los, P, G, e, _⟩ := h
    exact e
  · obtain ⟨W, n, los, P', G, e, ok, as, hf, k, kx⟩ := h
    have B := hb cdv A outer s H E W (fun C d vs => G C d vs.n) hr (takes_of rfl rfl rfl rfl) fun W1 H1 O1 vs1 σ1 C d v dd l g R r hd => kx C d vs1.n W1 H1 v dd g R.after r hd
    refine ⟨_, B.ps, W, fun _ => none, ⟨los.map some ++ List.replicate (N.length - los.length) none, n⟩, _, Le.refl W, hf, rel_start ok as (by omega), ?_⟩
    refine ⟨fun W' H' O' vs' σ' l q R => ?_, fun W' H' v lo n' q r => ?_, fun W' H' O' vs' σ' l q R => q.elim, fun W' H' O' vs' σ' l q R => q.elim⟩
    · exact k _ _ W' H' .non q R.after (by show Rep W' .non .non; simp [Rep])
    · exact k lo n' W' H' v q r.af r.rt
end
end Vx
namespace L2
open PySem PySem.Spec PyProof PyProof.Rows
/-- a promise without errors holds among errors too -/
theorem FnOk.lift {P : Program} {w : World} {K : PySem.W.Frag} {mg : Str → Option Value} {base : Heap} {CX : CXT} {k : Nat} {f : Addr} {fd : FuncData} {ps : List Str} {sp : Sp} (F : FnOk P w K mg base CX0 k f fd ps sp) : FnOk P w K mg base CX k f fd ps sp :=
  ⟨F.len, fun A outer s H args us vs Q E hr e0 hb r hsp => codeAny_mono (F.run A outer s H args us vs Q E hr e0 hb r hsp) fun r s' q => by
    cases r with
    | error e => exact False.elim q
    | ok fl =>
      cases fl with
      | ret u => exact q
      | next => exact q
      | brk => exact q
      | cont => exact q⟩
end L2

set_option Elab.async false
set_option maxRecDepth 100000
set_option linter.all false
/-! Calls with keywords, the keywords in the parameters' order. -/
namespace Vx
open PySem PySem.Spec PyProof PyProof.Rows L2
/-- a def that keeps its promise, called with n values by position and the others by the names ks -/
structure FnVK (T : Th) (P : Program) (w : World) (K : PySem.W.Frag) (mg : Str → Option Value) (base : Heap) (CX : CXT) (k : Nat) (x : Str) (m : Nat) (F : FS) (n : Nat) (ks : List Str) : Prop where
  ex : ∃ (f : Addr) (fd : FuncData) (ps : List Str), FnOk P w K mg base CX k f fd ps (spV T m F) ∧ mg x = some (.ref f) ∧ PySem.W.keepIn K (.ref f) = true ∧ KBn K fd ps n ks (fun us ws => us ++ ws) (fun vs zs => vs ++ zs)
theorem vals_app {us : List Value} {zs : List V} {ws : List Value} (h2 : Vals zs ws) : ∀ {vs : List V} {us : List Value}, Vals vs us → Vals (vs ++ zs) (us ++ ws)
  | _, _, .nil => h2
  | _, _, .cons a b => .cons a (vals_app (us := us) h2 b)
theorem kbn_mk {K : PySem.W.Frag} {x qual : Str} {st : Stmt} {f : Addr} {fd : FuncData} (F : Fun K x qual st f fd) {ps : List Str} (n : Nat) (ks : List Str)
    (h : ∀ (kV doc pm : Value) (an : Option Addr) (cdv ct : Value) (us ws : List Value), us.length = n → ws.length = ks.length → bindArgs (PySem.W.fnOf x qual (defArgs st) (defBody st) (defScope st) .none kV doc pm an cdv ct) ⟨us, ks.zip ws⟩ = pure (ps.zip (us ++ ws))) : KBn K fd ps n ks (fun us ws => us ++ ws) (fun vs zs => vs ++ zs) := by
  obtain ⟨oc, od, kV, doc, pm, an, cdv, ct, osl, rfl, lk, hcd⟩ := F.ex
  exact ⟨fun s us ws X l1 l2 => BindsTo.of_eq (h kV doc pm an cdv ct us ws l1 l2), fun r1 r2 => vals_app (us := []) r2 r1⟩
section
variable {T : Th} {X : Cx} {CX : CXT} {k n m : Nat} {f : Addr} {fd : FuncData} {ps ks : List Str} {sp : Sp} {E : XK} {x : Str} {p pos kpos : Pos} {e : Expr} {es : List Expr} {kws : List Keyword} {t tk : TA} {nm : Option Str} {g g1 g2 : WF} {fa : WE} {F : FS}
structure VK (T : Th) (X : Cx) (kws : List Keyword) (f : WF) : Prop where
  pk : PK X kws (tF T f)
theorem VK.of {kws : List Keyword} {t : TA} {f : WF} (h : PK X kws t) (s : SndF T t f) : VK T X kws f :=
  ⟨⟨fun pos pins st σ H Q' I ⟨W0, H0, W, O, vs, tm, Q, hf, R, k⟩ => h.run pos pins st σ H Q' I (s W0 H0 W H O vs σ tm Q Q' hf R k)⟩⟩
theorem VK.sn {kws : List Keyword} {f : WF} (_ : VK T X kws f) : SndF T (tF T f) f := fun W0 H0 W H O vs σ tm Q Q' hf R k => ⟨W0, H0, W, O, vs, tm, Q, hf, R, k⟩
theorem vk_nil : VK T X [] wFNil := .of pk_nil fun W0 H0 W H O vs σ tm Q Q' hf R k => k W H O vs [] [] (Le.refl W) hf trivial R
theorem vk_cons {f : WE} {g : WF} (he : VE T X e f) (hr : VK T X kws g) : VK T X (⟨nm, e, kpos⟩ :: kws) (wFCons f g) :=
  .of (pk_cons he.pe hr.pk) fun W0 H0 W H O vs σ tm Q Q' hf R k => he.sn W0 H0 W H O vs σ tm _ _ hf R fun W1 H1 O1 vs1 v lo l1 q1 R1 => by
    split at q1
    · rename_i l e1
      obtain ⟨W2, l2, rd, R2⟩ := R1.arg e1
      exact hr.sn W0 H0 W2 H1 O1 vs1 σ tm _ _ q1 R2 fun W3 H3 O3 vs3 ws los l3 q3 rs R3 => k W3 H3 O3 vs3 (v :: ws) (l :: los) ((l1.trans l2).trans l3) q3 ⟨rd.mono l3, rs⟩ R3
    · exact q1.elim
/-- f(k = v, ..) -/
theorem pe_callN0 (F : FnOk X.prog X.w X.K X.mg X.base CX k f fd ps sp) (hr : Room k X.A) (hg : Gl X x) (hm : X.mg x = some (.ref f)) (hk : PySem.W.keepIn X.K (.ref f) = true) {g : List Value → List Value → List Value} {gV : List V → List V → List V} (hb : KBn X.K fd ps 0 ks g gV) (hx : Passes CX X E)
    (hkw : PK X kws tk) (hall : (backToKw pos (keywordEach kws X.env)).all (·.1.isSome) = true := by rfl) (hks : (backToKw pos (keywordEach kws X.env)).filterMap (·.1) = ks := by rfl)
    (hdb : (x == ("__debug__" : Str)) = false := by decide)
    (hpl : ((backTo pos (starEach [] X.env)).any (·.1) || (backToKw pos (keywordEach kws X.env)).any (·.1.isNone)) = false := by rfl) :
    PE X (.Call (.Name x p) [] kws pos) (tCallN 0 ks.length sp gV E tNil tk) := by
  refine ⟨fun pins s σ H Q I h => ?_⟩
  refine wpAny_Call_Name_kw (ld_glob I hg hm ?_ hdb)
  refine PySem.W.callWith_KW0 (h₀ := X.base) I.ok.mod.kin hk hall ?_ hpl
  refine thn (hkw.run pos pins s σ H _ I h) fun ws s2 ⟨zs, H2, I2, rz, l1, l2, q2⟩ => ⟨I2.kIn, ?_⟩
  rw [hks]
  exact run_fnN (us := []) (vs := []) F hr hb hx I2 .nil rz rfl l2 q2
theorem argsOk_app {W : Wd} : ∀ {vs : List V} {los : List Lo} {zs : List V} {lzs : List Lo}, ArgsOk W vs los → ArgsOk W zs lzs → ArgsOk W (vs ++ zs) (los ++ lzs)
  | [], [], _, _, _, h => h
  | v :: vs, lo :: los, _, _, ⟨a, b⟩, h => ⟨a, argsOk_app b h⟩
  | [], _ :: _, _, _, q, _ => q.elim
  | _ :: _, [], _, _, q, _ => q.elim
@[simp] def wCallK (n j m : Nat) (F : FS) (g1 g2 : WF) : WE := fun vs Q => g1 vs fun los1 vs1 => g2 vs1 fun los2 vs2 => los1.length = n ∧ los2.length = j ∧ (los1 ++ los2).length = m ∧ F (los1 ++ los2) vs2.n fun lo n' => Q lo { vs2 with n := n' }
theorem sn_callK {j : Nat} (h1 : SndF T t g1) (h2 : SndF T tk g2) : SndE T (tCallN n j (spV T m F) (fun vs zs => vs ++ zs) E t tk) (wCallK n j m F g1 g2) := fun W0 H0 W H O vs σ tm Q Q' hf R kk =>
  h1 W0 H0 W H O vs σ tm _ _ hf R fun W1 H1 O1 vs1 ws los l1 q1 as R1 => h2 W0 H0 W1 H1 O1 vs1 σ tm _ _ q1 R1 fun W2 H2 O2 vs2 zs lzs l2 q2 bs R2 => by
    obtain ⟨a1, a2, a3, a4⟩ := q2
    refine ⟨by rw [as.length]; exact a1, by rw [bs.length]; exact a2, W2, vs2.n, los ++ lzs, _, ?_, R2.ok, argsOk_app (as.mono l2) bs, a4, fun lo n' W' H' v hp A r => ?_⟩
    · rw [(argsOk_app (as.mono l2) bs).length]; exact a3
    · obtain ⟨O', R'⟩ := R2.ret A r
      exact kk W' H' O' _ v lo ((l1.trans l2).trans A.le) hp R'
theorem ve_callK {j : Nat} (h : FnVK T X.prog X.w X.K X.mg X.base CX k x m F n ks) (hr : Room k X.A) (hx : Passes CX X E0) (hg : Gl X x) (ha : VF T X (e :: es) g1) (hkw : VK T X kws g2) (hall : (backToKw pos (keywordEach kws X.env)).all (·.1.isSome) = true := by rfl) (hks : (backToKw pos (keywordEach kws X.env)).filterMap (·.1) = ks := by rfl)
    (hdb : (x == ("__debug__" : Str)) = false := by decide) (hj : ks.length = j := by rfl) (he : starEach (e :: es) X.env = (false, eval e X.env) :: starEach es X.env := by rfl)
    (hpl : ((backTo pos (starEach (e :: es) X.env)).any (·.1) || (backToKw pos (keywordEach kws X.env)).any (·.1.isNone)) = false := by rfl) :
    VE T X (.Call (.Name x p) (e :: es) kws pos) (wCallK n j m F g1 g2) := by
  subst hj
  obtain ⟨f, fd, ps, h1, h2, h3, h4⟩ := h.ex
  exact .of (pe_callN h1 hr hg h2 h3 h4 hx ha.pe hkw.pk hall hks hdb he hpl) (sn_callK ha.sn hkw.sn)
theorem ve_callK0 {j : Nat} (h : FnVK T X.prog X.w X.K X.mg X.base CX k x m F 0 ks) (hr : Room k X.A) (hx : Passes CX X E0) (hg : Gl X x) (hkw : VK T X kws g2) (hall : (backToKw pos (keywordEach kws X.env)).all (·.1.isSome) = true := by rfl) (hks : (backToKw pos (keywordEach kws X.env)).filterMap (·.1) = ks := by rfl)
    (hdb : (x == ("__debug__" : Str)) = false := by decide) (hj : ks.length = j := by rfl)
    (hpl : ((backTo pos (starEach [] X.env)).any (·.1) || (backToKw pos (keywordEach kws X.env)).any (·.1.isNone)) = false := by rfl) :
    VE T X (.Call (.Name x p) [] kws pos) (wCallK 0 j m F wFNil g2) := by
  subst hj
  obtain ⟨f, fd, ps, h1, h2, h3, h4⟩ := h.ex
  exact .of (pe_callN0 h1 hr hg h2 h3 h4 hx hkw.pk hall hks hdb hpl) (sn_callK (fun W0 H0 W H O vs σ tm Q Q' hf R k => k W H O vs [] [] (Le.refl W) hf trivial R) hkw.sn)
end
end Vx

set_option Elab.async false
set_option maxRecDepth 100000
set_option linter.all false
/-! max, min of a list of whole numbers; keywords in the turned sequence. -/
namespace Vx
open PySem PySem.Spec PyProof PyProof.Rows L2
section
variable {T : Th} {X : Cx} {a : Expr} {fa : WE} {pos : Pos}
@[simp] def gMaxL : G1 := fun a vs Q => match a.lst? with
  | some ds => match ints? ds with
    | some ns => 0 < ns.length ∧ ∀ m, m ∈ ns → (∀ y, y ∈ ns → y ≤ m) → Q (.sh (.int m)) vs
    | none => False
  | none => False
@[simp] def gMinL : G1 := fun a vs Q => match a.lst? with
  | some ds => match ints? ds with
    | some ns => 0 < ns.length ∧ ∀ m, m ∈ ns → (∀ y, y ∈ ns → m ≤ y) → Q (.sh (.int m)) vs
    | none => False
  | none => False
theorem snd_gMaxL {K : PySem.W.Frag} : SndC1 T (L2.rMax K) gMaxL := fun W0 H0 W H O vs σ tm x a Q Q' hf R kk => by
  unfold gMaxL at hf
  split at hf
  · rename_i xs e1
    split at hf
    · rename_i ns en
      obtain ⟨p, ws, ep, hp, rp⟩ := R.lst R.top e1
      have ex := ints?_eq en
      subst ex
      have ew := rp.ints
      subst ew
      have ep' : x = .ref p := ep
      subst ep'
      exact ⟨p, ns, rfl, SqL.of hp, hf.1, fun m h1 h2 => kk W H O vs _ _ (Le.refl W) (hf.2 m h1 h2) (R.pop.push (by simp [Rep]))⟩
    · exact hf.elim
  · exact hf.elim
theorem snd_gMinL {K : PySem.W.Frag} : SndC1 T (L2.rMin K) gMinL := fun W0 H0 W H O vs σ tm x a Q Q' hf R kk => by
  unfold gMinL at hf
  split at hf
  · rename_i xs e1
    split at hf
    · rename_i ns en
      obtain ⟨p, ws, ep, hp, rp⟩ := R.lst R.top e1
      have ex := ints?_eq en
      subst ex
      have ew := rp.ints
      subst ew
      have ep' : x = .ref p := ep
      subst ep'
      exact ⟨p, ns, rfl, SqL.of hp, hf.1, fun m h1 h2 => kk W H O vs _ _ (Le.refl W) (hf.2 m h1 h2) (R.pop.push (by simp [Rep]))⟩
    · exact hf.elim
  · exact hf.elim
theorem ve_maxL {p : Pos} (hc : X.calm = true) (hg : Gl X "max") (hm : X.mg "max" = none) (ha : VE T X a fa) (hs : starEach [a] X.env = (false, eval a X.env) :: starEach [] X.env := by rfl) : VE T X (.Call (.Name "max" p) [a] [] pos) (w1 gMaxL fa) :=
  ve_callB1 (cr_max hc) snd_gMaxL hg hm (by decide +kernel) ha (hs := hs)
theorem ve_minL {p : Pos} (hc : X.calm = true) (hg : Gl X "min") (hm : X.mg "min" = none) (ha : VE T X a fa) (hs : starEach [a] X.env = (false, eval a X.env) :: starEach [] X.env := by rfl) : VE T X (.Call (.Name "min" p) [a] [] pos) (w1 gMinL fa) :=
  ve_callB1 (cr_min hc) snd_gMinL hg hm (by decide +kernel) ha (hs := hs)
end
/-! ### all by keyword, turned about -/
structure FnVR (T : Th) (P : Program) (w : World) (K : PySem.W.Frag) (mg : Str → Option Value) (base : Heap) (CX : CXT) (k : Nat) (x : Str) (m : Nat) (F : FS) (ks : List Str) : Prop where
  ex : ∃ (f : Addr) (fd : FuncData) (ps : List Str), FnOk P w K mg base CX k f fd ps (spV T m F) ∧ mg x = some (.ref f) ∧ PySem.W.keepIn K (.ref f) = true ∧ KBn K fd ps 0 ks (fun _ ws => ws.reverse) (fun _ zs => zs.reverse)
theorem vals_rev {vs : List V} {us : List Value} (h : Vals vs us) : Vals vs.reverse us.reverse := by
  induction h with
  | nil => exact .nil
  | cons a b ih =>
    rw [List.reverse_cons, List.reverse_cons]
    exact vals_app (us := []) (.cons a .nil) ih
theorem kbr_mk {K : PySem.W.Frag} {x qual : Str} {st : Stmt} {f : Addr} {fd : FuncData} (F : Fun K x qual st f fd) {ps : List Str} (ks : List Str)
    (h : ∀ (kV doc pm : Value) (an : Option Addr) (cdv ct : Value) (ws : List Value), ws.length = ks.length → bindArgs (PySem.W.fnOf x qual (defArgs st) (defBody st) (defScope st) .none kV doc pm an cdv ct) ⟨[], ks.zip ws⟩ = pure (ps.zip ws.reverse)) : KBn K fd ps 0 ks (fun _ ws => ws.reverse) (fun _ zs => zs.reverse) := by
  obtain ⟨oc, od, kV, doc, pm, an, cdv, ct, osl, rfl, lk, hcd⟩ := F.ex
  exact ⟨fun s us ws X l1 l2 => by
    have : us = [] := List.eq_nil_of_length_eq_zero l1
    subst this
    exact BindsTo.of_eq (h kV doc pm an cdv ct ws l2), fun r1 r2 => vals_rev r2⟩
section
variable {T : Th} {X : Cx} {CX : CXT} {k n m : Nat} {f : Addr} {fd : FuncData} {ps ks : List Str} {E : XK} {x : Str} {p pos kpos : Pos} {kws : List Keyword} {tk : TA} {g2 : WF} {F : FS}
theorem argsOk_rev {W : Wd} : ∀ {vs : List V} {los : List Lo}, ArgsOk W vs los → ArgsOk W vs.reverse los.reverse
  | [], [], _ => trivial
  | v :: vs, lo :: los, ⟨a, b⟩ => by
    rw [List.reverse_cons, List.reverse_cons]
    exact argsOk_app (argsOk_rev b) ⟨a, trivial⟩
  | [], _ :: _, q => q.elim
  | _ :: _, [], q => q.elim
@[simp] def wCallR (j m : Nat) (F : FS) (g2 : WF) : WE := fun vs Q => g2 vs fun los2 vs2 => los2.length = j ∧ los2.length = m ∧ F los2.reverse vs2.n fun lo n' => Q lo { vs2 with n := n' }
theorem sn_callR {j : Nat} (h2 : SndF T tk g2) : SndE T (tCallN 0 j (spV T m F) (fun _ zs => zs.reverse) E tNil tk) (wCallR j m F g2) := fun W0 H0 W H O vs σ tm Q Q' hf R kk =>
  h2 W0 H0 W H O vs σ tm _ _ hf R fun W2 H2 O2 vs2 zs lzs l2 q2 bs R2 => by
    obtain ⟨a2, a3, a4⟩ := q2
    refine ⟨rfl, by rw [bs.length]; exact a2, W2, vs2.n, lzs.reverse, _, ?_, R2.ok, argsOk_rev bs, a4, fun lo n' W' H' v hp A r => ?_⟩
    · rw [List.length_reverse, bs.length]; exact a3
    · obtain ⟨O', R'⟩ := R2.ret A r
      exact kk W' H' O' _ v lo (l2.trans A.le) hp R'
theorem ve_callR {j : Nat} (h : FnVR T X.prog X.w X.K X.mg X.base CX k x m F ks) (hr : Room k X.A) (hx : Passes CX X E0) (hg : Gl X x) (hkw : VK T X kws g2) (hall : (backToKw pos (keywordEach kws X.env)).all (·.1.isSome) = true := by rfl) (hks : (backToKw pos (keywordEach kws X.env)).filterMap (·.1) = ks := by rfl)
    (hdb : (x == ("__debug__" : Str)) = false := by decide) (hj : ks.length = j := by rfl)
    (hpl : ((backTo pos (starEach [] X.env)).any (·.1) || (backToKw pos (keywordEach kws X.env)).any (·.1.isNone)) = false := by rfl) :
    VE T X (.Call (.Name x p) [] kws pos) (wCallR j m F g2) := by
  subst hj
  obtain ⟨f, fd, ps, h1, h2, h3, h4⟩ := h.ex
  exact .of (pe_callN0 h1 hr hg h2 h3 h4 hx hkw.pk hall hks hdb hpl) (sn_callR hkw.sn)
end
end Vx

set_option Elab.async false
set_option maxRecDepth 100000
set_option linter.all false
/-! A call by names alone, the names from the last to the first, of a def that may raise. -/
namespace L2
open PySem PySem.Spec PyProof PyProof.Rows
section
variable {X : Cx} {CX : CXT} {k n : Nat} {f : Addr} {fd : FuncData} {ps ks : List Str} {sp : Sp} {E : St → XK} {x : Str} {p pos kpos : Pos} {kws : List Keyword} {t tk : TA} {g : List Value → List Value → List Value} {gV : List V → List V → List V}
theorem run_fnNS {pins : List (Addr × Obj)} {σ : St} {H : Hp} {s : Shared} {Q : VK} {us ws : List Value} {vs zs : List V} (F : FnOk X.prog X.w X.K X.mg X.base CX k f fd ps sp) (hr : Room k X.A) (hb : KBn X.K fd ps n ks g gV) (hx : PassesAt CX X σ (E σ))
    (I : Inv X pins σ H s) (r : Vals vs us) (rz : Vals zs ws) (l1 : vs.length = n) (l2 : zs.length = ks.length) (h : sp (gV vs zs) H Q (E σ)) : wpAny (model X.prog X.w) X.A (call (.ref f) us (ks.zip ws)) (EP X pins σ Q) X.xe s := by
  have r2 := hb.rel r rz
  refine wpAny_call (codeAny_mono (F.run X.A X.stack s H ⟨us, ks.zip ws⟩ (g us ws) (gV vs zs) Q (E σ) hr I.env0 (hb.to s us ws I.kIn (r.length.symm.trans l1) (rz.length.symm.trans l2)) r2 h) fun r s' hq => ?_)
  cases r with
  | error e => exact hx pins H s e s' I hq
  | ok fl =>
    cases fl with
    | ret u => exact I.after hq
    | next => exact False.elim hq
    | brk => exact False.elim hq
    | cont => exact False.elim hq
def tCallNS (j : Nat) (sp : Sp) (gV : List V → List V → List V) (E : St → XK) (tk : TA) : TE := fun σ H Q => tk σ H fun zs H2 => zs.length = j ∧ sp (gV [] zs) H2 Q (E σ)
theorem pe_callNS0 (F : FnOk X.prog X.w X.K X.mg X.base CX k f fd ps sp) (hr : Room k X.A) (hg : Gl X x) (hm : X.mg x = some (.ref f)) (hk : PySem.W.keepIn X.K (.ref f) = true) (hb : KBn X.K fd ps 0 ks g gV) (hx : ∀ σ, PassesAt CX X σ (E σ))
    (hkw : PK X kws tk) (hall : (backToKw pos (keywordEach kws X.env)).all (·.1.isSome) = true := by rfl) (hks : (backToKw pos (keywordEach kws X.env)).filterMap (·.1) = ks := by rfl)
    (hdb : (x == ("__debug__" : Str)) = false := by decide)
    (hpl : ((backTo pos (starEach [] X.env)).any (·.1) || (backToKw pos (keywordEach kws X.env)).any (·.1.isNone)) = false := by rfl) :
    PE X (.Call (.Name x p) [] kws pos) (tCallNS ks.length sp gV E tk) := by
  refine ⟨fun pins s σ H Q I h => ?_⟩
  refine wpAny_Call_Name_kw (ld_glob I hg hm ?_ hdb)
  refine PySem.W.callWith_KW0 (h₀ := X.base) I.ok.mod.kin hk hall ?_ hpl
  refine thn (hkw.run pos pins s σ H _ I h) fun ws s2 ⟨zs, H2, I2, rz, l2, q2⟩ => ⟨I2.kIn, ?_⟩
  rw [hks]
  exact run_fnNS (us := []) (vs := []) F hr hb (hx σ) I2 .nil rz rfl l2 q2
theorem PK.nox {kws : List Keyword} {t : TA} (h : PK X.nox kws t) : PK X kws t := ⟨fun pos pins s σ H Q I hw =>
  wpAny_mono (h.run pos pins s σ H Q (I.wish _) hw) (fun _ _ ⟨v, H', I', r, q⟩ => ⟨v, H', I'.unwish, r, q⟩) fun _ _ z => False.elim z⟩
end
end L2
namespace Vx
open PySem PySem.Spec PyProof PyProof.Rows L2
section
variable {T : Th} {X : Cx} {W0 Wb : Wd} {H0 : Hp} {tm : List (V × Lo)} {G : XG} {Wx : WX}
def wCallXR (j m : Nat) (F : FX) (G : XG) (ga : WF) : WS := fun vs D => ga vs fun los vs1 => los.length = j ∧ los.length = m ∧ F los.reverse vs1.n (fun _ n' => D.nx { vs1 with n := n' }) fun C d n' => G C d { vs1 with n := n' }
theorem vq_callR {x : Str} {kws : List Keyword} {ga : WF} {F : FX} {m k j : Nat} {fn : Addr} {fd : FuncData} {ps ks : List Str} {p p1 pos : Pos} (tk : Takes X Wx) (wi : Wish T W0 H0 Wb tm G Wx)
    (h : FnOk X.prog X.w X.K X.mg X.base (L2.CX X.prog X.w) k fn fd ps (spVX T m F)) (hr : Room k X.A) (hg : Gl X x) (hm : X.mg x = some (.ref fn)) (hk : PySem.W.keepIn X.K (.ref fn) = true) (hb : KBn X.K fd ps 0 ks (fun _ ws => ws.reverse) (fun _ zs => zs.reverse)) (ha : VK T X.nox kws ga)
    (hall : (backToKw p1 (keywordEach kws X.env)).all (·.1.isSome) = true := by rfl) (hks : (backToKw p1 (keywordEach kws X.env)).filterMap (·.1) = ks := by rfl)
    (hdb : (x == ("__debug__" : Str)) = false := by decide) (hj : ks.length = j := by rfl)
    (hpl : ((backTo p1 (starEach [] X.env)).any (·.1) || (backToKw p1 (keywordEach kws X.env)).any (·.1.isNone)) = false := by rfl)
    (hs : swapsWith (.Call (.Name x p) [] kws p1) none pos.line X.env = pure false := by rfl) :
    VQ T X W0 H0 Wb tm (.Expr (.Call (.Name x p) [] kws p1) pos) (wCallXR j m F G ga) := by
  subst hj
  exact .of (ps_expr (pe_callNS0 h hr hg hm hk hb (fun σ => passAt tk σ) ha.pk.nox hall hks hdb hpl) hs) fun W H O vs σ D D' l hf R C =>
    ha.sn W0 H0 W H O vs σ tm _ _ hf R fun W1 H1 O1 vs1 ws los l1 q1 as R1 => by
      obtain ⟨q0, q2, q1⟩ := q1
      refine ⟨by rw [as.length]; exact q0, W1, vs1.n, los.reverse, _, _, by rw [List.length_reverse, as.length]; exact q2, R1.ok, argsOk_rev as, q1, fun lo n' W' H' v hp A r => ?_, fun C2 d n' W' H' v dd hp A r hd => ?_⟩
      · obtain ⟨O', R'⟩ := R1.ret A r
        exact C.nx W' H' O' _ σ (l1.trans A.le) hp R'.pop
      · exact wi W' H' O1 _ σ C2 d v dd ((l.trans l1).trans A.le) hp (R1.over A.le A.ok A.frame A.grow.1 A.grow.2) r hd
end
end Vx

set_option Elab.async false
set_option maxRecDepth 100000
set_option linter.all false
/-! An except suite: isinstance of the caught error (with a dict), text times a whole number. -/
namespace L2
open PySem PySem.Spec PyProof PyProof.Rows
theorem kit_exD {K : PySem.W.Frag} {C a : Addr} {oe : Obj} {od : Option Obj} (E : ExcC K C) : PySem.W.KitX K (.ref a) (.ref C) (fun h => PySem.W.InstAt h a oe C od) :=
  PySem.W.kitx_exc (by obtain ⟨cd, hc, _⟩ := PySem.W.any_some E.hd; rw [hc]; rfl) E.hg E.hk E.hs E.ha E.hn E.ht E.hm
def rIsD (K : PySem.W.Frag) (C a : Addr) (d : Option Addr) : List V → Hp → VK → Prop := fun xs H Q => ∃ (dd : Addr) (fs : List (Str × V)), d = some dd ∧ H dd = some (.xd fs) ∧
  ((∃ (c : V) (cv : Value) (b : Bool), xs = [.ref a, c] ∧ (∀ u, RelV c u → u = cv) ∧ PySem.W.kitOne K (.ref C) cv = some b ∧ Q (.bl b) H) ∨
    ∃ (t : Addr) (cs : List V) (b : Bool), xs = [.ref a, .ref t] ∧ H t = some (.tup cs) ∧ (∀ its, Vals cs its → PySem.W.kitAny K (.ref C) its = some b) ∧ Q (.bl b) H)
theorem call_isD {X : Cx} {a C : Addr} {d : Option Addr} {oe : Obj} {pn : List (Addr × Obj)} (E : ExcC X.K C) (hz : Zc (.ref C) d oe) (hf : ∃ vs, oe.data = .fields vs) : CallR (X.suite a ((a, oe) :: pn)) (.builtin "isinstance") (rIsD X.K C a d) := by
  intro pins s σ H xs us Q I r h
  obtain ⟨dd, fs, rfl, ed, h⟩ := h
  obtain ⟨ha, _⟩ := I.pin (a, oe) (List.mem_append_left _ List.mem_cons_self)
  obtain ⟨vs, hd⟩ := hf
  have hx : ObjOk X.prog X.w H s.heap dd (.xd fs) := I.hok dd _ ed
  obtain ⟨mA, hns, hr⟩ := hx
  obtain ⟨od, ho, hl⟩ := lookIn_ns hns
  have J : PySem.W.InstAt s.heap a oe C (some od) := ⟨ha, hz.1, by unfold PySem.W.notCls; rw [hd] <;> rfl, by rw [hz.2]; exact ho⟩
  rcases h with ⟨c, cv, b, rfl, hcv, e, q⟩ | ⟨t, cs, b, rfl, et, e, q⟩
  · cases r with
    | cons rx rr =>
      cases rr with
      | cons rt rr =>
        cases rr
        cases rx
        have ec := hcv _ rt
        subst ec
        exact PySem.W.kia_one (kit_exD E) I.kIn J e (fun z => nomatch z) fun tk => ⟨.bl b, H, I.kept (t' := tk) fun _ _ z => z, rfl, q⟩
  · cases r with
    | cons rx rr =>
      cases rr with
      | cons rt rr =>
        cases rr
        cases rx
        cases rt
        obtain ⟨its, rv, ht, _⟩ := I.tuple (a := t) (xs := cs) (.inl (.inl et))
        obtain ⟨o, h1, h2, n, h3⟩ := ht
        obtain ⟨oc, od', oda, osl⟩ := o
        dsimp only at h2 h3
        subst h2 h3
        exact PySem.W.kia_tup (kit_exD E) I.kIn J h1 (e its rv) (fun z => nomatch z) fun tk => ⟨.bl b, H, I.kept (t' := tk) fun _ _ z => z, rfl, q⟩
/-- text times 0 or 1 -/
theorem op_mul_sb {X : Cx} : OpR X (binaryOp .Mult) (fun x y H Q => ∃ (i : Str) (k : Bool), x = .str i ∧ y = .int (if k then 1 else 0) ∧ Q (.str (if k then i else Str.empty)) H) := by
  intro pins s σ H x y v u Q I rx ry h
  obtain ⟨i, k, rfl, rfl, q⟩ := h
  obtain ⟨t, rfl⟩ := rx
  obtain ⟨t', rfl⟩ := ry
  cases k with
  | false => exact PySem.P.mul_str_none (by decide) (by decide) ⟨.str Str.empty, H, I.tok _, ⟨_, rfl⟩, q⟩
  | true =>
    refine PySem.P.mul_str (by decide) (fun _ z => by simp at z) (fun _ z => by simp at z) ?_
    rw [if_neg (by decide), if_pos (by simp)]
    exact ⟨.str i, H, I, ⟨_, rfl⟩, q⟩
end L2

set_option Elab.async false
set_option maxRecDepth 100000
set_option linter.all false
/-! Small things for k01, told again here so that the long tables are not needed. -/
namespace Vx
namespace E0
open PySem PySem.Spec PyProof PyProof.Rows L2
theorem strOk_of (s : String) : PyData.strOk (s : Str) = true := by
  rw [PySem.Str.ofString_eq_toList]
  unfold PyData.strOk
  show ((s.toList.map Char.toNat).toArray).all _ = true
  rw [List.all_toArray, List.all_eq_true]
  intro n hn
  obtain ⟨c, _, e⟩ := List.mem_map.mp hn
  subst e
  have := c.valid
  have h2 : c.toNat < 0x110000 := by
    rcases this with h | h
    · show c.val.toNat < _
      have : c.val.toNat < 0xd800 := h
      omega
    · have : c.val.toNat < 0x110000 := h.2
      exact this
  simpa using h2
theorem nat_text_len {i k : Nat} (hk : 0 < k) (h : i < 10 ^ k) : ((toString ((i : Nat) : Int) : String) : Str).length ≤ k := by
  rw [PySem.Str.ofString_eq_toList]
  show ((toString ((i : Nat) : Int)).toList.map Char.toNat).toArray.size ≤ k
  rw [List.size_toArray, List.length_map]
  show (Nat.repr i).toList.length ≤ k
  rw [Nat.toList_repr]
  exact (Nat.length_toDigits_le_iff (by decide) hk).mpr h
theorem log_small {i : Nat} (h : i < 2 ^ 1900) : ((i : Nat) : Int).natAbs.log2 < 1920 := by
  rw [Int.natAbs_natCast]
  exact Nat.lt_of_lt_of_le (PySem.Flt.log2_lt_of (k := 1900) (by decide) h) (by decide)
theorem big500 : 10 ^ 500 < 2 ^ 1900 := by decide +kernel
/-- repr of data: what it asks -/
structure Rp (d : D) : Prop where
  fit : D.fit 60 d = true
  show' : d.py.showable = true
  len : d.py.shown.length ≤ sizeLine
  txt : D.fit 60 (.str d.py.shown) = true
theorem rp_int {i : Nat} (h : i < 10 ^ 500) : Rp (.int (i : Nat)) := by
  have e : (D.int (i : Nat)).py.shown = ((toString ((i : Nat) : Int) : String) : Str) := by
    show PyData.shown (.int _) = _
    simp [PyData.shown]
  have h1 := nat_text_len (k := 500) (by decide) h
  have h2 := big500
  refine ⟨by simp [D.fit], ?_, ?_, ?_⟩
  · show PyData.showable (.int _) = true
    have := log_small (i := i) (by omega)
    simpa [PyData.showable] using this
  · rw [e, sizeLine_eq]; omega
  · rw [e]
    have := strOk_of (toString ((i : Nat) : Int))
    simpa [D.fit] using this
theorem map_flt {own : List Nat} {tg : Tg} {cnd : WT} {elt : WE} {env : List (Option Lo)} {n : Nat} {g : D → D} {p : D → Bool} : ∀ (ds : List D) (acc : List D) (Q : List D → Nat → Prop), acc.length + ds.length ≤ sizeLine →
    (∀ d ∈ ds, ∀ Q' : Bool → VS → Prop, (∀ env', wipeE env' own = env → (p d = true → ∀ Q2 : Lo → VS → Prop, (∀ lo env2, lo.dat? = some (g d) → wipeE env2 own = env → Q2 lo ⟨env2, n⟩) → elt ⟨env', n⟩ Q2) → Q' (p d) ⟨env', n⟩) → match bindT tg d env with | some env' => cnd ⟨env', n⟩ Q' | none => False) →
    Q (acc ++ (ds.filter p).map g) n → wMapL own tg cnd elt ds ⟨env, n⟩ acc Q
  | [], acc, Q, _, _, h => by simpa using h
  | d :: ds, acc, Q, hl, he, h => by
    rw [wMapL_cons]
    refine he d (by simp) _ fun env' hw hk => ?_
    cases hp : p d with
    | false =>
      rw [if_neg (by decide)]
      refine ⟨hw, ?_⟩
      rw [List.filter_cons, hp] at h
      exact map_flt ds acc Q (by simp at hl; omega) (fun d' hd' => he d' (by simp [hd'])) h
    | true =>
      rw [if_pos rfl]
      rw [List.filter_cons, hp, if_pos rfl] at h
      refine hk hp _ fun lo env2 e1 e2 => ?_
      rw [e1]
      exact ⟨by simp at hl; omega, e2, map_flt ds (acc ++ [g d]) Q (by simp at hl ⊢; omega) (fun d' hd' => he d' (by simp [hd'])) (by simpa using h)⟩
/-- an own error class over RowError (at RE) -/
structure ECls (K : PySem.W.Frag) (C RE : Addr) : Prop where
  oex : OexC K C
  mro : PySem.W.mroIn K C (.ref RE) = some true
  sup : PySem.W.ks_superIn K C RE "__init__" = some (some (.builtin "ValueError.__init__"))
  ve : PySem.W.subIn K (.ref C) (.type "ValueError") = some true
  nov : PySem.W.findIn K (.ref C) "value" = some none
  ga : PySem.W.findIn K (.ref C) "__getattribute__" = some (some (.builtin "BaseException.__getattribute__"))
  gg : PySem.W.findIn K (.ref C) "__getattr__" = some none
  hd : PySem.W.hasDictIn K C = true
  cl : PySem.W.findIn K (.ref C) "__class__" = some (some (.builtin "object.__class__"))
  ob : PySem.W.mroIn K C (.type "object") = some true
  re : PySem.W.subIn K (.ref C) (.ref RE) = some true
theorem ECls.sube {K : PySem.W.Frag} {C RE : Addr} (h : ECls K C RE) : SubE K C RE := ⟨h.oex, h.mro, h.sup, h.ve, h.nov⟩
theorem ECls.xf {K : PySem.W.Frag} {C RE : Addr} (h : ECls K C RE) : XfC K C := ⟨h.ga, h.gg, h.oex.exC, h.hd⟩
theorem ECls.excC {K : PySem.W.Frag} {C RE : Addr} (h : ECls K C RE) (q2 : PySem.W.specialIn K (.builtin "object.__class__") "__get__" = some (some (.builtin "getset_descriptor.__get__"))) (q3 : PySem.W.takesIn K (.builtin "object.__class__") = some true) : ExcC K C :=
  ⟨h.ga, h.gg, h.oex.exC, h.hd, h.cl, q2, q3, h.ob⟩
theorem ecls_mk {K : PySem.W.Frag} {C RE : Addr} {nm q : Str} {N : Addr} {bs bm : List Value} {sn : List Str} {sub : List Value} {ab : Bool} {col : Option Bool} {dd : Option Addr} {k0 k1 k2 k3 k5 : Option Value}
    (lk : K.lookup C = some (excClassObj nm q C N bs bm true sn sub ab col dd k0 k1 k2 k3 k5 "ValueError.__new__")) (rv : PySem.HandSPX.refsVE bm = true)
    (sa : PySem.W.findIn K (.ref C) "__setattr__" = some (some (.builtin "object.__setattr__"))) (exC : PySem.W.subIn K (.ref C) (.type "BaseException") = some true) (tyC : PySem.W.typeIn K (.ref C) = some (.type "type")) (kC : PySem.W.keepIn K (.ref C) = true)
    (mro : PySem.W.mroIn K C (.ref RE) = some true) (sup : PySem.W.ks_superIn K C RE "__init__" = some (some (.builtin "ValueError.__init__"))) (ve : PySem.W.subIn K (.ref C) (.type "ValueError") = some true) (nov : PySem.W.findIn K (.ref C) "value" = some none)
    (ga : PySem.W.findIn K (.ref C) "__getattribute__" = some (some (.builtin "BaseException.__getattribute__"))) (gg : PySem.W.findIn K (.ref C) "__getattr__" = some none) (hd : PySem.W.hasDictIn K C = true)
    (cl : PySem.W.findIn K (.ref C) "__class__" = some (some (.builtin "object.__class__"))) (ob : PySem.W.mroIn K C (.type "object") = some true) (re : PySem.W.subIn K (.ref C) (.ref RE) = some true) : ECls K C RE :=
  ⟨⟨⟨nm, q, N, bs, bm, sn, sub, ab, col, dd, k0, k1, k2, k3, k5, lk, rv⟩, sa, exC, tyC, kC⟩, mro, sup, ve, nov, ga, gg, hd, cl, ob, re⟩
end E0
end Vx

set_option Elab.async false
set_option maxRecDepth 100000
set_option linter.all false
/-! Books: a count stands for the draws and for what all books hold now. -/
namespace Vx
namespace Bk
open PySem PySem.Spec PyProof PyProof.Rows L2
/-! ### every list of such things has a number -/
def Cnt (α : Type) : Prop := ∃ f : Nat → α, ∀ x, ∃ n, f n = x
def nxt (p : Nat × Nat) : Nat × Nat := if p.1 = 0 then (p.2 + 1, 0) else (p.1 - 1, p.2 + 1)
def walkP : Nat → Nat × Nat
  | 0 => (0, 0)
  | n + 1 => nxt (walkP n)
theorem walkP_all : ∀ s b, b ≤ s → ∃ n, walkP n = (s - b, b)
  | 0, 0, _ => ⟨0, rfl⟩
  | 0, b + 1, h => by omega
  | s + 1, 0, _ => by
    obtain ⟨n, e⟩ := walkP_all s s (Nat.le_refl s)
    refine ⟨n + 1, ?_⟩
    show nxt (walkP n) = _
    rw [e]
    unfold nxt
    simp
  | s + 1, b + 1, h => by
    obtain ⟨n, e⟩ := walkP_all (s + 1) b (by omega)
    refine ⟨n + 1, ?_⟩
    show nxt (walkP n) = _
    rw [e]
    unfold nxt
    rw [if_neg (by show s + 1 - b ≠ 0; omega)]
    show (s + 1 - b - 1, b + 1) = _
    congr 1
termination_by s b => (s, b)
theorem walkP_surj (a b : Nat) : ∃ n, walkP n = (a, b) := by
  obtain ⟨n, e⟩ := walkP_all (a + b) b (by omega)
  exact ⟨n, by rw [e]; congr 1; omega⟩
theorem cnt_nat : Cnt Nat := ⟨id, fun x => ⟨x, rfl⟩⟩
theorem cnt_map {α β : Type} (h : Cnt α) (g : α → β) (hg : ∀ y, ∃ x, g x = y) : Cnt β := by
  obtain ⟨f, hf⟩ := h
  exact ⟨fun n => g (f n), fun y => by
    obtain ⟨x, rfl⟩ := hg y
    obtain ⟨n, rfl⟩ := hf x
    exact ⟨n, rfl⟩⟩
theorem cnt_prod {α β : Type} (h1 : Cnt α) (h2 : Cnt β) : Cnt (α × β) := by
  obtain ⟨f, hf⟩ := h1
  obtain ⟨g, hg⟩ := h2
  refine ⟨fun n => (f (walkP n).1, g (walkP n).2), fun ⟨x, y⟩ => ?_⟩
  obtain ⟨a, rfl⟩ := hf x
  obtain ⟨b, rfl⟩ := hg y
  obtain ⟨n, e⟩ := walkP_surj a b
  exact ⟨n, by simp only [e]⟩
theorem cnt_int : Cnt Int := cnt_map (cnt_prod cnt_nat cnt_nat) (fun p => (p.1 : Int) - (p.2 : Int)) fun y => by
  refine ⟨(y.toNat, (-y).toNat), ?_⟩
  show ((y.toNat : Nat) : Int) - (((-y).toNat : Nat) : Int) = y
  omega
theorem cnt_opt {α : Type} (h : Cnt α) : Cnt (Option α) := by
  obtain ⟨f, hf⟩ := h
  refine ⟨fun n => match n with | 0 => none | n + 1 => some (f n), fun x => ?_⟩
  cases x with
  | none => exact ⟨0, rfl⟩
  | some x =>
    obtain ⟨n, rfl⟩ := hf x
    exact ⟨n + 1, rfl⟩
def lstN {α : Type} (f : Nat → α) : Nat → Nat → List α
  | 0, _ => []
  | k + 1, m => f (walkP m).1 :: lstN f k (walkP m).2
theorem cnt_lst {α : Type} (h : Cnt α) : Cnt (List α) := by
  obtain ⟨f, hf⟩ := h
  refine ⟨fun n => lstN f (walkP n).1 (walkP n).2, fun xs => ?_⟩
  have key : ∀ xs : List α, ∃ m, lstN f xs.length m = xs := by
    intro xs
    induction xs with
    | nil => exact ⟨0, rfl⟩
    | cons x xs ih =>
      obtain ⟨m, e⟩ := ih
      obtain ⟨a, rfl⟩ := hf x
      obtain ⟨q, eq⟩ := walkP_surj a m
      refine ⟨q, ?_⟩
      show f (walkP q).1 :: lstN f xs.length (walkP q).2 = _
      rw [eq, e]
  obtain ⟨m, e⟩ := key xs
  obtain ⟨n, en⟩ := walkP_surj xs.length m
  exact ⟨n, by simp only [en, e]⟩
/-- a call that is not taken back: put (no letter) or change -/
abbrev Cl := Option Int × List Int
/-- what a book holds: its limit, its calls, its states -/
abbrev Bo := Option Int × List Cl × List (List (List Int))
abbrev Gs := Nat × List (Addr × Bo)
theorem cnt_gs : Cnt Gs :=
  cnt_prod cnt_nat (cnt_lst (cnt_prod cnt_nat (cnt_prod (cnt_opt cnt_int) (cnt_prod (cnt_lst (cnt_prod (cnt_opt cnt_int) (cnt_lst cnt_int))) (cnt_lst (cnt_lst (cnt_lst cnt_int)))))))
noncomputable def gam : Nat → Gs := cnt_gs.choose
theorem gam_ex (g : Gs) : ∃ n, gam n = g := cnt_gs.choose_spec g
noncomputable def bk (n : Nat) (a : Addr) : Option Bo := (gam n).2.lookup a
/-! ### data -/
def wT (w : List Int) : D := .tup (w.map D.int)
def wL (w : List Int) : D := .lst (w.map D.int)
def wsT (ws : List (List Int)) : D := .tup (ws.map wT)
def clT : Cl → D
  | (none, w) => .tup [.str "put", wT w]
  | (some l, w) => .tup [.str "change", .int l, wT w]
def clL : Cl → D
  | (none, w) => .tup [.str "put", wL w]
  | (some l, w) => .tup [.str "change", .int l, wL w]
def csD (cs : List Cl) : D := .lst (cs.map clT)
def ssD (ss : List (List (List Int))) : D := .lst (ss.map wsT)
def boFs (lim : Option Int) (u v : V) : List (Str × V) := match lim with
  | none => [("calls", u), ("states", v)]
  | some m => [("calls", u), ("states", v), ("greatest", .int m)]
def boC (CB CS : Addr) (lim : Option Int) : Addr := match lim with
  | none => CB
  | some _ => CS
structure BookAt (CB CS : Addr) (W : Wd) (H : Hp) (a : Addr) (b : Bo) : Prop where
  ex : ∃ dx u v, H a = some (.ins (boC CB CS b.1) dx (boFs b.1 u v)) ∧ Rep W (csD b.2.1) u ∧ Rep W (ssD b.2.2) v
  gov : W.D a
  np : a ≠ W.P
  sne : ∀ o, W.S a = some o → ∃ us, o = .tup us
  isR : W.R a = some [[300, a]]
theorem BookAt.mono {CB CS : Addr} {W W' : Wd} {H H' : Hp} {a : Addr} {b : Bo} (h : BookAt CB CS W H a b) (le : Le W W') (e : H' a = H a) : BookAt CB CS W' H' a b := by
  obtain ⟨⟨dx, u, v, h1, h2, h3⟩, h4, h5, h6, h7⟩ := h
  refine ⟨⟨dx, u, v, by rw [e]; exact h1, h2.mono le, h3.mono le⟩, le.d _ h4, by rw [le.p]; exact h5, fun o z => ?_, le.r _ _ h7⟩
  rcases le.s' _ _ z with z | z | z
  · exact h6 o z
  · exact absurd h4 z
  · exact z
noncomputable def thB (CB CS : Addr) : Th where
  RowAt := fun W _ a r => W.D a ∧ a ≠ W.P ∧ r = [[300, a]]
  Adv := fun _ _ _ => True
  mono := fun W W' H H' a r le h ⟨q1, q2, q3⟩ => ⟨le.d _ q1, by rw [le.p]; exact q2, q3⟩
  same := fun _ _ _ _ _ => True.intro
  trans := fun _ _ _ _ _ _ _ _ => True.intro
  dr := fun n => (gam n).1
  Gh := fun W H n => ∀ a b, bk n a = some b → BookAt CB CS W H a b
  gmono := fun W W' H H' n le e h a b q => (h a b q).mono le (e a (h a b q).gov (h a b q).np)
section
variable {CB CS : Addr} {W0 W : Wd} {H0 H H' : Hp} {O : Addr → Option Ow} {vs : VS} {σ : L2.St} {tm : List (V × Lo)} {n : Nat}
theorem _root_.Vx.WOk.book {a : Addr} {b : Bo} (ok : WOk (thB CB CS) W H n) (h : bk n a = some b) : BookAt CB CS W H a b := by
  obtain ⟨_, _, _, _, _, g⟩ := ok.p
  exact g a b h
theorem Rel.isB {a : Addr} {v : V} (ok : WOk (thB CB CS) W H n) (h : Rep W (.row [[300, a]]) v) : v = .ref a := by
  obtain ⟨a', e, hr⟩ := h
  obtain ⟨⟨_, _, q⟩, _, _⟩ := ok.r a' _ hr
  simp at q
  rw [e, q]
/-- another count, what the books hold alike -/
theorem _root_.Vx.WOk.cnt {m : Nat} (ok : WOk (thB CB CS) W H n) (h1 : (gam n).1 ≤ (gam m).1) (h2 : ∀ a b, bk m a = some b → bk n a = some b) : WOk (thB CB CS) W H m := by
  refine ⟨ok.s, ok.r, ok.d, ok.pd, ok.i, ?_⟩
  obtain ⟨x, y, c, e, ⟨p1, p2, p3, p4⟩, g⟩ := ok.p
  refine ⟨x, y, c, e, ⟨p1, p2, p3, ?_⟩, fun a b q => g a b (h2 a b q)⟩
  have p4' : c ≤ (((gam n).1 : Nat) : Int) := p4
  show c ≤ (((gam m).1 : Nat) : Int)
  omega
/-- a book's object is written -/
theorem _root_.Vx.WOk.pokeB {m : Nat} {a : Addr} {b b' : Bo} {dx : Addr} {u v : V} (ok : WOk (thB CB CS) W H n) (hb : BookAt CB CS W H a b) (ru : Rep W (csD b'.2.1) u) (rv : Rep W (ssD b'.2.2) v)
    (hd : (gam n).1 ≤ (gam m).1) (hm : ∀ c x, bk m c = some x → (c = a ∧ x = b') ∨ (c ≠ a ∧ bk n c = some x)) :
    After (thB CB CS) W H W (upd H a (.ins (boC CB CS b'.1) dx (boFs b'.1 u v))) m := by
  obtain ⟨⟨dx0, u0, v0, h1, h2, h3⟩, h4, h5, h6, h7⟩ := hb
  refine ⟨Le.refl W, ⟨fun c o e => ?_, fun c r e => ok.r c r e, fun c e => ?_, ok.pd, ok.i, ?_⟩, fun c o nd e => ?_, fun _ e => .inl e, True.intro⟩
  · obtain ⟨q1, q2, q3⟩ := ok.s c o e
    have ne : c ≠ a := fun z => by
      subst z
      obtain ⟨us, e2⟩ := h6 o e
      subst e2
      rw [h1] at q1
      cases q1
    exact ⟨by rw [upd_ne ne]; exact q1, q2, q3⟩
  · by_cases z : c = a
    · subst z; exact ⟨_, upd_same⟩
    · rw [upd_ne z]; exact ok.d c e
  · obtain ⟨x, y, c, e, ⟨p1, p2, p3, p4⟩, g⟩ := ok.p
    refine ⟨x, y, c, by rw [upd_ne (Ne.symm h5)]; exact e, ⟨p1, p2, p3, ?_⟩, fun q z hq => ?_⟩
    · have p4' : c ≤ (((gam n).1 : Nat) : Int) := p4
      show c ≤ (((gam m).1 : Nat) : Int)
      omega
    · rcases hm q z hq with ⟨e1, e2⟩ | ⟨e1, e2⟩
      · subst e1
        subst e2
        exact ⟨⟨dx, u, v, upd_same, ru, rv⟩, h4, h5, h6, h7⟩
      · exact (g q z e2).mono (Le.refl W) (upd_ne e1)
  · rw [upd_ne (fun (z : c = a) => nd (by rw [z]; exact h4))]; exact e
end
end Bk
end Vx

set_option Elab.async false
set_option maxRecDepth 100000
set_option linter.all false
/-! Books by value: attributes, methods, len. -/
namespace L2
open PySem PySem.Spec PySem.Calls PyProof PyProof.Rows
section
variable {X : Cx} {CX : CXT} {k : Nat} {f C : Addr} {fd : FuncData} {ps : List Str} {sp : Sp} {E : XK}
/-- len(o), o an instance of an own class with __len__ -/
def rLenI (C : Addr) (sp : Sp) (E : XK) : List V → Hp → VK → Prop := fun xs H Q => ∃ a dx fs, xs = [.ref a] ∧ H a = some (.ins C dx fs) ∧ sp [.ref a] H (fun v H' => ∃ n : Nat, v = .int (n : Int) ∧ n < 2 ^ 62 ∧ Q (.int (n : Int)) H') E
theorem call_lenI (hs : PySem.W.findIn X.K (.ref C) "__len__" = some (some (.ref f))) (hf : PySem.W.isFn X.K (.ref f) = true) (F : FnOk X.prog X.w X.K X.mg X.base CX k f fd ps sp) (hr : Room (k + 1) X.A) (hb : Binds X.K fd ps []) (hx : Passes CX X E) :
    CallR X (.builtin "len") (rLenI C sp E) := by
  intro pins s σ H xs us Q I r h
  obtain ⟨a, dx, fs, rfl, ea, q⟩ := h
  obtain ⟨mA, O, _, _, _, _⟩ := ins_get I.hok ea
  obtain ⟨od, J, _⟩ := O.look
  obtain ⟨u, rfl, ru⟩ : ∃ u, us = [u] ∧ u = Value.ref a := by
    cases r with
    | cons r1 r2 => cases r2; exact ⟨_, rfl, r1⟩
  subst ru
  have hl : ([Value.ref a]).length = ps.length := F.len _ _ _ _ q
  refine PySem.Calls.call_function_entry kind_len plain_len entry_len (args_len1 _) ?_
  unfold Builtin.«len»
  refine wpAny_bind (m := oneArg "len" _) (wpAny_pure ?_)
  refine wpAny_bind (m := callSpecial? (.ref a) (Str.ofString "__len__")) (PySem.W.special_fn I.kIn J hs (beq_iff_eq.mp hf) (wpAny_call ?_))
  refine codeAny_mono (F.run X.A.in1 X.stack s H ⟨[.ref a], []⟩ [.ref a] [.ref a] _ E hr.in1 I.env0.in1 (hb _ [.ref a] I.kIn hl) (.cons rfl .nil) q) fun r s' hq => ?_
  cases r with
  | error er => exact hx pins σ H s er s' I hq
  | ok fl =>
    cases fl with
    | ret u =>
      obtain ⟨v, H', I3, rv, n, ev, hn, q3⟩ := I.after hq
      subst ev
      obtain ⟨t, rfl⟩ := rv
      refine wpAny_bind (wpAny_holding (wpAny_pure ?_))
      refine wpAny_bind (wpAny_letGo ?_)
      show wpAny _ _ (if (n : Int) < 0 then _ else _) _ _ _
      rw [if_neg (by omega)]
      show wpAny _ _ (if (n : Int) ≥ 2 ^ 63 then _ else _) _ _ _
      rw [if_neg (by omega)]
      exact wpAny_bind (wpAny_mkInt (wpAny_pure ⟨_, rfl, .int (n : Int), H', I3.tok _, ⟨_, rfl⟩, q3⟩))
    | next => exact False.elim hq
    | brk => exact False.elim hq
    | cont => exact False.elim hq
theorem pe_orE {e : Expr} {t1 t2 : TE} (h1 : PE X e t1) (h2 : PE X e t2) : PE X e (fun σ H Q => t1 σ H Q ∨ t2 σ H Q) := ⟨fun pins s σ H Q I h => h.elim (h1.run pins s σ H Q I) (h2.run pins s σ H Q I)⟩
theorem callR_or {g : Value} {r1 r2 : List V → Hp → VK → Prop} (h1 : CallR X g r1) (h2 : CallR X g r2) : CallR X g (fun xs H Q => r1 xs H Q ∨ r2 xs H Q) := by
  intro pins s σ H xs us Q I r h
  exact h.elim (h1 pins s σ H xs us Q I r) (h2 pins s σ H xs us Q I r)
end
end L2
namespace Vx
namespace Bk
open PySem PySem.Spec PyProof PyProof.Rows L2
/-- what is known of the two classes -/
structure BkC (K : PySem.W.Frag) (CB CS : Addr) : Prop where
  cb : Cls K CB
  cs : Cls K CS
  n1 : NoAttr K CB "calls"
  n2 : NoAttr K CB "states"
  m1 : NoAttr K CS "calls"
  m2 : NoAttr K CS "states"
  m3 : NoAttr K CS "greatest"
theorem BkC.cl {K : PySem.W.Frag} {CB CS : Addr} (h : BkC K CB CS) (lim : Option Int) : Cls K (boC CB CS lim) := by cases lim <;> first | exact h.cb | exact h.cs
theorem BkC.nc {K : PySem.W.Frag} {CB CS : Addr} (h : BkC K CB CS) (lim : Option Int) : NoAttr K (boC CB CS lim) "calls" := by cases lim <;> first | exact h.n1 | exact h.m1
theorem BkC.ns {K : PySem.W.Frag} {CB CS : Addr} (h : BkC K CB CS) (lim : Option Int) : NoAttr K (boC CB CS lim) "states" := by cases lim <;> first | exact h.n2 | exact h.m2
theorem fs_calls (lim : Option Int) (u v : V) : (boFs lim u v).lookup ("calls" : Str) = some u := by cases lim <;> simp [boFs, List.lookup]
theorem ne_sc : (("states" : Str) == ("calls" : Str)) = false := by decide +kernel
theorem ne_gc : (("greatest" : Str) == ("calls" : Str)) = false := by decide +kernel
theorem ne_gs : (("greatest" : Str) == ("states" : Str)) = false := by decide +kernel
theorem fs_states (lim : Option Int) (u v : V) : (boFs lim u v).lookup ("states" : Str) = some v := by cases lim <;> simp [boFs, List.lookup, ne_sc]
theorem fs_great (m : Int) (u v : V) : (boFs (some m) u v).lookup ("greatest" : Str) = some (.int m) := by simp [boFs, List.lookup, ne_gc, ne_gs]
theorem fs_len (lim : Option Int) (u v : V) : (boFs lim u v).length < 1000 := by cases lim <;> (simp only [boFs, List.length_cons, List.length_nil]; omega)
theorem pf_calls (lim : Option Int) (u v x : V) : putF "calls" x (boFs lim u v) = boFs lim x v := by
  cases lim <;> rfl
theorem pf_states (lim : Option Int) (u v x : V) : putF "states" x (boFs lim u v) = boFs lim u x := by
  cases lim <;> (unfold boFs putF; rw [if_neg (by decide +kernel)]; rfl)
/-- o.calls, o.states, o.greatest -/
def gCalls : G1 := fun lo vs Q => ∃ a b, lo = .sh (.row [[300, a]]) ∧ bk vs.n a = some b ∧ Q (.sh (csD b.2.1)) vs
def gStates : G1 := fun lo vs Q => ∃ a b, lo = .sh (.row [[300, a]]) ∧ bk vs.n a = some b ∧ Q (.sh (ssD b.2.2)) vs
def gGreat : G1 := fun lo vs Q => ∃ a m r, lo = .sh (.row [[300, a]]) ∧ bk vs.n a = some (some m, r) ∧ Q (.sh (.int m)) vs
section
variable {CB CS : Addr} {X : Cx} {e o : Expr} {fa fo : WE} {pos pos' p apos : Pos}
theorem ve_calls (B : BkC X.K CB CS) (he : VE (thB CB CS) X e fa) (hb : attributeBase e "calls" X.env (eval e X.env) = eval e X.env := by rfl) : VE (thB CB CS) X (.Attribute e "calls" pos) (w1 gCalls fa) :=
  .of (pe_fld he.pe hb) fun W0 H0 W H O vs σ tm Q Q' hf R k => he.sn W0 H0 W H O vs σ tm _ _ hf R fun W1 H1 O1 vs1 x lo l1 ⟨a, b, e, hb, q⟩ R1 => by
    subst e
    have ex := Rel.isB R1.ok R1.top
    obtain ⟨⟨dx, u, v, h1, h2, h3⟩, _⟩ := R1.ok.book hb
    exact ⟨a, _, dx, _, u, ex, h1, B.cl _, B.nc _, fs_calls _ _ _, k W1 H1 O1 vs1 u _ l1 q (R1.pop.push h2)⟩
theorem ve_states (B : BkC X.K CB CS) (he : VE (thB CB CS) X e fa) (hb : attributeBase e "states" X.env (eval e X.env) = eval e X.env := by rfl) : VE (thB CB CS) X (.Attribute e "states" pos) (w1 gStates fa) :=
  .of (pe_fld he.pe hb) fun W0 H0 W H O vs σ tm Q Q' hf R k => he.sn W0 H0 W H O vs σ tm _ _ hf R fun W1 H1 O1 vs1 x lo l1 ⟨a, b, e, hb, q⟩ R1 => by
    subst e
    have ex := Rel.isB R1.ok R1.top
    obtain ⟨⟨dx, u, v, h1, h2, h3⟩, _⟩ := R1.ok.book hb
    exact ⟨a, _, dx, _, v, ex, h1, B.cl _, B.ns _, fs_states _ _ _, k W1 H1 O1 vs1 v _ l1 q (R1.pop.push h3)⟩
theorem ve_great (B : BkC X.K CB CS) (he : VE (thB CB CS) X e fa) (hb : attributeBase e "greatest" X.env (eval e X.env) = eval e X.env := by rfl) : VE (thB CB CS) X (.Attribute e "greatest" pos) (w1 gGreat fa) :=
  .of (pe_fld he.pe hb) fun W0 H0 W H O vs σ tm Q Q' hf R k => he.sn W0 H0 W H O vs σ tm _ _ hf R fun W1 H1 O1 vs1 x lo l1 ⟨a, m, r, e, hb, q⟩ R1 => by
    subst e
    have ex := Rel.isB R1.ok R1.top
    obtain ⟨⟨dx, u, v, h1, h2, h3⟩, _⟩ := R1.ok.book hb
    exact ⟨a, _, dx, _, _, ex, h1, B.cs, B.m3, fs_great m u v, k W1 H1 O1 vs1 _ _ l1 q (R1.pop.push (by simp [Rep]))⟩
/-- the count's book a holds b' now -/
def SetB (n m a : Nat) (b' : Bo) : Prop := (gam m).1 = (gam n).1 ∧ (∀ x, bk m a = some x → x = b') ∧ bk m a = some b' ∧ ∀ c, c ≠ a → bk m c = bk n c
/-- o.calls = e, o.states = e -/
def wSetCalls (fo fe : WE) : WS := fun vs D => fe vs fun lo vs1 => ∃ cs, lo.dat? = some (csD cs) ∧ fo vs1 fun lo2 vs2 => ∃ a b, lo2 = .sh (.row [[300, a]]) ∧ bk vs2.n a = some b ∧ ∀ m, SetB vs2.n m a (b.1, cs, b.2.2) → D.nx { vs2 with n := m }
def wSetStates (fo fe : WE) : WS := fun vs D => fe vs fun lo vs1 => ∃ ss, lo.dat? = some (ssD ss) ∧ fo vs1 fun lo2 vs2 => ∃ a b, lo2 = .sh (.row [[300, a]]) ∧ bk vs2.n a = some b ∧ ∀ m, SetB vs2.n m a (b.1, b.2.1, ss) → D.nx { vs2 with n := m }
theorem setB_ex (n a : Nat) (b' : Bo) : ∃ m, SetB n m a b' := by
  obtain ⟨m, e⟩ := gam_ex ((gam n).1, (a, b') :: (gam n).2)
  have h1 : bk m a = some b' := by
    unfold bk
    rw [e]
    simp [List.lookup]
  refine ⟨m, by rw [e], fun x hx => by rw [h1] at hx; exact (Option.some.inj hx).symm, h1, fun c hc => ?_⟩
  unfold bk
  rw [e]
  show List.lookup c ((a, b') :: (gam n).2) = _
  have hc' : (c == a) = false := by simpa using hc
  simp [List.lookup, hc']
theorem vp_setCalls (B : BkC X.K CB CS) (ho : VE (thB CB CS) X o fo) (he : VE (thB CB CS) X e fa) (hs : swapsWith e (some (.Attribute o "calls" pos')) pos.line X.env = pure false := by rfl) : VP (thB CB CS) X (.Assign [.Attribute o "calls" pos'] e pos) (wSetCalls fo fa) :=
  .of (ps_fld ho.pe he.pe hs) fun W0 H0 W H O vs σ tm D D' nb hf R C => he.sn W0 H0 W H O vs σ tm _ _ hf R fun W1 H1 O1 vs1 y lo l1 ⟨cs, ed, q1⟩ R1 => by
    obtain ⟨W2, l2, rd, R2⟩ := R1.share ed
    refine ho.sn W0 H0 W2 H1 O1 vs1 σ tm _ _ q1 R2 fun W3 H3 O3 vs3 x lo2 l3 ⟨a, b, e, hb, q⟩ R3 => ?_
    subst e
    have ex := Rel.isB R3.ok R3.top
    have BA := R3.ok.book hb
    obtain ⟨⟨dx, u, v, h1, h2, h3⟩, h4, h5, h6, h7⟩ := BA
    obtain ⟨m, hm⟩ := setB_ex vs3.n a (b.1, cs, b.2.2)
    refine ⟨a, _, dx, _, ex, h1, B.cl _, B.nc _, fs_len _ _ _, ?_⟩
    rw [pf_calls]
    have A := R3.ok.pokeB (m := m) (b' := (b.1, cs, b.2.2)) (dx := dx) (R3.ok.book hb) (rd.mono l3) h3 (Nat.le_of_eq hm.1.symm) fun c x hx => by
      by_cases z : c = a
      · subst z; exact .inl ⟨rfl, hm.2.1 x hx⟩
      · exact .inr ⟨z, by rw [← hm.2.2.2 c z]; exact hx⟩
    have R4 := R3.pop.over A.le A.ok A.frame A.grow.1 A.grow.2
    exact C.nx W3 _ O3 _ σ (l1.trans (l2.trans l3)) (q m hm) R4
theorem vp_setStates (B : BkC X.K CB CS) (ho : VE (thB CB CS) X o fo) (he : VE (thB CB CS) X e fa) (hs : swapsWith e (some (.Attribute o "states" pos')) pos.line X.env = pure false := by rfl) : VP (thB CB CS) X (.Assign [.Attribute o "states" pos'] e pos) (wSetStates fo fa) :=
  .of (ps_fld ho.pe he.pe hs) fun W0 H0 W H O vs σ tm D D' nb hf R C => he.sn W0 H0 W H O vs σ tm _ _ hf R fun W1 H1 O1 vs1 y lo l1 ⟨ss, ed, q1⟩ R1 => by
    obtain ⟨W2, l2, rd, R2⟩ := R1.share ed
    refine ho.sn W0 H0 W2 H1 O1 vs1 σ tm _ _ q1 R2 fun W3 H3 O3 vs3 x lo2 l3 ⟨a, b, e, hb, q⟩ R3 => ?_
    subst e
    have ex := Rel.isB R3.ok R3.top
    obtain ⟨⟨dx, u, v, h1, h2, h3⟩, h4, h5, h6, h7⟩ := R3.ok.book hb
    obtain ⟨m, hm⟩ := setB_ex vs3.n a (b.1, b.2.1, ss)
    refine ⟨a, _, dx, _, ex, h1, B.cl _, B.ns _, fs_len _ _ _, ?_⟩
    rw [pf_states]
    have A := R3.ok.pokeB (m := m) (b' := (b.1, b.2.1, ss)) (dx := dx) (R3.ok.book hb) h2 (rd.mono l3) (Nat.le_of_eq hm.1.symm) fun c x hx => by
      by_cases z : c = a
      · subst z; exact .inl ⟨rfl, hm.2.1 x hx⟩
      · exact .inr ⟨z, by rw [← hm.2.2.2 c z]; exact hx⟩
    have R4 := R3.pop.over A.le A.ok A.frame A.grow.1 A.grow.2
    exact C.nx W3 _ O3 _ σ (l1.trans (l2.trans l3)) (q m hm) R4
end
end Bk
end Vx

set_option Elab.async false
set_option maxRecDepth 100000
set_option linter.all false
/-! Methods and properties of objects of two classes. -/
namespace L2
open PySem PySem.Spec PyProof PyProof.Rows
section
variable {X : Cx} {CX CX' : CXT} {k : Nat} {f1 f2 C1 C2 g1 g2 p1 p2 : Addr} {fd1 fd2 : FuncData} {ps1 ps2 : List Str} {sp1 sp2 : Sp} {E : XK} {ES : St → XK} {m f : Str} {apos pos : Pos} {e o : Expr} {es : List Expr} {ta : TE} {t : TA}
def tMeth2 (C1 C2 : Addr) (m : Str) (sp1 sp2 : Sp) (ES : St → XK) (ta : TE) (t : TA) : TE := fun σ H Q => ta σ H fun x H1 =>
  (∃ a dx fs, x = .ref a ∧ H1 a = some (.ins C1 dx fs) ∧ fs.lookup m = none ∧ t σ H1 fun vs H2 => sp1 (x :: vs) H2 Q (ES σ)) ∨
  (∃ a dx fs, x = .ref a ∧ H1 a = some (.ins C2 dx fs) ∧ fs.lookup m = none ∧ t σ H1 fun vs H2 => sp2 (x :: vs) H2 Q (ES σ))
theorem pe_meth2 {pl : Sem Bool} (he : PE X o ta) (c1 : Cls X.K C1) (c2 : Cls X.K C2) (h1 : Meth X.K C1 m f1) (h2 : Meth X.K C2 m f2) (F1 : FnOk X.prog X.w X.K X.mg X.base CX k f1 fd1 ps1 sp1) (F2 : FnOk X.prog X.w X.K X.mg X.base CX k f2 fd2 ps2 sp2) (hr : Room k X.A)
    (b1 : Binds X.K fd1 ps1 []) (b2 : Binds X.K fd2 ps2 []) (hx : ∀ σ, PassesAt CX X σ (ES σ)) (ha : PA X (e :: es) t)
    (hst : starEach (e :: es) X.env = (false, eval e X.env) :: starEach es X.env := by rfl) (hpl : (backTo pos (starEach es X.env)).any (·.1) = false := by rfl)
    (ht : eval (.Call (.Attribute o m apos) (e :: es) [] pos) X.env = (do
      let ov ← eval o X.env
      standAt apos.atName
      let (f, first) ← holding [ov] (getMethod ov m pl)
      callWith pos f first (backTo pos (starEach (e :: es) X.env)) (backToKw pos (keywordEach [] X.env))) := by rfl) :
    PE X (.Call (.Attribute o m apos) (e :: es) [] pos) (tMeth2 C1 C2 m sp1 sp2 ES ta t) := by
  refine ⟨fun pins s σ H Q I h => ?_⟩
  refine PySem.W.methodCall_KW (pl := pl) (thn (he.run pins s σ H _ I h) fun u s1 ⟨x, H1, I1, rx, q⟩ => ?_) ht
  rcases q with ⟨a, dx, fs, ex, ea, l, q⟩ | ⟨a, dx, fs, ex, ea, l, q⟩
  · subst ex
    obtain rfl : u = Value.ref a := rx
    refine getmeth_ok I1 ea c1 h1 l ?_
    refine PySem.W.callWith_K (first := [.ref a]) (h₀ := X.base) I.ok.mod.kin h1.kp (thn (ha.run pos pins s1 σ H1 _ I1 q) fun us s2 ⟨vs, H2, I2, r, q2⟩ => ⟨I2.kIn, ?_⟩) hst hpl
    exact run_fnS (us := .ref a :: us) (vs := .ref a :: vs) F1 hr b1 (hx σ) I2 (.cons rfl r) q2
  · subst ex
    obtain rfl : u = Value.ref a := rx
    refine getmeth_ok I1 ea c2 h2 l ?_
    refine PySem.W.callWith_K (first := [.ref a]) (h₀ := X.base) I.ok.mod.kin h2.kp (thn (ha.run pos pins s1 σ H1 _ I1 q) fun us s2 ⟨vs, H2, I2, r, q2⟩ => ⟨I2.kIn, ?_⟩) hst hpl
    exact run_fnS (us := .ref a :: us) (vs := .ref a :: vs) F2 hr b2 (hx σ) I2 (.cons rfl r) q2
theorem pe_meth20 {pl : Sem Bool} (he : PE X o ta) (c1 : Cls X.K C1) (c2 : Cls X.K C2) (h1 : Meth X.K C1 m f1) (h2 : Meth X.K C2 m f2) (F1 : FnOk X.prog X.w X.K X.mg X.base CX k f1 fd1 ps1 sp1) (F2 : FnOk X.prog X.w X.K X.mg X.base CX k f2 fd2 ps2 sp2) (hr : Room k X.A)
    (b1 : Binds X.K fd1 ps1 []) (b2 : Binds X.K fd2 ps2 []) (hx : ∀ σ, PassesAt CX X σ (ES σ))
    (ht : eval (.Call (.Attribute o m apos) [] [] pos) X.env = (do
      let ov ← eval o X.env
      standAt apos.atName
      let (f, first) ← holding [ov] (getMethod ov m pl)
      callWith pos f first (backTo pos (starEach [] X.env)) (backToKw pos (keywordEach [] X.env))) := by rfl) :
    PE X (.Call (.Attribute o m apos) [] [] pos) (tMeth2 C1 C2 m sp1 sp2 ES ta tNil) := by
  refine ⟨fun pins s σ H Q I h => ?_⟩
  refine PySem.W.methodCall_KW (pl := pl) (thn (he.run pins s σ H _ I h) fun u s1 ⟨x, H1, I1, rx, q⟩ => ?_) ht
  rcases q with ⟨a, dx, fs, ex, ea, l, q⟩ | ⟨a, dx, fs, ex, ea, l, q⟩
  · subst ex
    obtain rfl : u = Value.ref a := rx
    refine getmeth_ok I1 ea c1 h1 l ?_
    exact PySem.W.callWith_K0 (first := [.ref a]) I1.kIn h1.kp (run_fnS (us := [.ref a]) (vs := [.ref a]) F1 hr b1 (hx σ) I1 (.cons rfl .nil) q)
  · subst ex
    obtain rfl : u = Value.ref a := rx
    refine getmeth_ok I1 ea c2 h2 l ?_
    exact PySem.W.callWith_K0 (first := [.ref a]) I1.kIn h2.kp (run_fnS (us := [.ref a]) (vs := [.ref a]) F2 hr b2 (hx σ) I1 (.cons rfl .nil) q)
def tProp2 (C1 C2 : Addr) (sp1 sp2 : Sp) (E : XK) (ta : TE) : TE := fun σ H Q => ta σ H fun x H1 => (∃ a dx fs, x = .ref a ∧ H1 a = some (.ins C1 dx fs) ∧ sp1 [.ref a] H1 Q E) ∨ (∃ a dx fs, x = .ref a ∧ H1 a = some (.ins C2 dx fs) ∧ sp2 [.ref a] H1 Q E)
theorem pe_prop2 (he : PE X e ta) (c1 : Cls X.K C1) (c2 : Cls X.K C2) (h1 : PropOf X.K C1 f p1 g1) (h2 : PropOf X.K C2 f p2 g2) (F1 : FnOk X.prog X.w X.K X.mg X.base CX k g1 fd1 ps1 sp1) (F2 : FnOk X.prog X.w X.K X.mg X.base CX k g2 fd2 ps2 sp2)
    (hr : Room (k + 1) X.A) (b1 : Binds X.K fd1 ps1 []) (b2 : Binds X.K fd2 ps2 []) (hx : Passes CX X.nox E)
    (hab : attributeBase e f X.env (eval e X.env) = eval e X.env) : PE X (.Attribute e f pos) (tProp2 C1 C2 sp1 sp2 E ta) := by
  refine ⟨fun pins s σ H Q I h => ?_⟩
  refine attr_of hab (thn (he.run pins s σ H _ I h) fun u s1 ⟨x, H1, I1, rx, q⟩ => ?_)
  rcases q with ⟨a, dx, fs, ex, ea, q⟩ | ⟨a, dx, fs, ex, ea, q⟩
  · subst ex
    obtain rfl : u = Value.ref a := rx
    exact getprop_ok I1 ea c1 h1 F1 hr b1 .nil hx q
  · subst ex
    obtain rfl : u = Value.ref a := rx
    exact getprop_ok I1 ea c2 h2 F2 hr b2 .nil hx q
end
end L2
namespace Vx
namespace Bk
open PySem PySem.Spec PyProof PyProof.Rows L2
/-- a method (property) of both classes, by value; it may tell the classes apart -/
structure MethB (P : Program) (w : World) (K : PySem.W.Frag) (mg : Str → Option Value) (base : Heap) (CB CS : Addr) (k : Nat) (name : Str) (m : Nat) (FB FC : FS) : Prop where
  ex : ∃ (f g : Addr) (fd gd : FuncData) (ps qs : List Str), Meth K CB name f ∧ FnOk P w K mg base CX0 k f fd ps (spV (thB CB CS) m FB) ∧ Binds K fd ps [] ∧ Meth K CS name g ∧ FnOk P w K mg base CX0 k g gd qs (spV (thB CB CS) m FC) ∧ Binds K gd qs []
structure PropB (P : Program) (w : World) (K : PySem.W.Frag) (mg : Str → Option Value) (base : Heap) (CB CS : Addr) (k : Nat) (name : Str) (F : FS) : Prop where
  ex : ∃ (p q f : Addr) (fd : FuncData) (ps : List Str), PropOf K CB name p f ∧ PropOf K CS name q f ∧ FnOk P w K mg base CX0 k f fd ps (spV (thB CB CS) 1 F) ∧ Binds K fd ps []
/-- such a method that may raise -/
structure MethX (P : Program) (w : World) (K : PySem.W.Frag) (mg : Str → Option Value) (base : Heap) (CB CS : Addr) (k : Nat) (name : Str) (m : Nat) (F : FX) : Prop where
  ex : ∃ (f : Addr) (fd : FuncData) (ps : List Str), Meth K CB name f ∧ Meth K CS name f ∧ FnOk P w K mg base (L2.CX P w) k f fd ps (spVX (thB CB CS) m F) ∧ Binds K fd ps []
/-- a name that is no attribute of a book's own -/
def NoFld (name : Str) : Prop := ∀ lim u v, (boFs lim u v).lookup name = none
theorem noFld {name : Str} (h : ((name == ("calls" : Str)) || (name == ("states" : Str)) || (name == ("greatest" : Str))) = false) : NoFld name := by
  simp only [Bool.or_eq_false_iff] at h
  intro lim u v
  cases lim <;> simp [boFs, List.lookup, h.1.1, h.1.2, h.2]
def pickB (b : Bo) (FB FC : FS) : FS := match b.1 with
  | none => FB
  | some _ => FC
def wMethB (m : Nat) (FB FC : FS) (fo : WE) (ga : WF) : WE := fun vs Q => fo vs fun lo vs1 => ∃ a b, lo = .sh (.row [[300, a]]) ∧ bk vs1.n a = some b ∧ ga vs1 fun los vs2 => los.length + 1 = m ∧ pickB b FB FC (.sh (.row [[300, a]]) :: los) vs2.n fun lo2 n' => Q lo2 { vs2 with n := n' }
def wPropB (F : FS) (fo : WE) : WE := fun vs Q => fo vs fun lo vs1 => ∃ a b, lo = .sh (.row [[300, a]]) ∧ bk vs1.n a = some b ∧ F [.sh (.row [[300, a]])] vs1.n fun lo2 n' => Q lo2 { vs1 with n := n' }
def wLenB (F : FS) (fo : WE) : WE := fun vs Q => fo vs fun lo vs1 => ∃ a b, lo = .sh (.row [[300, a]]) ∧ bk vs1.n a = some b ∧ F [.sh (.row [[300, a]])] vs1.n fun lo2 n' => ∃ j : Nat, lo2 = .sh (.int (j : Int)) ∧ j < 2 ^ 62 ∧ Q lo2 { vs1 with n := n' }
section
variable {CB CS : Addr} {X : Cx} {e o : Expr} {es : List Expr} {fa fo : WE} {ga : WF} {pos pos' p apos : Pos} {k m : Nat} {name : Str} {FB FC F : FS}
theorem ve_methB {pl : Sem Bool} (B : BkC X.K CB CS) (M : MethB X.prog X.w X.K X.mg X.base CB CS k name m FB FC) (hn : NoFld name) (hr : Room k X.A) (ho : VE (thB CB CS) X o fo) (ha : VF (thB CB CS) X (e :: es) ga)
    (hst : starEach (e :: es) X.env = (false, eval e X.env) :: starEach es X.env := by rfl) (hpl : (backTo pos (starEach es X.env)).any (·.1) = false := by rfl)
    (ht : eval (.Call (.Attribute o name apos) (e :: es) [] pos) X.env = (do
      let ov ← eval o X.env
      standAt apos.atName
      let (f, first) ← holding [ov] (getMethod ov name pl)
      callWith pos f first (backTo pos (starEach (e :: es) X.env)) (backToKw pos (keywordEach [] X.env))) := by rfl) :
    VE (thB CB CS) X (.Call (.Attribute o name apos) (e :: es) [] pos) (wMethB m FB FC fo ga) := by
  obtain ⟨f, g, fd, gd, ps, qs, h1, h2, h3, h4, h5, h6⟩ := M.ex
  refine .of (pe_meth2 (ES := fun _ => E0) (pl := pl) ho.pe B.cb B.cs h1 h4 h2 h5 hr h3 h6 (fun _ => fun _ _ _ _ _ _ h => h.elim) ha.pe hst hpl ht) fun W0 H0 W H O vs σ tm Q Q' hf R kk => ho.sn W0 H0 W H O vs σ tm _ _ hf R fun W1 H1 O1 vs1 x lo l1 ⟨a, b, e, hb, q⟩ R1 => ?_
  subst e
  have ex := Rel.isB R1.ok R1.top
  have ex' : x = .ref a := ex
  subst ex'
  obtain ⟨⟨dx, u, v, i1, _, _⟩, _⟩ := R1.ok.book hb
  have go : ∀ (F : FS), (ga vs1 fun los vs2 => los.length + 1 = m ∧ F (.sh (.row [[300, a]]) :: los) vs2.n fun lo2 n' => Q lo2 { vs2 with n := n' }) → tF (thB CB CS) ga σ H1 fun ws H2 => spV (thB CB CS) m F (.ref a :: ws) H2 Q' E0 := fun F q => by
    refine ha.sn W0 H0 W1 H1 O1 vs1 σ _ _ _ q R1 fun W2 H2 O2 vs2 ws los l2 ⟨hl, q2⟩ as R2 => ?_
    refine ⟨W2, vs2.n, .sh (.row [[300, a]]) :: los, _, by rw [List.length_cons, as.length]; exact hl, R2.ok, ⟨R2.top, as⟩, q2, fun lo2 n' W' H' v hp A r => ?_⟩
    obtain ⟨O', R'⟩ := R2.pop.ret A r
    exact kk W' H' O' _ v lo2 ((l1.trans l2).trans A.le) hp R'
  obtain ⟨lim, cs, ss⟩ := b
  cases lim with
  | none => exact .inl ⟨a, dx, _, rfl, i1, hn _ _ _, go FB q⟩
  | some z => exact .inr ⟨a, dx, _, rfl, i1, hn _ _ _, go FC q⟩
theorem ve_methB0 {pl : Sem Bool} (B : BkC X.K CB CS) (M : MethB X.prog X.w X.K X.mg X.base CB CS k name m FB FC) (hn : NoFld name) (hr : Room k X.A) (ho : VE (thB CB CS) X o fo)
    (ht : eval (.Call (.Attribute o name apos) [] [] pos) X.env = (do
      let ov ← eval o X.env
      standAt apos.atName
      let (f, first) ← holding [ov] (getMethod ov name pl)
      callWith pos f first (backTo pos (starEach [] X.env)) (backToKw pos (keywordEach [] X.env))) := by rfl) :
    VE (thB CB CS) X (.Call (.Attribute o name apos) [] [] pos) (wMethB m FB FC fo wFNil) := by
  obtain ⟨f, g, fd, gd, ps, qs, h1, h2, h3, h4, h5, h6⟩ := M.ex
  refine .of (pe_meth20 (ES := fun _ => E0) (pl := pl) ho.pe B.cb B.cs h1 h4 h2 h5 hr h3 h6 (fun _ => fun _ _ _ _ _ _ h => h.elim) ht) fun W0 H0 W H O vs σ tm Q Q' hf R kk => ho.sn W0 H0 W H O vs σ tm _ _ hf R fun W1 H1 O1 vs1 x lo l1 ⟨a, b, e, hb, q⟩ R1 => ?_
  subst e
  have ex' : x = .ref a := Rel.isB R1.ok R1.top
  subst ex'
  obtain ⟨⟨dx, u, v, i1, _, _⟩, _⟩ := R1.ok.book hb
  have go : ∀ (F : FS), (0 + 1 = m ∧ F [.sh (.row [[300, a]])] vs1.n fun lo2 n' => Q lo2 { vs1 with n := n' }) → spV (thB CB CS) m F [.ref a] H1 Q' E0 := fun F ⟨hl, q2⟩ => by
    refine ⟨W1, vs1.n, [.sh (.row [[300, a]])], _, hl, R1.ok, ⟨R1.top, trivial⟩, q2, fun lo2 n' W' H' v hp A r => ?_⟩
    obtain ⟨O', R'⟩ := R1.pop.ret A r
    exact kk W' H' O' _ v lo2 (l1.trans A.le) hp R'
  obtain ⟨lim, cs, ss⟩ := b
  cases lim with
  | none => exact .inl ⟨a, dx, _, rfl, i1, hn _ _ _, go FB q⟩
  | some z => exact .inr ⟨a, dx, _, rfl, i1, hn _ _ _, go FC q⟩
theorem ve_propB (B : BkC X.K CB CS) (M : PropB X.prog X.w X.K X.mg X.base CB CS k name F) (hr : Room (k + 1) X.A) (ho : VE (thB CB CS) X e fo) (hab : attributeBase e name X.env (eval e X.env) = eval e X.env := by rfl) : VE (thB CB CS) X (.Attribute e name pos) (wPropB F fo) := by
  obtain ⟨p, q, f, fd, ps, h1, h2, h3, h4⟩ := M.ex
  refine .of (pe_prop2 (E := E0) ho.pe B.cb B.cs h1 h2 h3 h3 hr h4 h4 pass0 hab) fun W0 H0 W H O vs σ tm Q Q' hf R kk => ho.sn W0 H0 W H O vs σ tm _ _ hf R fun W1 H1 O1 vs1 x lo l1 ⟨a, b, e, hb, q⟩ R1 => ?_
  subst e
  have ex' : x = .ref a := Rel.isB R1.ok R1.top
  subst ex'
  obtain ⟨⟨dx, u, v, i1, _, _⟩, _⟩ := R1.ok.book hb
  have go : spV (thB CB CS) 1 F [.ref a] H1 Q' E0 := by
    refine ⟨W1, vs1.n, [.sh (.row [[300, a]])], _, rfl, R1.ok, ⟨R1.top, trivial⟩, q, fun lo2 n' W' H' v hp A r => ?_⟩
    obtain ⟨O', R'⟩ := R1.pop.ret A r
    exact kk W' H' O' _ v lo2 (l1.trans A.le) hp R'
  obtain ⟨lim, cs, ss⟩ := b
  cases lim with
  | none => exact .inl ⟨a, dx, _, rfl, i1, go⟩
  | some z => exact .inr ⟨a, dx, _, rfl, i1, go⟩
theorem ve_lenB {p : Pos} (B : BkC X.K CB CS) (M : MethB X.prog X.w X.K X.mg X.base CB CS k "__len__" 1 F F) (hr : Room (k + 1) X.A) (hg : Gl X "len") (hm : X.mg "len" = none) (ho : VE (thB CB CS) X e fo) (hs : starEach [e] X.env = (false, eval e X.env) :: starEach [] X.env := by rfl) :
    VE (thB CB CS) X (.Call (.Name "len" p) [e] [] pos) (wLenB F fo) := by
  obtain ⟨f, g, fd, gd, ps, qs, h1, h2, h3, h4, h5, h6⟩ := M.ex
  refine .of (pe_callB (callR_or (call_lenI (E := E0) h1.at_ h1.fn h2 hr h3 pass0) (call_lenI (E := E0) h4.at_ h4.fn h5 hr h6 pass0)) hg hm PySem.boot_len (pa_cons ho.pe pa_nil hs) (by decide) (by decide) hs) fun W0 H0 W H O vs σ tm Q Q' hf R kk => ho.sn W0 H0 W H O vs σ tm _ _ hf R fun W1 H1 O1 vs1 x lo l1 ⟨a, b, e, hb, q⟩ R1 => ?_
  subst e
  have ex' : x = .ref a := Rel.isB R1.ok R1.top
  subst ex'
  obtain ⟨⟨dx, u, v, i1, _, _⟩, _⟩ := R1.ok.book hb
  have go : spV (thB CB CS) 1 F [.ref a] H1 (fun v H' => ∃ n : Nat, v = .int (n : Int) ∧ n < 2 ^ 62 ∧ Q' (.int (n : Int)) H') E0 := by
    refine ⟨W1, vs1.n, [.sh (.row [[300, a]])], _, rfl, R1.ok, ⟨R1.top, trivial⟩, q, fun lo2 n' W' H' v hp A r => ?_⟩
    obtain ⟨j, e2, hj, q2⟩ := hp
    subst e2
    have ev : v = .int (j : Int) := r
    obtain ⟨O', R'⟩ := R1.pop.ret A r
    subst ev
    exact ⟨j, rfl, hj, kk W' H' O' _ _ _ (l1.trans A.le) q2 R'⟩
  obtain ⟨lim, cs, ss⟩ := b
  cases lim with
  | none => exact .inl ⟨a, dx, _, rfl, i1, go⟩
  | some z => exact .inr ⟨a, dx, _, rfl, i1, go⟩
/-- an expression, its value dropped -/
def wDrop (fa : WE) : WS := fun vs D => fa vs fun _ vs1 => D.nx vs1
theorem vp_exprV (h : VE (thB CB CS) X e fa) (hs : swapsWith e none pos.line X.env = pure false := by rfl) : VP (thB CB CS) X (.Expr e pos) (wDrop fa) :=
  .of (ps_expr h.pe hs) fun W0 H0 W H O vs σ tm D D' nb hf R C => h.sn W0 H0 W H O vs σ tm _ _ hf R fun W1 H1 O1 vs1 v lo l1 q R1 => C.nx W1 H1 O1 vs1 σ l1 q R1.pop
end
end Bk
end Vx

set_option Elab.async false
set_option maxRecDepth 100000
set_option linter.all false
/-! t[lo:hi] of a tuple, not the whole. -/
namespace Vx
open PySem PySem.Spec PyProof.Rows L2
section
variable {T : Th} {X : Cx} {a : Expr} {fa : WE} {pos : Pos}
@[simp] def wSlT (f : WE) (lo hi : WO) : WE := fun vs Q => f vs fun x vs1 => lo vs1 fun l vs2 => hi vs2 fun u vs3 => match x with
  | .sh (.tup xs) => ¬ (HT.sIx xs.length 0 l = 0 ∧ HT.sIx xs.length xs.length u = xs.length) ∧ Q (.sh (.tup (cutD xs l u))) vs3
  | _ => False
theorem ve_sliceT {lo hi : Option Expr} {fl fh : WO} {p2 : Pos} (ha : VE T X a fa) (hl : VO T X lo fl) (hh : VO T X hi fh) : VE T X (.Subscript a (.Slice lo hi none p2) pos) (wSlT fa fl fh) :=
  .of (pe_slice sl_tup ha.pe hl.po hh.po) fun W0 H0 W H O vs σ tm Q Q' hf R k =>
    ha.sn W0 H0 W H O vs σ tm _ _ hf R fun W1 H1 O1 vs1 x lo1 l1 q1 R1 => hl.sn W0 H0 W1 H1 O1 vs1 σ _ _ _ q1 R1 fun W2 H2 O2 vs2 l l2 q2 R2 => hh.sn W0 H0 W2 H2 O2 vs2 σ _ _ _ q2 R2 fun W3 H3 O3 vs3 u l3 q3 R3 => by
      split at q3
      · rename_i xs
        obtain ⟨p, ws, ep, hs, rp⟩ := (show Rep W3 (.tup xs) x from R3.top)
        refine ⟨p, ws, ep, SqT.of (R3.Sget hs), ?_, fun q hq => ?_⟩
        · rw [rp.length]; exact q3.1
        · obtain ⟨W4, l4, rt, R4⟩ := R3.tup hq (rp.cut l u)
          exact k W4 _ _ vs3 _ _ (((l1.trans l2).trans l3).trans l4) q3.2 (R4.pop.push rt)
      · exact q3.elim
end
end Vx

set_option Elab.async false
set_option maxRecDepth 100000
set_option linter.all false
/-! Books' methods by value. -/
namespace Vx
namespace Bk
open PySem PySem.Spec PyProof.Rows L2
variable {n : Nat} {P : Lo → Nat → Prop} {los : List Lo}
theorem SetB.trans {n m k a : Nat} {x y : Bo} (h1 : SetB n m a x) (h2 : SetB m k a y) : SetB n k a y := by
  obtain ⟨p1, p2, p3, p4⟩ := h1
  obtain ⟨q1, q2, q3, q4⟩ := h2
  exact ⟨q1.trans p1, q2, q3, fun c hc => (q4 c hc).trans (p4 c hc)⟩
def lastW (b : Bo) : List (List Int) := b.2.2.getLast?.getD []
theorem lastW_at {b : Bo} (h : b.2.2 ≠ []) : atI (b.2.2.map wsT) (-1) = some (wsT (lastW b)) := by
  obtain ⟨x, e⟩ : ∃ x, b.2.2.getLast? = some x := ⟨_, List.getLast?_eq_some_getLast h⟩
  unfold lastW
  rw [e]
  have hl : 0 < b.2.2.length := List.length_pos_iff.mpr h
  have e2 : b.2.2[b.2.2.length - 1]? = some x := by rw [← List.getLast?_eq_getElem?]; exact e
  unfold atI
  rw [List.length_map]
  have e3 : ixN b.2.2.length (-1) = some (b.2.2.length - 1) := by
    unfold ixN
    simp
    omega
  rw [e3]
  show (b.2.2.map wsT)[b.2.2.length - 1]? = _
  rw [List.getElem?_map, e2]
  rfl
theorem w1_ap (g : G1) (f : WE) (vs : VS) (Q : Lo → VS → Prop) : w1 g f vs Q = f vs fun a vs1 => g a vs1 Q := rfl
theorem w2_ap' (g : G2) (f1 f2 : WE) (vs : VS) (Q : Lo → VS → Prop) : w2 g f1 f2 vs Q = f1 vs fun a vs1 => f2 vs1 fun b vs2 => g a b vs2 Q := rfl
def F_limN : FS := fun los n P => ∃ a r, los = [.sh (.row [[300, a]])] ∧ bk n a = some (none, r) ∧ P (.sh .non) n
def F_limS : FS := fun los n P => ∃ a m r, los = [.sh (.row [[300, a]])] ∧ bk n a = some (some m, r) ∧ P (.sh (.int m)) n
def F_lenB : FS := fun los n P => ∃ a b, los = [.sh (.row [[300, a]])] ∧ bk n a = some b ∧ b.2.2 ≠ [] ∧ P (.sh (.int ((lastW b).length : Nat))) n
def F_rulesB : FS := fun los n P => ∃ a b, los = [.sh (.row [[300, a]])] ∧ bk n a = some b ∧ b.2.2 ≠ [] ∧ (lastW b).length ≤ 1000 ∧ P (.ow ((lastW b).map wL)) n
def F_settle : FS := fun los n P => ∃ a b c ws, los = [.sh (.row [[300, a]]), .sh (clT c), .sh (wsT ws)] ∧ bk n a = some b ∧ b.2.1.length ≤ 1000 ∧ b.2.2.length ≤ 1000 ∧ ∀ m, SetB n m a (b.1, b.2.1 ++ [c], b.2.2 ++ [ws]) → P (.sh .non) m
def b_book_limit : WS := (wRet (wC .non))
def b_smallbook_limit : WS := (wRet (w1 gGreat (wN 0)))
def b_book_len : WS :=
  (wRet (w1 gLen (w2 gIx (w1 gStates (wN 0)) (w1 (gI1 fun i => -i) (wC (.int 1))))))
def b_book_rules : WS :=
  (wRet (wComp (wIA (w2 gIx (w1 gStates (wN 0)) (w1 (gI1 fun i => -i) (wC (.int 1))))) [1] (.name 1) wYes (w1 gList (wB 1))))
def b_book_settle : WS :=
  (wSeq (wSetCalls (wN 0) (wLst (wStar (w1 gCalls (wN 0)) (wCons (wN 1) wNil))))
    (wSetStates (wN 0) (wLst (wStar (w1 gStates (wN 0)) (wCons (wN 2) wNil)))))
theorem n_sh {i : Nat} {d : D} {vs : VS} {Q : Lo → VS → Prop} (h : vs.env[i]? = some (some (.sh d))) (q : Q (.sh d) vs) : wN i vs Q := by
  unfold wN
  rw [h]
  exact q
theorem b_sh {i : Nat} {d : D} {vs : VS} {Q : Lo → VS → Prop} (h : vs.env[i]? = some (some (.sh d))) (q : Q (.sh d) vs) : wB i vs Q := by
  unfold wB
  rw [h]
  exact q
/-- self.states[-1] -/
theorem last_go {i a : Nat} {b : Bo} {vs : VS} {Q : Lo → VS → Prop} (h : vs.env[i]? = some (some (.sh (.row [[300, a]])))) (hb : bk vs.n a = some b) (hs : b.2.2 ≠ []) (q : Q (.sh (wsT (lastW b))) vs) :
    w2 gIx (w1 gStates (wN i)) (w1 (gI1 fun i => -i) (wC (.int 1))) vs Q := by
  rw [w2_ap', w1_ap]
  refine n_sh h ⟨a, b, rfl, hb, ?_⟩
  show gIx (.sh (ssD b.2.2)) (.sh (.int (-1))) vs Q
  have e := lastW_at hs
  show (match atI (b.2.2.map wsT) (-1) with | some d => Q (.sh d) vs | none => False)
  rw [e]
  exact q
theorem lst_go {g : WA} {vs : VS} {Q : Lo → VS → Prop} (h : g vs fun ds vs1 => ds.length ≤ sizeLine ∧ Q (.ow ds) vs1) : wLst g vs Q := h
theorem tup_go {g : WA} {vs : VS} {Q : Lo → VS → Prop} (h : g vs fun ds vs1 => ds.length ≤ sizeLine ∧ Q (.sh (.tup ds)) vs1) : wTup g vs Q := h
theorem star_calls {i a : Nat} {b : Bo} {g : WA} {vs : VS} {Q : List D → VS → Prop} (h : vs.env[i]? = some (some (.sh (.row [[300, a]])))) (hb : bk vs.n a = some b) (q : g vs fun ds vs2 => Q (b.2.1.map clT ++ ds) vs2) : wStar (w1 gCalls (wN i)) g vs Q := by
  show w1 gCalls (wN i) vs _
  rw [w1_ap]
  exact n_sh h ⟨a, b, rfl, hb, q⟩
theorem star_states {i a : Nat} {b : Bo} {g : WA} {vs : VS} {Q : List D → VS → Prop} (h : vs.env[i]? = some (some (.sh (.row [[300, a]])))) (hb : bk vs.n a = some b) (q : g vs fun ds vs2 => Q (b.2.2.map wsT ++ ds) vs2) : wStar (w1 gStates (wN i)) g vs Q := by
  show w1 gStates (wN i) vs _
  rw [w1_ap]
  exact n_sh h ⟨a, b, rfl, hb, q⟩
theorem cons_n {i : Nat} {d : D} {g : WA} {vs : VS} {Q : List D → VS → Prop} (h : vs.env[i]? = some (some (.sh d))) (q : g vs fun ds vs2 => Q (d :: ds) vs2) : wCons (wN i) g vs Q := by
  show wN i vs _
  exact n_sh h q
theorem m_limN (h : F_limN los n P) : bodyF 1 b_book_limit los n P := by
  obtain ⟨a, r, e, hb, h⟩ := h
  subst e
  exact h
theorem m_limS (h : F_limS los n P) : bodyF 1 b_smallbook_limit los n P := by
  obtain ⟨a, m, r, e, hb, h⟩ := h
  subst e
  simp only [bodyF, b_smallbook_limit, wRet]
  rw [w1_ap]
  exact n_sh rfl ⟨a, m, r, rfl, hb, h⟩
theorem m_lenB (h : F_lenB los n P) : bodyF 1 b_book_len los n P := by
  obtain ⟨a, b, e, hb, hs, h⟩ := h
  subst e
  simp only [bodyF, b_book_len, wRet]
  rw [w1_ap]
  refine last_go rfl hb hs ?_
  show P (.sh (.int (((lastW b).map wT).length : Nat))) n
  rw [List.length_map]
  exact h
theorem m_rulesB (h : F_rulesB los n P) : bodyF 2 b_book_rules los n P := by
  obtain ⟨a, b, e, hb, hs, hl, h⟩ := h
  subst e
  simp only [bodyF, b_book_rules, wRet, wComp, wIA]
  refine last_go rfl hb hs ?_
  refine ⟨rfl, ?_⟩
  show wMapL [1] (.name 1) wYes (w1 gList (wB 1)) ((lastW b).map wT) ⟨[some (.sh (.row [[300, a]])), none], n⟩ [] _
  refine map_all (g := fun d => match d with | .tup xs => .lst xs | d => d) _ [] _ (by rw [List.length_map, sizeLine_eq]; simp; omega) (fun d hd Q' hq' => ?_) ?_
  · obtain ⟨w, _, e⟩ := List.mem_map.mp hd
    subst e
    exact hq' _ _ rfl rfl
  · rw [List.nil_append, List.map_map]
    exact h
theorem m_settle (h : F_settle los n P) : bodyF 3 b_book_settle los n P := by
  obtain ⟨a, b, c, ws, e, hb, l1, l2, h⟩ := h
  subst e
  simp only [bodyF, b_book_settle]
  rw [wSeq_ap]
  have sz : ∀ k, k ≤ 1001 → k ≤ sizeLine := fun k hk => by rw [sizeLine_eq]; omega
  refine lst_go ?_
  refine star_calls rfl hb ?_
  refine cons_n rfl ?_
  refine ⟨sz _ (by simp; omega), b.2.1 ++ [c], by simp [csD], ?_⟩
  refine n_sh (d := .row [[300, a]]) rfl ⟨a, b, rfl, hb, fun m hm => ?_⟩
  show wSetStates (wN 0) (wLst (wStar (w1 gStates (wN 0)) (wCons (wN 2) wNil))) ⟨[some (.sh (.row [[300, a]])), some (.sh (clT c)), some (.sh (wsT ws))], m⟩ _
  refine lst_go ?_
  refine star_states rfl hm.2.2.1 ?_
  refine cons_n rfl ?_
  refine ⟨sz _ (by simp; omega), b.2.2 ++ [ws], by simp [ssD], ?_⟩
  exact n_sh (d := .row [[300, a]]) rfl ⟨a, _, rfl, hm.2.2.1, fun k hk => h k (hm.trans hk)⟩
end Bk
end Vx

set_option Elab.async false
set_option maxRecDepth 100000
set_option linter.all false
/-! put, change, undo by value. -/
namespace Vx
namespace Bk
open PySem PySem.Spec PyProof.Rows L2
variable {n : Nat} {P : Lo → Nat → Prop} {los : List Lo} {G : XN} {CT CL CU : Addr}
def limD (lim : Option Int) : D := match lim with
  | none => .non
  | some m => .int m
def overB (b : Bo) : Bool := match b.1 with
  | none => false
  | some m => decide (m < ((lastW b).length : Int) + 1)
structure Sm (b : Bo) : Prop where
  ne : b.2.2 ≠ []
  cs : b.2.1.length ≤ 1000
  ss : b.2.2.length ≤ 1000
  ws : (lastW b).length ≤ 1000
def F_putX (CT : Addr) : FX := fun los n P G => ∃ a b w, los = [.sh (.row [[300, a]]), .sh (wL w)] ∧ bk n a = some b ∧ Sm b ∧ w.length ≤ 1000 ∧
  (overB b = true → G CT (.int (((lastW b).length : Int) + 1)) n) ∧ (overB b = false → ∀ m, SetB n m a (b.1, b.2.1 ++ [(none, w)], b.2.2 ++ [lastW b ++ [w]]) → P (.sh .non) m)
def F_changeX (CL : Addr) : FX := fun los n P G => ∃ a b l w, los = [.sh (.row [[300, a]]), .sh (.int l), .sh (wL w)] ∧ bk n a = some b ∧ Sm b ∧ w.length ≤ 1000 ∧
  (¬ (0 ≤ l ∧ l < (lastW b).length) → G CL (.int l) n) ∧ (0 ≤ l → l < (lastW b).length → ∀ m, SetB n m a (b.1, b.2.1 ++ [(some l, w)], b.2.2 ++ [(lastW b).set l.toNat w]) → P (.sh .non) m)
def F_undoX (CU : Addr) : FX := fun los n P G => ∃ a b, los = [.sh (.row [[300, a]])] ∧ bk n a = some b ∧ Sm b ∧
  (b.2.1 = [] → G CU (.int 0) n) ∧ (b.2.1 ≠ [] → ∀ m, SetB n m a (b.1, b.2.1.dropLast, b.2.2.dropLast) → P (.sh .non) m)
def b_put (CT : Addr) (G : XG) : WS :=
  (wSeq (wPar 2 3 (wMethB 1 F_limN F_limS (wN 0) wFNil) (w2 gAdd (wLenB F_lenB (wN 0)) (wC (.int 1))))
    (wSeq (wIf (wAnd (wTst (wIsN true (wB 2))) (wTst (w2 (gI0 fun i j => .bl (decide (j < i))) (wB 3) (wB 2))))
    (wRz G CT (wN 3))
    wSkip)
    (wDrop (wMethB 3 F_settle F_settle (wN 0) (wFCons (wTup (wCons (wC (.str "put")) (wCons (w1 gTuple (wB 1)) wNil))) (wFCons (wTup (wStar (w2 gIx (w1 gStates (wN 0)) (w1 (gI1 fun i => -i) (wC (.int 1)))) (wCons (w1 gTuple (wB 1)) wNil))) wFNil))))))
theorem szB {k : Nat} (h : k ≤ 3000) : k ≤ sizeLine := by rw [sizeLine_eq]; omega
theorem lim_go {i a : Nat} {b : Bo} {vs : VS} {Q : Lo → VS → Prop} (h : vs.env[i]? = some (some (.sh (.row [[300, a]])))) (hb : bk vs.n a = some b) (q : Q (.sh (limD b.1)) vs) : wMethB 1 F_limN F_limS (wN i) wFNil vs Q := by
  unfold wMethB
  refine n_sh h ⟨a, b, rfl, hb, rfl, ?_⟩
  obtain ⟨lim, r⟩ := b
  cases lim with
  | none => exact ⟨a, r, rfl, hb, q⟩
  | some m => exact ⟨a, m, r, rfl, hb, q⟩
theorem len_go {i a : Nat} {b : Bo} {vs : VS} {Q : Lo → VS → Prop} (h : vs.env[i]? = some (some (.sh (.row [[300, a]])))) (hb : bk vs.n a = some b) (sm : Sm b) (q : Q (.sh (.int ((lastW b).length : Nat))) vs) : wLenB F_lenB (wN i) vs Q := by
  unfold wLenB
  refine n_sh h ⟨a, b, rfl, hb, a, b, rfl, hb, sm.ne, _, rfl, ?_, q⟩
  have := sm.ws
  omega
theorem tup_w {i : Nat} {w : List Int} {vs : VS} {Q : Lo → VS → Prop} (h : vs.env[i]? = some (some (.sh (wL w)))) (q : Q (.sh (wT w)) vs) : w1 gTuple (wB i) vs Q := by
  rw [w1_ap]
  exact b_sh h q
theorem settle_go {i a : Nat} {b : Bo} {ga : WF} {c : Cl} {ws : List (List Int)} {vs : VS} {Q : Lo → VS → Prop} (h : vs.env[i]? = some (some (.sh (.row [[300, a]])))) (hb : bk vs.n a = some b) (sm : Sm b)
    (hga : ∀ Q2 : List Lo → VS → Prop, Q2 [.sh (clT c), .sh (wsT ws)] vs → ga vs Q2) (q : ∀ m, SetB vs.n m a (b.1, b.2.1 ++ [c], b.2.2 ++ [ws]) → Q (.sh .non) ⟨vs.env, m⟩) : wMethB 3 F_settle F_settle (wN i) ga vs Q := by
  unfold wMethB
  refine n_sh h ⟨a, b, rfl, hb, hga _ ⟨rfl, ?_⟩⟩
  have e : F_settle (.sh (.row [[300, a]]) :: [.sh (clT c), .sh (wsT ws)]) vs.n fun lo2 n' => Q lo2 ⟨vs.env, n'⟩ := ⟨a, b, c, ws, rfl, hb, sm.cs, sm.ss, q⟩
  have e2 : ∀ lim : Option Int, (match lim with | none => F_settle | some _ => F_settle) = F_settle := fun lim => by cases lim <;> rfl
  show (match b.1 with | none => F_settle | some _ => F_settle) _ _ _
  rw [e2]
  exact e
theorem isNon_lim (lim : Option Int) : (Lo.sh (limD lim)).isNon = lim.isNone := by cases lim <;> rfl
theorem m_putX (h : F_putX CT los n P G) : bodyX 4 (b_put CT) los n P G := by
  obtain ⟨a, b, w, e, hb, sm, hw, h1, h2⟩ := h
  subst e
  simp only [bodyX, b_put]
  rw [wSeq_ap]
  simp only [wPar]
  refine lim_go rfl hb ?_
  rw [w2_ap']
  refine len_go rfl hb sm ?_
  refine ⟨by show 2 < 4; decide, by show 3 < 4; decide, by trivial, by trivial, ?_⟩
  have hsz := sm.ws
  have fin : overB b = false → wDrop (wMethB 3 F_settle F_settle (wN 0) (wFCons (wTup (wCons (wC (.str "put")) (wCons (w1 gTuple (wB 1)) wNil))) (wFCons (wTup (wStar (w2 gIx (w1 gStates (wN 0)) (w1 (gI1 fun i => -i) (wC (.int 1)))) (wCons (w1 gTuple (wB 1)) wNil))) wFNil))) ⟨[some (.sh (.row [[300, a]])), some (.sh (wL w)), some (.sh (limD b.1)), some (.sh (.int (((lastW b).length : Nat) + 1)))], n⟩ ⟨fun vs => P (.sh .non) vs.n, P, fun _ => False, fun _ => False⟩ := fun ho => by
    unfold wDrop
    refine settle_go (c := (none, w)) (ws := lastW b ++ [w]) rfl hb sm (fun Q2 q2 => ?_) fun m hm => h2 ho m hm
    simp only [wFCons, wFNil]
    refine tup_go ?_
    simp only [wCons, wC, wNil, Lo.dat?]
    refine tup_w rfl ?_
    refine ⟨szB (by simp), ?_⟩
    refine tup_go ?_
    show w2 gIx (w1 gStates (wN 0)) (w1 (gI1 fun i => -i) (wC (.int 1))) _ _
    refine last_go rfl hb sm.ne ?_
    simp only [wCons, wNil]
    refine tup_w rfl ?_
    refine ⟨szB (by simp; omega), ?_⟩
    have e : wsT (lastW b ++ [w]) = .tup ((lastW b).map wT ++ [wT w]) := by simp [wsT]
    rw [e] at q2
    exact q2
  show wSeq _ _ ⟨[some (.sh (.row [[300, a]])), some (.sh (wL w)), some (.sh (limD b.1)), some (.sh (.int (((lastW b).length : Nat) + 1)))], n⟩ _
  rw [wSeq_ap]
  simp only [wIf, wAnd, wTst, wIsN]
  refine b_sh rfl ?_
  rw [isNon_lim]
  cases e : b.1 with
  | none =>
    have ho : overB b = false := by unfold overB; rw [e]
    simp only [Option.isNone_none, if_true, Bool.not_true, Bool.false_eq_true, if_false]
    rw [show ∀ (vs : VS) (D : EndsV), wSkip vs D = D.nx vs from fun _ _ => rfl]
    dsimp only
    have := fin ho
    rw [e] at this
    exact this
  | some m =>
    simp only [Option.isNone_some, if_true, Bool.not_false]
    rw [w2_ap']
    refine b_sh rfl ?_
    refine b_sh (d := limD (some m)) rfl ?_
    show (if decide (m < ((lastW b).length : Nat) + 1) = true then _ else _)
    by_cases hm : m < ((lastW b).length : Int) + 1
    · rw [if_pos (decide_eq_true hm)]
      have ho : overB b = true := by unfold overB; rw [e]; exact decide_eq_true hm
      unfold wRz
      exact n_sh rfl (h1 ho)
    · rw [if_neg (by simpa using hm)]
      have ho : overB b = false := by unfold overB; rw [e]; exact decide_eq_false hm
      rw [show ∀ (vs : VS) (D : EndsV), wSkip vs D = D.nx vs from fun _ _ => rfl]
      dsimp only
      have := fin ho
      rw [e] at this
      exact this
end Bk
end Vx

set_option Elab.async false
set_option maxRecDepth 100000
set_option linter.all false
/-! change and undo by value. -/
namespace Vx
namespace Bk
open PySem PySem.Spec PyProof.Rows L2
variable {n : Nat} {P : Lo → Nat → Prop} {los : List Lo} {G : XN} {CT CL CU : Addr}
def b_change (CL : Addr) (G : XG) : WS :=
 (wSeq (wSet 3 (w2 gIx (w1 gStates (wN 0)) (w1 (gI1 fun i => -i) (wC (.int 1)))))
   (wSeq (wIf (wNot (wChain (fun i j => decide (i ≤ j)) (fun i j => decide (i < j)) (wC (.int 0)) (wB 1) (w1 gLen (wB 3)))) (wRz G CL (wN 1)) wSkip)
   (wSeq (wSet 4 (wTup (wStar (wSlT (wB 3) wNoP (wPart (wN 1))) (wCons (w1 gTuple (wB 2)) (wStar (wSlT (wB 3) (wPart (w2 gAdd (wB 1) (wC (.int 1)))) wNoP) wNil)))))
   (wDrop (wMethB 3 F_settle F_settle (wN 0) (wFCons (wTup (wCons (wC (.str "change")) (wCons (wN 1) (wCons (w1 gTuple (wB 2)) wNil)))) (wFCons (wN 4) wFNil)))))))
def b_undo (CU : Addr) (G : XG) : WS :=
 (wSeq (wIf (wTst (w2 (gEq false) (w1 gCalls (wN 0)) (wLst wNil))) (wRz G CU (wC (.int 0))) wSkip)
  (wSeq (wSetCalls (wN 0) (wSl (w1 gCalls (wN 0)) wNoP (wPart (w1 (gI1 fun i => -i) (wC (.int 1))))))
    (wSetStates (wN 0) (wSl (w1 gStates (wN 0)) wNoP (wPart (w1 (gI1 fun i => -i) (wC (.int 1))))))))
theorem skip_ap (vs : VS) (D : EndsV) : wSkip vs D = D.nx vs := rfl
theorem set_cut (ws : List (List Int)) (l : Nat) (w : List Int) (hl : l < ws.length) :
    cutD (ws.map wT) none (some (l : Int)) ++ wT w :: (cutD (ws.map wT) (some ((l : Int) + 1)) none ++ []) = (ws.set l w).map wT := by
  have h1 : cutD (ws.map wT) none (some (l : Int)) = (ws.take l).map wT := by
    unfold cutD
    rw [HT.sIx_none, HT.sIx_nat, List.length_map]
    simp only [List.drop_zero, Nat.sub_zero]
    rw [Nat.min_eq_left (Nat.le_of_lt hl), List.map_take]
  have h2 : cutD (ws.map wT) (some ((l : Int) + 1)) none = (ws.drop (l + 1)).map wT := by
    unfold cutD
    have e : ((l : Int) + 1) = ((l + 1 : Nat) : Int) := by omega
    rw [e, HT.sIx_nat, HT.sIx_none, List.length_map, Nat.min_eq_left hl, List.map_drop]
    exact List.take_of_length_le (by simp)
  rw [h1, h2, List.append_nil, List.set_eq_take_append_cons_drop, if_pos hl]
  simp
theorem m_changeX (h : F_changeX CL los n P G) : bodyX 5 (b_change CL) los n P G := by
  obtain ⟨a, b, l, w, e, hb, sm, hw, h1, h2⟩ := h
  subst e
  simp only [bodyX, b_change]
  rw [wSeq_ap]
  simp only [wSet]
  refine last_go rfl hb sm.ne ?_
  refine ⟨by show 3 < 5; decide, by trivial, ?_⟩
  show wSeq _ _ ⟨[some (.sh (.row [[300, a]])), some (.sh (.int l)), some (.sh (wL w)), some (.sh (wsT (lastW b))), none], n⟩ _
  rw [wSeq_ap]
  have hlen : (((lastW b).map wT).length : Int) = ((lastW b).length : Int) := by rw [List.length_map]
  simp only [wIf, wNot, wChain, wC]
  refine b_sh (d := .int l) rfl ?_
  show (if decide ((0 : Int) ≤ l) = true then _ else _)
  by_cases h0 : (0 : Int) ≤ l
  · rw [if_pos (decide_eq_true h0)]
    rw [w1_ap]
    refine b_sh (d := wsT (lastW b)) rfl ?_
    show (if (!decide (l < (((lastW b).map wT).length : Nat))) = true then _ else _)
    rw [hlen]
    by_cases h3 : l < ((lastW b).length : Int)
    · rw [if_neg (by simpa using h3), skip_ap]
      obtain ⟨k, rfl⟩ : ∃ k : Nat, l = k := ⟨l.toNat, by omega⟩
      have hk : k < (lastW b).length := by omega
      have hsz := sm.ws
      dsimp only
      rw [wSeq_ap]
      simp only [wSet]
      refine tup_go ?_
      simp only [wStar, wSlT, wNoP, wPart]
      refine b_sh (d := wsT (lastW b)) rfl ?_
      refine n_sh (d := .int k) rfl ?_
      refine ⟨?_, ?_⟩
      · rw [HT.sIx_nat, List.length_map]
        omega
      simp only [wCons]
      refine tup_w rfl ?_
      simp only [Lo.dat?, wStar, wSlT, wNoP, wPart]
      refine b_sh (d := wsT (lastW b)) rfl ?_
      rw [w2_ap']
      refine b_sh (d := .int k) rfl ?_
      refine ⟨?_, ?_⟩
      · have e : ((k : Int) + 1) = ((k + 1 : Nat) : Int) := by omega
        show ¬ (HT.sIx ((lastW b).map wT).length 0 (some ((k : Int) + 1)) = 0 ∧ _)
        rw [e, HT.sIx_nat, List.length_map]
        omega
      refine ⟨?_, by show 4 < 5; decide, by trivial, ?_⟩
      · show (cutD ((lastW b).map wT) none (some (k : Int)) ++ wT w :: (cutD ((lastW b).map wT) (some ((k : Int) + 1)) none ++ [])).length ≤ _
        rw [set_cut _ _ _ hk, List.length_map, List.length_set]
        exact szB (by omega)
      show wDrop _ ⟨[some (.sh (.row [[300, a]])), some (.sh (.int k)), some (.sh (wL w)), some (.sh (wsT (lastW b))), some (.sh (.tup (cutD ((lastW b).map wT) none (some (k : Int)) ++ wT w :: (cutD ((lastW b).map wT) (some ((k : Int) + 1)) none ++ []))))], n⟩ _
      rw [set_cut _ _ _ hk]
      unfold wDrop
      refine settle_go (c := (some (k : Int), w)) (ws := (lastW b).set k w) rfl hb sm (fun Q2 q2 => ?_) fun m hm => h2 h0 h3 m hm
      simp only [wFCons, wFNil]
      refine tup_go ?_
      simp only [wCons, wC, wNil, Lo.dat?]
      refine n_sh (d := .int k) rfl ?_
      simp only []
      refine tup_w rfl ?_
      refine ⟨szB (by simp), ?_⟩
      exact n_sh (d := wsT ((lastW b).set k w)) rfl q2
    · rw [if_pos (by simpa using h3)]
      unfold wRz
      exact n_sh (d := .int l) rfl (h1 fun z => h3 z.2)
  · rw [if_neg (by simpa using h0)]
    show (if (!false) = true then _ else _)
    rw [if_pos (by decide : (!false) = true)]
    unfold wRz
    exact n_sh (d := .int l) rfl (h1 fun z => h0 z.1)
theorem strOk_put : PyData.strOk ("put" : Str) = true := by decide +kernel
theorem strOk_chg : PyData.strOk ("change" : Str) = true := by decide +kernel
theorem fits_ints (m : Nat) (w : List Int) : D.fits m (w.map D.int) = true := by
  induction w with
  | nil => cases m <;> rfl
  | cons a w ih => rw [List.map_cons]; unfold D.fits; rw [ih]; cases m <;> rfl
theorem fit_wT (m : Nat) (w : List Int) : D.fit (m + 1) (wT w) = true := fits_ints m w
theorem fit_wL (m : Nat) (w : List Int) : D.fit (m + 1) (wL w) = true := fits_ints m w
theorem fit_clT (m : Nat) (c : Cl) : D.fit (m + 2) (clT c) = true := by
  obtain ⟨l, w⟩ := c
  have h := fit_wT m w
  cases l with
  | none => simp [clT, D.fit, D.fits, strOk_put, h]
  | some l => simp [clT, D.fit, D.fits, strOk_chg, h]
theorem fit_csD (m : Nat) (cs : List Cl) : D.fit (m + 3) (csD cs) = true := by
  show D.fits (m + 2) (cs.map clT) = true
  induction cs with
  | nil => rfl
  | cons c cs ih => rw [List.map_cons]; unfold D.fits; rw [ih, fit_clT]; rfl
theorem eqv_nilB (l : List D) : D.eqv (.lst l) (.lst []) = decide (l = []) := by
  cases l with
  | nil => simp [D.eqv, D.py, D.pys, PyData.eqv, PyData.eqvAll]
  | cons d l => simp [D.eqv, D.py, D.pys, PyData.eqv, PyData.eqvAll]
theorem cut_lastM {α : Type} (f : α → D) (l : List α) : cutD (l.map f) none (some (-1)) = l.dropLast.map f := by
  rw [cut_init, List.map_dropLast]
theorem calls_go {i a : Nat} {b : Bo} {vs : VS} {Q : Lo → VS → Prop} (h : vs.env[i]? = some (some (.sh (.row [[300, a]])))) (hb : bk vs.n a = some b) (q : Q (.sh (csD b.2.1)) vs) : w1 gCalls (wN i) vs Q := by
  rw [w1_ap]
  exact n_sh h ⟨a, b, rfl, hb, q⟩
theorem states_go {i a : Nat} {b : Bo} {vs : VS} {Q : Lo → VS → Prop} (h : vs.env[i]? = some (some (.sh (.row [[300, a]])))) (hb : bk vs.n a = some b) (q : Q (.sh (ssD b.2.2)) vs) : w1 gStates (wN i) vs Q := by
  rw [w1_ap]
  exact n_sh h ⟨a, b, rfl, hb, q⟩
theorem m_undoX (h : F_undoX CU los n P G) : bodyX 1 (b_undo CU) los n P G := by
  obtain ⟨a, b, e, hb, sm, h1, h2⟩ := h
  subst e
  simp only [bodyX, b_undo]
  rw [wSeq_ap]
  simp only [wIf, wTst]
  rw [w2_ap']
  refine calls_go rfl hb ?_
  refine ⟨szB (by simp), ?_⟩
  refine ⟨fit_csD 57 _, rfl, ?_⟩
  show (if D.eqv (csD b.2.1) (.lst []) = true then _ else _)
  have e0 : D.eqv (csD b.2.1) (.lst []) = decide (b.2.1 = []) := by
    show D.eqv (.lst (b.2.1.map clT)) (.lst []) = _
    rw [eqv_nilB]
    simp
  rw [e0]
  by_cases hc : b.2.1 = []
  · rw [if_pos (decide_eq_true hc)]
    exact h1 hc
  · rw [if_neg (by simpa using hc), skip_ap]
    dsimp only
    rw [wSeq_ap]
    unfold wSetCalls
    simp only [wSl, wNoP, wPart]
    refine calls_go rfl hb ?_
    refine ⟨b.2.1.dropLast, ?_, ?_⟩
    · show some (D.lst (cutD (b.2.1.map clT) none (some (-1)))) = _
      rw [cut_lastM]; rfl
    refine n_sh (d := .row [[300, a]]) rfl ⟨a, b, rfl, hb, fun m hm => ?_⟩
    unfold wSetStates
    simp only [wSl, wNoP, wPart]
    refine states_go (b := (b.1, b.2.1.dropLast, b.2.2)) rfl hm.2.2.1 ?_
    refine ⟨b.2.2.dropLast, ?_, ?_⟩
    · show some (D.lst (cutD (b.2.2.map wsT) none (some (-1)))) = _
      rw [cut_lastM]; rfl
    exact n_sh (d := .row [[300, a]]) rfl ⟨a, _, rfl, hm.2.2.1, fun k hk => h2 hc k (hm.trans hk)⟩
end Bk
end Vx

set_option Elab.async false
set_option maxRecDepth 100000
set_option linter.all false
/-! A new book. -/
namespace Vx
namespace Bk
open PySem PySem.Spec PyProof PyProof.Rows L2
structure FreshB (H : Hp) (x p t q : Addr) : Prop where
  hx : H x = none
  hp : H p = none
  ht : H t = none
  hq : H q = none
  xp : x ≠ p
  xt : x ≠ t
  xq : x ≠ q
  pt : p ≠ t
  pq : p ≠ q
  tq : t ≠ q
def newW (W : Wd) (x p t q : Addr) : Wd := ⟨fun b => if b = p then some (.lst []) else if b = t then some (.tup []) else if b = q then some (.lst [.ref t]) else W.S b, fun b => if b = x then some [[300, x]] else W.R b,
  fun b => W.D b ∨ b = p ∨ b = t ∨ b = q ∨ b = x, W.P, W.I⟩
section
variable {CB CS : Addr} {W0 W : Wd} {H0 H H' : Hp} {O : Addr → Option Ow} {vs : VS} {σ : L2.St} {tm : List (V × Lo)} {n : Nat}
theorem _root_.Vx.WOk.newB {x p t q dx : Addr} {lim : Option Int} {m : Nat} (ok : WOk (thB CB CS) W H n) (F : FreshB H x p t q) (k : ∀ b o, H b = some o → H' b = some o)
    (ex : H' x = some (.ins (boC CB CS lim) dx (boFs lim (.ref p) (.ref q)))) (ep : H' p = some (.lst [])) (et : H' t = some (.tup [])) (eq : H' q = some (.lst [.ref t])) (hm : SetB n m x (lim, [], [[]])) :
    After (thB CB CS) W H (newW W x p t q) H' m := by
  have nD : ∀ b, H b = none → ¬ W.D b := fun b hb hd => by
    obtain ⟨o, e⟩ := ok.d b hd
    rw [hb] at e; cases e
  have nS : ∀ b o, W.S b = some o → b ≠ p ∧ b ≠ t ∧ b ≠ q := fun b o e => by
    have h := (ok.s b o e).1
    exact ⟨ne_of_none h F.hp, ne_of_none h F.ht, ne_of_none h F.hq⟩
  have sS : ∀ b o, W.S b = some o → (newW W x p t q).S b = some o := fun b o e => by
    obtain ⟨h1, h2, h3⟩ := nS b o e
    show (if b = p then _ else if b = t then _ else if b = q then _ else W.S b) = _
    rw [if_neg h1, if_neg h2, if_neg h3]; exact e
  have sp : (newW W x p t q).S p = some (.lst []) := if_pos rfl
  have st : (newW W x p t q).S t = some (.tup []) := by
    show (if t = p then _ else if t = t then _ else _) = _
    rw [if_neg (Ne.symm F.pt), if_pos rfl]
  have sq : (newW W x p t q).S q = some (.lst [.ref t]) := by
    show (if q = p then _ else if q = t then _ else if q = q then _ else _) = _
    rw [if_neg (Ne.symm F.pq), if_neg (Ne.symm F.tq), if_pos rfl]
  have sinv : ∀ b o, (newW W x p t q).S b = some o → (b = p ∧ o = .lst []) ∨ (b = t ∧ o = .tup []) ∨ (b = q ∧ o = .lst [.ref t]) ∨ W.S b = some o := fun b o e => by
    have e' : (if b = p then some (HO.lst []) else if b = t then some (HO.tup []) else if b = q then some (HO.lst [.ref t]) else W.S b) = some o := e
    by_cases h1 : b = p
    · rw [if_pos h1] at e'; exact .inl ⟨h1, (Option.some.inj e').symm⟩
    rw [if_neg h1] at e'
    by_cases h2 : b = t
    · rw [if_pos h2] at e'; exact .inr (.inl ⟨h2, (Option.some.inj e').symm⟩)
    rw [if_neg h2] at e'
    by_cases h3 : b = q
    · rw [if_pos h3] at e'; exact .inr (.inr (.inl ⟨h3, (Option.some.inj e').symm⟩))
    rw [if_neg h3] at e'
    exact .inr (.inr (.inr e'))
  have rinv : ∀ b r, (newW W x p t q).R b = some r → (b = x ∧ r = [[300, x]]) ∨ W.R b = some r := fun b r e => by
    have e' : (if b = x then some [[300, x]] else W.R b) = some r := e
    by_cases h1 : b = x
    · rw [if_pos h1] at e'; exact .inl ⟨h1, (Option.some.inj e').symm⟩
    · rw [if_neg h1] at e'; exact .inr e'
  have nP : ∀ b, H b = none → b ≠ W.P := fun b hb z => nD b hb (z ▸ ok.pd)
  have le : Le W (newW W x p t q) := by
    refine ⟨sS, fun b r e => ?_, fun b e => .inl e, rfl, fun _ _ e => e, fun b o e => ?_, fun b r e => ?_⟩
    · show (if b = x then _ else W.R b) = _
      rw [if_neg (fun (z : b = x) => nD x F.hx (z ▸ (ok.r b r e).2.1))]; exact e
    · rcases sinv b o e with ⟨rfl, _⟩ | ⟨rfl, _⟩ | ⟨rfl, _⟩ | e
      · exact .inr (.inl (nD _ F.hp))
      · exact .inr (.inl (nD _ F.ht))
      · exact .inr (.inl (nD _ F.hq))
      · exact .inl e
    · rcases rinv b r e with ⟨rfl, _⟩ | e
      · exact .inr (nD _ F.hx)
      · exact .inl e
  have eqD : ∀ b, W.D b → H' b = H b := fun b hb => by
    obtain ⟨o, e⟩ := ok.d b hb
    rw [e, k b o e]
  have dx' : ∀ b, b = p ∨ b = t ∨ b = q ∨ b = x → H b = none := fun b h => by
    rcases h with rfl | rfl | rfl | rfl
    · exact F.hp
    · exact F.ht
    · exact F.hq
    · exact F.hx
  refine ⟨le, ⟨fun b o e => ?_, fun b r e => ?_, fun b e => ?_, .inl ok.pd, fun b c e => .inl (ok.i b c e), ?_⟩, fun b o _ e => k b o e, fun b e => e.imp id (dx' b), True.intro⟩
  · rcases sinv b o e with ⟨rfl, rfl⟩ | ⟨rfl, rfl⟩ | ⟨rfl, rfl⟩ | e
    · exact ⟨ep, .inl (.inr (.inl rfl)), nP _ F.hp⟩
    · exact ⟨et, .inl (.inr (.inr (.inl rfl))), nP _ F.ht⟩
    · exact ⟨eq, .inl (.inr (.inr (.inr (.inl rfl)))), nP _ F.hq⟩
    · obtain ⟨h1, h2, h3⟩ := ok.s b o e
      exact ⟨k b o h1, h2.imp .inl id, h3⟩
  · rcases rinv b r e with ⟨rfl, rfl⟩ | e
    · exact ⟨⟨.inr (.inr (.inr (.inr rfl))), nP _ F.hx, rfl⟩, .inr (.inr (.inr (.inr rfl))), nP _ F.hx⟩
    · obtain ⟨⟨_, _, h1⟩, h2, h3⟩ := ok.r b r e
      exact ⟨⟨.inl h2, h3, h1⟩, .inl h2, h3⟩
  · rcases e with e | e
    · rw [eqD b e]; exact ok.d b e
    · rcases e with rfl | rfl | rfl | rfl
      · exact ⟨_, ep⟩
      · exact ⟨_, et⟩
      · exact ⟨_, eq⟩
      · exact ⟨_, ex⟩
  · obtain ⟨a, b, c, e, ⟨p1, p2, p3, p4⟩, g⟩ := ok.p
    refine ⟨a, b, c, k _ _ e, ⟨p1, p2, p3, ?_⟩, fun z bo hz => ?_⟩
    · have p4' : c ≤ (((gam n).1 : Nat) : Int) := p4
      show c ≤ (((gam m).1 : Nat) : Int)
      rw [hm.1]; exact p4'
    · by_cases hzx : z = x
      · subst hzx
        obtain rfl := hm.2.1 bo hz
        refine ⟨⟨dx, .ref p, .ref q, ex, ⟨p, [], rfl, sp, RepL.nil⟩, ⟨q, [.ref t], rfl, sq, RepL.cons ⟨t, [], rfl, st, RepL.nil⟩ RepL.nil⟩⟩, .inr (.inr (.inr (.inr rfl))), nP _ F.hx, fun o e => ?_, if_pos rfl⟩
        rcases sinv z o e with ⟨h, _⟩ | ⟨_, h⟩ | ⟨h, _⟩ | e
        · exact absurd h F.xp
        · exact ⟨_, h⟩
        · exact absurd h F.xq
        · have := (ok.s z o e).1
          rw [F.hx] at this; cases this
      · have hz' : bk n z = some bo := by rw [← hm.2.2.2 z hzx]; exact hz
        have B := g z bo hz'
        exact B.mono le (eqD z B.gov)
end
end Bk
end Vx

set_option Elab.async false
set_option maxRecDepth 100000
set_option linter.all false
/-! super().__init__() of an own class, then more; a new Book, a new SmallBook. -/
namespace L2
open PySem PySem.Spec PyProof.Rows
section
open PySem.W
/-- def __init__(self, x): super().__init__(); more.. -/
def spSup (C : Addr) (sp0 : Sp) (ts : TS) : Sp := fun vs H Q _ => ∃ (x dx : Addr) (v : V), vs = [.ref x, v] ∧ H x = some (.ins C dx []) ∧
  sp0 [.ref x] H (fun u H2 => u = .non ∧ ts { nx := fun _ H' => Q .non H', rt := Q } [some (.ref x), some v, none] H2) E0
theorem fn_supI {CX : CXT} {P : Program} {w : World} {K : Frag} {mg : Str → Option Value} {base : Heap} {k : Nat} {fI D C f0 cc cda : Addr} {fd0 : FuncData} {name qual : Str} {params : Arguments} {body rest : List Stmt} {scope : Scope} {dV kV doc pm ct oc ccl cl : Value} {an od cdd cld : Option Addr} {osl ccs csl : Array (Option Value)} {vs0 : Array Value} {file : Str} {tf : Tok} {cdD : ClassData} {ar : Arg} {p0 p1 p2 p4 p5 : Pos} {sp0 : Sp} {ts : XK → TS} {y : Str}
    (lk : K.lookup fI = some ⟨oc, od, .func (ksFn name qual params body scope dV kV doc pm an (.ref cda) ct cc), osl⟩) (hcd : codeIn K (.ref cda) qual = true)
    (hcode : K.lookup cda = some ⟨ccl, cdd, .fields vs0, ccs⟩) (hvs : vs0[2]? = some (.str file tf)) (hfile : ((P.main.file : Str) == file) = true)
    (hcell : K.lookup cc = some ⟨cl, cld, .cell (some (.ref D)), csl⟩) (hD : clsIn K D = some cdD) (hms : mg "super" = none) (hst : nsIn K cStatics "thirdparty.any" = some none)
    (hsub : mroIn K C (.ref D) = some true) (hsup : ks_superIn K C D "__init__" = some (some (.ref f0))) (ht0 : typeIn K (.ref f0) = some (.type "function")) (hf0 : fnIn K f0 = true)
    (F0 : FnOk P w K mg base CX0 k f0 fd0 ["self"] sp0) (hb0 : Binds K fd0 ["self"] [])
    (hpar : (params.posonlyargs ++ params.args).head? = some ar) (har : ar.arg = "self") (S : NdefX.NScope ["self", y, "__class__"] ["self", y] ["__class__"] scope)
    (hks : scope.names.lookup ("super" : Str) = some .globalImplicit) (htop : (P.main.scope.names.lookup ("super" : Str)).isSome = false) (hbs : bootBuiltins "super" = some (.type "super"))
    {pl : Addr → Sem Bool} (he : ∀ L, eval (.Call (.Attribute (.Call (.Name "super" p0) [] [] p1) "__init__" p2) [] [] p4) (ksEnv qual scope L fI (.ref cda) cc) = (do
      let ov ← attributeBase (.Call (.Name "super" p0) [] [] p1) "__init__" (ksEnv qual scope L fI (.ref cda) cc) (eval (.Call (.Name "super" p0) [] [] p1) (ksEnv qual scope L fI (.ref cda) cc))
      standAt p2.atName
      let (f, first) ← holding [ov] (getMethod ov "__init__" (pl L))
      callWith p4 f first (backTo p4 (starEach [] (ksEnv qual scope L fI (.ref cda) cc))) []))
    (hbody : body = .Expr (.Call (.Attribute (.Call (.Name "super" p0) [] [] p1) "__init__" p2) [] [] p4) p5 :: rest)
    (hrest : ∀ (A : Around) (outer : List Env) (s : Shared) (H : Hp) (E : XK), Room (k + 1) (A.deeper (ksEnv qual scope s.heap.objs.size fI (.ref cda) cc)) → PSs (NdefX.ncx CX P w K mg base ["self", y, "__class__"] ⟨name, qual, params, [], scope, [("__class__", cc)], cda⟩ fI A outer s H E) rest (ts E)) :
    FnOk P w K mg base CX (k + 2) fI (ksFn name qual params body scope dV kV doc pm an (.ref cda) ct cc) ["self", y] (fun vs H Q E => spSup C sp0 (ts E) vs H Q E) := by
  refine ⟨fun vs H Q E ⟨a, dx, v, e, _⟩ => by rw [e]; rfl, fun A outer s H args us vs Q E hr e0 hb r hsp => ?_⟩
  obtain ⟨a, dx, v, rfl, ha, hq⟩ := hsp
  have KX : K.In s.heap := e0.mod.kin.keeps fun b o e => (e0.bs b o e).1
  have lim : s.heap.NoLimit := e0.mod.nolimit.keeps fun b o e => (e0.bs b o e).1
  obtain ⟨mb, hmb1, hmb2⟩ := e0.mod.blt
  obtain ⟨u, rfl, rv⟩ : ∃ u, us = [.ref a, u] ∧ RelV v u := by
    cases r with
    | @cons _ u0 _ ur ra rw' =>
      obtain rfl : u0 = Value.ref a := ra
      cases rw' with
      | @cons _ u1 _ ur2 rb rz =>
        cases rz
        exact ⟨u1, rfl, rb⟩
  have CA : NdefX.CellsAt [("__class__", cc)] ["__class__"] [none] s.heap H := by
    refine ⟨rfl, fun y c e => ?_, fun x y c e1 e2 => ?_, fun i y e => ?_⟩
    · have ec : c = cc := by
        simp only [List.lookup] at e
        split at e
        · cases e; rfl
        · cases e
      subst ec
      exact ⟨(e0.bs _ _ (e0.mod.kin _ _ hcell)).2, _, _, KX _ _ hcell, rfl⟩
    · have ex : ∀ z, List.lookup z [(("__class__" : Str), cc)] = some c → z = "__class__" := fun z e => by
        simp only [List.lookup] at e
        split at e
        · rename_i h
          exact eq_of_beq h
        · cases e
      rw [ex x e1, ex y e2]
    · cases i with
      | zero =>
        cases e
        exact ⟨cc, rfl, fun v z => by cases z⟩
      | succ i => cases e
  refine ks_codeAny_call_defAt (fd := ksFn name qual params body scope dV kV doc pm an (.ref cda) ct cc) (body := body) (binds := (["self", y] : List Str).zip [.ref a, u]) hr.depth (KX _ _ lk) rfl lim (codeRec_of KX hcd) rfl hb S.nocell (fun y hy => S.par _ (List.of_mem_zip hy).1) (fun h₀ hns kp => ?_) S.co S.gen S.kind
  have I0 := NdefX.inv_startN (CX := CX) (E := E) (F := ⟨name, qual, params, [], scope, [("__class__", cc)], cda⟩) (f := fI) (tk := s.toks + 2) S hr.hd e0 rfl r CA hns kp
  have R := hrest A outer s H E (hr.deeper _)
  subst hbody
  have X0 : K.In h₀ := KX.keeps kp
  have s1 : (fun x => ((["self", y] : List Str).zip [Value.ref a, u]).reverse.lookup x) ("self" : Str) = some (.ref a) := by
    have hnd : (["self", y] : List Str).Nodup := by
      have h := S.nd
      simp only [List.nodup_cons, List.mem_cons, List.not_mem_nil, or_false, not_or] at h ⊢
      exact ⟨h.1.1, by simp, by simp⟩
    exact NdefX.zip_look (i := 0) hnd rfl rfl
  have lself : scope.names.lookup ("self" : Str) = some .local := S.par _ (by simp)
  have lcls : scope.names.lookup ("__class__" : Str) = some .free := S.frk _ (by simp)
  have gk : ∀ b o, base.get? b = some o → h₀.get? b = some o := fun b o e => kp b o (e0.bs b o e).1
  show PySem.wpAt (model P w) (A.deeper (ksEnv qual scope s.heap.objs.size fI (.ref cda) cc)) (.func _ (ksEnv qual scope s.heap.objs.size fI (.ref cda) cc)) (execs _ (ksEnv qual scope s.heap.objs.size fI (.ref cda) cc)) _ _ _
  refine ks_wpAt_execs_cons ?_
  have hin : interactive (ksEnv qual scope s.heap.objs.size fI (.ref cda) cc) = false := by
    have hk := S.kind
    simp [interactive, ksEnv, envX, hk]
  refine ks_wpAt_Expr_any ?_ hin rfl
  refine ks_wpAt_MethodCall ?_ (he _)
  have J0 : Inv _ [] _ H _ := I0
  obtain ⟨mA, O, _, _, _, _⟩ := ins_get J0.hok ha
  obtain ⟨oda, JA, _⟩ := O.look
  refine node_super (s := ⟨h₀, _, _, _, _⟩) X0 hns (e0.mod.glob.keeps gk) (hmb1.keeps gk) hms ((hmb2 _ (by decide)).trans hbs) lk hpar (by rw [har]; exact s1) JA hcode hvs hfile hcell hD hsub (by decide) hks lcls (by rw [har]; exact lself) S.kind htop ?_
  intro h1 k1 hso
  have X1 : K.In h1 := X0.keeps k1
  obtain ⟨cdC, hc⟩ : ∃ cd, clsIn K C = some cd := by
    unfold ks_superIn at hsup
    cases e : clsIn K C with
    | none => rw [e] at hsup; cases hsup
    | some cd => exact ⟨cd, rfl⟩
  have hsup2 := hsup
  unfold ks_superIn at hsup2
  rw [hc] at hsup2
  obtain ⟨of, hof, hofc⟩ : ∃ of, h1.get? f0 = some of ∧ of.cls = .type "function" := by
    have ht' : (K.lookup f0).map (·.cls) = some (.type "function") := ht0
    cases z : K.lookup f0 with
    | none => rw [z] at ht'; cases ht'
    | some of => rw [z] at ht'; exact ⟨of, X1 _ _ z, Option.some.inj ht'⟩
  have J1 : Inv _ [] _ H _ := (I0.kept (t' := s.toks + 2) (h' := h1) fun b o e => k1 _ _ e)
  obtain ⟨mA1, O1, _, _, _, _⟩ := ins_get J1.hok ha
  obtain ⟨oda1, JA1, _⟩ := O1.look
  refine ks_wpAny_getMethod_super hso (looks_opaque X1 hst) (l₀ := cdC.mro) (fun A Q E s k q => wpAny_bind ((looks_clsIn X1 hc) A _ E s k (wpAny_pure q))) rfl X1 hsup2 hof hofc (ks_ne X1 JA1 hc) (by decide) ?_
  dsimp only
  have k2 : ∀ b o, h1.get? b = some o → (h1.push { cls := .type "method", data := .fields #[.ref f0, .ref a] }).get? b = some o := fun b o e => Heap.get?_push_of_some _ e
  have hmw : (h1.push { cls := .type "method", data := .fields #[.ref f0, .ref a] }).get? h1.objs.size = some { cls := .type "method", data := .fields #[.ref f0, .ref a] } := Heap.get?_push_size _ rfl
  have J2 : Inv _ [] _ H _ := (J1.kept (t' := s.toks + 2 + 1) (h' := h1.push { cls := .type "method", data := .fields #[.ref f0, .ref a] }) fun b o e => k2 _ _ e)
  refine callWith_M0 (g := f0) (self := .ref a) ⟨hmw, X1.keeps k2⟩ hf0 ?_
  have hrA : Room k (A.deeper (ksEnv qual scope s.heap.objs.size fI (.ref cda) cc)) := (hr.deeper _).mono (Nat.le_succ k)
  refine wpAny_call (ks_codeAny_call_bound hmw (codeAny_mono (F0.run _ _ _ H ⟨[.ref a], []⟩ [.ref a] [.ref a] _ E0 hrA J2.env0 (hb0 _ [.ref a] J2.kIn (by rfl)) (.cons rfl .nil) hq) fun r s' hq' => ?_))
  cases r with
  | error er => exact hq'.elim
  | ok fl =>
    cases fl with
    | ret u2 =>
      obtain ⟨v2, H3, J3, _, _, q3⟩ := J2.after hq'
      refine wpAt_of_wpAny (wpAny_mono (R.run [] _ _ H3 { nx := fun _ H' => Q .non H', rt := Q } J3 q3) (fun fl s' hs => ?_) (fun e s' hs => hs))
      cases fl with
      | next =>
        obtain ⟨σ', H', J, q⟩ := hs
        exact ⟨.non, H', J.os, J.bare, J.base, J.hok, rfl, q⟩
      | ret u =>
        obtain ⟨v', σ', H', J, rv', q⟩ := hs
        exact ⟨v', H', J.os, J.bare, J.base, J.hok, rv', q⟩
      | brk =>
        obtain ⟨_, _, _, q⟩ := hs
        exact False.elim q
      | cont =>
        obtain ⟨_, _, _, q⟩ := hs
        exact False.elim q
    | next => exact False.elim hq'
    | brk => exact False.elim hq'
    | cont => exact False.elim hq'
end
end L2

set_option Elab.async false
set_option maxRecDepth 100000
set_option linter.all false
/-! Book(), SmallBook(..). -/
namespace Vx
namespace Bk
open PySem PySem.Spec PyProof PyProof.Rows L2
structure FreshI (H : Hp) (p t q : Addr) : Prop where
  hp : H p = none
  ht : H t = none
  hq : H q = none
  pt : p ≠ t
  pq : p ≠ q
  tq : t ≠ q
/-- the heap behind Book.__init__ -/
def heapB (H : Hp) (x C dx p t q : Addr) : Hp :=
  upd (upd (upd (upd (upd H p (.lst [])) x (.ins C dx [("calls", .ref p)])) t (.tup [])) q (.lst [.ref t])) x (.ins C dx [("calls", .ref p), ("states", .ref q)])
def spBI (CB CS : Addr) : Sp := fun vs H Q _ => ∃ x C dx, vs = [.ref x] ∧ (C = CB ∨ C = CS) ∧ H x = some (.ins C dx []) ∧ ∀ p t q, FreshI H p t q → Q .non (heapB H x C dx p t q)
theorem BkC.any {K : PySem.W.Frag} {CB CS C : Addr} (B : BkC K CB CS) (h : C = CB ∨ C = CS) : Cls K C ∧ NoAttr K C "calls" ∧ NoAttr K C "states" := by
  rcases h with rfl | rfl
  · exact ⟨B.cb, B.n1, B.n2⟩
  · exact ⟨B.cs, B.m1, B.m2⟩
theorem putC (v : V) : putF "calls" v [] = [(("calls" : Str), v)] := rfl
theorem putS (u v : V) : putF "states" v [(("calls" : Str), u)] = [(("calls" : Str), u), ("states", v)] := by
  show (if ("calls" : Str) = "states" then _ else (("calls" : Str), u) :: putF "states" v []) = _
  rw [if_neg (by decide +kernel)]; rfl
theorem putG (u v x : V) : putF "greatest" x [(("calls" : Str), u), ("states", v)] = [(("calls" : Str), u), ("states", v), ("greatest", x)] := by
  show (if ("calls" : Str) = "greatest" then _ else (("calls" : Str), u) :: (if ("states" : Str) = "greatest" then _ else (("states" : Str), v) :: putF "greatest" x [])) = _
  rw [if_neg (by decide +kernel), if_neg (by decide +kernel)]; rfl
/-- what Book.__init__ does -/
def tBI (K : PySem.W.Frag) : TS := tSeq (sFld K (tVar 0) (tLst tNil) "calls") (sFld K (tVar 0) (tLst (tCons (tTup tNil) tNil)) "states")
theorem bi_read {K : PySem.W.Frag} {CB CS x C dx : Addr} {H : Hp} {D : Ends} {σ : L2.St} (B : BkC K CB CS) (hC : C = CB ∨ C = CS) (hσ : σ[0]? = some (some (.ref x))) (hx : H x = some (.ins C dx [])) (k : ∀ p t q, FreshI H p t q → D.nx σ (heapB H x C dx p t q)) : tBI K D σ H := by
  obtain ⟨c1, c2, c3⟩ := B.any hC
  have z0 : (0 : Nat) ≤ sizeLine := Nat.zero_le _
  refine ⟨z0, fun p hp => ⟨.ref x, hσ, x, C, dx, [], rfl, ?_, c1, c2, by decide, ?_⟩⟩
  · rw [upd_ne (ne_of_none hx hp)]; exact hx
  rw [putC]
  refine ⟨z0, fun t ht => ⟨by rw [sizeLine_eq]; show 1 ≤ _; decide, fun q hq => ⟨.ref x, hσ, x, C, dx, [("calls", .ref p)], rfl, ?_, c1, c3, by show 1 < 1000; decide, ?_⟩⟩⟩
  · have n1 : x ≠ t := fun z => by rw [← z, upd_same] at ht; cases ht
    have n2 : x ≠ q := fun z => by
      rw [← z, upd_ne n1, upd_same] at hq; cases hq
    rw [upd_ne n2, upd_ne n1, upd_same]
  rw [putS]
  have n1 : t ≠ x := fun z => by rw [z, upd_same] at ht; cases ht
  have n2 : q ≠ x := fun z => by
    have h : (upd (upd (upd H p (.lst [])) x (.ins C dx [("calls", .ref p)])) t (.tup [])) x ≠ none := by
      rw [upd_ne (Ne.symm n1), upd_same]; simp
    rw [z] at hq
    exact h hq
  have t1 : t ≠ p := fun z => by
    rw [upd_ne n1, z, upd_same] at ht; cases ht
  have q1 : q ≠ t := fun z => by rw [z, upd_same] at hq; cases hq
  have q2 : q ≠ p := fun z => by
    rw [upd_ne q1, upd_ne n2, z, upd_same] at hq; cases hq
  refine k p t q ⟨hp, ?_, ?_, Ne.symm t1, Ne.symm q2, Ne.symm q1⟩
  · rw [upd_ne n1, upd_ne t1] at ht; exact ht
  · rw [upd_ne q1, upd_ne n2, upd_ne q2] at hq; exact hq
/-- behind Book.__init__, in SmallBook.__init__ -/
def tSR (K : PySem.W.Frag) (CN : Addr) (E : XK) : TS :=
  tSeq (tIfS (tTest (tOp (rI0 fun i j => .bl (decide (i < j))) (tVar 1) (tC (.int 0)))) (fun _ σ H => tErr CN (tCons (tVar 1) tNil) σ H fun cls d H' => E cls d H') tNext) (sFld K (tVar 0) (tVar 1) "greatest")
end Bk
end Vx

set_option Elab.async false
set_option maxRecDepth 100000
set_option linter.all false
/-! Making objects where the making may raise; expressions that may raise, by value. -/
namespace L2
open PySem PySem.Spec PyProof PyProof.Rows
section
variable {X : Cx} {CX : CXT} {k n : Nat} {f C : Addr} {fd : FuncData} {ps ks : List Str} {sp : Sp} {E : St → XK} {x : Str} {p pos : Pos} {e : Expr} {es : List Expr} {kws : List Keyword} {t tk : TA} {g : List Value → List Value → List Value} {gV : List V → List V → List V}
theorem run_makeS {pins : List (Addr × Obj)} {σ : St} {H : Hp} {s : Shared} {Q : VK} {us : List Value} {vs : List V} (M : Mk X.K C f) (F : FnOk X.prog X.w X.K X.mg X.base CX k f fd ps sp) (hr : Room (k + 1) X.A) (hb : Binds X.K fd ps [])
    (hx : PassesAt CX X σ (E σ)) (I : Inv X pins σ H s) (r : Vals vs us)
    (h : ∀ x dx, H x = none → H dx = none → dx ≠ x → sp (.ref x :: vs) (upd (upd H dx (.own x)) x (.ins C dx [])) (fun v H2 => v = .non ∧ Q (.ref x) H2) (E σ)) :
    wpAny (model X.prog X.w) X.A (call (.ref C) us) (EP X pins σ Q) X.xe s := by
  have hq := h (s.heap.objs.size + 1) s.heap.objs.size (I.hok.fresh (Nat.le_succ _)) (I.hok.fresh (Nat.le_refl _)) (Nat.ne_of_lt (Nat.lt_succ_self _))
  have I2 := Inv.made (C := C) I
  have r2 : Vals (V.ref (s.heap.objs.size + 1) :: vs) (Value.ref (s.heap.objs.size + 1) :: us) := .cons rfl r
  have hl : (Value.ref (s.heap.objs.size + 1) :: us).length = ps.length := by
    have e := r2.length
    rw [F.len _ _ _ _ hq] at e
    exact e.symm
  have b := hb _ (Value.ref (s.heap.objs.size + 1) :: us) I2.kIn (by rw [List.append_nil]; exact hl)
  rw [List.append_nil] at b
  refine wpAny_call (make_map (f := f) I.kIn M.makes M.init (beq_iff_eq.mp M.fn) (codeAny_mono (F.run _ X.stack _ _ ⟨Value.ref (s.heap.objs.size + 1) :: us, []⟩ (Value.ref (s.heap.objs.size + 1) :: us) _ _ (E σ) (hr.make C us [])
    (I2.env0.make C us []) b r2 hq) fun r s' hq' => ?_))
  cases r with
  | error e => exact hx pins _ _ e s' I2 hq'
  | ok fl =>
    cases fl with
    | ret u =>
      obtain ⟨v, H', I3, rv, ev, q3⟩ := I2.after hq'
      subst ev
      exact ⟨rv, ⟨V.ref (s.heap.objs.size + 1), H', I3, rfl, q3⟩⟩
    | next => exact False.elim hq'
    | brk => exact False.elim hq'
    | cont => exact False.elim hq'
def tMakeS (C : Addr) (sp : Sp) (E : St → XK) (t : TA) : TE := fun σ H Q => t σ H fun vs H1 => ∀ x dx, H1 x = none → H1 dx = none → dx ≠ x → sp (.ref x :: vs) (upd (upd H1 dx (.own x)) x (.ins C dx [])) (fun v H2 => v = .non ∧ Q (.ref x) H2) (E σ)
theorem pe_makeS (M : Mk X.K C f) (F : FnOk X.prog X.w X.K X.mg X.base CX k f fd ps sp) (hr : Room (k + 1) X.A) (hg : Gl X x) (hm : X.mg x = some (.ref C)) (hb : Binds X.K fd ps []) (hx : ∀ σ, PassesAt CX X σ (E σ))
    (ha : PA X (e :: es) t) (hdb : (x == ("__debug__" : Str)) = false := by decide) (he : starEach (e :: es) X.env = (false, eval e X.env) :: starEach es X.env := by rfl) (hpl : (backTo pos (starEach es X.env)).any (·.1) = false := by rfl) :
    PE X (.Call (.Name x p) (e :: es) [] pos) (tMakeS C sp E t) := by
  refine ⟨fun pins s σ H Q I h => ?_⟩
  refine wpAny_Call_Name_kw (ld_glob I hg hm ?_ hdb)
  refine PySem.W.callWith_K (h₀ := X.base) I.ok.mod.kin M.kp (thn (ha.run pos pins s σ H _ I h) fun us s1 ⟨vs, H1, I1, r, q⟩ => ⟨I1.kIn, ?_⟩) he hpl
  exact run_makeS M F hr hb (hx σ) I1 r q
theorem run_makeKS {pins : List (Addr × Obj)} {σ : St} {H : Hp} {s : Shared} {Q : VK} {us ws : List Value} {vs zs : List V} (M : Mk X.K C f) (F : FnOk X.prog X.w X.K X.mg X.base CX k f fd ps sp) (hr : Room (k + 1) X.A) (hb : KBn X.K fd ps (n + 1) ks g gV) (hx : PassesAt CX X σ (E σ))
    (I : Inv X pins σ H s) (r : Vals vs us) (rz : Vals zs ws) (l1 : vs.length = n) (l2 : zs.length = ks.length)
    (h : ∀ x dx, H x = none → H dx = none → dx ≠ x → sp (gV (.ref x :: vs) zs) (upd (upd H dx (.own x)) x (.ins C dx [])) (fun v H2 => v = .non ∧ Q (.ref x) H2) (E σ)) :
    wpAny (model X.prog X.w) X.A (call (.ref C) us (ks.zip ws)) (EP X pins σ Q) X.xe s := by
  have hq := h (s.heap.objs.size + 1) s.heap.objs.size (I.hok.fresh (Nat.le_succ _)) (I.hok.fresh (Nat.le_refl _)) (Nat.ne_of_lt (Nat.lt_succ_self _))
  have I2 := Inv.made (C := C) I
  have r1 : Vals (V.ref (s.heap.objs.size + 1) :: vs) (Value.ref (s.heap.objs.size + 1) :: us) := .cons rfl r
  have r2 := hb.rel r1 rz
  have n1 : (Value.ref (s.heap.objs.size + 1) :: us).length = n + 1 := by
    rw [List.length_cons, ← r.length, l1]
  refine wpAny_call (make_map (f := f) I.kIn M.makes M.init (beq_iff_eq.mp M.fn) (codeAny_mono (F.run _ X.stack _ _ ⟨Value.ref (s.heap.objs.size + 1) :: us, ks.zip ws⟩ (g (Value.ref (s.heap.objs.size + 1) :: us) ws) _ _ (E σ) (hr.make C us (ks.zip ws))
    (I2.env0.make C us (ks.zip ws)) (hb.to _ (Value.ref (s.heap.objs.size + 1) :: us) ws I2.kIn n1 (rz.length.symm.trans l2)) r2 hq) fun r s' hq' => ?_))
  cases r with
  | error e => exact hx pins _ _ e s' I2 hq'
  | ok fl =>
    cases fl with
    | ret u =>
      obtain ⟨v, H', I3, rv, ev, q3⟩ := I2.after hq'
      subst ev
      exact ⟨rv, ⟨V.ref (s.heap.objs.size + 1), H', I3, rfl, q3⟩⟩
    | next => exact False.elim hq'
    | brk => exact False.elim hq'
    | cont => exact False.elim hq'
def tMakeKS (C : Addr) (m : Nat) (sp : Sp) (gV : List V → List V → List V) (E : St → XK) (tk : TA) : TE := fun σ H Q => tk σ H fun zs H2 => zs.length = m ∧ ∀ x dx, H2 x = none → H2 dx = none → dx ≠ x →
  sp (gV [.ref x] zs) (upd (upd H2 dx (.own x)) x (.ins C dx [])) (fun v H3 => v = .non ∧ Q (.ref x) H3) (E σ)
theorem pe_makeKS (M : Mk X.K C f) (F : FnOk X.prog X.w X.K X.mg X.base CX k f fd ps sp) (hr : Room (k + 1) X.A) (hg : Gl X x) (hm : X.mg x = some (.ref C)) (hb : KBn X.K fd ps 1 ks g gV) (hx : ∀ σ, PassesAt CX X σ (E σ)) (hkw : PK X kws tk)
    (hall : (backToKw pos (keywordEach kws X.env)).all (·.1.isSome) = true := by rfl) (hks : (backToKw pos (keywordEach kws X.env)).filterMap (·.1) = ks := by rfl) (hdb : (x == ("__debug__" : Str)) = false := by decide)
    (hpl : ((backTo pos (starEach [] X.env)).any (·.1) || (backToKw pos (keywordEach kws X.env)).any (·.1.isNone)) = false := by rfl) :
    PE X (.Call (.Name x p) [] kws pos) (tMakeKS C ks.length sp gV E tk) := by
  refine ⟨fun pins s σ H Q I h => ?_⟩
  refine wpAny_Call_Name_kw (ld_glob I hg hm ?_ hdb)
  refine PySem.W.callWith_KW0 (h₀ := X.base) I.ok.mod.kin M.kp hall ?_ hpl
  refine thn (hkw.run pos pins s σ H _ I h) fun ws s2 ⟨zs, H2, I2, rz, l2, q2⟩ => ⟨I2.kIn, ?_⟩
  rw [hks]
  exact run_makeKS (us := []) (vs := []) M F hr hb (hx σ) I2 .nil rz rfl l2 q2
end
end L2

namespace Vx
namespace Bk
open PySem PySem.Spec PyProof PyProof.Rows L2
/-- an expression within the world W0, H0 (what it may raise is told in f) -/
def tEX (T : Th) (W0 : Wd) (H0 : Hp) (Wb : Wd) (tm : List (V × Lo)) (f : WE) : TE := fun σ H Q' => ∃ (W : Wd) (O : Addr → Option Ow) (vs : VS) (Q : Lo → VS → Prop), Le Wb W ∧ f vs Q ∧ Rel T W0 H0 W H O vs σ tm ∧
  ∀ W' H' O' vs' v lo, Le W W' → Q lo vs' → Rel T W0 H0 W' H' O' vs' σ ((v, lo) :: tm) → Q' v H'
structure VEX (T : Th) (X : Cx) (W0 : Wd) (H0 : Hp) (Wb : Wd) (tm : List (V × Lo)) (e : Expr) (f : WE) : Prop where
  pe : PE X e (tEX T W0 H0 Wb tm f)
section
variable {T : Th} {X : Cx} {W0 Wb : Wd} {H0 : Hp} {tm : List (V × Lo)} {e a b c : Expr} {f fa fb : WE} {ga : WT} {pos pos' : Pos} {G : XG} {Wx : WX}
theorem VEX.of {t : TE} (h : PE X e t) (s : ∀ W H O vs σ Q Q', Le Wb W → f vs Q → Rel T W0 H0 W H O vs σ tm → (∀ W' H' O' vs' v lo, Le W W' → Q lo vs' → Rel T W0 H0 W' H' O' vs' σ ((v, lo) :: tm) → Q' v H') → t σ H Q') : VEX T X W0 H0 Wb tm e f :=
  ⟨⟨fun pins s0 σ H Q' I ⟨W, O, vs, Q, l, hf, R, k⟩ => h.run pins s0 σ H Q' I (s W H O vs σ Q Q' l hf R k)⟩⟩
theorem vex_of (h : VE T X.nox e f) : VEX T X W0 H0 Wb tm e f := .of h.pe.nox fun W H O vs σ Q Q' _ hf R k => ⟨W0, H0, W, O, vs, tm, Q, hf, R, k⟩
theorem vex_if (hc : VT T X.nox c ga) (ha : VEX T X W0 H0 Wb tm a fa) (hb : VEX T X W0 H0 Wb tm b fb) : VEX T X W0 H0 Wb tm (.IfExp c a b pos) (wIfE ga fa fb) :=
  .of (pe_ifExp hc.pe.nox ha.pe hb.pe) fun W H O vs σ Q Q' l hf R k => hc.sn W0 H0 W H O vs σ tm _ _ hf R fun W1 H1 O1 vs1 d l1 q1 R1 => by
    cases d with
    | true => exact ⟨W1, O1, vs1, Q, l.trans l1, q1, R1, fun W2 H2 O2 vs2 v2 lo2 l2 q2 R2 => k W2 H2 O2 vs2 v2 lo2 (l1.trans l2) q2 R2⟩
    | false => exact ⟨W1, O1, vs1, Q, l.trans l1, q1, R1, fun W2 H2 O2 vs2 v2 lo2 l2 q2 R2 => k W2 H2 O2 vs2 v2 lo2 (l1.trans l2) q2 R2⟩
theorem vq_retX (h : VEX T X W0 H0 Wb tm e f) : VQ T X W0 H0 Wb tm (.Return (some e) pos) (wRet f) :=
  .of (ps_ret h.pe) fun W H O vs σ D D' l hf R C => ⟨W, O, vs, _, l, hf, R, fun W1 H1 O1 vs1 v lo l1 q1 R1 => by
    cases lo with
    | sh d => exact C.rt W1 H1 v _ vs1.n q1 ⟨R1.after, R1.top⟩
    | ow xs =>
      obtain ⟨p, ws, e, ho, hd, h0, hp, r⟩ := R1.top
      exact C.rt W1 H1 v _ vs1.n q1 ⟨R1.after, p, ws, e, hd, h0, hp, r⟩
    | bo xs => exact q1.2.elim
    | dct kvs => exact q1.elim
    | fx a d => exact q1.elim
    | oo p qs xss => exact q1.elim
    | pool => exact C.rt W1 H1 v _ vs1.n q1 ⟨R1.after, R1.top⟩⟩
def wDropX (fa : WE) : WS := fun vs D => fa vs fun _ vs1 => D.nx vs1
theorem vq_exprX (h : VEX T X W0 H0 Wb tm e f) (hs : swapsWith e none pos.line X.env = pure false := by rfl) : VQ T X W0 H0 Wb tm (.Expr e pos) (wDropX f) :=
  .of (ps_expr h.pe hs) fun W H O vs σ D D' l hf R C => ⟨W, O, vs, _, l, hf, R, fun W1 H1 O1 vs1 v lo l1 q1 R1 => C.nx W1 H1 O1 vs1 σ l1 q1 R1.pop⟩
end
end Bk
end Vx

set_option Elab.async false
set_option maxRecDepth 100000
set_option linter.all false
/-! Book(), SmallBook(..), methods that may raise: as expressions, by value. -/
namespace L2
open PySem PySem.Spec PyProof PyProof.Rows
section
variable {X : Cx} {CX : CXT} {k : Nat} {f C : Addr} {fd : FuncData} {ps : List Str} {sp : Sp} {E : St → XK} {x : Str} {p pos : Pos}
def tMake0S (C : Addr) (sp : Sp) (E : St → XK) : TE := fun σ H Q => ∀ x dx, H x = none → H dx = none → dx ≠ x → sp [.ref x] (upd (upd H dx (.own x)) x (.ins C dx [])) (fun v H2 => v = .non ∧ Q (.ref x) H2) (E σ)
theorem pe_make0S (M : Mk X.K C f) (F : FnOk X.prog X.w X.K X.mg X.base CX k f fd ps sp) (hr : Room (k + 1) X.A) (hg : Gl X x) (hm : X.mg x = some (.ref C)) (hb : Binds X.K fd ps []) (hx : ∀ σ, PassesAt CX X σ (E σ))
    (hdb : (x == ("__debug__" : Str)) = false := by decide) : PE X (.Call (.Name x p) [] [] pos) (tMake0S C sp E) := by
  refine ⟨fun pins s σ H Q I h => ?_⟩
  refine wpAny_Call_Name_kw (ld_glob I hg hm ?_ hdb)
  exact PySem.W.callWith_K0 (first := []) I.kIn M.kp (run_makeS (us := []) (vs := []) M F hr hb (hx σ) I .nil h)
end
end L2
namespace Vx
namespace Bk
open PySem PySem.Spec PyProof PyProof.Rows L2
section
variable {H H' : Hp} {x C dx p t q b : Addr}
theorem h0x_none (ne : dx ≠ x) (h : upd (upd H dx (.own x)) x (.ins C dx []) b = none) : b ≠ x ∧ b ≠ dx ∧ H b = none := by
  have h1 : b ≠ x := fun z => by rw [z, upd_same] at h; cases h
  rw [upd_ne h1] at h
  have h2 : b ≠ dx := fun z => by rw [z, upd_same] at h; cases h
  rw [upd_ne h2] at h
  exact ⟨h1, h2, h⟩
theorem freshB (hx : H x = none) (ne : dx ≠ x) (F : FreshI (upd (upd H dx (.own x)) x (.ins C dx [])) p t q) : FreshB H x p t q := by
  obtain ⟨p1, p2, p3⟩ := h0x_none ne F.hp
  obtain ⟨t1, t2, t3⟩ := h0x_none ne F.ht
  obtain ⟨q1, q2, q3⟩ := h0x_none ne F.hq
  exact ⟨hx, p3, t3, q3, Ne.symm p1, Ne.symm t1, Ne.symm q1, F.pt, F.pq, F.tq⟩
theorem heapB_keep (hx : H x = none) (hdx : H dx = none) (ne : dx ≠ x) (F : FreshI (upd (upd H dx (.own x)) x (.ins C dx [])) p t q) : ∀ b o, H b = some o → heapB (upd (upd H dx (.own x)) x (.ins C dx [])) x C dx p t q b = some o := fun b o e => by
  obtain B := freshB hx ne F
  have nx : b ≠ x := ne_of_none e hx
  have nd : b ≠ dx := ne_of_none e hdx
  have np : b ≠ p := ne_of_none e B.hp
  have nt : b ≠ t := ne_of_none e B.ht
  have nq : b ≠ q := ne_of_none e B.hq
  unfold heapB
  rw [upd_ne nx, upd_ne nq, upd_ne nt, upd_ne nx, upd_ne np, upd_ne nx, upd_ne nd]
  exact e
theorem heapB_x : heapB H x C dx p t q x = some (.ins C dx [("calls", .ref p), ("states", .ref q)]) := upd_same
theorem heapB_p (F : FreshB H' x p t q) : heapB H x C dx p t q p = some (.lst []) := by
  unfold heapB
  rw [upd_ne (Ne.symm F.xp), upd_ne F.pq, upd_ne F.pt, upd_ne (Ne.symm F.xp), upd_same]
theorem heapB_t (F : FreshB H' x p t q) : heapB H x C dx p t q t = some (.tup []) := by
  unfold heapB
  rw [upd_ne (Ne.symm F.xt), upd_ne F.tq, upd_same]
theorem heapB_q (F : FreshB H' x p t q) : heapB H x C dx p t q q = some (.lst [.ref t]) := by
  unfold heapB
  rw [upd_ne (Ne.symm F.xq), upd_same]
end
/-- what SmallBook.__init__ does -/
def spSI (CS CN : Addr) : Sp := fun vs H Q E => ∃ x dx m, vs = [.ref x, .int m] ∧ H x = some (.ins CS dx []) ∧ ∀ p t q, FreshI H p t q →
  (m < 0 → ∀ d, heapB H x CS dx p t q d = none → E (.ref CN) (some d) (upd (heapB H x CS dx p t q) d (.xd [("value", .int m)]))) ∧
  (¬ m < 0 → Q .non (upd (heapB H x CS dx p t q) x (.ins CS dx [("calls", .ref p), ("states", .ref q), ("greatest", .int m)])))
theorem sm_read {K : PySem.W.Frag} {CB CS CN : Addr} {vs : List V} {H : Hp} {Q : L2.VK} {E : XK} (B : BkC K CB CS) (h : spSI CS CN vs H Q E) : spSup CS (spBI CB CS) (tSR K CN E) vs H Q E := by
  obtain ⟨x, dx, m, e, hx, h⟩ := h
  subst e
  refine ⟨x, dx, .int m, rfl, hx, x, CS, dx, rfl, .inr rfl, hx, fun p t q F => ⟨rfl, ?_⟩⟩
  obtain ⟨h1, h2⟩ := h p t q F
  refine ⟨.int m, rfl, m, 0, rfl, rfl, _, rfl, ?_⟩
  dsimp only
  by_cases hm : m < 0
  · rw [if_pos (decide_eq_true hm)]
    exact ⟨.int m, rfl, .int m, rfl, fun d hd => h1 hm d hd⟩
  · rw [if_neg (by simpa using hm)]
    refine ⟨.int m, rfl, .ref x, rfl, x, CS, dx, _, rfl, heapB_x, B.cs, B.m3, by show 2 < 1000; decide, ?_⟩
    rw [putG]
    exact h2 hm
section
variable {CB CS CN : Addr} {X : Cx} {W0 W Wb : Wd} {H0 H H' : Hp} {O : Addr → Option Ow} {vs : VS} {σ : L2.St} {tm : List (V × Lo)} {n : Nat} {e o : Expr} {es : List Expr} {fa fo : WE} {ga : WF} {G : XG} {Wx : WX} {x : Str} {p pos apos : Pos} {k m : Nat} {name : Str} {F : FX}
theorem bk_none {a : Addr} (ok : WOk (thB CB CS) W H n) (h : H a = none) : bk n a = none := by
  cases e : bk n a with
  | none => rfl
  | some b =>
    obtain ⟨⟨dx, u, v, h1, _⟩, _⟩ := ok.book e
    rw [h] at h1; cases h1
theorem Rel.bookMade {lim : Option Int} {x dx p t q : Addr} (R : Rel (thB CB CS) W0 H0 W H O vs σ tm) (F : FreshB H x p t q) (k : ∀ b o, H b = some o → H' b = some o)
    (ex : H' x = some (.ins (boC CB CS lim) dx (boFs lim (.ref p) (.ref q)))) (ep : H' p = some (.lst [])) (et : H' t = some (.tup [])) (eq : H' q = some (.lst [.ref t])) :
    ∃ m, SetB vs.n m x (lim, [], [[]]) ∧ Le W (newW W x p t q) ∧ Rel (thB CB CS) W0 H0 (newW W x p t q) H' O { vs with n := m } σ ((.ref x, .sh (.row [[300, x]])) :: tm) := by
  obtain ⟨m, hm⟩ := setB_ex vs.n x (lim, [], [[]])
  have A := R.ok.newB F k ex ep et eq hm
  exact ⟨m, hm, A.le, (R.over A.le A.ok A.frame A.grow.1 A.grow.2).push ⟨x, rfl, if_pos rfl⟩⟩
/-- Book() -/
structure NewB (P : Program) (w : World) (K : PySem.W.Frag) (mg : Str → Option Value) (base : Heap) (CB CS : Addr) (k : Nat) : Prop where
  ex : ∃ f fd ps, Mk K CB f ∧ FnOk P w K mg base CX0 k f fd ps (spBI CB CS) ∧ Binds K fd ps []
/-- SmallBook(x), SmallBook(most=x) -/
structure NewS (P : Program) (w : World) (K : PySem.W.Frag) (mg : Str → Option Value) (base : Heap) (CS CN : Addr) (k : Nat) : Prop where
  ex : ∃ f fd ps, Mk K CS f ∧ FnOk P w K mg base (L2.CX P w) k f fd ps (spSI CS CN) ∧ Binds K fd ps [] ∧ KBn K fd ps 1 [("most" : Str)] (fun us ws => us ++ ws) (fun vs zs => vs ++ zs)
def wNewB : WE := fun vs Q => ∀ x m, bk vs.n x = none → SetB vs.n m x (none, [], [[]]) → Q (.sh (.row [[300, x]])) { vs with n := m }
theorem ve_newB (N : NewB X.prog X.w X.K X.mg X.base CB CS k) (hr : Room (k + 1) X.A) (hg : Gl X x) (hm : X.mg x = some (.ref CB)) (hdb : (x == ("__debug__" : Str)) = false := by decide) :
    VE (thB CB CS) X (.Call (.Name x p) [] [] pos) wNewB := by
  obtain ⟨f, fd, ps, M, F, hb⟩ := N.ex
  refine .of (pe_make0S (E := fun _ => E0) M F hr hg hm hb (fun _ => fun _ _ _ _ _ _ h => h.elim) hdb) fun W0 H0 W H O vs σ tm Q Q' hf R kk => fun x dx hx hdx ne => ?_
  refine ⟨x, CB, dx, rfl, .inl rfl, upd_same, fun p t q Fr => ⟨rfl, ?_⟩⟩
  have FB := freshB hx ne Fr
  obtain ⟨m, hm, le, R2⟩ := Rel.bookMade (lim := none) R FB (heapB_keep hx hdx ne Fr) heapB_x (heapB_p FB) (heapB_t FB) (heapB_q FB)
  exact kk _ _ _ _ _ _ le (hf x m (bk_none R.ok hx) hm) R2
def wNewS (CN : Addr) (G : XG) (fa : WE) : WE := fun vs Q => fa vs fun lo vs1 => ∃ m : Int, lo = .sh (.int m) ∧ (m < 0 → G CN (.int m) vs1) ∧
  (¬ m < 0 → ∀ x n', bk vs1.n x = none → SetB vs1.n n' x (some m, [], [[]]) → Q (.sh (.row [[300, x]])) { vs1 with n := n' })
theorem news_sn {W1 : Wd} {H1 : Hp} {O1 : Addr → Option Ow} {vs1 : VS} {v : V} {lo : Lo} {m : Int} {Q : Lo → VS → Prop} {Q' : L2.VK} {E : XK} (R1 : Rel (thB CB CS) W0 H0 W1 H1 O1 vs1 σ ((v, lo) :: tm)) (el : lo = .sh (.int m))
    (hE : ∀ H2 d, m < 0 → (∀ b o, H1 b = some o → H2 b = some o) → H2 d = none → E (.ref CN) (some d) (upd H2 d (.xd [("value", .int m)])))
    (hq : ¬ m < 0 → ∀ x n', bk vs1.n x = none → SetB vs1.n n' x (some m, [], [[]]) → Q (.sh (.row [[300, x]])) { vs1 with n := n' })
    (kk : ∀ W' H' O' vs' v lo, Le W1 W' → Q lo vs' → Rel (thB CB CS) W0 H0 W' H' O' vs' σ ((v, lo) :: tm) → Q' v H') :
    ∀ x dx, H1 x = none → H1 dx = none → dx ≠ x → spSI CS CN [.ref x, v] (upd (upd H1 dx (.own x)) x (.ins CS dx [])) (fun v H2 => v = .non ∧ Q' (.ref x) H2) E := fun x dx hx hdx ne => by
  subst el
  have ev : v = .int m := R1.top
  subst ev
  refine ⟨x, dx, m, rfl, upd_same, fun p t q Fr => ⟨fun hm d hd => hE _ d hm (heapB_keep hx hdx ne Fr) hd, fun hm => ⟨rfl, ?_⟩⟩⟩
  have FB := freshB hx ne Fr
  have kp := heapB_keep hx hdx ne Fr
  obtain ⟨n', hn, le, R2⟩ := Rel.bookMade (lim := some m) (H' := upd (heapB (upd (upd H1 dx (.own x)) x (.ins CS dx [])) x CS dx p t q) x (.ins CS dx [("calls", .ref p), ("states", .ref q), ("greatest", .int m)])) R1.pop FB
    (fun b o e => by rw [upd_ne (ne_of_none e hx)]; exact kp b o e) upd_same (by rw [upd_ne (Ne.symm FB.xp)]; exact heapB_p FB) (by rw [upd_ne (Ne.symm FB.xt)]; exact heapB_t FB) (by rw [upd_ne (Ne.symm FB.xq)]; exact heapB_q FB)
  exact kk _ _ _ _ _ _ le (hq hm x n' (bk_none R1.ok hx) hn) R2
theorem Rel.moreB {T : Th} (R : Rel T W0 H0 W H O vs σ tm) (k : ∀ b o, H b = some o → H' b = some o) : Rel T W0 H0 W H' O vs σ tm :=
  R.over (Le.refl W) (R.ok.more k) (fun a o _ h => k a o h) (fun a h => .inl h) (R.ok.adv fun b hb _ => by
    obtain ⟨o, e⟩ := R.ok.d b hb
    rw [k b o e, e])
theorem vex_newS (N : NewS X.prog X.w X.K X.mg X.base CS CN k) (tk : Takes X Wx) (wi : Wish (thB CB CS) W0 H0 Wb tm G Wx) (hr : Room (k + 1) X.A) (hg : Gl X x) (hm : X.mg x = some (.ref CS)) (ha : VE (thB CB CS) X.nox e fa)
    (hdb : (x == ("__debug__" : Str)) = false := by decide) (he : starEach [e] X.env = (false, eval e X.env) :: starEach [] X.env := by rfl) (hpl : (backTo pos (starEach [] X.env)).any (·.1) = false := by rfl) :
    VEX (thB CB CS) X W0 H0 Wb tm (.Call (.Name x p) [e] [] pos) (wNewS CN G fa) := by
  obtain ⟨f, fd, ps, M, F, hb, _⟩ := N.ex
  refine .of (pe_makeS M F hr hg hm hb (fun σ => passAt tk σ) (pa_cons ha.pe.nox pa_nil he) hdb he hpl) fun W H O vs σ Q Q' l hf R kk => ha.sn W0 H0 W H O vs σ tm _ _ hf R fun W1 H1 O1 vs1 v lo l1 ⟨m, el, q1, q2⟩ R1 => ?_
  exact news_sn R1 el (fun H2 d hm kp hd => wi W1 H2 O1 vs1 σ CN (.int m) (.int m) d (l.trans l1) (q1 hm) (Rel.moreB R1.pop kp) (by simp [Rep]) hd) q2 fun W' H' O' vs' v lo le q R => kk W' H' O' vs' v lo (l1.trans le) q R
theorem vex_newSK {p2 : Pos} (N : NewS X.prog X.w X.K X.mg X.base CS CN k) (tk : Takes X Wx) (wi : Wish (thB CB CS) W0 H0 Wb tm G Wx) (hr : Room (k + 1) X.A) (hg : Gl X x) (hm : X.mg x = some (.ref CS)) (ha : VE (thB CB CS) X.nox e fa)
    (hall : (backToKw pos (keywordEach [⟨some ("most" : Str), e, p2⟩] X.env)).all (·.1.isSome) = true := by rfl) (hks : (backToKw pos (keywordEach [⟨some ("most" : Str), e, p2⟩] X.env)).filterMap (·.1) = [("most" : Str)] := by rfl)
    (hdb : (x == ("__debug__" : Str)) = false := by decide)
    (hpl : ((backTo pos (starEach [] X.env)).any (·.1) || (backToKw pos (keywordEach [⟨some ("most" : Str), e, p2⟩] X.env)).any (·.1.isNone)) = false := by rfl) :
    VEX (thB CB CS) X W0 H0 Wb tm (.Call (.Name x p) [] [⟨some ("most" : Str), e, p2⟩] pos) (wNewS CN G fa) := by
  obtain ⟨f, fd, ps, M, F, _, hb⟩ := N.ex
  refine .of (pe_makeKS M F hr hg hm hb (fun σ => passAt tk σ) (pk_cons ha.pe.nox pk_nil) hall hks hdb hpl) fun W H O vs σ Q Q' l hf R kk => ha.sn W0 H0 W H O vs σ tm _ _ hf R fun W1 H1 O1 vs1 v lo l1 ⟨m, el, q1, q2⟩ R1 => ⟨rfl, ?_⟩
  exact news_sn R1 el (fun H2 d hm kp hd => wi W1 H2 O1 vs1 σ CN (.int m) (.int m) d (l.trans l1) (q1 hm) (Rel.moreB R1.pop kp) (by simp [Rep]) hd) q2 fun W' H' O' vs' v lo le q R => kk W' H' O' vs' v lo (l1.trans le) q R
/-- SmallBook(x) that does not raise -/
def wNewSB (fa : WE) : WE := fun vs Q => fa vs fun lo vs1 => ∃ m : Int, lo = .sh (.int m) ∧ ¬ m < 0 ∧ ∀ x n', bk vs1.n x = none → SetB vs1.n n' x (some m, [], [[]]) → Q (.sh (.row [[300, x]])) { vs1 with n := n' }
theorem ve_newS (N : NewS X.prog X.w X.K X.mg X.base CS CN k) (hr : Room (k + 1) X.A) (hg : Gl X x) (hm : X.mg x = some (.ref CS)) (ha : VE (thB CB CS) X e fa)
    (hdb : (x == ("__debug__" : Str)) = false := by decide) (he : starEach [e] X.env = (false, eval e X.env) :: starEach [] X.env := by rfl) (hpl : (backTo pos (starEach [] X.env)).any (·.1) = false := by rfl) :
    VE (thB CB CS) X (.Call (.Name x p) [e] [] pos) (wNewSB fa) := by
  obtain ⟨f, fd, ps, M, F, hb, _⟩ := N.ex
  refine .of (pe_makeS (E := fun _ => E0) M F hr hg hm hb (fun σ => fun pins H s e s' I c => passL pins σ H s e s' I c) (pa_cons ha.pe pa_nil he) hdb he hpl) fun W0 H0 W H O vs σ tm Q Q' hf R kk => ha.sn W0 H0 W H O vs σ tm _ _ hf R fun W1 H1 O1 vs1 v lo l1 ⟨m, el, q1, q2⟩ R1 => ?_
  exact news_sn R1 el (fun H2 d hm kp hd => (q1 hm).elim) (fun _ => q2) fun W' H' O' vs' v lo le q R => kk W' H' O' vs' v lo (l1.trans le) q R
theorem ve_newSK {p2 : Pos} (N : NewS X.prog X.w X.K X.mg X.base CS CN k) (hr : Room (k + 1) X.A) (hg : Gl X x) (hm : X.mg x = some (.ref CS)) (ha : VE (thB CB CS) X e fa)
    (hall : (backToKw pos (keywordEach [⟨some ("most" : Str), e, p2⟩] X.env)).all (·.1.isSome) = true := by rfl) (hks : (backToKw pos (keywordEach [⟨some ("most" : Str), e, p2⟩] X.env)).filterMap (·.1) = [("most" : Str)] := by rfl)
    (hdb : (x == ("__debug__" : Str)) = false := by decide)
    (hpl : ((backTo pos (starEach [] X.env)).any (·.1) || (backToKw pos (keywordEach [⟨some ("most" : Str), e, p2⟩] X.env)).any (·.1.isNone)) = false := by rfl) :
    VE (thB CB CS) X (.Call (.Name x p) [] [⟨some ("most" : Str), e, p2⟩] pos) (wNewSB fa) := by
  obtain ⟨f, fd, ps, M, F, _, hb⟩ := N.ex
  refine .of (pe_makeKS (E := fun _ => E0) M F hr hg hm hb (fun σ => fun pins H s e s' I c => passL pins σ H s e s' I c) (pk_cons ha.pe pk_nil) hall hks hdb hpl) fun W0 H0 W H O vs σ tm Q Q' hf R kk => ha.sn W0 H0 W H O vs σ tm _ _ hf R fun W1 H1 O1 vs1 v lo l1 ⟨m, el, q1, q2⟩ R1 => ⟨rfl, ?_⟩
  exact news_sn R1 el (fun H2 d hm kp hd => (q1 hm).elim) (fun _ => q2) fun W' H' O' vs' v lo le q R => kk W' H' O' vs' v lo (l1.trans le) q R
/-! ### o.m(..), m may raise -/
def wMethX (m : Nat) (F : FX) (G : XG) (fo : WE) (ga : WF) : WE := fun vs Q => fo vs fun lo vs1 => ∃ a b, lo = .sh (.row [[300, a]]) ∧ bk vs1.n a = some b ∧ ga vs1 fun los vs2 => los.length + 1 = m ∧ F (.sh (.row [[300, a]]) :: los) vs2.n (fun lo2 n' => Q lo2 { vs2 with n := n' }) fun C d n' => G C d { vs2 with n := n' }
theorem vex_methX {pl : Sem Bool} (B : BkC X.K CB CS) (M : MethX X.prog X.w X.K X.mg X.base CB CS k name m F) (hn : NoFld name) (tk : Takes X Wx) (wi : Wish (thB CB CS) W0 H0 Wb tm G Wx) (hr : Room k X.A) (ho : VE (thB CB CS) X.nox o fo) (ha : VF (thB CB CS) X.nox (e :: es) ga)
    (hst : starEach (e :: es) X.env = (false, eval e X.env) :: starEach es X.env := by rfl) (hpl : (backTo pos (starEach es X.env)).any (·.1) = false := by rfl)
    (ht : eval (.Call (.Attribute o name apos) (e :: es) [] pos) X.env = (do
      let ov ← eval o X.env
      standAt apos.atName
      let (f, first) ← holding [ov] (getMethod ov name pl)
      callWith pos f first (backTo pos (starEach (e :: es) X.env)) (backToKw pos (keywordEach [] X.env))) := by rfl) :
    VEX (thB CB CS) X W0 H0 Wb tm (.Call (.Attribute o name apos) (e :: es) [] pos) (wMethX m F G fo ga) := by
  obtain ⟨f, fd, ps, h1, h2, h3, h4⟩ := M.ex
  refine .of (pe_meth2 (ES := L2.WE Wx) (pl := pl) ho.pe.nox B.cb B.cs h1 h2 h3 h3 hr h4 h4 (fun σ => passAt tk σ) (PA.nox ha.pe) hst hpl ht) fun W H O vs σ Q Q' l hf R kk => ho.sn W0 H0 W H O vs σ tm _ _ hf R fun W1 H1 O1 vs1 x lo l1 ⟨a, b, e, hb, q⟩ R1 => ?_
  subst e
  have ex' : x = .ref a := Rel.isB R1.ok R1.top
  subst ex'
  obtain ⟨⟨dx, u, v, i1, _, _⟩, _⟩ := R1.ok.book hb
  have go : tF (thB CB CS) ga σ H1 fun ws H2 => spVX (thB CB CS) m F (.ref a :: ws) H2 Q' (L2.WE Wx σ) := by
    refine ha.sn W0 H0 W1 H1 O1 vs1 σ _ _ _ q R1 fun W2 H2 O2 vs2 ws los l2 ⟨hl, q2⟩ as R2 => ?_
    refine ⟨W2, vs2.n, .sh (.row [[300, a]]) :: los, _, _, by rw [List.length_cons, as.length]; exact hl, R2.ok, ⟨R2.top, as⟩, q2, fun lo2 n' W' H' v hp A r => ?_, fun C2 d n' W' H' v dd hp A r hd => ?_⟩
    · obtain ⟨O', R'⟩ := R2.pop.ret A r
      exact kk W' H' O' _ v lo2 ((l1.trans l2).trans A.le) hp R'
    · exact wi W' H' O2 _ σ C2 d v dd (((l.trans l1).trans l2).trans A.le) hp (R2.pop.over A.le A.ok A.frame A.grow.1 A.grow.2) r hd
  obtain ⟨lim, cs, ss⟩ := b
  cases lim with
  | none => exact .inl ⟨a, dx, _, rfl, i1, hn _ _ _, go⟩
  | some z => exact .inr ⟨a, dx, _, rfl, i1, hn _ _ _, go⟩
theorem vex_methX0 {pl : Sem Bool} (B : BkC X.K CB CS) (M : MethX X.prog X.w X.K X.mg X.base CB CS k name m F) (hn : NoFld name) (tk : Takes X Wx) (wi : Wish (thB CB CS) W0 H0 Wb tm G Wx) (hr : Room k X.A) (ho : VE (thB CB CS) X.nox o fo)
    (ht : eval (.Call (.Attribute o name apos) [] [] pos) X.env = (do
      let ov ← eval o X.env
      standAt apos.atName
      let (f, first) ← holding [ov] (getMethod ov name pl)
      callWith pos f first (backTo pos (starEach [] X.env)) (backToKw pos (keywordEach [] X.env))) := by rfl) :
    VEX (thB CB CS) X W0 H0 Wb tm (.Call (.Attribute o name apos) [] [] pos) (wMethX m F G fo wFNil) := by
  obtain ⟨f, fd, ps, h1, h2, h3, h4⟩ := M.ex
  refine .of (pe_meth20 (ES := L2.WE Wx) (pl := pl) ho.pe.nox B.cb B.cs h1 h2 h3 h3 hr h4 h4 (fun σ => passAt tk σ) ht) fun W H O vs σ Q Q' l hf R kk => ho.sn W0 H0 W H O vs σ tm _ _ hf R fun W1 H1 O1 vs1 x lo l1 ⟨a, b, e, hb, q⟩ R1 => ?_
  subst e
  have ex' : x = .ref a := Rel.isB R1.ok R1.top
  subst ex'
  obtain ⟨⟨dx, u, v, i1, _, _⟩, _⟩ := R1.ok.book hb
  obtain ⟨hl, q2⟩ := q
  have go : spVX (thB CB CS) m F [.ref a] H1 Q' (L2.WE Wx σ) := by
    refine ⟨W1, vs1.n, [.sh (.row [[300, a]])], _, _, hl, R1.ok, ⟨R1.top, trivial⟩, q2, fun lo2 n' W' H' v hp A r => ?_, fun C2 d n' W' H' v dd hp A r hd => ?_⟩
    · obtain ⟨O', R'⟩ := R1.pop.ret A r
      exact kk W' H' O' _ v lo2 (l1.trans A.le) hp R'
    · exact wi W' H' O1 _ σ C2 d v dd ((l.trans l1).trans A.le) hp (R1.pop.over A.le A.ok A.frame A.grow.1 A.grow.2) r hd
  obtain ⟨lim, cs, ss⟩ := b
  cases lim with
  | none => exact .inl ⟨a, dx, _, rfl, i1, hn _ _ _, go⟩
  | some z => exact .inr ⟨a, dx, _, rfl, i1, hn _ _ _, go⟩
def G0 : XG := fun _ _ _ => False
theorem ve_methX {pl : Sem Bool} (B : BkC X.K CB CS) (M : MethX X.prog X.w X.K X.mg X.base CB CS k name m F) (hn : NoFld name) (hr : Room k X.A) (ho : VE (thB CB CS) X o fo) (ha : VF (thB CB CS) X (e :: es) ga)
    (hst : starEach (e :: es) X.env = (false, eval e X.env) :: starEach es X.env := by rfl) (hpl : (backTo pos (starEach es X.env)).any (·.1) = false := by rfl)
    (ht : eval (.Call (.Attribute o name apos) (e :: es) [] pos) X.env = (do
      let ov ← eval o X.env
      standAt apos.atName
      let (f, first) ← holding [ov] (getMethod ov name pl)
      callWith pos f first (backTo pos (starEach (e :: es) X.env)) (backToKw pos (keywordEach [] X.env))) := by rfl) :
    VE (thB CB CS) X (.Call (.Attribute o name apos) (e :: es) [] pos) (wMethX m F G0 fo ga) := by
  obtain ⟨f, fd, ps, h1, h2, h3, h4⟩ := M.ex
  refine .of (pe_meth2 (ES := fun _ => E0) (pl := pl) ho.pe B.cb B.cs h1 h2 h3 h3 hr h4 h4 (fun σ => fun pins H s e s' I c => passL pins σ H s e s' I c) ha.pe hst hpl ht) fun W0 H0 W H O vs σ tm Q Q' hf R kk => ho.sn W0 H0 W H O vs σ tm _ _ hf R fun W1 H1 O1 vs1 x lo l1 ⟨a, b, e, hb, q⟩ R1 => ?_
  subst e
  have ex' : x = .ref a := Rel.isB R1.ok R1.top
  subst ex'
  obtain ⟨⟨dx, u, v, i1, _, _⟩, _⟩ := R1.ok.book hb
  have go : tF (thB CB CS) ga σ H1 fun ws H2 => spVX (thB CB CS) m F (.ref a :: ws) H2 Q' E0 := by
    refine ha.sn W0 H0 W1 H1 O1 vs1 σ _ _ _ q R1 fun W2 H2 O2 vs2 ws los l2 ⟨hl, q2⟩ as R2 => ?_
    refine ⟨W2, vs2.n, .sh (.row [[300, a]]) :: los, _, _, by rw [List.length_cons, as.length]; exact hl, R2.ok, ⟨R2.top, as⟩, q2, fun lo2 n' W' H' v hp A r => ?_, fun C2 d n' W' H' v dd hp A r hd => hp.elim⟩
    obtain ⟨O', R'⟩ := R2.pop.ret A r
    exact kk W' H' O' _ v lo2 ((l1.trans l2).trans A.le) hp R'
  obtain ⟨lim, cs, ss⟩ := b
  cases lim with
  | none => exact .inl ⟨a, dx, _, rfl, i1, hn _ _ _, go⟩
  | some z => exact .inr ⟨a, dx, _, rfl, i1, hn _ _ _, go⟩
theorem ve_methX0 {pl : Sem Bool} (B : BkC X.K CB CS) (M : MethX X.prog X.w X.K X.mg X.base CB CS k name m F) (hn : NoFld name) (hr : Room k X.A) (ho : VE (thB CB CS) X o fo)
    (ht : eval (.Call (.Attribute o name apos) [] [] pos) X.env = (do
      let ov ← eval o X.env
      standAt apos.atName
      let (f, first) ← holding [ov] (getMethod ov name pl)
      callWith pos f first (backTo pos (starEach [] X.env)) (backToKw pos (keywordEach [] X.env))) := by rfl) :
    VE (thB CB CS) X (.Call (.Attribute o name apos) [] [] pos) (wMethX m F G0 fo wFNil) := by
  obtain ⟨f, fd, ps, h1, h2, h3, h4⟩ := M.ex
  refine .of (pe_meth20 (ES := fun _ => E0) (pl := pl) ho.pe B.cb B.cs h1 h2 h3 h3 hr h4 h4 (fun σ => fun pins H s e s' I c => passL pins σ H s e s' I c) ht) fun W0 H0 W H O vs σ tm Q Q' hf R kk => ho.sn W0 H0 W H O vs σ tm _ _ hf R fun W1 H1 O1 vs1 x lo l1 ⟨a, b, e, hb, q⟩ R1 => ?_
  subst e
  have ex' : x = .ref a := Rel.isB R1.ok R1.top
  subst ex'
  obtain ⟨⟨dx, u, v, i1, _, _⟩, _⟩ := R1.ok.book hb
  obtain ⟨hl, q2⟩ := q
  have go : spVX (thB CB CS) m F [.ref a] H1 Q' E0 := by
    refine ⟨W1, vs1.n, [.sh (.row [[300, a]])], _, _, hl, R1.ok, ⟨R1.top, trivial⟩, q2, fun lo2 n' W' H' v hp A r => ?_, fun C2 d n' W' H' v dd hp A r hd => hp.elim⟩
    obtain ⟨O', R'⟩ := R1.pop.ret A r
    exact kk W' H' O' _ v lo2 (l1.trans A.le) hp R'
  obtain ⟨lim, cs, ss⟩ := b
  cases lim with
  | none => exact .inl ⟨a, dx, _, rfl, i1, hn _ _ _, go⟩
  | some z => exact .inr ⟨a, dx, _, rfl, i1, hn _ _ _, go⟩
end
end Bk
end Vx

set_option Elab.async false
set_option maxRecDepth 100000
set_option linter.all false
/-! Books told equal or not; isinstance(x, Book). -/
namespace PySem.W
open PySem PySem.Spec PySem.Calls PyProof.Rows
section
variable {prog : Program} {w : World} {A : Around} {E : Value → Shared → Prop} {s : Shared} {K : Frag} {x y C D L f : Addr} {h₀ : Heap} {m : Str → Option Value} {ox oy : Obj} {od od' : Option Obj}
/-- the right one is of a class below the left one's: it is asked first -/
theorem cmp_KR {op : CmpOp} {Q : Value → Shared → Prop} (hu : A.units < cLine) (F : Fr h₀ L s.heap m) (X₀ : K.In h₀) (I : InstAt s.heap x ox C od) (J : InstAt s.heap y oy D od') (ne : C ≠ D) (hsub : subIn K (.ref D) (.ref C) = some true)
    (hs : findIn K (.ref D) (cmpInfo op).2.2 = some (some (.ref f))) (hf : isFn K (.ref f) = true)
    (h : wpAny (model prog w) A (call (.ref f) [.ref y, .ref x]) (CmpBack Q) E s) : wpAny (model prog w) A (richCompare op (.ref x) (.ref y)) Q E s := by
  have X := X₀.keeps F.keep
  have one : wpAny (model prog w) A (tryCompare (.ref y) (cmpInfo op).2.2 (.ref x)) (fun r s' => ∃ v, r = some v ∧ Q v s') E s := by
    unfold tryCompare
    refine wpAny_bind (ifBound_K X J hs hf (wpAny_mono h (fun v s' hv => ?_) fun _ _ e => e))
    cases v <;> first | exact hv.elim | exact wpAny_pure ⟨_, rfl, hv⟩
  unfold richCompare
  simp only [oneThing_ref]
  refine wpAny_holding (wpAny_bind (wpAny_cRoomFor hu ?_))
  refine wpAny_bind (I.type.here (wpAny_bind (J.type.here ?_)))
  have e : ((Value.ref C) != Value.ref D) = true := by simp [ne]
  rw [if_pos e]
  refine wpAny_bind ((looks_subIn X hsub).here ?_)
  simp only [if_true]
  refine wpAny_bind (wpAny_mono one (fun r s' z => ?_) fun _ _ e => e)
  obtain ⟨v, rfl, hq⟩ := z
  exact wpAny_bind (wpAny_rule (wpAny_pure hq))
end
end PySem.W
namespace L2
open PySem PySem.Spec PyProof PyProof.Rows
section
variable {X : Cx} {CX : CXT} {k : Nat} {g C1 C2 : Addr} {fd : FuncData} {ps : List Str} {sp : Sp} {E : XK}
/-- x == y of one of two classes, the second one below the first one -/
def rEqB (C1 C2 : Addr) (sp : Sp) (E : XK) : R2 := fun x y H Q => ∃ a dx fs b dy gs C D, x = .ref a ∧ y = .ref b ∧ H a = some (.ins C dx fs) ∧ H b = some (.ins D dy gs) ∧ (C = C1 ∨ C = C2) ∧ (D = C1 ∨ D = C2) ∧
  sp [x, y] H (fun v H' => ∃ z, v = .bl z ∧ Q v H') E ∧ sp [y, x] H (fun v H' => ∃ z, v = .bl z ∧ Q v H') E
theorem op_eqB2 (h1 : PySem.W.findIn X.K (.ref C1) "__eq__" = some (some (.ref g))) (h2 : PySem.W.findIn X.K (.ref C2) "__eq__" = some (some (.ref g))) (hf : PySem.W.isFn X.K (.ref g) = true) (F : FnOk X.prog X.w X.K X.mg X.base CX k g fd ps sp) (hb : Binds X.K fd ps []) (hr : Room k X.A) (hx : Passes CX X E)
    (n2 : PySem.W.subIn X.K (.ref C1) (.ref C2) = some false) (s2 : PySem.W.subIn X.K (.ref C2) (.ref C1) = some true) (ne : C1 ≠ C2) : OpR X (compareOp .Eq) (rEqB C1 C2 sp E) := by
  intro pins s σ H x y v u Q I rx ry h
  obtain ⟨a, dx, fs, b, dy, gs, C, D, rfl, rfl, ha, hb', hC, hD, q1, q2⟩ := h
  cases (show v = Value.ref a from rx)
  cases (show u = Value.ref b from ry)
  obtain ⟨mA, O, _⟩ := ins_get I.hok ha
  obtain ⟨mB, O', _⟩ := ins_get I.hok hb'
  obtain ⟨od, J, _⟩ := O.look
  obtain ⟨od', J', _⟩ := O'.look
  obtain ⟨m, hF⟩ := I.fr
  have back : ∀ (a b : Addr), sp [.ref a, .ref b] H (fun v H' => ∃ z, v = .bl z ∧ Q v H') E → wpAny (model X.prog X.w) X.A (call (.ref g) [.ref a, .ref b]) (PySem.W.CmpBack (EP X pins σ Q)) X.xe s := fun a b q => by
    refine wpAny_mono (run_fnS (E := fun _ => E) (us := [.ref a, .ref b]) (vs := [.ref a, .ref b]) F hr hb (fun pins H s e s' I c => hx pins σ H s e s' I c) I (.cons rfl (.cons rfl .nil)) q) (fun v s' z => ?_) fun _ _ z => z
    obtain ⟨w, H', I', rw', z, ez, qz⟩ := z
    subst ez
    cases (show v = Value.bool z from rw')
    exact ⟨.bl z, H', I', rfl, qz⟩
  show wpAny (model X.prog X.w) X.A (richCompare .Eq (.ref a) (.ref b)) (EP X pins σ Q) X.xe s
  have left : PySem.W.notFirst X.K C (.ref D) = true → PySem.W.findIn X.K (.ref C) "__eq__" = some (some (.ref g)) → wpAny (model X.prog X.w) X.A (richCompare .Eq (.ref a) (.ref b)) (EP X pins σ Q) X.xe s := fun hn hs =>
    PySem.W.cmp_K (op := .Eq) (tb := .ref D) hr.units0 hF I.ok.mod.kin J J'.type hn hs hf (back a b q1)
  rcases hC with rfl | rfl <;> rcases hD with rfl | rfl
  · exact left (by simp [PySem.W.notFirst]) h1
  · exact PySem.W.cmp_KR (op := .Eq) hr.units0 hF I.ok.mod.kin J J' ne s2 h2 hf (back b a q2)
  · exact left (by simp [PySem.W.notFirst, n2]) h2
  · exact left (by simp [PySem.W.notFirst]) h2
end
end L2
namespace Vx
namespace Bk
open PySem PySem.Spec PyProof PyProof.Rows L2
def F_eqB : FS := fun los n P => ∃ a b x y, los = [.sh (.row [[300, a]]), .sh (.row [[300, b]])] ∧ bk n a = some x ∧ bk n b = some y ∧ x.2.1.length ≤ 1000 ∧ y.2.1.length ≤ 1000 ∧ P (.sh (.bl (decide (x.1 = y.1 ∧ x.2.1 = y.2.1)))) n
structure EqB (P : Program) (w : World) (K : PySem.W.Frag) (mg : Str → Option Value) (base : Heap) (CB CS : Addr) (k : Nat) : Prop where
  ex : ∃ g fd ps, PySem.W.findIn K (.ref CB) "__eq__" = some (some (.ref g)) ∧ PySem.W.findIn K (.ref CS) "__eq__" = some (some (.ref g)) ∧ PySem.W.isFn K (.ref g) = true ∧ FnOk P w K mg base CX0 k g fd ps (spV (thB CB CS) 2 F_eqB) ∧ Binds K fd ps []
  n2 : PySem.W.subIn K (.ref CB) (.ref CS) = some false
  s2 : PySem.W.subIn K (.ref CS) (.ref CB) = some true
  ne : CB ≠ CS
def gEqB : G2 := fun la lb vs Q => ∃ a b x y, la = .sh (.row [[300, a]]) ∧ lb = .sh (.row [[300, b]]) ∧ bk vs.n a = some x ∧ bk vs.n b = some y ∧ x.2.1.length ≤ 1000 ∧ y.2.1.length ≤ 1000 ∧ Q (.sh (.bl (decide (x.1 = y.1 ∧ x.2.1 = y.2.1)))) vs
/-- what isinstance asks of the two classes -/
structure IsBC (K : PySem.W.Frag) (CB CS : Addr) : Prop where
  ha : ∀ C, C = CB ∨ C = CS → PySem.W.findIn K (.ref C) "__class__" = some (some (.builtin "object.__class__"))
  hn : PySem.W.specialIn K (.builtin "object.__class__") "__get__" = some (some (.builtin "getset_descriptor.__get__"))
  ht : PySem.W.takesIn K (.builtin "object.__class__") = some true
  hm : ∀ C, C = CB ∨ C = CS → PySem.W.mroIn K C (.type "object") = some true
  kb : ∀ C, C = CB ∨ C = CS → PySem.W.kitOne K (.ref C) (.ref CB) = some true
def wIsB (f : WE) : WE := fun vs Q => f vs fun lo vs1 => ∃ a b, lo = .sh (.row [[300, a]]) ∧ bk vs1.n a = some b ∧ Q (.sh (.bl true)) vs1
theorem boC_or (CB CS : Addr) (lim : Option Int) : boC CB CS lim = CB ∨ boC CB CS lim = CS := by cases lim <;> simp [boC]
section
variable {CB CS : Addr} {X : Cx} {e o a b : Expr} {fa fb fo : WE} {x : Str} {p p2 pos : Pos} {k : Nat} {n : Nat} {P : Lo → Nat → Prop} {los : List Lo}
theorem snd_eqB : Snd2 (thB CB CS) (rEqB CB CS (spV (thB CB CS) 2 F_eqB) E0) gEqB := fun W0 H0 W H O vs σ tm x y la lb Q Q' hf R kk => by
  obtain ⟨a, b, u, v, e1, e2, b1, b2, l1, l2, q⟩ := hf
  subst e1
  subst e2
  have ey : y = .ref b := Rel.isB R.ok R.top
  have ex : x = .ref a := Rel.isB R.ok R.pop.top
  subst ey
  subst ex
  obtain ⟨⟨dx, _, _, i1, _, _⟩, _⟩ := R.ok.book b1
  obtain ⟨⟨dy, _, _, i2, _, _⟩, _⟩ := R.ok.book b2
  have go : ∀ (c d : Addr) (s t : Bo), bk vs.n c = some s → bk vs.n d = some t → s.2.1.length ≤ 1000 → t.2.1.length ≤ 1000 → LoOk W H H0 O (.inl 0) (.ref c) (.sh (.row [[300, c]])) → LoOk W H H0 O (.inl 0) (.ref d) (.sh (.row [[300, d]])) → Q (.sh (.bl (decide (s.1 = t.1 ∧ s.2.1 = t.2.1)))) vs → spV (thB CB CS) 2 F_eqB [.ref c, .ref d] H (fun v H' => ∃ z, v = .bl z ∧ Q' v H') E0 := fun c d s t hs ht ls lt rc rd q => by
    refine ⟨W, vs.n, [.sh (.row [[300, c]]), .sh (.row [[300, d]])], fun lo n' => lo = .sh (.bl (decide (s.1 = t.1 ∧ s.2.1 = t.2.1))) ∧ n' = vs.n, rfl, R.ok, ⟨rc, rd, trivial⟩, ⟨c, d, s, t, rfl, hs, ht, ls, lt, rfl, rfl⟩, fun lo n' W' H' v hp A r => ?_⟩
    obtain ⟨z1, z2⟩ := hp
    subst z1
    subst z2
    have ev : v = .bl _ := r
    obtain ⟨O', R'⟩ := R.pop.pop.ret A r
    exact ⟨_, ev, kk W' H' O' vs v _ A.le q R'⟩
  refine ⟨a, dx, _, b, dy, _, _, _, rfl, rfl, i1, i2, boC_or _ _ _, boC_or _ _ _, go a b u v b1 b2 l1 l2 R.pop.top R.top q, ?_⟩
  refine go b a v u b2 b1 l2 l1 R.top R.pop.top ?_
  have e : decide (v.1 = u.1 ∧ v.2.1 = u.2.1) = decide (u.1 = v.1 ∧ u.2.1 = v.2.1) := by
    congr 1
    exact propext ⟨fun h => ⟨h.1.symm, h.2.symm⟩, fun h => ⟨h.1.symm, h.2.symm⟩⟩
  rw [e]
  exact q
theorem op_eqB (M : EqB X.prog X.w X.K X.mg X.base CB CS k) (hr : Room k X.A) : OpR X (compareOp .Eq) (rEqB CB CS (spV (thB CB CS) 2 F_eqB) E0) := by
  obtain ⟨g, fd, ps, h1, h2, h3, h4, h5⟩ := M.ex
  exact op_eqB2 (E := E0) h1 h2 h3 h4 h5 hr pass0 M.n2 M.s2 M.ne
theorem ve_eqB (M : EqB X.prog X.w X.K X.mg X.base CB CS k) (hr : Room k X.A) (ha : VE (thB CB CS) X a fa) (hb : VE (thB CB CS) X b fb) (hm : behindInMarks .Eq b = false := by rfl) : VE (thB CB CS) X (.Compare a [.Eq] [b] pos) (w2 gEqB fa fb) := ve_cmp (op_eqB M hr) snd_eqB ha hb hm
theorem vt_eqB (M : EqB X.prog X.w X.K X.mg X.base CB CS k) (hr : Room k X.A) (ha : VE (thB CB CS) X a fa) (hb : VE (thB CB CS) X b fb) (hm : behindInMarks .Eq b = false := by rfl) : VT (thB CB CS) X (.Compare a [.Eq] [b] pos) (wTst (w2 gEqB fa fb)) := vt_cmp (op_eqB M hr) snd_eqB ha hb hm
theorem ve_isB (B : BkC X.K CB CS) (I : IsBC X.K CB CS) (hg : Gl X "isinstance") (hm : X.mg "isinstance" = none) (hg2 : Gl X x) (hm2 : X.mg x = some (.ref CB)) (ha : VE (thB CB CS) X a fa) (hdb : (x == ("__debug__" : Str)) = false := by decide)
    (hs : starEach [a, .Name x p2] X.env = (false, eval a X.env) :: starEach [.Name x p2] X.env := by rfl) (hs2 : starEach [Expr.Name x p2] X.env = (false, eval (.Name x p2) X.env) :: starEach [] X.env := by rfl) :
    VE (thB CB CS) X (.Call (.Name "isinstance" p) [a, .Name x p2] [] pos) (wIsB fa) :=
  .of (pe_callB call_isi hg hm (by decide +kernel) (pa_cons ha.pe (pa_cons (pe_glob (v := .ref CB) hg2 hm2 rfl hdb) pa_nil hs2) hs) (by decide) (by decide) hs (by rw [hs2]; rfl)) fun W0 H0 W H O vs σ tm Q Q' hf R k => ha.sn W0 H0 W H O vs σ tm _ _ hf R fun W1 H1 O1 vs1 x lo l1 ⟨a, b, e, hb, q⟩ R1 => by
    subst e
    have ex : x = .ref a := Rel.isB R1.ok R1.top
    subst ex
    obtain ⟨⟨dx, u, v, i1, _, _⟩, _⟩ := R1.ok.book hb
    exact ⟨.ref a, .ref CB, .ref (boC CB CS b.1), .ref CB, true, rfl, .own CB, .base (.ins i1 (B.cl _) (I.ha _ (boC_or _ _ _)) I.hn I.ht (I.hm _ (boC_or _ _ _))), I.kb _ (boC_or _ _ _), k W1 H1 O1 vs1 _ _ l1 q (R1.pop.push (by simp [Rep]))⟩
/-! ### Book.__eq__ -/
def b_book_eq : WS :=
  (wRet (wAndV (wIsB (wN 1)) (wAndV (w2 (gEq false) (wMethB 1 F_limN F_limS (wN 0) wFNil) (wMethB 1 F_limN F_limS (wN 1) wFNil)) (w2 (gEq false) (w1 gCalls (wN 0)) (w1 gCalls (wN 1))))))
theorem eqv_lim (a b : Option Int) : D.eqv (limD a) (limD b) = decide (a = b) := by
  cases a <;> cases b <;> simp [limD, D.eqv, D.py, PyData.eqv]
  rename_i i j
  by_cases h : i = j <;> simp [h]
theorem eqvL_ints : ∀ (l m : List Int), eqvL (l.map D.int) (m.map D.int) = decide (l = m)
  | [], [] => rfl
  | a :: l, [] => by simp
  | [], b :: m => by simp
  | a :: l, b :: m => by
    show (D.eqv (.int a) (.int b) && eqvL (l.map D.int) (m.map D.int)) = _
    rw [eqv_int, eqvL_ints l m]
    by_cases h1 : a = b
    · subst h1; by_cases h2 : l = m <;> simp [h2]
    · simp [h1]
theorem eqv_wT (l m : List Int) : D.eqv (wT l) (wT m) = decide (l = m) := by
  show D.eqv (.tup _) (.tup _) = _
  rw [eqv_tup, eqvL_ints]
theorem eqv_wL (l m : List Int) : D.eqv (wL l) (wL m) = decide (l = m) := by
  show D.eqv (.lst _) (.lst _) = _
  rw [eqv_lst, eqvL_ints]
theorem eqvS (a b : Str) : D.eqv (.str a) (.str b) = decide (a = b) := by
  show PyData.eqv (.str a) (.str b) = _
  simp [PyData.eqv]
  all_goals (by_cases h : a = b <;> simp [h])
theorem eqvL_mapG {α : Type} [DecidableEq α] {f : α → D} (hf : ∀ a b, D.eqv (f a) (f b) = decide (a = b)) : ∀ (l m : List α), eqvL (l.map f) (m.map f) = decide (l = m)
  | [], [] => rfl
  | a :: l, [] => by simp
  | [], b :: m => by simp
  | a :: l, b :: m => by
    rw [List.map_cons, List.map_cons, eqvL_cons, hf, eqvL_mapG hf l m]
    by_cases h1 : a = b
    · subst h1; by_cases h2 : l = m <;> simp [h2]
    · simp [h1]
theorem eqv_clT (x y : Cl) : D.eqv (clT x) (clT y) = decide (x = y) := by
  obtain ⟨a, u⟩ := x
  obtain ⟨b, v⟩ := y
  cases a <;> cases b <;> simp only [clT, eqv_tup, eqvL_cons, eqvS, eqv_wT, eqv_int, eqvL_nil, Bool.and_true, eqvL_nc, eqvL_cn, Bool.and_false]
  · by_cases h : u = v <;> simp [h]
  · have : ¬ (("put" : Str) = "change") := by decide +kernel
    simp
  · simp
  · rename_i i j
    by_cases h1 : i = j <;> by_cases h : u = v <;> simp [h, h1]
theorem eqv_csD (x y : List Cl) : D.eqv (csD x) (csD y) = decide (x = y) := by
  show D.eqv (.lst (x.map clT)) (.lst (y.map clT)) = _
  rw [eqv_lst, eqvL_mapG eqv_clT]
theorem fit_lim (m : Nat) (l : Option Int) : D.fit (m + 1) (limD l) = true := by cases l <;> rfl
theorem m_eqB (h : F_eqB los n P) : bodyF 2 b_book_eq los n P := by
  obtain ⟨a, b, x, y, e, ha, hb, l1, l2, h⟩ := h
  subst e
  simp only [bodyF, b_book_eq, wRet, wAndV]
  unfold wIsB
  refine n_sh (d := .row [[300, b]]) rfl ⟨b, y, rfl, hb, ?_⟩
  show w2 (gEq false) (wMethB 1 F_limN F_limS (wN 0) wFNil) (wMethB 1 F_limN F_limS (wN 1) wFNil) ⟨[some (.sh (.row [[300, a]])), some (.sh (.row [[300, b]]))], n⟩ _
  rw [w2_ap']
  refine lim_go rfl ha ?_
  refine lim_go rfl hb ?_
  refine ⟨fit_lim 59 _, fit_lim 59 _, ?_⟩
  show (if D.eqv (limD x.1) (limD y.1) = true then _ else _)
  rw [eqv_lim]
  by_cases e1 : x.1 = y.1
  · rw [if_pos (decide_eq_true e1)]
    rw [w2_ap']
    refine calls_go rfl ha ?_
    refine calls_go rfl hb ?_
    refine ⟨fit_csD 57 _, fit_csD 57 _, ?_⟩
    show P (.sh (.bl (D.eqv (csD x.2.1) (csD y.2.1)))) n
    rw [eqv_csD]
    have e : decide (x.1 = y.1 ∧ x.2.1 = y.2.1) = decide (x.2.1 = y.2.1) := by simp [e1]
    rw [← e]
    exact h
  · rw [if_neg (by simpa using e1)]
    have e : decide (x.1 = y.1 ∧ x.2.1 = y.2.1) = false := by simp [e1]
    rw [e] at h
    exact h
end
end Bk
end Vx

set_option Elab.async false
set_option maxRecDepth 100000
set_option linter.all false
/-! Draws, the law itself, with books. -/
namespace Vx
namespace Bk
open PySem PySem.Spec PyProof.Rows L2
/-- one more draw, the books alike -/
def Dr1 (n m : Nat) : Prop := (gam m).1 = (gam n).1 + 1 ∧ (gam m).2 = (gam n).2
theorem Dr1.bk {n m : Nat} (h : Dr1 n m) (a : Addr) : bk m a = Bk.bk n a := by
  unfold Bk.bk
  rw [h.2]
noncomputable def n0 : Nat := (gam_ex (0, [])).choose
theorem n0_eq : gam n0 = (0, []) := (gam_ex (0, [])).choose_spec
def F_drawB : FS := fun los n P => ∃ span : Int, los = [.pool, .sh (.int span)] ∧ 0 < span ∧ span < 2 ^ 8000 ∧ (gam n).1 < 2 ^ 38 ∧ ∀ d n', 0 ≤ d → d < span → Dr1 n n' → P (.sh (.int d)) n'
section
variable {CB CS : Addr} {W : Wd} {H : Hp} {n : Nat}
/-- the pool is written -/
theorem _root_.Vx.WOk.poolB (ok : WOk (thB CB CS) W H n) {m : Nat} {z0 z1 z2 : Int} (h : PsOk z0 z1 z2 (gam m).1) (hm : (gam m).2 = (gam n).2) : After (thB CB CS) W H W (upd H W.P (.lst [.int z0, .int z1, .int z2])) m := by
  obtain ⟨a, b, c, hp, hps⟩ := ok.p
  have sP : ∀ b o, W.S b = some o → b ≠ W.P := fun b o e => (ok.s b o e).2.2
  have eq : ∀ b, W.D b → b ≠ W.P → (upd H W.P (.lst [.int z0, .int z1, .int z2])) b = H b := fun b _ hb => upd_ne hb
  refine ⟨Le.refl W, ⟨fun b o e => ?_, fun b r e => ?_, fun b e => ?_, ok.pd, ok.i, z0, z1, z2, upd_same, h, fun a b q => (thB CB CS).gmono W W H _ n (Le.refl W) eq hps.2 a b (by unfold bk at q ⊢; rw [← hm]; exact q)⟩, fun b o hd e => ?_, fun b e => .inl e, ok.adv eq⟩
  · obtain ⟨h1, h2, h3⟩ := ok.s b o e
    exact ⟨by rw [upd_ne h3]; exact h1, h2, h3⟩
  · obtain ⟨h1, h2, h3⟩ := ok.r b r e
    exact ⟨(thB CB CS).mono W W H _ b r (Le.refl W) eq h1, h2, h3⟩
  · by_cases z : b = W.P
    · subst z; exact ⟨_, upd_same⟩
    · rw [upd_ne z]; exact ok.d b e
  · rw [upd_ne (fun (z : b = W.P) => hd (z ▸ ok.pd))]; exact e
theorem draw_readB {K : PySem.W.Frag} {span : Int} {Q : L2.VK} (ok : WOk (thB CB CS) W H n) (h0 : 0 < span) (h1 : span < 2 ^ 8000) (hn : (gam n).1 < 2 ^ 38) (kk : ∀ d W' H' n', 0 ≤ d → d < span → Dr1 n n' → After (thB CB CS) W H W' H' n' → Q (.int d) H') {D : Ends} (hD : D.rt = Q) :
    tDraw K D [some (.ref W.P), some (.int span), none, none] H := by
  subst hD
  obtain ⟨a, b, c, hp, hps⟩ := ok.p
  obtain ⟨b0, b1, c0, (c1 : c ≤ (((gam n).1 : Nat) : Int))⟩ := id hps.1
  obtain ⟨m, hm⟩ := gam_ex ((gam n).1 + 1, (gam n).2)
  have hd1 : Dr1 n m := ⟨by rw [hm], by rw [hm]⟩
  have e1 : (((gam m).1 : Nat) : Int) = ((gam n).1 : Int) + 1 := by rw [hm]; rfl
  have dv : CDivW a span := ⟨h0, by
    have : span.natAbs < 2 ^ 8000 := by
      have e : ((2 : Int) ^ 8000) = ((2 ^ 8000 : Nat) : Int) := by simp
      rw [e] at h1
      omega
    have hne : span.natAbs ≠ 0 := by omega
    have := (Nat.log2_lt hne).mpr this
    omega⟩
  refine ⟨.ref W.P, rfl, W.P, _, 0, .int a, rfl, rfl, SqL.of hp, at0 _ _ _, a, 0, rfl, rfl, _, rfl, ?_⟩
  dsimp only
  by_cases hpos : (0 : Int) < a
  · rw [if_pos (decide_eq_true hpos)]
    refine ⟨.ref W.P, rfl, W.P, _, 0, .int a, rfl, rfl, SqL.of hp, at0 _ _ _, .inl ⟨a, rfl, .int span, rfl, a, span, rfl, rfl, h0, ?_⟩⟩
    refine ⟨.ref W.P, rfl, W.P, _, 0, .int a, rfl, rfl, SqL.of hp, at0 _ _ _, .int span, rfl, a, span, rfl, rfl, dv, .ref W.P, rfl, W.P, _, 0, 0, rfl, rfl, hp, rfl, ?_⟩
    refine ⟨.int (a % span), rfl, kk _ W _ m (Int.emod_nonneg _ (by omega)) (Int.emod_lt_of_pos _ h0) hd1 (ok.poolB (z0 := a / span) (z1 := b) (z2 := c) ⟨b0, b1, c0, by omega⟩ hd1.2)⟩
  · rw [if_neg (by simp; omega)]
    refine ⟨.ref W.P, rfl, W.P, _, 2, .int c, rfl, rfl, SqL.of hp, at2 _ _ _, c, 1, rfl, rfl, .ref W.P, rfl, W.P, _, 2, 2, rfl, rfl, hp, rfl, ?_⟩
    have A := ok.poolB (z0 := a) (z1 := b) (z2 := c + 1) ⟨b0, b1, by omega, by omega⟩ hd1.2
    have hp2 : (upd H W.P (.lst [.int a, .int b, .int (c + 1)])) W.P = some (.lst [.int a, .int b, .int (c + 1)]) := upd_same
    have hc : c + 1 ≤ 2 ^ 38 := by
      have : (((gam n).1 : Nat) : Int) < 2 ^ 38 := by
        have e : ((2 : Int) ^ 38) = ((2 ^ 38 : Nat) : Int) := by simp
        rw [e]; omega
      omega
    have m1 : (b + 15485863 * (c + 1)).natAbs < 2 ^ 64 := by omega
    refine ⟨.ref W.P, rfl, W.P, _, 1, .int b, rfl, rfl, SqL.of hp2, at1 _ _ _, .ref W.P, rfl, W.P, _, 2, .int (c + 1), rfl, rfl, SqL.of hp2, at2 _ _ _, 15485863, c + 1, rfl, rfl, mulX (by omega) (by omega) (by omega) (by omega),
      b, 15485863 * (c + 1), rfl, rfl, b + 15485863 * (c + 1), 3, rfl, rfl, ⟨by omega, by have := bits_le m1; omega⟩, .inl ⟨_, rfl, _, _, rfl, rfl, (by show (0 : Int) < 162259276829213363391578010288127; decide), ?_⟩⟩
    dsimp only
    have x0 : 0 ≤ (b + 15485863 * (c + 1)) ^ (3 : Int).toNat % 162259276829213363391578010288127 := Int.emod_nonneg _ (by decide)
    have x1 : (b + 15485863 * (c + 1)) ^ (3 : Int).toNat % 162259276829213363391578010288127 < 162259276829213363391578010288127 := Int.emod_lt_of_pos _ (by decide)
    generalize (b + 15485863 * (c + 1)) ^ (3 : Int).toNat % 162259276829213363391578010288127 = x at x0 x1 ⊢
    have m2 : (x + 32452843 * (c + 1)).natAbs < 2 ^ 128 := by omega
    refine ⟨.int x, rfl, .ref W.P, rfl, W.P, _, 2, .int (c + 1), rfl, rfl, SqL.of hp2, at2 _ _ _, 32452843, c + 1, rfl, rfl, mulX (by omega) (by omega) (by omega) (by omega),
      x, 32452843 * (c + 1), rfl, rfl, x + 32452843 * (c + 1), 3, rfl, rfl, ⟨by omega, by have := bits_le m2; omega⟩, .inl ⟨_, rfl, _, _, rfl, rfl, (by show (0 : Int) < 170141183460469231731687303715884105727; decide), ?_⟩⟩
    refine ⟨.int _, rfl, _, 1048576, rfl, rfl, ⟨by decide, by decide⟩, .inl ⟨_, rfl, .int span, rfl, _, span, rfl, rfl, h0, ?_⟩⟩
    exact kk _ W _ m (Int.emod_nonneg _ (by omega)) (Int.emod_lt_of_pos _ h0) hd1 A
end
theorem poolW_okB {CB CS : Addr} {H1 : Hp} {p : Addr} {z0 z1 : Int} (h0 : 0 ≤ z1) (h1 : z1 < 2 ^ 63) : WOk (thB CB CS) (poolW p) (upd H1 p (.lst [.int z0, .int z1, .int 0])) n0 := by
  refine ⟨fun b o e => ?_, fun b r e => ?_, fun b e => ?_, rfl, fun b c e => ?_, z0, z1, 0, upd_same, ⟨h0, h1, by omega, by show (0 : Int) ≤ (((gam n0).1 : Nat) : Int); omega⟩, fun a b q => by unfold bk at q; rw [n0_eq] at q; cases q⟩
  · have e' : (none : Option HO) = some o := e
    cases e'
  · have e' : (none : Option (List (List Nat))) = some r := e
    cases e'
  · have e' : b = p := e
    exact ⟨_, by rw [e']; exact upd_same⟩
  · have e' : (none : Option Addr) = some c := e
    cases e'
theorem law_readB {K : PySem.W.Frag} {CB CS : Addr} {H : Hp} {D : Ends} {a : Addr} {ns : List Int} {M Tn Dn : Nat} {FR : FS} (hs : SqL K H a (ns.map V.int)) (hM : M ≤ 100) (hT : Tn ≤ 1000)
    (hR : ∀ (n : Nat) (P : Lo → Nat → Prop), (gam n).1 ≤ Tn * Dn → (∀ n', (gam n').1 ≤ (gam n).1 + Dn → P (.sh (.bl true)) n') → FR [.pool] n P) (hD : ∀ H', D.rt (.bl true) H') :
    tLaw K M Tn (spV (thB CB CS) 1 FR) D [some (.ref a), none, none, none] H := by
  have c0 := cntOf_le ((ns.map V.int).length : Int) (M : Int)
  refine ⟨.ref a, rfl, a, _, rfl, .inl hs, M, _, rfl, 1, _, rfl, cntOf ((ns.map V.int).length : Int) (M : Int), rfl, by omega, by omega, ?_⟩
  refine for_range (fun i σ H' => ∃ v1 v2 v3, σ = [some (.ref a), v1, v2, v3] ∧ SqL K H' a (ns.map V.int)) ⟨none, none, none, rfl, hs⟩ (fun i σ H1 hi ⟨v1, v2, v3, e, hs1⟩ => ?_) (fun σ H1 ⟨v1, v2, v3, e, hs1⟩ => hD _)
  subst e
  have hi2 : i ≤ 100 := by omega
  refine ⟨.ref a, rfl, .int (0 + (i : Int)), rfl, a, ns, i, by simp, hs1, hi2, fun p z0 z1 hp h0 h1 => ?_⟩
  -- the world of this pool
  have ok : WOk (thB CB CS) (poolW p) (upd H1 p (.lst [.int z0, .int z1, .int 0])) n0 := poolW_okB h0 h1
  refine ⟨(Tn : Int), rfl, by omega, by omega, ?_⟩
  refine for_range (fun t σ H' => ∃ v1 v3 W' n', σ = [some (.ref a), v1, some (.ref p), v3] ∧ After (thB CB CS) (poolW p) (upd H1 p (.lst [.int z0, .int z1, .int 0])) W' H' n' ∧ (gam n').1 ≤ t * Dn) ⟨_, _, poolW p, n0, rfl, After.refl ok, by rw [n0_eq]; omega⟩
    (fun t σ H2 ht ⟨v1, v3, W', n', e, A, hn⟩ => ?_) (fun σ H2 ⟨v1, v3, W', n', e, A, hn⟩ => ?_)
  · subst e
    have ht2 : t < Tn := by simpa using ht
    have hb : (gam n').1 ≤ Tn * Dn := Nat.le_trans hn (Nat.mul_le_mul_right Dn (Nat.le_of_lt ht2))
    refine ⟨.ref p, rfl, W', n', [.pool], fun lo n2 => lo = .sh (.bl true) ∧ (gam n2).1 ≤ (gam n').1 + Dn, rfl, A.ok, ⟨?_, trivial⟩, hR n' _ hb fun n2 h2 => ⟨rfl, h2⟩, fun lo n2 W2 H3 v hl A2 rt => ?_⟩
    · show V.ref p = .ref W'.P
      rw [A.le.p]; rfl
    · obtain ⟨e1, h2⟩ := hl
      subst e1
      have ev : v = .bl true := rt
      subst ev
      refine ⟨true, rfl, ?_⟩
      dsimp only
      refine ⟨_, _, W2, n2, rfl, A.trans A2, ?_⟩
      have : (t + 1) * Dn = t * Dn + Dn := Nat.succ_mul t Dn
      omega
  · refine ⟨_, _, _, e, sqKept hs1 fun o h => ?_⟩
    have nap : a ≠ p := ne_of_none h hp
    exact A.frame a o (fun z => nap z) (by rw [upd_ne nap]; exact h)
def tLaw1 (K : PySem.W.Frag) (M : Int) (spR : Sp) : TS :=
  tSeq (tFor (iRng1 (tCons (tCB rMax (tCons (tC (.int 1)) (tCons (tCB rMin (tCons (tC (.int M)) (tCons (tLenN K) tNil))) tNil))) tNil)) (gName 1)
    (tSeq (tAsg (tCall (spPool K) [] L2.E0 (tCons (tVar 0) (tCons (tVar 1) tNil))) (gName 2))
      (tIfS (L2.tNot (tB (tCall spR [] L2.E0 (tCons (tVar 2) tNil)))) (tRet (tC (.bl false))) tNext)))
  (tRet (tC (.bl true)))
/-- the law that asks once for each pool -/
theorem law1_readB {K : PySem.W.Frag} {CB CS : Addr} {H : Hp} {D : Ends} {a : Addr} {ns : List Int} {M : Nat} {FR : FS} (hs : SqL K H a (ns.map V.int)) (hM : M ≤ 100)
    (hR : ∀ (n : Nat) (P : Lo → Nat → Prop), (gam n).1 = 0 → (∀ n', P (.sh (.bl true)) n') → FR [.pool] n P) (hD : ∀ H', D.rt (.bl true) H') :
    tLaw1 K M (spV (thB CB CS) 1 FR) D [some (.ref a), none, none] H := by
  have c0 := cntOf_le ((ns.map V.int).length : Int) (M : Int)
  refine ⟨.ref a, rfl, a, _, rfl, .inl hs, M, _, rfl, 1, _, rfl, cntOf ((ns.map V.int).length : Int) (M : Int), rfl, by omega, by omega, ?_⟩
  refine for_range (fun i σ H' => ∃ v1 v2, σ = [some (.ref a), v1, v2] ∧ SqL K H' a (ns.map V.int)) ⟨none, none, rfl, hs⟩ (fun i σ H1 hi ⟨v1, v2, e, hs1⟩ => ?_) (fun σ H1 ⟨v1, v2, e, hs1⟩ => hD _)
  subst e
  have hi2 : i ≤ 100 := by omega
  refine ⟨.ref a, rfl, .int (0 + (i : Int)), rfl, a, ns, i, by simp, hs1, hi2, fun p z0 z1 hp h0 h1 => ?_⟩
  have ok : WOk (thB CB CS) (poolW p) (upd H1 p (.lst [.int z0, .int z1, .int 0])) n0 := poolW_okB h0 h1
  refine ⟨.ref p, rfl, poolW p, n0, [.pool], fun lo _ => lo = .sh (.bl true), rfl, ok, ⟨rfl, trivial⟩, hR n0 _ (by rw [n0_eq]) fun n2 => rfl, fun lo n2 W2 H3 v hl A2 rt => ?_⟩
  subst hl
  have ev : v = .bl true := rt
  subst ev
  refine ⟨true, rfl, ?_⟩
  dsimp only
  refine ⟨_, _, rfl, sqKept hs1 fun o h => ?_⟩
  have nap : a ≠ p := ne_of_none h hp
  exact A2.frame a o (fun z => nap z) (by rw [upd_ne nap]; exact h)
end Bk
end Vx

set_option Elab.async false
set_option maxRecDepth 100000
set_option linter.all false
/-! A def that catches all its errors is a def of layer V. -/
namespace Vx
open PySem PySem.Spec PyProof PyProof.Rows L2
theorem quiet_fn {T : Th} {P : Program} {w : World} {K : PySem.W.Frag} {mg : Str → Option Value} {base : Heap} {k m : Nat} {f : Addr} {fd : FuncData} {ps : List Str} {F : FX} {G : FS} (h : FnOk P w K mg base (L2.CX P w) k f fd ps (spVX T m F)) (hF : ∀ los n P, G los n P → F los n P fun _ _ _ => False) :
    FnOk P w K mg base CX0 k f fd ps (spV T m G) :=
  ⟨fun vs H Q E ⟨W, n, los, P, e, ok, as, hf, kk⟩ => h.len vs H Q (fun _ _ _ => False) ⟨W, n, los, P, _, e, ok, as, hF _ _ _ hf, kk, fun _ _ _ _ _ _ _ z => z.elim⟩,
   fun A outer s H args us vs Q E hr e0 hb r ⟨W, n, los, P, e, ok, as, hf, kk⟩ => by
    refine codeAny_mono (h.run A outer s H args us vs Q (fun _ _ _ => False) hr e0 hb r ⟨W, n, los, P, _, e, ok, as, hF _ _ _ hf, kk, fun _ _ _ _ _ _ _ z => z.elim⟩) fun r s' q => ?_
    cases r with
    | error e =>
      obtain ⟨_, _, _, _, _, _, _, _, _, _, _, _, z⟩ := q
      exact z.elim
    | ok fl =>
      cases fl with
      | ret u => exact q
      | next => exact q
      | brk => exact q
      | cont => exact q⟩
end Vx

set_option Elab.async false
set_option maxRecDepth 100000
set_option linter.all false
/-! What is known of the program's error classes. -/
namespace Vx
open PySem PySem.Spec PyProof PyProof.Rows L2
theorem ex_imp {α : Type} {p A B : α → Prop} (h : ∃ t, p t ∧ A t) (i : ∀ t, A t → B t) : ∃ t, p t ∧ B t := by
  obtain ⟨t, h1, h2⟩ := h
  exact ⟨t, h1, i t h2⟩
theorem nb_nil : NoBo [] := fun x hx => by cases hx
theorem fnx_imp {T : Th} {P : Program} {w : World} {K : PySem.W.Frag} {mg : Str → Option Value} {base : Heap} {CX : CXT} {k m : Nat} {f : Addr} {fd : FuncData} {ps : List Str} {F F' : FX} (h : FnOk P w K mg base CX k f fd ps (spVX T m F)) (i : ∀ los n Q G, F' los n Q G → F los n Q G) :
    FnOk P w K mg base CX k f fd ps (spVX T m F') :=
  h.imp fun vs H Q E ⟨W, n, los, P, G, a, b, c, d, e⟩ => ⟨W, n, los, P, G, a, b, c, i _ _ _ _ d, e⟩
/-- an own error class over RowError (at RE) -/
structure ECls (K : PySem.W.Frag) (C RE : Addr) : Prop where
  oex : OexC K C
  mro : PySem.W.mroIn K C (.ref RE) = some true
  sup : PySem.W.ks_superIn K C RE "__init__" = some (some (.builtin "ValueError.__init__"))
  ve : PySem.W.subIn K (.ref C) (.type "ValueError") = some true
  nov : PySem.W.findIn K (.ref C) "value" = some none
  ga : PySem.W.findIn K (.ref C) "__getattribute__" = some (some (.builtin "BaseException.__getattribute__"))
  gg : PySem.W.findIn K (.ref C) "__getattr__" = some none
  hd : PySem.W.hasDictIn K C = true
  cl : PySem.W.findIn K (.ref C) "__class__" = some (some (.builtin "object.__class__"))
  ob : PySem.W.mroIn K C (.type "object") = some true
  re : PySem.W.subIn K (.ref C) (.ref RE) = some true
theorem ECls.sube {K : PySem.W.Frag} {C RE : Addr} (h : ECls K C RE) : SubE K C RE := ⟨h.oex, h.mro, h.sup, h.ve, h.nov⟩
theorem ECls.xf {K : PySem.W.Frag} {C RE : Addr} (h : ECls K C RE) : XfC K C := ⟨h.ga, h.gg, h.oex.exC, h.hd⟩
theorem ECls.excC {K : PySem.W.Frag} {C RE : Addr} (h : ECls K C RE) (q2 : PySem.W.specialIn K (.builtin "object.__class__") "__get__" = some (some (.builtin "getset_descriptor.__get__"))) (q3 : PySem.W.takesIn K (.builtin "object.__class__") = some true) : ExcC K C :=
  ⟨h.ga, h.gg, h.oex.exC, h.hd, h.cl, q2, q3, h.ob⟩
theorem ecls_mk {K : PySem.W.Frag} {C RE : Addr} {nm q : Str} {N : Addr} {bs bm : List Value} {sn : List Str} {sub : List Value} {ab : Bool} {col : Option Bool} {dd : Option Addr} {k0 k1 k2 k3 k5 : Option Value}
    (lk : K.lookup C = some (excClassObj nm q C N bs bm true sn sub ab col dd k0 k1 k2 k3 k5 "ValueError.__new__")) (rv : PySem.HandSPX.refsVE bm = true)
    (sa : PySem.W.findIn K (.ref C) "__setattr__" = some (some (.builtin "object.__setattr__"))) (exC : PySem.W.subIn K (.ref C) (.type "BaseException") = some true) (tyC : PySem.W.typeIn K (.ref C) = some (.type "type")) (kC : PySem.W.keepIn K (.ref C) = true)
    (mro : PySem.W.mroIn K C (.ref RE) = some true) (sup : PySem.W.ks_superIn K C RE "__init__" = some (some (.builtin "ValueError.__init__"))) (ve : PySem.W.subIn K (.ref C) (.type "ValueError") = some true) (nov : PySem.W.findIn K (.ref C) "value" = some none)
    (ga : PySem.W.findIn K (.ref C) "__getattribute__" = some (some (.builtin "BaseException.__getattribute__"))) (gg : PySem.W.findIn K (.ref C) "__getattr__" = some none) (hd : PySem.W.hasDictIn K C = true)
    (cl : PySem.W.findIn K (.ref C) "__class__" = some (some (.builtin "object.__class__"))) (ob : PySem.W.mroIn K C (.type "object") = some true) (re : PySem.W.subIn K (.ref C) (.ref RE) = some true) : ECls K C RE :=
  ⟨⟨⟨nm, q, N, bs, bm, sn, sub, ab, col, dd, k0, k1, k2, k3, k5, lk, rv⟩, sa, exC, tyC, kC⟩, mro, sup, ve, nov, ga, gg, hd, cl, ob, re⟩
section
variable {K : PySem.W.Frag} {mg : Str → Option Value} {C RE : Addr}
theorem err_mk {P : Program} {w : World} {base : Heap} {x : Str} {fI : Addr} {fd : FuncData} (e : ECls K C RE) (mx : mg x = some (.ref C)) (i : PySem.W.findIn K (.ref C) "__init__" = some (some (.ref fI))) (t : PySem.W.typeIn K (.ref fI) = some (.type "function"))
    (F : FnOk P w K mg base (L2.CX P w) 1 fI fd ["self", "value"] (spRow K RE)) (b : Binds K fd ["self", "value"] []) : ErrC P w K mg base x C := ⟨⟨RE, fI, fd, e.sube, i, t, F, b⟩, mx⟩
theorem ECls.hx {xR : PySem.W.subIn K (.ref RE) (.type "BaseException") = some true} {hR : PySem.W.hasDictIn K RE = true} {tR : PySem.W.typeIn K (.ref RE) = some (.type "type")} (e : ECls K C RE) : PySem.W.exmOne K (.ref C) (.ref RE) = some true := PySem.W.exm_ref xR hR tR e.re
end
end Vx

set_option Elab.async false
set_option maxRecDepth 100000
set_option linter.all false
/-! The except suites of k48; ends of suites, by value. -/
namespace L2
open PySem PySem.Spec PyProof PyProof.Rows
section
variable {X : Cx} {a C c1 c2 c3 c4 c5 c6 cX : Addr} {d : Option Addr} {oe : Obj} {pn : List (Addr × Obj)}
theorem suite48 {p1 p2 p3 p4 p5 p6 p7 p8 p9 q1 q2 q3 q4 q5 q6 q7 q8 q9 r1 r2 r3 r4 r5 r6 r7 r8 r9 : Pos} {x1} {n1 n2 n3 n4 n5 n6 nX : Str} {N : List Str} (hz : Zc (.ref C) d oe) (hf : ∃ vs, oe.data = .fields vs) (E : ExcC X.K C) (F : XfC X.K C) (nov : PySem.W.findIn X.K (.ref C) "value" = some none)
    (hI : Gl X "isinstance") (mI : X.mg "isinstance" = none) (hV : Gl X "ValueError") (mV : X.mg "ValueError" = none)
    (h1 : Gl X n1) (m1 : X.mg n1 = some (.ref c1)) (h2 : Gl X n2) (m2 : X.mg n2 = some (.ref c2)) (h3 : Gl X n3) (m3 : X.mg n3 = some (.ref c3))
    (h4 : Gl X n4) (m4 : X.mg n4 = some (.ref c4)) (h5 : Gl X n5) (m5 : X.mg n5 = some (.ref c5)) (h6 : Gl X n6) (m6 : X.mg n6 = some (.ref c6)) (hX : Gl X nX) (mX : X.mg nX = some (.ref cX))
    (e1 : (n1 == ("__debug__" : Str)) = false) (e2 : (n2 == ("__debug__" : Str)) = false) (e3 : (n3 == ("__debug__" : Str)) = false) (e4 : (n4 == ("__debug__" : Str)) = false) (e5 : (n5 == ("__debug__" : Str)) = false) (e6 : (n6 == ("__debug__" : Str)) = false) (eX : (nX == ("__debug__" : Str)) = false)
    (hN : X.N = N) (nd : N.Nodup) (ne : N[2]? = some ("e" : Str)) (no : N[3]? = some ("odd" : Str)) (ll : N.length = 4) (le : X.env.scope.names.lookup ("e" : Str) = some NameKind.local) (lo : X.env.scope.names.lookup ("odd" : Str) = some NameKind.local)
    {b : Bool} (k6 : PySem.W.kitAny X.K (.ref C) [.ref c1, .ref c2, .ref c3, .ref c4, .ref c5, .ref c6] = some false) (kV : PySem.W.kitOne X.K (.ref C) (.type "ValueError") = some true) (kX : PySem.W.kitOne X.K (.ref C) (.ref cX) = some b) :
    ∃ t, PSs (X.suite a ((a, oe) :: pn)) [
      .Assign [.Name "odd" p1] (.Call (.Name "isinstance" p2) [.Name "e" p3, .Tuple [.Name n1 p4, .Name n2 p5, .Name n3 p6, .Name n4 p7, .Name n5 p8, .Name n6 p9] x1 q1] [] q2) q3,
      .Return (some (.List [.Call (.Name "isinstance" q4) [.Name "e" q5, .Name nX q6] [] q7, .BoolOp .Or [.Name "odd" q8, .UnaryOp .Not (.Call (.Name "isinstance" q9) [.Name "e" r1, .Name "ValueError" r2] [] r3) r4] r5, .Attribute (.Name "e" r6) "value" r7] r8)) r9] t ∧
      ∀ (D : Ends) (σ : L2.St) (H : Hp), σ[2]? = some (some (.ref a)) → σ.length = 4 → (∃ (dd : Addr) (v : V), d = some dd ∧ H dd = some (.xd [("value", v)]) ∧
        ∀ H' p, (∀ b o, H b = some o → H' b = some o) → H' p = none → D.rt (.ref p) (upd H' p (.lst [.bl b, .bl false, v]))) → t D σ H := by
  have n2 : X.N[2]? = some ("e" : Str) := by rw [hN]; exact ne
  have n3 : X.N[3]? = some ("odd" : Str) := by rw [hN]; exact no
  have nd' : X.N.Nodup := by rw [hN]; exact nd
  have ve : ∀ pos, PE (X.suite a ((a, oe) :: pn)) (.Name "e" pos) (tVar 2) := fun pos => pe_var n2 (.inl le)
  have vo : ∀ pos, PE (X.suite a ((a, oe) :: pn)) (.Name "odd" pos) (tVar 3) := fun pos => pe_var n3 (.inl lo)
  have is1 : ∀ (x : Str) (v : V) (q1 q2 q3 q4 : Pos), PE (X.suite a ((a, oe) :: pn)) (.Name x q3) (tC v) → PE (X.suite a ((a, oe) :: pn)) (.Call (.Name "isinstance" q1) [.Name "e" q2, .Name x q3] [] q4) (tCB (rIsD X.K C a d) (tCons (tVar 2) (tCons (tC v) tNil))) := fun x v q1 q2 q3 q4 h =>
    pe_callB (call_isD E hz hf) hI mI Vx.boot_isinst (pa_cons (ve q2) (pa_cons h pa_nil))
  refine ⟨_, pss_cons (ps_set (i := 3) (hf := .inr lo) nd' n3 (.inl lo) (pe_callB (call_isD E hz hf) hI mI Vx.boot_isinst (pa_cons (ve p3) (pa_cons (pe_tup (pa_cons (pe_glob h1 m1 (v := .ref c1) rfl e1) (pa_cons (pe_glob h2 m2 (v := .ref c2) rfl e2) (pa_cons (pe_glob h3 m3 (v := .ref c3) rfl e3)
      (pa_cons (pe_glob h4 m4 (v := .ref c4) rfl e4) (pa_cons (pe_glob h5 m5 (v := .ref c5) rfl e5) (pa_cons (pe_glob h6 m6 (v := .ref c6) rfl e6) pa_nil))))))) pa_nil))))
    (pss_one (ps_ret (pe_lst (pa_cons (is1 _ _ _ _ _ _ (pe_glob hX mX (v := .ref cX) rfl eX)) (pa_cons (pe_or (vo q8) (pe_one (pe_not (is1 _ _ _ _ _ _ (pe_bltn hV mV PyProof.Rows.Boot.«ValueError» (v := .ty "ValueError") rfl))))) (pa_cons (pe_xf F nov hz hf (ve r6)) pa_nil)))))), fun D σ H h2 h5 h => ?_⟩
  obtain ⟨dd, v, ed, eh, hq⟩ := h
  subst ed
  have z3 : 3 ≤ sizeLine := by rw [sizeLine_eq]; decide
  have z6 : 6 ≤ sizeLine := by rw [sizeLine_eq]; decide
  have fsl : List.lookup ("value" : Str) [(("value" : Str), v)] = some v := by simp [List.lookup]
  refine ⟨.ref a, h2, z6, fun t ht => ⟨dd, [("value", v)], rfl, ?_, .inr ⟨t, _, false, rfl, upd_same, fun its rv => ?_, ?_⟩⟩⟩
  · rw [upd_ne (ne_of_none eh ht)]
    exact eh
  · have e : its = [.ref c1, .ref c2, .ref c3, .ref c4, .ref c5, .ref c6] := by
      cases rv with | cons r1 rv =>
      cases rv with | cons r2 rv =>
      cases rv with | cons r3 rv =>
      cases rv with | cons r4 rv =>
      cases rv with | cons r5 rv =>
      cases rv with | cons r6 rv =>
      cases rv
      cases r1
      cases r2
      cases r3
      cases r4
      cases r5
      cases r6
      rfl
    rw [e]
    exact k6
  have eh1 : upd H t (.tup [.ref c1, .ref c2, .ref c3, .ref c4, .ref c5, .ref c6]) dd = some (.xd [("value", v)]) := by
    rw [upd_ne (ne_of_none eh ht)]
    exact eh
  have hq1 := fun p (hp : upd H t (.tup [.ref c1, .ref c2, .ref c3, .ref c4, .ref c5, .ref c6]) p = none) => hq _ p (fun b o e => by rw [upd_ne (ne_of_none e ht)]; exact e) hp
  generalize upd H t (.tup [.ref c1, .ref c2, .ref c3, .ref c4, .ref c5, .ref c6]) = H1 at *
  have a3 : (σ.set 3 (some (V.bl false)))[2]? = some (some (.ref a)) := by
    rw [List.getElem?_set_ne (by decide)]
    exact h2
  have o3 : (σ.set 3 (some (V.bl false)))[3]? = some (some (.bl false)) := by rw [List.getElem?_set_self (by omega)]
  unfold gName
  dsimp only
  generalize σ.set 3 (some (V.bl false)) = σ1 at *
  refine ⟨.ref a, a3, dd, [("value", v)], rfl, eh1, .inl ⟨.ref cX, .ref cX, b, rfl, fun u hu => hu, kX, .bl false, o3, false, rfl, ?_⟩⟩
  rw [if_neg (by decide)]
  refine ⟨.ref a, a3, dd, [("value", v)], rfl, eh1, .inl ⟨.ty "ValueError", .type "ValueError", true, rfl, fun u hu => hu, kV, true, rfl, ?_⟩⟩
  exact ⟨.ref a, a3, rfl, rfl, dd, [("value", v)], v, rfl, eh1, fsl, z3, fun p hp => hq1 p hp⟩
end
end L2
namespace Vx
namespace Bk
open PySem PySem.Spec PyProof PyProof.Rows L2
def bsD (bs : List Bool) (i : Int) : List D := bs.map D.bl ++ [.int i]
theorem repBs (W : Wd) (bs : List Bool) (i : Int) : RepL W (bsD bs i) (bs.map V.bl ++ [.int i]) := by
  unfold bsD
  induction bs with
  | nil => exact RepL.cons (by simp [Rep]) RepL.nil
  | cons b bs ih => exact RepL.cons (by simp [Rep]) ih
section
variable {T : Th} {W0 W1 : Wd} {H0 H1 : Hp} {O1 : Addr → Option Ow} {vs1 : VS} {σ1 : L2.St} {tm : List (V × Lo)} {D : EndsV} {D' : Ends} {W : Wd}
theorem suite_endB {bs : List Bool} {i : Int} {dd p : Addr} {o : HO} {H' : Hp} (C : Corr T W0 H0 W tm D D') (R : Rel T W0 H0 W1 H1 O1 vs1 σ1 tm) (hd : H1 dd = none) (k : ∀ b z, upd H1 dd o b = some z → H' b = some z) (hp : H' p = none)
    (h : D.rt (.ow (bsD bs i)) vs1.n) : D'.rt (.ref p) (upd H' p (.lst (bs.map V.bl ++ [.int i]))) := by
  have R3 := (Rel.moreB (R.alloc (o := o) hd) k).fresh (p := p) (xs := bsD bs i) (ws := bs.map V.bl ++ [.int i]) hp (repBs W1 bs i)
  refine C.rt W1 _ (.ref p) (.ow _) vs1.n h ⟨R3.pop.after, ?_⟩
  obtain ⟨p', ws, e, ho, hd', h0, hp', r⟩ := R3.top
  exact ⟨p', ws, e, hd', h0, hp', r⟩
def tsB (al : Addr → Prop) (bs : Addr → List Bool) (i m : Nat) : Addr → Value → Option Addr → TS := fun a cls d D σ H => ∃ C, cls = .ref C ∧ al C ∧ σ[i]? = some (some (.ref a)) ∧ σ.length = m ∧ ∃ (dd : Addr) (v : V), d = some dd ∧ H dd = some (.xd [("value", v)]) ∧
  ∀ H' p, (∀ b o, H b = some o → H' b = some o) → H' p = none → D.rt (.ref p) (upd H' p (.lst ((bs C).map V.bl ++ [v])))
/-- what the errors of the body allow -/
def SokB (al : Addr → Prop) (bs : Addr → List Bool) (m : Nat) (G : XG) (D : EndsV) : Prop := ∀ C d vs, G C d vs → al C ∧ vs.env.length = m ∧ ∃ i : Int, d = .int i ∧ D.rt (.ow (bsD (bs C) i)) vs.n
theorem hsuB {X : Cx} {al : Addr → Prop} {bs : Addr → List Bool} {i m : Nat} {suite : List Stmt} (h : ∀ C, al C → ∀ (a : Addr) (oe : Obj) (d : Option Addr) (pn : List (Addr × Obj)), Zc (.ref C) d oe → (∃ vs, oe.data = .fields vs) →
      ∃ t, PSs (X.suite a ((a, oe) :: pn)) suite t ∧ ∀ (D : Ends) (σ : L2.St) (H : Hp), σ[i]? = some (some (.ref a)) → σ.length = m → (∃ (dd : Addr) (v : V), d = some dd ∧ H dd = some (.xd [("value", v)]) ∧
        ∀ H' p, (∀ b o, H b = some o → H' b = some o) → H' p = none → D.rt (.ref p) (upd H' p (.lst ((bs C).map V.bl ++ [v])))) → t D σ H) :
    ∀ (a : Addr) (oe : Obj) (cls : Value) (d : Option Addr) (pn : List (Addr × Obj)), Zc cls d oe → (∃ vs, oe.data = .fields vs) → PSs (X.suite a ((a, oe) :: pn)) suite (tsB al bs i m a cls d) := fun a oe cls d pn hz hf =>
  ⟨fun pins s σ H D I q => by
    obtain ⟨C, e, hC, h5, h8, q⟩ := q
    subst e
    obtain ⟨t, ht, hr⟩ := h C hC a oe d pn hz hf
    exact ht.run pins s σ H D I (hr D σ H h5 h8 q)⟩
theorem hSB {X : Cx} {Wb : Wd} {Wx : WX} {RE : Addr} {al : Addr → Prop} {bs : Addr → List Bool} {i m : Nat} (him : i < m) (hx : ∀ C, al C → PySem.W.exmOne X.K (.ref C) (.ref RE) = some true) :
    ∀ W G' D D', Le Wb W → SokB al bs m G' D → Corr T W0 H0 W tm D D' → Wish T W0 H0 W tm G' (wAs X.K (.ref RE) i (tsB al bs i m) Wx D') := fun W G' D D' _ so Cr W1 H1 O1 vs1 σ1 C d v dd l g R r hd => by
  obtain ⟨hC, hl, j, rfl, hrt⟩ := so C d vs1 g
  have ev : v = .int j := r
  subst ev
  have hl2 := R.len
  refine ⟨true, hx C hC, fun _ a na => ⟨C, rfl, hC, ?_, ?_, dd, .int j, rfl, upd_same, fun H' p k hp => ?_⟩, fun z => by cases z⟩
  · rw [List.getElem?_set_self (by omega)]
  · rw [List.length_set]; omega
  · have q := suite_endB Cr R hd k hp hrt
    exact q
end
end Bk
end Vx

set_option Elab.async false
set_option maxRecDepth 100000
set_option linter.all false
/-! Reprs of data put together; steps. -/
namespace Vx
namespace Bk
open PySem PySem.Spec PyProof PyProof.Rows L2
theorem strOk_app (a b : Str) : PyData.strOk (a ++ b) = (PyData.strOk a && PyData.strOk b) := by
  show (a.cps ++ b.cps).all _ = (a.cps.all _ && b.cps.all _)
  rw [Array.all_append]
theorem textFrom_ok : ∀ (ts : List Str) (k : Nat) (acc : Str), PyData.strOk acc = true → (∀ t ∈ ts, PyData.strOk t = true) → PyData.strOk (textFrom k acc ts) = true
  | [], k, acc, h, _ => h
  | t :: ts, k, acc, h, ht => by
    show PyData.strOk (textFrom (k + 1) (acc ++ (if k > 0 then ", " else "" : String) ++ t) ts) = true
    refine textFrom_ok ts (k + 1) _ ?_ fun u hu => ht u (by simp [hu])
    rw [strOk_app, strOk_app, h, ht t (by simp)]
    split <;> decide +kernel
theorem join_ok : ∀ (ts : List Str), (∀ t ∈ ts, PyData.strOk t = true) → PyData.strOk (Str.join ", " ts) = true
  | [], _ => by decide +kernel
  | [t], h => h t (by simp)
  | t :: u :: ts, h => by
    show PyData.strOk (t ++ ((", " : String) : Str) ++ Str.join ", " (u :: ts)) = true
    rw [strOk_app, strOk_app, h t (by simp), E0.strOk_of, join_ok (u :: ts) fun x hx => h x (by simp [hx])]
    rfl
/-- data whose text has at most k signs, of depth at most m -/
structure Rs (d : D) (m k : Nat) : Prop where
  fit : ∀ j, m ≤ j → D.fit j d = true
  show' : d.py.showable = true
  len : d.py.shown.length ≤ k
  ok : PyData.strOk d.py.shown = true
theorem Rs.le {d : D} {m m' k k' : Nat} (h : Rs d m k) (hm : m ≤ m') (hk : k ≤ k') : Rs d m' k' := ⟨fun j hj => h.fit j (by omega), h.show', Nat.le_trans h.len hk, h.ok⟩
theorem rs_non : Rs .non 0 4 := ⟨fun j _ => by simp [D.fit], by decide +kernel, by decide +kernel, by decide +kernel⟩
theorem rs_bl (b : Bool) : Rs (.bl b) 0 5 := by
  cases b <;> exact ⟨fun j _ => by simp [D.fit], by decide +kernel, by decide +kernel, by decide +kernel⟩
theorem rs_put : Rs (.str "put") 0 8 := ⟨fun j _ => by simp [D.fit, strOk_put], by decide +kernel, by decide +kernel, by decide +kernel⟩
theorem rs_chg : Rs (.str "change") 0 8 := ⟨fun j _ => by simp [D.fit, strOk_chg], by decide +kernel, by decide +kernel, by decide +kernel⟩
theorem sint_len {i : Int} (h : i.natAbs ≤ 10 ^ 100) : ((toString i : String) : Str).length ≤ 110 := by
  have b : (10 : Nat) ^ 100 < 10 ^ 101 := by decide +kernel
  cases i with
  | ofNat k => exact Nat.le_trans (E0.nat_text_len (i := k) (k := 101) (by decide) (Nat.lt_of_le_of_lt h b)) (by decide)
  | negSucc k =>
    have h2 := E0.nat_text_len (i := k + 1) (k := 101) (by decide) (Nat.lt_of_le_of_lt h b)
    have e : (toString (Int.negSucc k) : String) = "-" ++ toString ((k + 1 : Nat) : Int) := rfl
    rw [e]
    rw [PySem.Str.ofString_eq_toList] at h2 ⊢
    have h3 : ((toString ((k + 1 : Nat) : Int) : String).toList.map Char.toNat).toArray.size ≤ 101 := h2
    show (("-" ++ toString ((k + 1 : Nat) : Int) : String).toList.map Char.toNat).toArray.size ≤ 110
    rw [List.size_toArray, List.length_map] at h3 ⊢
    rw [String.toList_append, List.length_append]
    have : ("-" : String).toList.length = 1 := by decide
    omega
theorem rs_int {i : Int} (h : i.natAbs ≤ 10 ^ 100) : Rs (.int i) 0 110 := by
  have e : (D.int i).py.shown = ((toString i : String) : Str) := by
    show PyData.shown (.int _) = _
    simp [PyData.shown]
  refine ⟨fun j _ => by simp [D.fit], ?_, ?_, ?_⟩
  · show PyData.showable (.int _) = true
    have b : (10 : Nat) ^ 100 < 2 ^ 1900 := by decide +kernel
    have : i.natAbs.log2 < 1920 := Nat.lt_of_lt_of_le (PySem.Flt.log2_lt_of (k := 1900) (by decide) (Nat.lt_of_le_of_lt h b)) (by decide)
    simpa [PyData.showable] using this
  · rw [e]; exact sint_len h
  · rw [e]; exact E0.strOk_of (toString i)
theorem rs_all {m k : Nat} : ∀ (ds : List D), (∀ d ∈ ds, Rs d m k) → (∀ j, m ≤ j → D.fits j ds = true) ∧ PyData.showableAll (D.pys ds) = true ∧ ((PyData.shownAll (D.pys ds)).map (·.length)).sum ≤ k * ds.length ∧ (PyData.shownAll (D.pys ds)).length = ds.length ∧ ∀ t ∈ PyData.shownAll (D.pys ds), PyData.strOk t = true
  | [], _ => by
    have e : D.pys [] = [] := rfl
    rw [e]
    refine ⟨fun j _ => by cases j <;> rfl, ?_⟩
    simp [PyData.showableAll, PyData.shownAll]
  | d :: ds, h => by
    obtain ⟨h0, h1, h2, h3, h4⟩ := rs_all ds fun b hb => h b (by simp [hb])
    have ha := h d (by simp)
    have e : D.pys (d :: ds) = d.py :: D.pys ds := rfl
    refine ⟨fun j hj => by unfold D.fits; rw [ha.fit j hj, h0 j hj]; rfl, ?_⟩
    rw [e]
    refine ⟨?_, ?_, ?_, ?_⟩
    · simp only [PyData.showableAll, ha.show', h1, Bool.and_true]
    · simp only [PyData.shownAll, List.map_cons, List.sum_cons, List.length_cons]
      have := ha.len
      rw [Nat.mul_add]
      omega
    · simp only [PyData.shownAll, List.length_cons, h3]
    · intro t ht
      simp only [PyData.shownAll, List.mem_cons] at ht
      rcases ht with ht | ht
      · rw [ht]; exact ha.ok
      · exact h4 t ht
theorem rs_lst {m k : Nat} {ds : List D} (h : ∀ d ∈ ds, Rs d m k) : Rs (.lst ds) (m + 1) ((k + 2) * ds.length + 3) := by
  obtain ⟨h0, h1, h2, h3, h4⟩ := rs_all ds h
  have e : (D.lst ds).py = .list (D.pys ds) := rfl
  have e2 : (D.lst ds).py.shown = listText (PyData.shownAll (D.pys ds)) := by
    rw [e]
    simp [PyData.shown]
  refine ⟨fun j hj => ?_, ?_, ?_, ?_⟩
  · obtain ⟨i, rfl⟩ : ∃ i, j = i + 1 := ⟨j - 1, by omega⟩
    exact h0 i (by omega)
  · rw [e]
    simpa [PyData.showable] using h1
  · rw [e2]
    have := listText_len_le (PyData.shownAll (D.pys ds))
    rw [h3] at this
    rw [Nat.add_mul]
    omega
  · rw [e2]
    unfold listText
    rw [strOk_app, textFrom_ok _ _ _ (by decide +kernel) h4]
    decide +kernel
theorem rs_tup {m k : Nat} {ds : List D} (h : ∀ d ∈ ds, Rs d m k) : Rs (.tup ds) (m + 1) ((k + 2) * ds.length + 3) := by
  obtain ⟨h0, h1, h2, h3, h4⟩ := rs_all ds h
  have e : (D.tup ds).py = .tuple (D.pys ds) := rfl
  have e2 : (D.tup ds).py.shown = tupleText (PyData.shownAll (D.pys ds)) := by
    rw [e]
    simp [PyData.shown]
  refine ⟨fun j hj => ?_, ?_, ?_, ?_⟩
  · obtain ⟨i, rfl⟩ : ∃ i, j = i + 1 := ⟨j - 1, by omega⟩
    exact h0 i (by omega)
  · rw [e]
    simpa [PyData.showable] using h1
  · rw [e2]
    have := tupleText_len_le (PyData.shownAll (D.pys ds))
    rw [h3] at this
    rw [Nat.add_mul]
    omega
  · rw [e2]
    unfold tupleText
    rw [strOk_app, strOk_app, join_ok _ h4, E0.strOk_of]
    split <;> decide +kernel
theorem eqv_str_self (x : Str) : D.eqv (.str x) (.str x) = true := by simp [D.eqv, D.py, PyData.eqv]
section
variable {d : D} {m k : Nat} {vs vs1 vs2 : VS} {Q : Lo → VS → Prop}
theorem Rs.go (h : Rs d m k) (hm : m ≤ 60) (hk : k ≤ sizeLine) {lo : Lo} (e : lo.dt? = some d) (q : Q (.sh (.str d.py.shown)) vs) : gRepr lo vs Q := by
  unfold gRepr
  rw [e]
  exact ⟨h.fit 60 hm, h.show', Nat.le_trans h.len hk, q⟩
theorem Rs.ne (h : Rs d m k) (q : Q (.sh (.bl false)) vs) : gEq true (.sh (.str d.py.shown)) (.sh (.str d.py.shown)) vs Q := by
  have t : D.fit 60 (.str d.py.shown) = true := by simpa [D.fit] using h.ok
  refine ⟨t, t, ?_⟩
  show Q (.sh (.bl (if true then !D.eqv (.str d.py.shown) (.str d.py.shown) else _))) vs
  rw [eqv_str_self]
  exact q
theorem Rs.eq (h : Rs d m k) (q : Q (.sh (.bl true)) vs) : gEq false (.sh (.str d.py.shown)) (.sh (.str d.py.shown)) vs Q := by
  have t : D.fit 60 (.str d.py.shown) = true := by simpa [D.fit] using h.ok
  refine ⟨t, t, ?_⟩
  show Q (.sh (.bl (D.eqv (.str d.py.shown) (.str d.py.shown)))) vs
  rw [eqv_str_self]
  exact q
theorem g2_go {g : G2} {f1 f2 : WE} {a b : Lo} (h1 : ∀ Q : Lo → VS → Prop, Q a vs1 → f1 vs Q) (h2 : ∀ Q : Lo → VS → Prop, Q b vs2 → f2 vs1 Q) (k : g a b vs2 Q) : w2 g f1 f2 vs Q := h1 _ (h2 _ k)
theorem g1_go {g : G1} {f1 : WE} {a : Lo} (h1 : ∀ Q : Lo → VS → Prop, Q a vs1 → f1 vs Q) (k : g a vs1 Q) : w1 g f1 vs Q := h1 _ k
theorem gEqI {a b : Int} (neg : Bool) (h : Q (.sh (.bl (if neg then !decide (a = b) else decide (a = b)))) vs) : gEq neg (.sh (.int a)) (.sh (.int b)) vs Q := by
  refine ⟨by simp [D.fit], by simp [D.fit], ?_⟩
  rw [eqv_int]
  exact h
theorem gEqF {a b : Int} (h : Q (.sh (.bl (decide (a = b)))) vs) : gEq false (.sh (.int a)) (.sh (.int b)) vs Q := gEqI false h
theorem gNeF {a b : Int} (h : Q (.sh (.bl (!decide (a = b)))) vs) : gEq true (.sh (.int a)) (.sh (.int b)) vs Q := gEqI true h
theorem ix_go {ds : List D} {i : Nat} {d : D} (h : ds[i]? = some d) (q : Q (.sh d) vs) : gIx (.ow ds) (.sh (.int (i : Nat))) vs Q := by
  show (match atI ds ((i : Nat) : Int) with | some d => Q (.sh d) vs | none => False)
  rw [atI_nat, h]
  exact q
theorem dr_go {n : Nat} {P : Lo → Nat → Prop} {span : Int} (h0 : 0 < span) (h1 : span < 2 ^ 8000) (hn : (gam n).1 ≤ 1000000) (k : ∀ (d : Nat) (n' : Nat), (d : Int) < span → Dr1 n n' → P (.sh (.int (d : Nat))) n') : F_drawB [.pool, .sh (.int span)] n P := by
  refine ⟨span, rfl, h0, h1, by omega, fun d n' d0 d1 hd => ?_⟩
  obtain ⟨e, he⟩ : ∃ e : Nat, (e : Int) = d := ⟨d.toNat, by omega⟩
  rw [← he]
  exact k e n' (by omega) hd
theorem big8000 {i : Int} (h : i ≤ 10 ^ 31) : i < 2 ^ 8000 := by
  have b : (10 : Int) ^ 31 < 2 ^ 8000 := by decide +kernel
  omega
end
theorem map_inv {own : List Nat} {tg : Tg} {elt : WE} {env : List (Option Lo)} (I : Nat → List D → Nat → Prop) (top : Nat) : ∀ (ds : List D) (i : Nat) (acc : List D) (n : Nat) (Q : List D → Nat → Prop), i + ds.length ≤ top → acc.length + ds.length ≤ sizeLine → I i acc n →
    (∀ d ∈ ds, ∀ i acc n, i < top → I i acc n → ∀ Q' : Lo → VS → Prop, (∀ lo y env' n', lo.dat? = some y → wipeE env' own = env → I (i + 1) (acc ++ [y]) n' → Q' lo ⟨env', n'⟩) → match bindT tg d env with | some env' => elt ⟨env', n⟩ Q' | none => False) →
    (∀ acc n, I (i + ds.length) acc n → Q acc n) → wMapL own tg wYes elt ds ⟨env, n⟩ acc Q
  | [], i, acc, n, Q, _, _, hi, _, h => by
    rw [wMapL_nil]
    exact h acc n hi
  | d :: ds, i, acc, n, Q, ht, hl, hi, he, h => by
    rw [wMapL_cons]
    rw [List.length_cons] at ht
    have h1 := he d (by simp) i acc n (by omega) hi (fun lo vs2 => match lo.dat? with
        | some y => acc.length < sizeLine ∧ wipeE vs2.env own = env ∧ wMapL own tg wYes elt ds ⟨env, vs2.n⟩ (acc ++ [y]) Q
        | none => False) fun lo y env' n' e1 e2 e3 => by
      rw [e1]
      refine ⟨by simp at hl; omega, e2, map_inv I top ds (i + 1) (acc ++ [y]) n' Q (by omega) (by simp at hl ⊢; omega) e3 (fun d' hd' => he d' (by simp [hd'])) fun acc n hh => h acc n ?_⟩
      rw [List.length_cons, show i + (ds.length + 1) = i + 1 + ds.length by omega]
      exact hh
    simp only [wYes, if_pos]
    exact h1
/-! ### books that only grow -/
/-- the states behind the words put one by one -/
def sts (ws : List (List Int)) : List (List (List Int)) := (List.range (ws.length + 1)).map fun i => ws.take i
theorem sts_app (ws : List (List Int)) (w : List Int) : sts (ws ++ [w]) = sts ws ++ [ws ++ [w]] := by
  unfold sts
  rw [List.length_append, List.length_singleton, List.range_succ, List.map_append]
  congr 1
  · apply List.map_congr_left
    intro i hi
    rw [List.mem_range] at hi
    exact List.take_append_of_le_length (by omega)
  · simp only [List.map_cons, List.map_nil]
    rw [List.take_of_length_le (by simp)]
theorem sts_nil : sts [] = [[]] := rfl
theorem sts_len (ws : List (List Int)) : (sts ws).length = ws.length + 1 := by unfold sts; simp
theorem sts_last (ws : List (List Int)) : (sts ws).getLast?.getD [] = ws := by
  rcases List.eq_nil_or_concat ws with e | ⟨v, w, e⟩
  · subst e; rfl
  · rw [List.concat_eq_append] at e
    subst e
    rw [sts_app]; simp
/-- a book of words put one by one -/
def pB (lim : Option Int) (ws : List (List Int)) : Bo := (lim, ws.map fun w => (none, w), sts ws)
theorem pB_last (lim : Option Int) (ws : List (List Int)) : lastW (pB lim ws) = ws := sts_last ws
theorem pB_sm {lim : Option Int} {ws : List (List Int)} (h : ws.length ≤ 900) : Sm (pB lim ws) :=
  ⟨by
    intro z
    have := sts_len ws
    rw [show sts ws = [] from z] at this
    simp at this, by simp [pB]; omega, by show (sts ws).length ≤ _; rw [sts_len]; omega, by rw [pB_last]; omega⟩
theorem pB_app (lim : Option Int) (ws : List (List Int)) (w : List Int) : pB lim (ws ++ [w]) = (lim, (ws.map fun w => (none, w)) ++ [(none, w)], sts ws ++ [ws ++ [w]]) := by
  unfold pB
  rw [sts_app, List.map_append]
  rfl
theorem pB_nil (lim : Option Int) : pB lim [] = (lim, [], [[]]) := rfl
theorem SetB.at_ {n m a : Nat} {b : Bo} (h : SetB n m a b) : bk m a = some b := h.2.2.1
theorem SetB.ne {n m a c : Nat} {b : Bo} (h : SetB n m a b) (hc : c ≠ a) : bk m c = bk n c := h.2.2.2 c hc
theorem SetB.dr {n m a : Nat} {b : Bo} (h : SetB n m a b) : (gam m).1 = (gam n).1 := h.1
end Bk
end Vx

set_option Elab.async false
set_option maxRecDepth 100000
set_option linter.all false
/-! k48 by value: _law_told, _law_refused. -/
namespace Vx
namespace Bk
open PySem PySem.Spec PyProof PyProof.Rows L2
variable {n : Nat} {P : Lo → Nat → Prop} {los : List Lo} {CN CT CL CU : Addr} {E : EndsV}
def al1 (C0 : Addr) : Addr → Prop := fun C => C = C0
def bs48 : Addr → List Bool := fun _ => [true, false]
def F_told : FS := fun los n P => ∃ way limit : Int, los = [.sh (.int way), .sh (.int limit)] ∧ (limit < 0 → P (.ow (bsD [true, false] limit)) n) ∧ (¬ limit < 0 → ∀ x n', bk n x = none → SetB n n' x (some limit, [], [[]]) → P (.sh (.row [[300, x]])) n')
def b_told (CN : Addr) (_ : XG) : WS := fun vs D => ∃ G', SokB (al1 CN) bs48 4 G' D ∧ (wRet (wIfE (wTst (w2 (gEq false) (wB 0) (wC (.int 0)))) (wNewS CN G' (wN 1)) (wNewS CN G' (wN 1)))) vs D
theorem m_told (h : F_told los n P) : bodyX 4 (b_told CN) los n P fun _ _ _ => False := by
  obtain ⟨way, limit, e, h1, h2⟩ := h
  subst e
  refine ⟨fun C d vs => C = CN ∧ d = .int limit ∧ limit < 0 ∧ vs = ⟨[some (.sh (.int way)), some (.sh (.int limit)), none, none], n⟩, fun C d vs ⟨e1, e2, e3, e4⟩ => ⟨e1, by rw [e4]; rfl, limit, e2, by rw [e4]; exact h1 e3⟩, ?_⟩
  have go : ∀ Q : Lo → VS → Prop, (¬ limit < 0 → ∀ x n', bk n x = none → SetB n n' x (some limit, [], [[]]) → Q (.sh (.row [[300, x]])) ⟨[some (.sh (.int way)), some (.sh (.int limit)), none, none], n'⟩) →
      wNewS CN (fun C d vs => C = CN ∧ d = .int limit ∧ limit < 0 ∧ vs = ⟨[some (.sh (.int way)), some (.sh (.int limit)), none, none], n⟩) (wN 1) ⟨[some (.sh (.int way)), some (.sh (.int limit)), none, none], n⟩ Q := fun Q hq => by
    unfold wNewS
    exact n_sh (d := .int limit) rfl ⟨limit, rfl, fun z => ⟨rfl, rfl, z, rfl⟩, hq⟩
  unfold wRet wIfE wTst
  refine g2_go (a := .sh (.int way)) (b := .sh (.int 0)) (vs1 := ⟨[some (.sh (.int way)), some (.sh (.int limit)), none, none], n⟩) (vs2 := ⟨[some (.sh (.int way)), some (.sh (.int limit)), none, none], n⟩) (fun F hF => b_sh (d := .int way) rfl hF) (fun F hF => hF) (gEqF ?_)
  dsimp only
  split
  · refine go _ ?_
    exact h2
  · refine go _ ?_
    exact h2
/-! ### _law_refused -/
def F_ref : FS := fun los n P => ∃ a b w, los = [.sh (.row [[300, a]]), .sh (wL w)] ∧ bk n a = some b ∧ Sm b ∧ w.length ≤ 1000 ∧
  (overB b = true → P (.ow (bsD [true, false] (((lastW b).length : Int) + 1))) n) ∧ (overB b = false → ∀ m, SetB n m a (b.1, b.2.1 ++ [(none, w)], b.2.2 ++ [lastW b ++ [w]]) → P (.sh .non) m)
def b_ref (CT : Addr) (_ : XG) : WS := wSeq (fun vs D => ∃ G', SokB (al1 CT) bs48 4 G' D ∧ (wDropX (wMethX 2 (F_putX CT) G' (wN 0) (wFCons (wN 1) wFNil))) vs D) (wRet (wC .non))
theorem m_ref (h : F_ref los n P) : bodyX 4 (b_ref CT) los n P fun _ _ _ => False := by
  obtain ⟨a, b, w, e, hb, sm, hw, h1, h2⟩ := h
  subst e
  unfold bodyX b_ref
  rw [wSeq_ap]
  refine ⟨fun C d vs => C = CT ∧ d = .int (((lastW b).length : Int) + 1) ∧ overB b = true ∧ vs = ⟨[some (.sh (.row [[300, a]])), some (.sh (wL w)), none, none], n⟩, fun C d vs ⟨e1, e2, e3, e4⟩ => ⟨e1, by rw [e4]; rfl, _, e2, by rw [e4]; exact h1 e3⟩, ?_⟩
  unfold wDropX wMethX
  refine n_sh (d := .row [[300, a]]) rfl ⟨a, b, rfl, hb, ?_⟩
  refine n_sh (d := wL w) rfl ?_
  exact ⟨rfl, a, b, w, rfl, hb, sm, hw, fun z => ⟨rfl, rfl, z, rfl⟩, fun z m hm => h2 z m hm⟩
end Bk
end Vx

set_option Elab.async false
set_option maxRecDepth 100000
set_option linter.all false
/-! _law_fits of k48, by value. -/
namespace Vx
namespace Bk
open PySem PySem.Spec PyProof PyProof.Rows L2
variable {n : Nat} {P : Lo → Nat → Prop} {los : List Lo} {CN CT CL CU : Addr} {E : EndsV}
theorem told_neg {way wr : Int} (h : wr < 0) (q : P (.ow (bsD [true, false] wr)) n) : F_told [.sh (.int way), .sh (.int wr)] n P := ⟨way, wr, rfl, fun _ => q, fun z => absurd h z⟩
theorem told_pos {way k : Int} (h : 0 ≤ k) (q : ∀ x n', bk n x = none → SetB n n' x (pB (some k) []) → P (.sh (.row [[300, x]])) n') : F_told [.sh (.int way), .sh (.int k)] n P := ⟨way, k, rfl, fun z => absurd z (by omega), fun _ => q⟩
theorem overB_pB (lim : Option Int) (ws : List (List Int)) : overB (pB lim ws) = (match lim with | none => false | some m => decide (m < (ws.length : Int) + 1)) := by
  unfold overB
  rw [pB_last]
  cases lim <;> rfl
theorem ref_over {a : Addr} {k : Nat} {ws : List (List Int)} {w : List Int} (hb : bk n a = some (pB (some k) ws)) (hk : ws.length = k) (h9 : k ≤ 900) (hw : w.length ≤ 1000) (q : P (.ow (bsD [true, false] ((k : Int) + 1))) n) : F_ref [.sh (.row [[300, a]]), .sh (wL w)] n P := by
  refine ⟨a, _, w, rfl, hb, pB_sm (by omega), hw, fun _ => ?_, fun z => ?_⟩
  · rw [pB_last, hk]
    exact q
  · rw [overB_pB] at z
    have : ¬ ((k : Int) < (ws.length : Int) + 1) := by simpa using z
    omega
theorem ref_put {a : Addr} {lim : Option Int} {ws : List (List Int)} {w : List Int} (hb : bk n a = some (pB lim ws)) (hk : ∀ k, lim = some k → (ws.length : Int) < k) (h9 : ws.length ≤ 900) (hw : w.length ≤ 1000) (q : ∀ m, SetB n m a (pB lim (ws ++ [w])) → P (.sh .non) m) : F_ref [.sh (.row [[300, a]]), .sh (wL w)] n P := by
  refine ⟨a, _, w, rfl, hb, pB_sm h9, hw, fun z => ?_, fun _ m hm => q m ?_⟩
  · rw [overB_pB] at z
    cases lim with
    | none => cases z
    | some k =>
      have h1 := hk k rfl
      have : (k : Int) < (ws.length : Int) + 1 := by simpa using z
      omega
  · rw [pB_app]
    rw [pB_last] at hm
    exact hm
abbrev env9 (x1 x2 x3 x4 x5 x6 x7 : Option Lo) : List (Option Lo) := [some .pool, x1, x2, x3, x4, x5, x6, x7, none]
def ii (i : Int) : Option Lo := some (.sh (.int i))
def oB (a : Addr) : Option Lo := some (.sh (.row [[300, a]]))
/-! ### wrong, told -/
def b_s1 : WS := (wSet 1 (w2 gIx (wLst (wCons (w1 (gI1 fun i => -i) (wC (.int 1))) (wCons (w2 (gI0 fun i j => .int (i - j)) (w1 (gI1 fun i => -i) (wC (.int 2))) (wCallN 2 F_drawB (wFCons (wN 0) (wFCons (wC (.int 99)) wFNil)))) (wCons (w2 (gI0 fun i j => .int (i - j)) (wC (.int 0)) (w2 (gI CPow fun i j => .int (i ^ j.toNat)) (wC (.int 10)) (wC (.int 30)))) wNil)))) (wCallN 2 F_drawB (wFCons (wN 0) (wFCons (wC (.int 3)) wFNil)))))
theorem s1_ok (hn : (gam n).1 = 0) (k : ∀ (wr : Int) n', wr < 0 → wr.natAbs ≤ 10 ^ 100 → (gam n').1 ≤ 2 → E.nx ⟨env9 (ii wr) none none none none none none, n'⟩) : b_s1 ⟨env9 none none none none none none none, n⟩ E := by
  have b : (10 : Nat) ^ 30 ≤ 10 ^ 100 := by decide +kernel
  have b2 : (200 : Nat) ≤ 10 ^ 100 := by decide +kernel
  unfold b_s1 wSet
  refine ⟨rfl, dr_go (by decide) (big8000 (by decide)) (by show (gam n).1 ≤ _; omega) fun d n1 hd h1 => ⟨⟨by decide, by decide, by decide⟩, szs 3 (by decide), rfl, dr_go (by decide) (big8000 (by decide)) (by have c1 : (gam n1).1 = (gam n).1 + 1 := h1.1; show (gam n1).1 ≤ _; omega) fun e n2 he h2 => ?_⟩⟩
  have c1 : (gam n1).1 = (gam n).1 + 1 := h1.1
  have c2 : (gam n2).1 = (gam n1).1 + 1 := h2.1
  have : e = 0 ∨ e = 1 ∨ e = 2 := by omega
  rcases this with rfl | rfl | rfl
  · refine ix_go (d := .int (-1)) rfl ⟨by show 1 < 9; decide, trivial, ?_⟩
    exact k (-1) n2 (by decide) (Nat.le_trans (by decide) b2) (by omega)
  · refine ix_go (d := .int (-2 - (d : Int))) rfl ⟨by show 1 < 9; decide, trivial, ?_⟩
    exact k _ n2 (by omega) (Nat.le_trans (by omega) b2) (by omega)
  · refine ix_go (d := .int (0 - 10 ^ (30 : Int).toNat)) rfl ⟨by show 1 < 9; decide, trivial, ?_⟩
    exact k _ n2 (by decide) (Nat.le_trans (by decide +kernel) b) (by omega)
def b_s2 : WS := (wIf (wTst (w2 (gEq true) (w1 gRepr (wLst (wCons (wCallN 2 F_told (wFCons (wC (.int 0)) (wFCons (wN 1) wFNil))) (wCons (wCallN 2 F_told (wFCons (wC (.int 1)) (wFCons (wN 1) wFNil))) wNil)))) (w1 gRepr (w2 gMul (wLst (wCons (wLst (wCons (wC (.bl true)) (wCons (wC (.bl false)) (wCons (wN 1) wNil)))) wNil)) (wC (.int 2))))))
    (wRet (wC (.bl false)))
    wSkip)
theorem rs_due {i : Int} (h : i.natAbs ≤ 10 ^ 100) : Rs (.lst [.bl true, .bl false, .int i]) 1 339 :=
  (rs_lst (m := 0) (k := 110) fun d hd => by
    simp only [List.mem_cons, List.not_mem_nil, or_false] at hd
    rcases hd with e | e | e
    · rw [e]; exact (rs_bl _).le (by decide) (by decide)
    · rw [e]; exact (rs_bl _).le (by decide) (by decide)
    · rw [e]; exact rs_int h).le (by decide) (by simp)
theorem rs_two {d : D} (h : Rs d 1 339) : Rs (.lst [d, d]) 2 700 :=
  (rs_lst (m := 1) (k := 339) fun e he => by
    simp only [List.mem_cons, List.not_mem_nil, or_false] at he
    rcases he with e | e <;> rw [e] <;> exact h).le (by decide) (by simp)
theorem s2_ok {wr : Int} (hw : wr < 0) (hz : wr.natAbs ≤ 10 ^ 100) (k : E.nx ⟨env9 (ii wr) none none none none none none, n⟩) : b_s2 ⟨env9 (ii wr) none none none none none none, n⟩ E := by
  have rs := rs_two (rs_due hz)
  have s1 := szs 1 (by decide)
  have s2 := szs 2 (by decide)
  have s3 := szs 3 (by decide)
  have sz : 700 ≤ sizeLine := szs 700 (by decide)
  unfold b_s2 wIf wTst
  refine g2_go (a := .sh (.str (D.lst [.lst [.bl true, .bl false, .int wr], .lst [.bl true, .bl false, .int wr]]).py.shown)) (b := .sh (.str (D.lst [.lst [.bl true, .bl false, .int wr], .lst [.bl true, .bl false, .int wr]]).py.shown)) (vs1 := ⟨env9 (ii wr) none none none none none none, n⟩) (vs2 := ⟨env9 (ii wr) none none none none none none, n⟩) (fun F hF => ?_) (fun F hF => ?_) (rs.ne k)
  · exact ⟨rfl, told_neg hw ⟨rfl, told_neg hw ⟨s2, rs.go (by decide) sz (lo := .ow [.lst [.bl true, .bl false, .int wr], .lst [.bl true, .bl false, .int wr]]) rfl hF⟩⟩⟩
  · exact ⟨s3, s1, by decide, by decide, s2, rs.go (by decide) sz (lo := .ow [.lst [.bl true, .bl false, .int wr], .lst [.bl true, .bl false, .int wr]]) rfl hF⟩
/-! ### limit, page and bare -/
def b_s3 : WS := (wSet 2 (w2 gIx (wLst (wCons (wC (.int 0)) (wCons (wC (.int 1)) (wCons (wC (.int 2)) (wCons (w2 gAdd (wC (.int 3)) (wCallN 2 F_drawB (wFCons (wN 0) (wFCons (wC (.int 20)) wFNil)))) wNil))))) (wCallN 2 F_drawB (wFCons (wN 0) (wFCons (wC (.int 4)) wFNil)))))
theorem s3_ok {x1 : Option Lo} (hn : (gam n).1 ≤ 2) (k : ∀ (l : Nat) n', l ≤ 22 → (gam n').1 ≤ 4 → E.nx ⟨env9 x1 (ii l) none none none none none, n'⟩) : b_s3 ⟨env9 x1 none none none none none none, n⟩ E := by
  unfold b_s3 wSet
  refine ⟨rfl, dr_go (by decide) (big8000 (by decide)) (by show (gam n).1 ≤ _; omega) fun d n1 hd h1 => ⟨szs 4 (by decide), rfl, dr_go (by decide) (big8000 (by decide)) (by have c1 : (gam n1).1 = (gam n).1 + 1 := h1.1; show (gam n1).1 ≤ _; omega) fun e n2 he h2 => ?_⟩⟩
  have c1 : (gam n1).1 = (gam n).1 + 1 := h1.1
  have c2 : (gam n2).1 = (gam n1).1 + 1 := h2.1
  have : e = 0 ∨ e = 1 ∨ e = 2 ∨ e = 3 := by omega
  rcases this with rfl | rfl | rfl | rfl
  · refine ix_go (d := .int (0 : Nat)) rfl ⟨by show 2 < 9; decide, trivial, ?_⟩
    exact k 0 n2 (by decide) (by omega)
  · refine ix_go (d := .int (1 : Nat)) rfl ⟨by show 2 < 9; decide, trivial, ?_⟩
    exact k 1 n2 (by decide) (by omega)
  · refine ix_go (d := .int (2 : Nat)) rfl ⟨by show 2 < 9; decide, trivial, ?_⟩
    exact k 2 n2 (by decide) (by omega)
  · refine ix_go (d := .int (3 + (d : Int))) rfl ⟨by show 2 < 9; decide, trivial, ?_⟩
    have e : (3 : Int) + (d : Int) = ((3 + d : Nat) : Int) := by omega
    rw [e]
    exact k (3 + d) n2 (by omega) (by omega)
def b_s4 : WS := (wPar 3 4 (wCallN 2 F_told (wFCons (wCallN 2 F_drawB (wFCons (wN 0) (wFCons (wC (.int 2)) wFNil))) (wFCons (wN 2) wFNil))) wNewB)
/-- page x with a limit, bare y without, with the same words -/
structure Two (n x y l : Nat) (ws : List (List Int)) : Prop where
  px : bk n x = some (pB (some (l : Nat)) ws)
  py : bk n y = some (pB none ws)
  ne : x ≠ y
theorem s4_ok {x1 : Option Lo} {l : Nat} (hn : (gam n).1 ≤ 4) (k : ∀ x y n', Two n' x y l [] → (gam n').1 ≤ 5 → E.nx ⟨env9 x1 (ii l) (oB x) (oB y) none none none, n'⟩) : b_s4 ⟨env9 x1 (ii l) none none none none none, n⟩ E := by
  unfold b_s4 wPar
  refine ⟨rfl, dr_go (by decide) (big8000 (by decide)) (by show (gam n).1 ≤ _; omega) fun d n1 hd h1 => ⟨rfl, told_pos (by omega) fun x n2 hx h2 => fun y n3 hy h3 => ⟨by show 3 < 9; decide, by show 4 < 9; decide, trivial, trivial, ?_⟩⟩⟩
  have c1 : (gam n1).1 = (gam n).1 + 1 := h1.1
  have c2 : (gam n2).1 = (gam n1).1 := h2.dr
  have c3 : (gam n3).1 = (gam n2).1 := h3.dr
  have hy' : bk n2 y = none := hy
  have ne : x ≠ y := fun z => by
    rw [z] at h2
    rw [h2.at_] at hy'
    cases hy'
  have hx3 : bk n3 x = some (pB (some (l : Nat)) []) := by
    rw [h3.ne ne]
    exact h2.at_
  exact k x y n3 ⟨hx3, h3.at_, ne⟩ (by
    have c3' : (gam n3).1 = (gam n2).1 := c3
    omega)
/-! ### words put, one by one -/
def b_turn : WS := (wSeq (wSet 6 (wComp (wIR1 (wCallN 2 F_drawB (wFCons (wN 0) (wFCons (wC (.int 4)) wFNil)))) [8] (.name 8) wYes (wCallN 2 F_drawB (wFCons (wN 0) (wFCons (wC (.int 4)) wFNil)))))
    (wIf (wOr (wTst (wIsN true (wCallN 2 F_ref (wFCons (wN 3) (wFCons (wN 6) wFNil))))) (wTst (wIsN true (wCallN 2 F_ref (wFCons (wN 4) (wFCons (wN 6) wFNil))))))
    (wRet (wC (.bl false)))
    wSkip))
theorem Two.dr {n m x y l : Nat} {ws : List (List Int)} (T : Two n x y l ws) (h : ∀ a, bk m a = bk n a) : Two m x y l ws := ⟨by rw [h]; exact T.px, by rw [h]; exact T.py, T.ne⟩
theorem turn_ok {x1 x5 x6 : Option Lo} {x y l c : Nat} {ws : List (List Int)} (T : Two n x y l ws) (hl : ws.length < l) (h22 : l ≤ 22) (hc : (gam n).1 ≤ c) (c9 : c ≤ 500) (k : ∀ w x6 n', Two n' x y l (ws ++ [w]) → (gam n').1 ≤ c + 4 → E.nx ⟨env9 x1 (ii l) (oB x) (oB y) x5 x6 none, n'⟩) :
    b_turn ⟨env9 x1 (ii l) (oB x) (oB y) x5 x6 none, n⟩ E := by
  unfold b_turn
  rw [wSeq_ap]
  have word : ∀ F : EndsV, (∀ (w : List Int) n', w.length ≤ 3 → Two n' x y l ws → (gam n').1 ≤ c + 4 → F.nx ⟨env9 x1 (ii l) (oB x) (oB y) x5 (some (.ow (w.map D.int))) none, n'⟩) → wSet 6 (wComp (wIR1 (wCallN 2 F_drawB (wFCons (wN 0) (wFCons (wC (.int 4)) wFNil)))) [8] (.name 8) wYes (wCallN 2 F_drawB (wFCons (wN 0) (wFCons (wC (.int 4)) wFNil)))) ⟨env9 x1 (ii l) (oB x) (oB y) x5 x6 none, n⟩ F := fun F hF => by
    unfold wSet wComp wIR1
    refine ⟨rfl, dr_go (by decide) (big8000 (by decide)) (by show (gam n).1 ≤ _; omega) fun d n1 hd h1 => ⟨by omega, by omega, rfl, ?_⟩⟩
    have c1 : (gam n1).1 = (gam n).1 + 1 := h1.1
    rw [Int.toNat_natCast]
    have ln : (rng 0 d 1).length = d := rng_length _ _ _
    refine map_inv (env := env9 x1 (ii l) (oB x) (oB y) x5 x6 none) (fun i acc n' => ∃ w : List Int, acc = w.map D.int ∧ w.length = i ∧ Two n' x y l ws ∧ (gam n').1 ≤ c + 1 + i) 3 (rng 0 d 1) 0 [] n1 _ (by omega) (by rw [ln]; exact szs _ (by simp; omega)) ⟨[], rfl, rfl, T.dr h1.bk, by omega⟩ (fun e he i acc n2 hi ⟨w, ew, lw, T2, c2⟩ Q' hQ => ?_) (fun acc n2 ⟨w, ew, lw, T2, c2⟩ => ?_)
    · refine ⟨rfl, dr_go (by decide) (big8000 (by decide)) (by show (gam n2).1 ≤ _; omega) fun v n3 hv h3 => ?_⟩
      have c3 := h3.1
      refine hQ _ (.int v) _ n3 rfl rfl ⟨w ++ [(v : Int)], by rw [ew]; simp, by simp [lw], T2.dr h3.bk, ?_⟩
      have c3' : (gam n3).1 = (gam n2).1 + 1 := c3
      omega
    · refine ⟨by show 6 < 9; decide, trivial, ?_⟩
      subst ew
      exact hF w n2 (by omega) T2 (by omega)
  refine word _ fun w n' hw T2 c2 => ?_
  dsimp only
  unfold wIf wOr wTst wIsN
  refine ⟨rfl, ref_put T2.px (fun k hk => by
    have : (l : Int) = k := Option.some.inj hk
    omega) (by omega) (by omega) fun n3 h3 => ?_⟩
  have T3y : bk n3 y = some (pB none ws) := by rw [h3.ne (Ne.symm T2.ne)]; exact T2.py
  refine ⟨rfl, ref_put T3y (fun k hk => by cases hk) (by omega) (by omega) fun n4 h4 => ?_⟩
  have c3 := h3.dr
  have c4 := h4.dr
  exact k w _ n4 ⟨by rw [h4.ne T2.ne]; exact h3.at_, h4.at_, T2.ne⟩ (by
    have c4' : (gam n4).1 = (gam n3).1 := c4
    have c3' : (gam n3).1 = (gam n').1 := c3
    omega)
theorem lp_turn {x1 : Option Lo} {x y l : Nat} (h22 : l ≤ 22) : ∀ (ds : List D) (ws : List (List Int)) (n c : Nat) (x5 x6 : Option Lo) (E : EndsV), Two n x y l ws → ws.length + ds.length = l → (gam n).1 ≤ c → c + 4 * ds.length ≤ 500 →
    (∀ ws n' x5 x6, Two n' x y l ws → ws.length = l → (gam n').1 ≤ 500 → E.nx ⟨env9 x1 (ii l) (oB x) (oB y) x5 x6 none, n'⟩) → wLoop (.name 5) b_turn ds ⟨env9 x1 (ii l) (oB x) (oB y) x5 x6 none, n⟩ E
  | [], ws, n, c, x5, x6, E, T, hl, hc, hs, k => k ws n _ _ T (by simpa using hl) (by simp at hs; omega)
  | d :: ds, ws, n, c, x5, x6, E, T, hl, hc, hs, k => by
    rw [List.length_cons] at hl hs
    rw [wLoop_cons]
    show b_turn ⟨env9 x1 (ii l) (oB x) (oB y) (some (.sh d)) x6 none, n⟩ _
    refine turn_ok T (by omega) h22 hc (by omega) fun w x6 n' T2 c2 => ?_
    exact lp_turn h22 ds (ws ++ [w]) n' (c + 4) _ _ E T2 (by rw [List.length_append, List.length_singleton]; omega) c2 (by omega) k
end Bk
end Vx

set_option Elab.async false
set_option maxRecDepth 100000
set_option linter.all false
/-! _law_fits of k48, by value: its end. -/
namespace Vx
namespace Bk
open PySem PySem.Spec PyProof PyProof.Rows L2
variable {n : Nat} {P : Lo → Nat → Prop} {los : List Lo} {CN CT CL CU : Addr} {E : EndsV}
/-! ### methods as steps -/
section
variable {i a : Nat} {b : Bo} {vs : VS} {Q : Lo → VS → Prop} {ga : WF} {w : List Int}
theorem sm_of {lim : Option Int} {cs : List Cl} {ss : List (List (List Int))} {s : List (List Int)} (h1 : cs.length ≤ 1000) (h2 : ss.length ≤ 999) (h3 : s.length ≤ 1000) : Sm (lim, cs, ss ++ [s]) :=
  ⟨by simp, h1, by show (ss ++ [s]).length ≤ _; rw [List.length_append, List.length_singleton]; omega, by show ((ss ++ [s]).getLast?.getD []).length ≤ _; simpa using h3⟩
theorem change_go {l : Int} (h : vs.env[i]? = some (oB a)) (hb : bk vs.n a = some b) (sm : Sm b) (hw : w.length ≤ 1000) (h0 : 0 ≤ l) (h1 : l < (lastW b).length) (hga : ∀ Q2 : List Lo → VS → Prop, Q2 [.sh (.int l), .sh (wL w)] vs → ga vs Q2)
    (q : ∀ m, SetB vs.n m a (b.1, b.2.1 ++ [(some l, w)], b.2.2 ++ [(lastW b).set l.toNat w]) → Q (.sh .non) ⟨vs.env, m⟩) : wMethX 3 (F_changeX CL) G0 (wN i) ga vs Q := by
  unfold wMethX
  exact n_sh h ⟨a, b, rfl, hb, hga _ ⟨rfl, a, b, l, w, rfl, hb, sm, hw, fun z => (z ⟨h0, h1⟩).elim, fun _ _ m hm => q m hm⟩⟩
theorem undo_go (h : vs.env[i]? = some (oB a)) (hb : bk vs.n a = some b) (sm : Sm b) (hc : b.2.1 ≠ []) (q : ∀ m, SetB vs.n m a (b.1, b.2.1.dropLast, b.2.2.dropLast) → Q (.sh .non) ⟨vs.env, m⟩) : wMethX 1 (F_undoX CU) G0 (wN i) wFNil vs Q := by
  unfold wMethX
  exact n_sh h ⟨a, b, rfl, hb, rfl, a, b, rfl, hb, sm, fun z => (hc z).elim, fun _ m hm => q m hm⟩
theorem rules_go (h : vs.env[i]? = some (oB a)) (hb : bk vs.n a = some b) (sm : Sm b) (q : Q (.ow ((lastW b).map wL)) vs) : wPropB F_rulesB (wN i) vs Q := by
  unfold wPropB
  exact n_sh h ⟨a, b, rfl, hb, a, b, rfl, hb, sm.ne, sm.ws, q⟩
theorem fits_wL (m : Nat) (ws : List (List Int)) : D.fits (m + 1) (ws.map wL) = true := by
  induction ws with
  | nil => rfl
  | cons w ws ih => rw [List.map_cons]; unfold D.fits; rw [ih, fit_wL]; rfl
theorem eqv_ws (x y : List (List Int)) : D.eqv (.lst (x.map wL)) (.lst (y.map wL)) = decide (x = y) := by rw [eqv_lst, eqvL_mapG eqv_wL]
theorem at_last (xs : List D) (d : D) : atI (xs ++ [d]) (-1) = some d := by
  unfold atI
  have e3 : ixN (xs ++ [d]).length (-1) = some xs.length := by
    unfold ixN
    simp
    omega
  rw [e3]
  show (xs ++ [d])[xs.length]? = _
  simp
theorem ix_last {xs : List D} {d : D} (q : Q (.sh d) vs) : gIx (.ow (xs ++ [d])) (.sh (.int (-1))) vs Q := by
  show (match atI (xs ++ [d]) (-1) with | some d => Q (.sh d) vs | none => False)
  rw [at_last]
  exact q
end
def dueL (l : Nat) : List D := [.bl true, .bl false, .int ((l : Int) + 1)]
theorem due_ne {l : Nat} {vs : VS} {Q : Lo → VS → Prop} {a b : Lo} (ha : a.dt? = some (.lst (dueL l))) (hb : b.dt? = some (.lst (dueL l))) (q : Q (.sh (.bl false)) vs) : gEq true a b vs Q := by
  unfold gEq
  rw [ha, hb]
  refine ⟨rfl, rfl, ?_⟩
  have e : D.eqv (.lst (dueL l)) (.lst (dueL l)) = true := by simp [dueL]
  rw [if_pos rfl, e]
  exact q
def b_s7 : WS := (wSet 7 (wLst (wCons (wC (.bl true)) (wCons (wC (.bl false)) (wCons (w2 gAdd (wB 2) (wC (.int 1))) wNil)))))
theorem s7_ok {x1 x5 x6 : Option Lo} {x y l : Nat} (k : E.nx ⟨env9 x1 (ii l) (oB x) (oB y) x5 x6 (some (.ow (dueL l))), n⟩) : b_s7 ⟨env9 x1 (ii l) (oB x) (oB y) x5 x6 none, n⟩ E := by
  unfold b_s7 wSet
  exact ⟨szs 3 (by decide), by show 7 < 9; decide, trivial, k⟩
def b_s8 : WS := (wIf (wOr (wTst (w2 (gEq true) (w1 gRepr (wLst (wCons (wCallN 2 F_ref (wFCons (wN 3) (wFCons (wLst (wCons (wC (.int 0)) (wCons (wC (.int 1)) wNil))) wFNil))) (wCons (wCallN 2 F_ref (wFCons (wN 3) (wFCons (wLst wNil) wFNil))) wNil)))) (w1 gRepr (wLst (wCons (wN 7) (wCons (wN 7) wNil)))))) (wTst (w2 (gEq true) (wLenB F_lenB (wN 3)) (wB 2))))
    (wRet (wC (.bl false)))
    wSkip)
theorem s8_ok {x1 x5 x6 : Option Lo} {x y l : Nat} {ws : List (List Int)} (T : Two n x y l ws) (hl : ws.length = l) (h22 : l ≤ 22) (k : E.nx ⟨env9 x1 (ii l) (oB x) (oB y) x5 x6 (some (.sh (.lst (dueL l)))), n⟩) : b_s8 ⟨env9 x1 (ii l) (oB x) (oB y) x5 x6 (some (.ow (dueL l))), n⟩ E := by
  have b2 : (200 : Nat) ≤ 10 ^ 100 := by decide +kernel
  have hz : ((l : Int) + 1).natAbs ≤ 10 ^ 100 := Nat.le_trans (by omega) b2
  have rs := rs_two (rs_due hz)
  have s0 := szs 0 (by decide)
  have s2 := szs 2 (by decide)
  have sz : 700 ≤ sizeLine := szs 700 (by decide)
  unfold b_s8 wIf wOr wTst
  refine g2_go (a := .sh (.str (D.lst [.lst (dueL l), .lst (dueL l)]).py.shown)) (b := .sh (.str (D.lst [.lst (dueL l), .lst (dueL l)]).py.shown)) (vs1 := ⟨env9 x1 (ii l) (oB x) (oB y) x5 x6 (some (.ow (dueL l))), n⟩) (vs2 := ⟨env9 x1 (ii l) (oB x) (oB y) x5 x6 (some (.sh (.lst (dueL l)))), n⟩) (fun F hF => ?_) (fun F hF => ?_) (rs.ne ?_)
  · exact ⟨s2, rfl, ref_over (w := [0, 1]) T.px hl (by omega) (by decide) ⟨s0, rfl, ref_over (w := []) T.px hl (by omega) (by decide) ⟨s2, rs.go (by decide) sz (lo := .ow [.lst (dueL l), .lst (dueL l)]) rfl hF⟩⟩⟩
  · exact ⟨s2, rs.go (by decide) sz (lo := .ow [.lst (dueL l), .lst (dueL l)]) rfl hF⟩
  dsimp only
  rw [if_neg (by decide)]
  refine g2_go (a := .sh (.int (l : Nat))) (b := .sh (.int (l : Nat))) (vs1 := ⟨env9 x1 (ii l) (oB x) (oB y) x5 x6 (some (.sh (.lst (dueL l)))), n⟩) (vs2 := ⟨env9 x1 (ii l) (oB x) (oB y) x5 x6 (some (.sh (.lst (dueL l)))), n⟩) (fun F hF => ?_) (fun F hF => b_sh (d := .int (l : Nat)) rfl hF) (gNeF ?_)
  · exact len_go rfl T.px (pB_sm (by omega)) (by rw [pB_last, hl]; exact hF)
  · have e : (!decide (((l : Nat) : Int) = ((l : Nat) : Int))) = false := by simp
    rw [e]
    exact k
/-! ### behind undo and change -/
def b_i1 (CL : Addr) : WS := (wDrop (wMethX 3 (F_changeX CL) G0 (wN 3) (wFCons (w2 (gI0 fun i j => .int (i - j)) (wB 2) (wC (.int 1))) (wFCons (wLst (wCons (wC (.int 0)) wNil)) wFNil))))
def b_i2 (CU : Addr) : WS := (wDrop (wMethX 1 (F_undoX CU) G0 (wN 3) wFNil))
def b_i3 : WS := (wIf (wOr (wTst (w2 (gEq true) (wPropB F_rulesB (wN 3)) (wPropB F_rulesB (wN 4)))) (wOr (wTst (w2 gEqB (wN 3) (wN 4))) (wTst (w2 (gEq true) (wCallN 2 F_ref (wFCons (wN 3) (wFCons (wLst (wCons (wC (.int 7)) wNil)) wFNil))) (wB 7)))))
    (wRet (wC (.bl false)))
    wSkip)
def b_i5 : WS := (wIf (wOr (wTst (wIsN true (wCallN 2 F_ref (wFCons (wN 3) (wFCons (wLst (wCons (wC (.int 7)) wNil)) wFNil))))) (wOr (wTst (w2 (gEq true) (w2 gIx (wPropB F_rulesB (wN 3)) (w1 (gI1 fun i => -i) (wC (.int 1)))) (wLst (wCons (wC (.int 7)) wNil)))) (wTst (w2 (gEq true) (wCallN 2 F_ref (wFCons (wN 3) (wFCons (wLst (wCons (wC (.int 7)) wNil)) wFNil))) (wB 7)))))
    (wRet (wC (.bl false)))
    wSkip)
def b_in (CL CU : Addr) : WS := (wSeq (b_i1 CL)
    (wSeq (b_i2 CU)
    (wSeq b_i3
    (wSeq (b_i2 CU)
    b_i5))))
section
variable {x1 x5 x6 : Option Lo} {x y l : Nat} {ws : List (List Int)} {w : List Int}
abbrev envD (x1 x5 x6 : Option Lo) (x y l : Nat) : List (Option Lo) := env9 x1 (ii l) (oB x) (oB y) x5 x6 (some (.sh (.lst (dueL l))))
theorem i12_ok (T : Two n x y l ws) (hl : ws.length = l) (h0 : 0 < l) (h22 : l ≤ 22) (k : ∀ n', Two n' x y l ws → wSeq b_i3 (wSeq (b_i2 CU) b_i5) ⟨envD x1 x5 x6 x y l, n'⟩ E) : b_in CL CU ⟨envD x1 x5 x6 x y l, n⟩ E := by
  unfold b_in
  rw [wSeq_ap]
  unfold b_i1 wDrop
  refine change_go (b := pB (some (l : Nat)) ws) (l := (l : Int) - 1) (w := [0]) rfl T.px (pB_sm (by omega)) (by decide) (by omega) (by rw [pB_last]; omega) (fun Q2 q2 => ?_) fun m1 h1 => ?_
  · exact ⟨szs 1 (by decide), q2⟩
  dsimp only
  rw [wSeq_ap]
  unfold b_i2 wDrop
  have sl := sts_len ws
  refine undo_go (b := ((pB (some (l : Nat)) ws).1, (pB (some (l : Nat)) ws).2.1 ++ [(some ((l : Int) - 1), [0])], (pB (some (l : Nat)) ws).2.2 ++ [(lastW (pB (some (l : Nat)) ws)).set ((l : Int) - 1).toNat [0]])) rfl h1.at_ (sm_of (by simp [pB]; omega) (by show (sts ws).length ≤ _; omega) (by rw [pB_last, List.length_set]; omega)) (by simp) fun m2 h2 => ?_
  dsimp only
  refine k m2 ⟨?_, by rw [h2.ne (Ne.symm T.ne), h1.ne (Ne.symm T.ne)]; exact T.py, T.ne⟩
  rw [h2.at_]
  simp only [List.dropLast_concat]
theorem i3_ok (T : Two n x y l ws) (hl : ws.length = l) (h22 : l ≤ 22) (k : E.nx ⟨envD x1 x5 x6 x y l, n⟩) : b_i3 ⟨envD x1 x5 x6 x y l, n⟩ E := by
  unfold b_i3 wIf wOr wTst
  refine g2_go (a := .ow (ws.map wL)) (b := .ow (ws.map wL)) (vs1 := ⟨envD x1 x5 x6 x y l, n⟩) (vs2 := ⟨envD x1 x5 x6 x y l, n⟩) (fun F hF => ?_) (fun F hF => ?_) ?_
  · exact rules_go rfl T.px (pB_sm (by omega)) (by rw [pB_last]; exact hF)
  · exact rules_go rfl T.py (pB_sm (by omega)) (by rw [pB_last]; exact hF)
  have f : D.fit 60 (.lst (ws.map wL)) = true := fits_wL 58 ws
  refine ⟨f, f, ?_⟩
  rw [eqv_ws]
  simp only [if_true, decide_true, Bool.not_true]
  rw [if_neg (by decide)]
  refine g2_go (a := .sh (.row [[300, x]])) (b := .sh (.row [[300, y]])) (vs1 := ⟨envD x1 x5 x6 x y l, n⟩) (vs2 := ⟨envD x1 x5 x6 x y l, n⟩) (fun F hF => n_sh (d := .row [[300, x]]) rfl hF) (fun F hF => n_sh (d := .row [[300, y]]) rfl hF) ⟨x, y, _, _, rfl, rfl, T.px, T.py, by simp [pB]; omega, by simp [pB]; omega, ?_⟩
  have e : decide ((pB (some (l : Nat)) ws).1 = (pB none ws).1 ∧ (pB (some (l : Nat)) ws).2.1 = (pB none ws).2.1) = false := by simp [pB]
  rw [e]
  dsimp only
  rw [if_neg (by decide)]
  refine g2_go (a := .ow (dueL l)) (b := .sh (.lst (dueL l))) (vs1 := ⟨envD x1 x5 x6 x y l, n⟩) (vs2 := ⟨envD x1 x5 x6 x y l, n⟩) (fun F hF => ?_) (fun F hF => b_sh (d := .lst (dueL l)) rfl hF) (due_ne rfl rfl k)
  exact ⟨szs 1 (by decide), rfl, ref_over (w := [7]) T.px hl (by omega) (by decide) hF⟩
theorem i45_ok (T : Two n x y l ws) (hl : ws.length = l) (h0 : 0 < l) (h22 : l ≤ 22) (k : ∀ n', bk n' y = some (pB none ws) → E.nx ⟨envD x1 x5 x6 x y l, n'⟩) : wSeq (b_i2 CU) b_i5 ⟨envD x1 x5 x6 x y l, n⟩ E := by
  obtain ⟨v, w, e⟩ : ∃ v w, ws = v ++ [w] := by
    rcases List.eq_nil_or_concat ws with e | ⟨v, w, e⟩
    · rw [e] at hl; simp at hl; omega
    · exact ⟨v, w, by rw [e, List.concat_eq_append]⟩
  have hv : v.length + 1 = l := by rw [← hl, e, List.length_append, List.length_singleton]
  have px : bk n x = some (pB (some (l : Nat)) (v ++ [w])) := by rw [← e]; exact T.px
  rw [wSeq_ap]
  unfold b_i2 wDrop
  refine undo_go (b := pB (some (l : Nat)) (v ++ [w])) rfl px (pB_sm (by simp; omega)) (by simp [pB]) fun m1 h1 => ?_
  have p1 : bk m1 x = some (pB (some (l : Nat)) v) := by
    rw [h1.at_, pB_app]
    simp only [List.dropLast_concat]
    rfl
  have y1 : bk m1 y = some (pB none ws) := by rw [h1.ne (Ne.symm T.ne)]; exact T.py
  dsimp only
  unfold b_i5 wIf wOr wTst wIsN
  refine ⟨szs 1 (by decide), rfl, ref_put (w := [7]) p1 (fun k hk => by
    have : (l : Int) = k := Option.some.inj hk
    omega) (by omega) (by decide) fun m2 h2 => ?_⟩
  have y2 : bk m2 y = some (pB none ws) := by rw [h2.ne (Ne.symm T.ne)]; exact y1
  have p2 : bk m2 x = some (pB (some (l : Nat)) (v ++ [[7]])) := h2.at_
  have s7 : (v ++ [([7] : List Int)]).length = l := by rw [List.length_append, List.length_singleton]; exact hv
  show w2 (gEq true) (w2 gIx (wPropB F_rulesB (wN 3)) (w1 (gI1 fun i => -i) (wC (.int 1)))) (wLst (wCons (wC (.int 7)) wNil)) ⟨envD x1 x5 x6 x y l, m2⟩ _
  refine g2_go (a := .sh (wL [7])) (b := .ow [.int 7]) (vs1 := ⟨envD x1 x5 x6 x y l, m2⟩) (vs2 := ⟨envD x1 x5 x6 x y l, m2⟩) (fun F hF => ?_) (fun F hF => ⟨szs 1 (by decide), hF⟩) ?_
  · refine g2_go (a := .ow ((v ++ [([7] : List Int)]).map wL)) (b := .sh (.int (-1))) (vs1 := ⟨envD x1 x5 x6 x y l, m2⟩) (vs2 := ⟨envD x1 x5 x6 x y l, m2⟩) (fun F hF => ?_) (fun F hF => hF) ?_
    · exact rules_go rfl p2 (pB_sm (by omega)) (by rw [pB_last]; exact hF)
    · rw [List.map_append]
      exact ix_last hF
  refine ⟨rfl, rfl, ?_⟩
  have e7 : D.eqv (wL [7]) (.lst [.int 7]) = true := by
    show D.eqv (wL [7]) (wL [7]) = true
    rw [eqv_wL]; simp
  rw [e7]
  simp only [if_true, Bool.not_true]
  rw [if_neg (by decide)]
  refine g2_go (a := .ow (dueL l)) (b := .sh (.lst (dueL l))) (vs1 := ⟨envD x1 x5 x6 x y l, m2⟩) (vs2 := ⟨envD x1 x5 x6 x y l, m2⟩) (fun F hF => ?_) (fun F hF => b_sh (d := .lst (dueL l)) rfl hF) (due_ne rfl rfl (k m2 y2))
  exact ⟨szs 1 (by decide), rfl, ref_over (w := [7]) p2 s7 (by omega) (by decide) hF⟩
def b_s9 (CL CU : Addr) : WS := (wIf (wTst (w2 (gI0 fun i j => .bl (decide (j < i))) (wB 2) (wC (.int 0)))) (b_in CL CU) wSkip)
theorem s9_ok (T : Two n x y l ws) (hl : ws.length = l) (h22 : l ≤ 22) (k : ∀ n', bk n' y = some (pB none ws) → E.nx ⟨envD x1 x5 x6 x y l, n'⟩) : b_s9 CL CU ⟨envD x1 x5 x6 x y l, n⟩ E := by
  unfold b_s9 wIf wTst
  refine g2_go (a := .sh (.int (l : Nat))) (b := .sh (.int 0)) (vs1 := ⟨envD x1 x5 x6 x y l, n⟩) (vs2 := ⟨envD x1 x5 x6 x y l, n⟩) (fun F hF => b_sh (d := .int (l : Nat)) rfl hF) (fun F hF => hF) ?_
  show (if decide ((0 : Int) < (l : Int)) = true then _ else _)
  by_cases h0 : 0 < l
  · rw [if_pos (decide_eq_true (by omega))]
    refine i12_ok T hl h0 h22 fun n1 T1 => ?_
    rw [wSeq_ap]
    refine i3_ok T1 hl h22 ?_
    dsimp only
    exact i45_ok T1 hl h0 h22 fun n2 h2 => k n2 h2
  · rw [if_neg (by simp; omega)]
    exact k n T.py
def b_s10 : WS := (wRet (wAndV (wIsN false (wCallN 2 F_ref (wFCons (wN 4) (wFCons (wLst (wCons (wC (.int 0)) wNil)) wFNil)))) (wAndV (w2 (gEq false) (wLenB F_lenB (wN 4)) (w2 gAdd (wB 2) (wC (.int 1)))) (w2 (gEq false) (wLenB F_lenB (wCallN 2 F_told (wFCons (wC (.int 0)) (wFCons (w2 (gI CPow fun i j => .int (i ^ j.toNat)) (wC (.int 10)) (wC (.int 30))) wFNil)))) (wC (.int 0))))))
theorem s10_ok (py : bk n y = some (pB none ws)) (hl : ws.length = l) (h22 : l ≤ 22) (k : ∀ n', P (.sh (.bl true)) n') : b_s10 ⟨envD x1 x5 x6 x y l, n⟩ ⟨fun vs => P (.sh .non) vs.n, P, fun _ => False, fun _ => False⟩ := by
  unfold b_s10 wRet wAndV wIsN
  refine ⟨szs 1 (by decide), rfl, ref_put (w := [0]) py (fun k hk => by cases hk) (by omega) (by decide) fun m1 h1 => ?_⟩
  have p1 : bk m1 y = some (pB none (ws ++ [[0]])) := h1.at_
  have l1 : (ws ++ [([0] : List Int)]).length = l + 1 := by rw [List.length_append, List.length_singleton, hl]
  show w2 (gEq false) (wLenB F_lenB (wN 4)) (w2 gAdd (wB 2) (wC (.int 1))) ⟨envD x1 x5 x6 x y l, m1⟩ _
  refine g2_go (a := .sh (.int ((l : Int) + 1))) (b := .sh (.int ((l : Int) + 1))) (vs1 := ⟨envD x1 x5 x6 x y l, m1⟩) (vs2 := ⟨envD x1 x5 x6 x y l, m1⟩) (fun F hF => ?_) (fun F hF => b_sh (d := .int (l : Nat)) rfl hF) (gEqF ?_)
  · exact len_go rfl p1 (pB_sm (by omega)) (by rw [pB_last, l1]; exact hF)
  rw [decide_eq_true (rfl : (l : Int) + 1 = (l : Int) + 1)]
  dsimp only
  rw [if_pos rfl]
  rw [w2_ap']
  unfold wLenB
  refine ⟨⟨by decide, by decide, by decide⟩, rfl, told_pos (by decide) fun z m2 hz h2 => ⟨z, _, rfl, h2.at_, z, _, rfl, h2.at_, (pB_sm (by decide)).ne, 0, ?_, by decide, ?_⟩⟩
  · rw [pB_last]; rfl
  rw [pB_last]
  dsimp only
  show gEq false (.sh (.int 0)) (.sh (.int 0)) ⟨envD x1 x5 x6 x y l, m2⟩ (fun lo vs1 => match lo with
          | Lo.bo xs => P (Lo.ow xs) vs1.n ∧ False
          | Lo.dct kvs => False
          | Lo.fx a d => False
          | Lo.oo p qs xss => False
          | lo => P lo vs1.n)
  refine gEqF ?_
  rw [decide_eq_true (rfl : (0 : Int) = 0)]
  exact k m2
end
/-! ### the whole -/
def b_law_fits (CL CU : Addr) : WS :=
  (wSeq b_s1
    (wSeq b_s2
    (wSeq b_s3
    (wSeq b_s4
    (wSeq (wFor (wIR1 (wN 2)) (.name 5) b_turn)
    (wSeq b_s7
    (wSeq b_s8
    (wSeq (b_s9 CL CU)
    b_s10))))))))
def F_fits : FS := fun los n P => los = [.pool] ∧ (gam n).1 = 0 ∧ ∀ n', P (.sh (.bl true)) n'
theorem m_fits (h : F_fits los n P) : bodyF 9 (b_law_fits CL CU) los n P := by
  obtain ⟨e, hn, hP⟩ := h
  subst e
  unfold bodyF b_law_fits
  show wSeq b_s1 _ ⟨env9 none none none none none none none, n⟩ _
  rw [wSeq_ap]
  refine s1_ok hn fun wr n1 hw hz c1 => ?_
  dsimp only
  rw [wSeq_ap]
  refine s2_ok hw hz ?_
  dsimp only
  rw [wSeq_ap]
  refine s3_ok c1 fun l n2 h22 c2 => ?_
  dsimp only
  rw [wSeq_ap]
  refine s4_ok c2 fun x y n3 T c3 => ?_
  dsimp only
  rw [wSeq_ap]
  have loop : ∀ F : EndsV, (∀ ws n' x5 x6, Two n' x y l ws → ws.length = l → F.nx ⟨env9 (ii wr) (ii l) (oB x) (oB y) x5 x6 none, n'⟩) → wFor (wIR1 (wN 2)) (.name 5) b_turn ⟨env9 (ii wr) (ii l) (oB x) (oB y) none none none, n3⟩ F := fun F hF => by
    unfold wFor wIR1
    refine n_sh (d := .int (l : Nat)) rfl ⟨by omega, by omega, ?_⟩
    rw [Int.toNat_natCast]
    have ln : (rng 0 l 1).length = l := rng_length _ _ _
    exact lp_turn h22 (rng 0 l 1) [] n3 5 _ _ F T (by rw [ln]; simp) c3 (by rw [ln]; omega) fun ws n' x5 x6 T' hl _ => hF ws n' x5 x6 T' hl
  refine loop _ fun ws n4 x5 x6 T4 hl => ?_
  dsimp only
  rw [wSeq_ap]
  refine s7_ok ?_
  dsimp only
  rw [wSeq_ap]
  refine s8_ok T4 hl h22 ?_
  dsimp only
  rw [wSeq_ap]
  refine s9_ok T4 hl h22 fun n5 y5 => ?_
  dsimp only
  exact s10_ok y5 hl h22 hP
end Bk
end Vx

set_option Elab.async false
set_option maxRecDepth 100000
set_option linter.all false
namespace Vx
namespace Bk
open PySem PySem.Spec PyProof PyProof.Rows L2
def top (i : Nat) : Stmt := PySem.Challenge.pw_returnrows_k48_small_books.main.body.getD i (.Pass ⟨0, 0, 0, 0⟩)
structure TxtB (mg : Str → Option Value) (CB CS : Addr) : Prop where
  mgB : mg "Book" = some (.ref CB)
  mgS : mg "SmallBook" = some (.ref CS)
  n_abs : mg "abs" = none
  n_int : mg "int" = none
  n_isinstance : mg "isinstance" = none
  n_len : mg "len" = none
  n_list : mg "list" = none
  n_max : mg "max" = none
  n_min : mg "min" = none
  n_range : mg "range" = none
  n_repr : mg "repr" = none
  n_tuple : mg "tuple" = none
structure ErrY (K : PySem.W.Frag) (mg : Str → Option Value) (RE CL CR CN CM CT CU CD : Addr) : Prop where
  eN : ECls K CN RE
  eT : ECls K CT RE
  eL : ECls K CL RE
  eU : ECls K CU RE
  q2 : PySem.W.specialIn K (.builtin "object.__class__") "__get__" = some (some (.builtin "getset_descriptor.__get__"))
  q3 : PySem.W.takesIn K (.builtin "object.__class__") = some true
  xR : PySem.W.subIn K (.ref RE) (.type "BaseException") = some true
  hR : PySem.W.hasDictIn K RE = true
  tR : PySem.W.typeIn K (.ref RE) = some (.type "type")
  mR : mg "RowError" = some (.ref RE)
  mV : mg "ValueError" = none
  mI : mg "isinstance" = none
  mCL : mg "InvalidLetter" = some (.ref CL)
  mCR : mg "InvalidRules" = some (.ref CR)
  mCN : mg "InvalidNumber" = some (.ref CN)
  mCM : mg "NotMixed" = some (.ref CM)
  mCT : mg "TooMany" = some (.ref CT)
  mCU : mg "NothingToUndo" = some (.ref CU)
  mCD : mg "Unreadable" = some (.ref CD)
  k6CN : PySem.W.kitAny K (.ref CN) [.ref CL, .ref CR, .ref CM, .ref CU, .ref CT, .ref CD] = some false
  k6CT : PySem.W.kitAny K (.ref CT) [.ref CL, .ref CN, .ref CR, .ref CM, .ref CU, .ref CD] = some false
  kVCN : PySem.W.kitOne K (.ref CN) (.type "ValueError") = some true
  kVCT : PySem.W.kitOne K (.ref CT) (.type "ValueError") = some true
  kXCN : PySem.W.kitOne K (.ref CN) (.ref CN) = some true
  kXCT : PySem.W.kitOne K (.ref CT) (.ref CT) = some true
section
variable {P : Program} {w : World} {K : PySem.W.Frag} {mg : Str → Option Value} {base : Heap} {CB CS RE CL CR CN CM CT CU CD : Addr}
abbrev s_book_limit : Stmt := inClass (top 16) 1
abbrev N_book_limit : List Str := ["self"]
theorem sc_book_limit : FnScope N_book_limit ["self"] (defScope s_book_limit) := ⟨rfl, rfl, rfl, by decide +kernel, rfl, by decide +kernel, by decide +kernel⟩
theorem d_book_limit {f : Addr}  (cdv : Value) (A : Around) (outer : List Env) (s : Shared) (H : Hp) (EX : XK) (hr : Room 0 (A.deeper (envOfC "Book.limit" (defScope s_book_limit) s.heap.objs.size f cdv))) :
    VPs (thB CB CS) (cxOf CX0 P w K mg base N_book_limit "Book.limit" (defScope s_book_limit) f cdv A outer s H EX).nox (defBody s_book_limit) b_book_limit :=
  (vps_one (vp_ret ve_non))
abbrev s_smallbook_limit : Stmt := inClass (top 17) 1
abbrev N_smallbook_limit : List Str := ["self"]
theorem sc_smallbook_limit : FnScope N_smallbook_limit ["self"] (defScope s_smallbook_limit) := ⟨rfl, rfl, rfl, by decide +kernel, rfl, by decide +kernel, by decide +kernel⟩
theorem d_smallbook_limit {f : Addr} (B : BkC K CB CS) (cdv : Value) (A : Around) (outer : List Env) (s : Shared) (H : Hp) (EX : XK) (hr : Room 0 (A.deeper (envOfC "SmallBook.limit" (defScope s_smallbook_limit) s.heap.objs.size f cdv))) :
    VPs (thB CB CS) (cxOf CX0 P w K mg base N_smallbook_limit "SmallBook.limit" (defScope s_smallbook_limit) f cdv A outer s H EX).nox (defBody s_smallbook_limit) b_smallbook_limit :=
  (vps_one (vp_ret (ve_great B (ve_n 0))))
abbrev s_book_len : Stmt := inClass (top 16) 3
abbrev N_book_len : List Str := ["self"]
theorem sc_book_len : FnScope N_book_len ["self"] (defScope s_book_len) := ⟨rfl, rfl, rfl, by decide +kernel, rfl, by decide +kernel, by decide +kernel⟩
theorem d_book_len {f : Addr} (T : TxtB mg CB CS) (B : BkC K CB CS) (cdv : Value) (A : Around) (outer : List Env) (s : Shared) (H : Hp) (EX : XK) (hr : Room 0 (A.deeper (envOfC "Book.__len__" (defScope s_book_len) s.heap.objs.size f cdv))) :
    VPs (thB CB CS) (cxOf CX0 P w K mg base N_book_len "Book.__len__" (defScope s_book_len) f cdv A outer s H EX).nox (defBody s_book_len) b_book_len :=
  (vps_one (vp_ret (ve_len rfl T.n_len (ve_item (ve_states B (ve_n 0)) (ve_neg ve_int)))))
abbrev s_book_rules : Stmt := inClass (top 16) 4
abbrev N_book_rules : List Str := ["self", "word"]
theorem sc_book_rules : FnScope N_book_rules ["self"] (defScope s_book_rules) := ⟨rfl, rfl, rfl, by decide +kernel, rfl, by decide +kernel, by decide +kernel⟩
theorem d_book_rules {f : Addr} (T : TxtB mg CB CS) (B : BkC K CB CS) (cdv : Value) (A : Around) (outer : List Env) (s : Shared) (H : Hp) (EX : XK) (hr : Room 0 (A.deeper (envOfC "Book.rules" (defScope s_book_rules) s.heap.objs.size f cdv))) :
    VPs (thB CB CS) (cxOf CX0 P w K mg base N_book_rules "Book.rules" (defScope s_book_rules) f cdv A outer s H EX).nox (defBody s_book_rules) b_book_rules :=
  (vps_one (vp_ret (ve_comp (own := [("word", 1)]) rfl sc_book_rules.nd (vi_any (ve_item (ve_states B (ve_n 0)) (ve_neg ve_int))) (blkOk_by (N := N_book_rules) (sc := (defScope s_book_rules)) (by decide +kernel)) (fun _ _ _ _ _ => (vg_name 1 sc_book_rules.nd rfl (Or.inl rfl))) (fun _ _ _ _ _ => vts_nil) (fun _ _ _ _ _ => (ve_listOf rfl T.n_list (ve_b 1))))))
abbrev s_book_settle : Stmt := inClass (top 16) 5
abbrev N_book_settle : List Str := ["self", "call", "words"]
theorem sc_book_settle : FnScope N_book_settle ["self", "call", "words"] (defScope s_book_settle) := ⟨rfl, rfl, rfl, by decide +kernel, rfl, by decide +kernel, by decide +kernel⟩
theorem d_book_settle {f : Addr} (B : BkC K CB CS) (cdv : Value) (A : Around) (outer : List Env) (s : Shared) (H : Hp) (EX : XK) (hr : Room 0 (A.deeper (envOfC "Book.settle" (defScope s_book_settle) s.heap.objs.size f cdv))) :
    VPs (thB CB CS) (cxOf CX0 P w K mg base N_book_settle "Book.settle" (defScope s_book_settle) f cdv A outer s H EX).nox (defBody s_book_settle) b_book_settle :=
  (vps_cons (vp_setCalls B (ve_n 0) (ve_lst (va_star (ve_calls B (ve_n 0)) (va_cons (ve_n 1) va_nil))))
    (vps_one (vp_setStates B (ve_n 0) (ve_lst (va_star (ve_states B (ve_n 0)) (va_cons (ve_n 2) va_nil))))))
abbrev s_book_eq : Stmt := inClass (top 16) 2
abbrev N_book_eq : List Str := ["self", "other"]
theorem sc_book_eq : FnScope N_book_eq ["self", "other"] (defScope s_book_eq) := ⟨rfl, rfl, rfl, by decide +kernel, rfl, by decide +kernel, by decide +kernel⟩
theorem d_book_eq {f : Addr} (T : TxtB mg CB CS) (B : BkC K CB CS) (IB : IsBC K CB CS) (c_book_limit : MethB P w K mg base CB CS 1 "limit" 1 F_limN F_limS) (cdv : Value) (A : Around) (outer : List Env) (s : Shared) (H : Hp) (EX : XK) (hr : Room 1 (A.deeper (envOfC "Book.__eq__" (defScope s_book_eq) s.heap.objs.size f cdv))) :
    VPs (thB CB CS) (cxOf CX0 P w K mg base N_book_eq "Book.__eq__" (defScope s_book_eq) f cdv A outer s H EX).nox (defBody s_book_eq) b_book_eq :=
  (vps_one (vp_ret (ve_and (ve_isB B IB rfl T.n_isinstance rfl T.mgB (ve_n 1)) (ve_and (ve_eq hr.units (ve_methB0 B c_book_limit (noFld (by decide +kernel)) (hr.mono (by decide)) (ve_n 0)) (ve_methB0 B c_book_limit (noFld (by decide +kernel)) (hr.mono (by decide)) (ve_n 1))) (ve_one (ve_eq hr.units (ve_calls B (ve_n 0)) (ve_calls B (ve_n 1))))))))
abbrev s_book_put : Stmt := inClass (top 16) 6
abbrev N_book_put : List Str := ["self", "word", "most", "count"]
theorem sc_book_put : FnScope N_book_put ["self", "word"] (defScope s_book_put) := ⟨rfl, rfl, rfl, by decide +kernel, rfl, by decide +kernel, by decide +kernel⟩
theorem okx_book_put {f : Addr} {fd : FuncData} (T : TxtB mg CB CS) (B : BkC K CB CS) (c_book_limit : MethB P w K mg base CB CS 1 "limit" 1 F_limN F_limS) (c_book_settle : MethB P w K mg base CB CS 1 "settle" 3 F_settle F_settle) (c_book_len : MethB P w K mg base CB CS 1 "__len__" 1 F_lenB F_lenB) (eT : ErrC P w K mg base "TooMany" CT) (F : Fun K "put" "Book.put" s_book_put f fd) : FnOk P w K mg base (L2.CX P w) 3 f fd ["self", "word"] (spVX (thB CB CS) 2 (F_putX CT)) :=
  fnx_imp (fnx_of (k := 2) (body := b_put CT) F sc_book_put fun cdv A outer s H E W0 G hr tk wi =>
    (vqs_cons (vq_of nb_nil (vp_par 2 3 rfl sc_book_put.nd rfl rfl (by decide) rfl rfl (ve_methB0 B c_book_limit (noFld (by decide +kernel)) (hr.mono (by decide)) (ve_n 0)) (ve_add (ve_lenB B c_book_len (hr.mono (by decide)) rfl T.n_len (ve_n 0)) ve_int) rfl))
    (vqs_cons (vq_if (VW.vt (vw_and (vt_notN (ve_b 2)) (vw_and1 (vt_gt (ve_b 3) (ve_b 2))))) (vqs_one (vq_rz eT rfl tk wi (hr.mono (by decide)) rfl (ve_n 3))) (vqs_of nb_nil vps_nil))
    (vqs_of nb_nil (vps_one (vp_exprV (ve_methB B c_book_settle (noFld (by decide +kernel)) (hr.mono (by decide)) (ve_n 0) (vf_cons (ve_tup (va_cons ve_str (va_cons (ve_tupleOf rfl T.n_tuple (ve_b 1)) va_nil))) (vf_cons (ve_tup (va_star (ve_item (ve_states B (ve_n 0)) (ve_neg ve_int)) (va_cons (ve_tupleOf rfl T.n_tuple (ve_b 1)) va_nil))) vf_nil))))))))) fun _ _ _ _ h => m_putX h
abbrev s_book_change : Stmt := inClass (top 16) 7
abbrev N_book_change : List Str := ["self", "letter", "word", "words", "later"]
theorem sc_book_change : FnScope N_book_change ["self", "letter", "word"] (defScope s_book_change) := ⟨rfl, rfl, rfl, by decide +kernel, rfl, by decide +kernel, by decide +kernel⟩
theorem okx_book_change {f : Addr} {fd : FuncData} (T : TxtB mg CB CS) (B : BkC K CB CS) (c_book_settle : MethB P w K mg base CB CS 1 "settle" 3 F_settle F_settle) (eL : ErrC P w K mg base "InvalidLetter" CL) (F : Fun K "change" "Book.change" s_book_change f fd) : FnOk P w K mg base (L2.CX P w) 3 f fd ["self", "letter", "word"] (spVX (thB CB CS) 3 (F_changeX CL)) :=
  fnx_imp (fnx_of (k := 2) (body := b_change CL) F sc_book_change fun cdv A outer s H E W0 G hr tk wi =>
    (vqs_cons (vq_of nb_nil (vp_set 3 sc_book_change.nd rfl (Or.inl rfl) (ve_item (ve_states B (ve_n 0)) (ve_neg ve_int))))
    (vqs_cons (vq_if (vt_not (vt_leLt ve_int (ve_b 1) (ve_len rfl T.n_len (ve_b 3)))) (vqs_one (vq_rz eL rfl tk wi (hr.mono (by decide)) rfl (ve_n 1))) (vqs_of nb_nil vps_nil))
    (vqs_of nb_nil (vps_cons (vp_set 4 sc_book_change.nd rfl (Or.inl rfl) (ve_tup (va_star (ve_sliceT (ve_b 3) vo_none (vo_some (ve_n 1))) (va_cons (ve_tupleOf rfl T.n_tuple (ve_b 2)) (va_star (ve_sliceT (ve_b 3) (vo_some (ve_add (ve_b 1) ve_int)) vo_none) va_nil)))))
    (vps_one (vp_exprV (ve_methB B c_book_settle (noFld (by decide +kernel)) (hr.mono (by decide)) (ve_n 0) (vf_cons (ve_tup (va_cons ve_str (va_cons (ve_n 1) (va_cons (ve_tupleOf rfl T.n_tuple (ve_b 2)) va_nil)))) (vf_cons (ve_n 4) vf_nil)))))))))) fun _ _ _ _ h => m_changeX h
abbrev s_book_undo : Stmt := inClass (top 16) 8
abbrev N_book_undo : List Str := ["self"]
theorem sc_book_undo : FnScope N_book_undo ["self"] (defScope s_book_undo) := ⟨rfl, rfl, rfl, by decide +kernel, rfl, by decide +kernel, by decide +kernel⟩
theorem okx_book_undo {f : Addr} {fd : FuncData} (B : BkC K CB CS) (eU : ErrC P w K mg base "NothingToUndo" CU) (F : Fun K "undo" "Book.undo" s_book_undo f fd) : FnOk P w K mg base (L2.CX P w) 3 f fd ["self"] (spVX (thB CB CS) 1 (F_undoX CU)) :=
  fnx_imp (fnx_of (k := 2) (body := b_undo CU) F sc_book_undo fun cdv A outer s H E W0 G hr tk wi =>
    (vqs_cons (vq_if (vt_eq hr.units (ve_calls B (ve_n 0)) (ve_lst va_nil)) (vqs_one (vq_rz eU rfl tk wi (hr.mono (by decide)) rfl ve_int)) (vqs_of nb_nil vps_nil))
    (vqs_of nb_nil (vps_cons (vp_setCalls B (ve_n 0) (ve_slice (ve_calls B (ve_n 0)) vo_none (vo_some (ve_neg ve_int))))
    (vps_one (vp_setStates B (ve_n 0) (ve_slice (ve_states B (ve_n 0)) vo_none (vo_some (ve_neg ve_int))))))))) fun _ _ _ _ h => m_undoX h
abbrev s_book_init : Stmt := inClass (top 16) 0
abbrev N_book_init : List Str := ["self"]
theorem sc_book_init : FnScope N_book_init ["self"] (defScope s_book_init) := ⟨rfl, rfl, rfl, by decide +kernel, rfl, by decide +kernel, by decide +kernel⟩
theorem ok_book_init {f : Addr} {fd : FuncData} (B : BkC K CB CS) (F : Fun K "__init__" "Book.__init__" s_book_init f fd) : FnOk P w K mg base CX0 1 f fd ["self"] (spBI CB CS) := by
  refine F.ok sc_book_init (fun vs H Q E h => ?_) (fun cdv A outer s H vs Q E hr h => ?_)
  · obtain ⟨x, C, dx, e, _⟩ := h
    rw [e]; rfl
  · obtain ⟨x, C, dx, e, hC, hx, kk⟩ := h
    subst e
    have main := bi_read (D := { nx := fun _ H' => Q .non H', rt := Q }) (σ := [some (.ref x)]) B hC rfl hx kk
    exact ⟨_, pss_cons (ps_fld (pv 0) (pe_lst pa_nil) (by rfl)) (pss_one (ps_fld (pv 0) (pe_lst (pa_cons (pe_tup pa_nil) pa_nil)) (by rfl))), main⟩
abbrev s_smallbook_init : Stmt := inClass (top 17) 0
theorem ok_small_init {fI cda cc f0 : Addr} {fd0 : FuncData} {kV doc pm ct oc ccl cl : Value} {an od cdd cld : Option Addr} {osl ccs csl : Array (Option Value)} {vs0 : Array Value} {file : Str} {tf : Tok} {cdD : ClassData} (B : BkC K CB CS) (eN : ErrC P w K mg base "InvalidNumber" CN)
    (lk : K.lookup fI = some ⟨oc, od, .func (PySem.W.ksFn "__init__" "SmallBook.__init__" (defArgs s_smallbook_init) (defBody s_smallbook_init) (defScope s_smallbook_init) .none kV doc pm an (.ref cda) ct cc), osl⟩) (hcd : PySem.W.codeIn K (.ref cda) "SmallBook.__init__" = true)
    (hcode : K.lookup cda = some ⟨ccl, cdd, .fields vs0, ccs⟩) (hvs : vs0[2]? = some (.str file tf)) (hfile : ((P.main.file : Str) == file) = true)
    (hcell : K.lookup cc = some ⟨cl, cld, .cell (some (.ref CS)), csl⟩) (hD : PySem.W.clsIn K CS = some cdD) (hms : mg "super" = none) (hst : PySem.W.nsIn K cStatics "thirdparty.any" = some none) (htop : (P.main.scope.names.lookup ("super" : Str)).isSome = false)
    (hsub : PySem.W.mroIn K CS (.ref CS) = some true) (hsup : PySem.W.ks_superIn K CS CS "__init__" = some (some (.ref f0))) (ht0 : PySem.W.typeIn K (.ref f0) = some (.type "function")) (hf0 : PySem.W.fnIn K f0 = true)
    (F0 : FnOk P w K mg base CX0 1 f0 fd0 ["self"] (spBI CB CS)) (hb0 : Binds K fd0 ["self"] []) :
    FnOk P w K mg base (L2.CX P w) 3 fI (PySem.W.ksFn "__init__" "SmallBook.__init__" (defArgs s_smallbook_init) (defBody s_smallbook_init) (defScope s_smallbook_init) .none kV doc pm an (.ref cda) ct cc) ["self", "most"] (spSI CS CN) := by
  obtain ⟨D0, fE, fdE, h1, h2, h3, h4, h5⟩ := eN.ex
  exact (fn_supI (k := 1) (C := CS) (D := CS) (sp0 := spBI CB CS) (ts := tSR K CN) lk hcd hcode hvs hfile hcell hD hms hst hsub hsup ht0 hf0 F0 hb0 rfl rfl (NdefX.nscope_by (by decide +kernel)) rfl htop (by first | rfl | decide +kernel) (fun _ => rfl) rfl fun A outer s H E hr =>
    pss_cons (ps_if (pt_cmpR op_lt (pe_var (i := 1) rfl (.inl rfl)) pe_int (nomark _)) (pss_one (ps_raise rfl (takes_of rfl rfl rfl rfl) (pmk_err h1 h2 h3 h4 (hr.mono (by decide)) h5 rfl eN.mx (pa_cons (pe_var (i := 1) rfl (.inl rfl)) pa_nil)))) pss_nil)
      (pss_one (ps_fld (pe_var (i := 0) rfl (.inl rfl)) (pe_var (i := 1) rfl (.inl rfl)) (by rfl)))).imp fun vs H Q E h => sm_read B h
theorem bd_small {cc : Addr} {kV doc pm cdv ct : Value} {an : Option Addr} : Binds K (PySem.W.ksFn "__init__" "SmallBook.__init__" (defArgs s_smallbook_init) (defBody s_smallbook_init) (defScope s_smallbook_init) .none kV doc pm an cdv ct cc) ["self", "most"] [] :=
  .all fun us hl => match us, hl with | [_, _], _ => rfl
theorem kb_small {cc : Addr} {kV doc pm cdv ct : Value} {an : Option Addr} : KBn K (PySem.W.ksFn "__init__" "SmallBook.__init__" (defArgs s_smallbook_init) (defBody s_smallbook_init) (defScope s_smallbook_init) .none kV doc pm an cdv ct cc) ["self", "most"] 1 [("most" : Str)] (fun us ws => us ++ ws) (fun vs zs => vs ++ zs) :=
  ⟨fun s us ws _ l1 l2 => match us, ws, l1, l2 with | [_], [_], _, _ => BindsTo.of_eq rfl, fun r1 r2 => vals_app (us := []) r2 r1⟩
abbrev s_law_told : Stmt := top 21
abbrev N_law_told : List Str := ["way", "limit", "e", "odd"]
theorem sc_law_told : FnScope N_law_told ["way", "limit"] (defScope s_law_told) := ⟨rfl, rfl, rfl, by decide +kernel, rfl, by decide +kernel, by decide +kernel⟩
theorem okq_law_told {f : Addr} {fd : FuncData} (T : TxtB mg CB CS) (Y : ErrY K mg RE CL CR CN CM CT CU CD) (n_small : NewS P w K mg base CS CN 3) (F : Fun K "_law_told" "_law_told" s_law_told f fd) : FnOk P w K mg base CX0 5 f fd ["way", "limit"] (spV (thB CB CS) 2 F_told) :=
  quiet_fn (fnx_of (k := 4) (body := b_told CN) F sc_law_told fun cdv A outer s H E W0 G hr tk wi => (vqs_one (vq_try (c := .ref RE) (i := 2) (ts := tsB (al1 CN) bs48 2 4) (SokB (al1 CN) bs48 4) rfl rfl sc_law_told.nd rfl rfl ⟨rfl, rfl, .inl Y.mR⟩ tk (hSB (by decide) fun Ce hC => by
      have hC' : Ce = CN := hC
      subst hC'
      exact Y.eN.hx (xR := Y.xR) (hR := Y.hR) (tR := Y.tR))
      (fun W pn xe G' Wy tk' ps wi' => vqs_one (vq_retX (vex_if (vt_eq hr.units (ve_b 0) ve_int) (vex_newS n_small tk' wi' (hr.mono (by decide)) rfl T.mgS (ve_n 1)) (vex_newSK n_small tk' wi' (hr.mono (by decide)) rfl T.mgS (ve_n 1)))))
      (hsuB fun Ce hC a oe d pn hz hf => by
        have hC' : Ce = CN := hC
        subst hC'
        exact suite48 (b := true) (pn := pn) hz hf (Y.eN.excC Y.q2 Y.q3) Y.eN.xf Y.eN.nov (by exact rfl) Y.mI (by exact rfl) Y.mV (by exact rfl) Y.mCL (by exact rfl) Y.mCR (by exact rfl) Y.mCM (by exact rfl) Y.mCU (by exact rfl) Y.mCT (by exact rfl) Y.mCD (by exact rfl) Y.mCN (by decide) (by decide) (by decide) (by decide) (by decide) (by decide) (by decide) rfl sc_law_told.nd rfl rfl rfl (by exact rfl) (by exact rfl) Y.k6CN Y.kVCN Y.kXCN)))) fun los n P h => m_told h
abbrev s_law_refused : Stmt := top 22
abbrev N_law_refused : List Str := ["page", "step", "e", "odd"]
theorem sc_law_refused : FnScope N_law_refused ["page", "step"] (defScope s_law_refused) := ⟨rfl, rfl, rfl, by decide +kernel, rfl, by decide +kernel, by decide +kernel⟩
theorem okq_law_refused {f : Addr} {fd : FuncData} (T : TxtB mg CB CS) (B : BkC K CB CS) (Y : ErrY K mg RE CL CR CN CM CT CU CD) (x_book_put : MethX P w K mg base CB CS 3 "put" 2 (F_putX CT)) (F : Fun K "_law_refused" "_law_refused" s_law_refused f fd) : FnOk P w K mg base CX0 5 f fd ["page", "step"] (spV (thB CB CS) 2 F_ref) :=
  quiet_fn (fnx_of (k := 4) (body := b_ref CT) F sc_law_refused fun cdv A outer s H E W0 G hr tk wi => vqs_cons (vq_try (c := .ref RE) (i := 2) (ts := tsB (al1 CT) bs48 2 4) (SokB (al1 CT) bs48 4) rfl rfl sc_law_refused.nd rfl rfl ⟨rfl, rfl, .inl Y.mR⟩ tk (hSB (by decide) fun Ce hC => by
      have hC' : Ce = CT := hC
      subst hC'
      exact Y.eT.hx (xR := Y.xR) (hR := Y.hR) (tR := Y.tR))
      (fun W pn xe G' Wy tk' ps wi' => vqs_one (vq_exprX (vex_methX B x_book_put (noFld (by decide +kernel)) tk' wi' (hr.mono (by decide)) (ve_n 0) (vf_cons (ve_n 1) vf_nil))))
      (hsuB fun Ce hC a oe d pn hz hf => by
        have hC' : Ce = CT := hC
        subst hC'
        exact suite48 (b := true) (pn := pn) hz hf (Y.eT.excC Y.q2 Y.q3) Y.eT.xf Y.eT.nov (by exact rfl) Y.mI (by exact rfl) Y.mV (by exact rfl) Y.mCL (by exact rfl) Y.mCN (by exact rfl) Y.mCR (by exact rfl) Y.mCM (by exact rfl) Y.mCU (by exact rfl) Y.mCD (by exact rfl) Y.mCT (by decide) (by decide) (by decide) (by decide) (by decide) (by decide) (by decide) rfl sc_law_refused.nd rfl rfl rfl (by exact rfl) (by exact rfl) Y.k6CT Y.kVCT Y.kXCT)) (vqs_of nb_nil (vps_one (vp_ret ve_non)))) fun los n P h => m_ref h
abbrev s_law_fits : Stmt := top 23
abbrev N_law_fits : List Str := ["pool", "wrong", "limit", "page", "bare", "turn", "step", "due", "some"]
theorem sc_law_fits : FnScope N_law_fits ["pool"] (defScope s_law_fits) := ⟨rfl, rfl, rfl, by decide +kernel, rfl, by decide +kernel, by decide +kernel⟩
theorem d_law_fits {f : Addr} (T : TxtB mg CB CS) (B : BkC K CB CS) (c_book_len : MethB P w K mg base CB CS 1 "__len__" 1 F_lenB F_lenB) (c_book_rules : PropB P w K mg base CB CS 1 "rules" F_rulesB) (e_book : EqB P w K mg base CB CS 2) (x_book_change : MethX P w K mg base CB CS 3 "change" 3 (F_changeX CL)) (x_book_undo : MethX P w K mg base CB CS 3 "undo" 1 (F_undoX CU)) (n_book : NewB P w K mg base CB CS 1) (c_law_draw : FnV (thB CB CS) P w K mg base CX0 1 "_law_draw" 2 F_drawB) (c_law_told : FnV (thB CB CS) P w K mg base CX0 5 "_law_told" 2 F_told) (c_law_refused : FnV (thB CB CS) P w K mg base CX0 5 "_law_refused" 2 F_ref) (cdv : Value) (A : Around) (outer : List Env) (s : Shared) (H : Hp) (EX : XK) (hgd : A.guards = some []) (hr : Room 5 (A.deeper (envOfC "_law_fits" (defScope s_law_fits) s.heap.objs.size f cdv))) :
    VPs (thB CB CS) (cxOf CX0 P w K mg base N_law_fits "_law_fits" (defScope s_law_fits) f cdv A outer s H EX).nox (defBody s_law_fits) (b_law_fits CL CU) :=
  (vps_cons (vp_set 1 sc_law_fits.nd rfl (Or.inl rfl) (ve_item (ve_lst (va_cons (ve_neg ve_int) (va_cons (ve_sub (ve_neg ve_int) (ve_call c_law_draw (hr.mono (by decide)) pass0 rfl (vf_cons (ve_n 0) (vf_cons ve_int vf_nil)))) (va_cons (ve_sub ve_int (ve_pow ve_int ve_int)) va_nil)))) (ve_call c_law_draw (hr.mono (by decide)) pass0 rfl (vf_cons (ve_n 0) (vf_cons ve_int vf_nil)))))
    (vps_cons (vp_if (vt_ne hr.units (ve_repr hgd (hu66 hr) rfl T.n_repr (ve_lst (va_cons (ve_call c_law_told (hr.mono (by decide)) pass0 rfl (vf_cons ve_int (vf_cons (ve_n 1) vf_nil))) (va_cons (ve_call c_law_told (hr.mono (by decide)) pass0 rfl (vf_cons ve_int (vf_cons (ve_n 1) vf_nil))) va_nil)))) (ve_repr hgd (hu66 hr) rfl T.n_repr (ve_mul (ve_lst (va_cons (ve_lst (va_cons ve_bl (va_cons ve_bl (va_cons (ve_n 1) va_nil)))) va_nil)) ve_int)))
    (vps_one (vp_ret ve_bl))
    vps_nil)
    (vps_cons (vp_set 2 sc_law_fits.nd rfl (Or.inl rfl) (ve_item (ve_lst (va_cons ve_int (va_cons ve_int (va_cons ve_int (va_cons (ve_add ve_int (ve_call c_law_draw (hr.mono (by decide)) pass0 rfl (vf_cons (ve_n 0) (vf_cons ve_int vf_nil)))) va_nil))))) (ve_call c_law_draw (hr.mono (by decide)) pass0 rfl (vf_cons (ve_n 0) (vf_cons ve_int vf_nil)))))
    (vps_cons (vp_par 3 4 rfl sc_law_fits.nd rfl rfl (by decide) rfl rfl (ve_call c_law_told (hr.mono (by decide)) pass0 rfl (vf_cons (ve_call c_law_draw (hr.mono (by decide)) pass0 rfl (vf_cons (ve_n 0) (vf_cons ve_int vf_nil))) (vf_cons (ve_n 2) vf_nil))) (ve_newB n_book (hr.mono (by decide)) rfl T.mgB) rfl)
    (vps_cons (vp_for PassesOwn.never rfl (vi_range1 (x := "") rfl T.n_range (ve_n 2)) (vg_name 5 sc_law_fits.nd rfl (Or.inl rfl))
    (vps_cons (vp_setComp (own := [("some", 8)]) 6 rfl sc_law_fits.nd rfl rfl (sw_true rfl rfl rfl (by decide +kernel)) (vi_range1 (x := "") rfl T.n_range (ve_call c_law_draw (hr.mono (by decide)) pass0 rfl (vf_cons (ve_n 0) (vf_cons ve_int vf_nil)))) (blkOk_by (N := N_law_fits) (sc := (defScope s_law_fits)) (by decide +kernel)) (fun _ _ _ _ _ => (vg_name 8 sc_law_fits.nd rfl (Or.inl rfl))) (fun _ _ _ _ _ => vts_nil) (fun _ _ _ _ _ => (ve_call c_law_draw (hr.mono (by decide)) pass0 rfl (vf_cons (ve_n 0) (vf_cons ve_int vf_nil)))))
    (vps_one (vp_if (VW.vt (vw_or (vt_notN (ve_call c_law_refused (hr.mono (by decide)) pass0 rfl (vf_cons (ve_n 3) (vf_cons (ve_n 6) vf_nil)))) (vw_or1 (vt_notN (ve_call c_law_refused (hr.mono (by decide)) pass0 rfl (vf_cons (ve_n 4) (vf_cons (ve_n 6) vf_nil)))))))
    (vps_one (vp_ret ve_bl))
    vps_nil))))
    (vps_cons (vp_set 7 sc_law_fits.nd rfl (Or.inl rfl) (ve_lst (va_cons ve_bl (va_cons ve_bl (va_cons (ve_add (ve_b 2) ve_int) va_nil)))))
    (vps_cons (vp_if (VW.vt (vw_or (vt_ne hr.units (ve_repr hgd (hu66 hr) rfl T.n_repr (ve_lst (va_cons (ve_call c_law_refused (hr.mono (by decide)) pass0 rfl (vf_cons (ve_n 3) (vf_cons (ve_lst (va_cons ve_int (va_cons ve_int va_nil))) vf_nil))) (va_cons (ve_call c_law_refused (hr.mono (by decide)) pass0 rfl (vf_cons (ve_n 3) (vf_cons (ve_lst va_nil) vf_nil))) va_nil)))) (ve_repr hgd (hu66 hr) rfl T.n_repr (ve_lst (va_cons (ve_n 7) (va_cons (ve_n 7) va_nil))))) (vw_or1 (vt_ne hr.units (ve_lenB B c_book_len (hr.mono (by decide)) rfl T.n_len (ve_n 3)) (ve_b 2)))))
    (vps_one (vp_ret ve_bl))
    vps_nil)
    (vps_cons (vp_if (vt_gt (ve_b 2) ve_int)
    (vps_cons (vp_exprV (ve_methX B x_book_change (noFld (by decide +kernel)) (hr.mono (by decide)) (ve_n 3) (vf_cons (ve_sub (ve_b 2) ve_int) (vf_cons (ve_lst (va_cons ve_int va_nil)) vf_nil))))
    (vps_cons (vp_exprV (ve_methX0 B x_book_undo (noFld (by decide +kernel)) (hr.mono (by decide)) (ve_n 3)))
    (vps_cons (vp_if (VW.vt (vw_or (vt_ne hr.units (ve_propB B c_book_rules (hr.mono (by decide)) (ve_n 3)) (ve_propB B c_book_rules (hr.mono (by decide)) (ve_n 4))) (vw_or (vt_eqB e_book (hr.mono (by decide)) (ve_n 3) (ve_n 4)) (vw_or1 (vt_ne hr.units (ve_call c_law_refused (hr.mono (by decide)) pass0 rfl (vf_cons (ve_n 3) (vf_cons (ve_lst (va_cons ve_int va_nil)) vf_nil))) (ve_b 7))))))
    (vps_one (vp_ret ve_bl))
    vps_nil)
    (vps_cons (vp_exprV (ve_methX0 B x_book_undo (noFld (by decide +kernel)) (hr.mono (by decide)) (ve_n 3)))
    (vps_one (vp_if (VW.vt (vw_or (vt_notN (ve_call c_law_refused (hr.mono (by decide)) pass0 rfl (vf_cons (ve_n 3) (vf_cons (ve_lst (va_cons ve_int va_nil)) vf_nil)))) (vw_or (vt_ne hr.units (ve_item (ve_propB B c_book_rules (hr.mono (by decide)) (ve_n 3)) (ve_neg ve_int)) (ve_lst (va_cons ve_int va_nil))) (vw_or1 (vt_ne hr.units (ve_call c_law_refused (hr.mono (by decide)) pass0 rfl (vf_cons (ve_n 3) (vf_cons (ve_lst (va_cons ve_int va_nil)) vf_nil))) (ve_b 7))))))
    (vps_one (vp_ret ve_bl))
    vps_nil))))))
    vps_nil)
    (vps_one (vp_ret (ve_and (ve_isN (ve_call c_law_refused (hr.mono (by decide)) pass0 rfl (vf_cons (ve_n 4) (vf_cons (ve_lst (va_cons ve_int va_nil)) vf_nil)))) (ve_and (ve_eq hr.units (ve_lenB B c_book_len (hr.mono (by decide)) rfl T.n_len (ve_n 4)) (ve_add (ve_b 2) ve_int)) (ve_one (ve_eq hr.units (ve_lenB B c_book_len (hr.mono (by decide)) rfl T.n_len (ve_call c_law_told (hr.mono (by decide)) pass0 rfl (vf_cons ve_int (vf_cons (ve_pow ve_int ve_int) vf_nil)))) ve_int))))))))))))))
end
end Bk
end Vx

set_option Elab.async false
set_option maxRecDepth 100000
set_option linter.all false
namespace Vx
namespace Bk
open PySem PySem.Spec PyProof PyProof.Rows L2
section
variable {P : Program} {w : World} {K : PySem.W.Frag} {mg : Str → Option Value} {base : Heap} {CB CS RE CL CR CN CM CT CU CD : Addr}
abbrev s_pool : Stmt := top 19
theorem sc_pool : FnScope ["script", "spot", "cell"] ["script", "spot"] (defScope s_pool) := ⟨rfl, rfl, rfl, by decide +kernel, rfl, by decide +kernel, by decide +kernel⟩
theorem ok_pool {f : Addr} {fd : FuncData} (T : TxtB mg CB CS) (F : Fun K "_law_pool" "_law_pool" s_pool f fd) : FnOk P w K mg base CX0 1 f fd ["script", "spot"] (spPool K) := by
  refine F.ok sc_pool (fun vs H Q E h => ?_) (fun cdv A outer s H vs Q E hr h => ?_)
  · obtain ⟨a, ns, spot, e, _⟩ := h
    rw [e]; rfl
  · obtain ⟨a, ns, spot, e, hs, h1, kk⟩ := h
    subst e
    have main := pool_read (K := K) hs h1 (D := { nx := fun _ H' => Q .non H', rt := Q }) kk
    refine ⟨_, pss_cons (ps_set (i := 2) sc_pool.nd rfl (Or.inl rfl) pe_int)
      (pss_cons (ps_if (pt_cmpR op_lt (pv 1) (pe_callB call_len_seq (by rfl) (by exact T.n_len) PySem.boot_len (pa_cons (pv 0) pa_nil)) (nomark _)) (pss_one (ps_set (i := 2) sc_pool.nd rfl (Or.inl rfl) (pe_ix ix_list (pv 0) (pv 1) (fun _ _ => rfl)))) pss_nil)
      (pss_one (ps_ret (pe_lst (pa_cons (pe_callB (call_max2 (by rfl)) (by rfl) (by exact T.n_max) (by rfl) (pa_cons pe_int (pa_cons (pe_op op_sub (pe_callB call_abs (by rfl) (by exact T.n_abs) (by rfl) (pa_cons (pv 2) pa_nil)) (pe_op op_pow pe_int pe_int)) pa_nil)))
        (pa_cons (pe_op op_add (pe_op op_mod (pe_callTy call_int1 (by rfl) (by exact T.n_int) (by rfl) (pa_cons (pv 2) pa_nil)) pe_int) (pe_op op_mulX pe_int (pe_op op_add (pv 1) pe_int)))
        (pa_cons pe_int pa_nil))))))), main⟩
abbrev s_draw : Stmt := top 20
theorem sc_draw : FnScope ["pool", "span", "drawn", "mixed"] ["pool", "span"] (defScope s_draw) := ⟨rfl, rfl, rfl, by decide +kernel, rfl, by decide +kernel, by decide +kernel⟩
theorem ok_draw {f : Addr} {fd : FuncData} (T : TxtB mg CB CS) (F : Fun K "_law_draw" "_law_draw" s_draw f fd) : FnOk P w K mg base CX0 1 f fd ["pool", "span"] (spV (thB CB CS) 2 F_drawB) := by
  refine F.ok sc_draw (fun vs H Q E h => ?_) (fun cdv A outer s H vs Q E hr h => ?_)
  · obtain ⟨W, n, los, P', e, _⟩ := h
    exact e
  · obtain ⟨W, n, los, P', e, ok, as, ⟨span, el, h0, h1, hn, hP⟩, kk⟩ := h
    subst el
    obtain ⟨rfl⟩ : vs = [.ref W.P, .int span] := by
      match vs, as with
      | [v, u], ⟨a1, a2, _⟩ =>
        have e1 : v = .ref W.P := a1
        have e2 : u = .int span := a2
        rw [e1, e2]
    have main := draw_readB (K := K) ok h0 h1 hn (fun d W' H' n' d0 d1 hd A' => kk _ _ W' H' _ (hP d n' d0 d1 hd) A' (by show Rep W' _ _; simp [Rep])) (D := { nx := fun _ H' => Q .non H', rt := Q }) rfl
    refine ⟨_, pss_cons (ps_if (pt_cmpR op_gt (pe_ix ix_list (pv 0) pe_int (fun _ _ => rfl)) pe_int (nomark _))
        (pss_cons (ps_set (i := 2) sc_draw.nd rfl (Or.inl rfl) (pe_op op_mod (pe_callTy call_int1 (by rfl) (by exact T.n_int) (by rfl) (pa_cons (pe_ix ix_list (pv 0) pe_int (fun _ _ => rfl)) pa_nil)) (pv 1)))
          (pss_cons (ps_asg (pe_op op_fdivW (pe_ix ix_list (pv 0) pe_int (fun _ _ => rfl)) (pv 1)) (pg_sub (pv 0) pe_int set_list)) (pss_one (ps_ret (pv 2))))) pss_nil)
      (pss_cons (ps_asg (pe_op op_add (pe_ix ix_list (pv 0) pe_int (fun _ _ => rfl)) pe_int) (pg_sub (pv 0) pe_int set_list))
      (pss_cons (ps_set (i := 3) sc_draw.nd rfl (Or.inl rfl) (pe_op op_mod (pe_callTy call_int1 (by rfl) (by exact T.n_int) (by rfl) (pa_cons (pe_op op_powW (pe_op op_add (pe_ix ix_list (pv 0) pe_int (fun _ _ => rfl)) (pe_op op_mulX pe_int (pe_ix ix_list (pv 0) pe_int (fun _ _ => rfl)))) pe_int) pa_nil)) pe_int))
      (pss_cons (ps_set (i := 3) sc_draw.nd rfl (Or.inl rfl) (pe_op op_mod (pe_callTy call_int1 (by rfl) (by exact T.n_int) (by rfl) (pa_cons (pe_op op_powW (pe_op op_add (pv 3) (pe_op op_mulX pe_int (pe_ix ix_list (pv 0) pe_int (fun _ _ => rfl)))) pe_int) pa_nil)) pe_int))
      (pss_one (ps_ret (pe_op op_mod (pe_callTy call_int1 (by rfl) (by exact T.n_int) (by rfl) (pa_cons (pe_op op_fdivW (pv 3) pe_int) pa_nil)) (pv 1))))))), main⟩
theorem c_draw {f : Addr} {fd : FuncData} (T : TxtB mg CB CS) (F : Fun K "_law_draw" "_law_draw" s_draw f fd) (hm : mg "_law_draw" = some (.ref f)) (hb : Binds K fd ["pool", "span"] []) : FnV (thB CB CS) P w K mg base CX0 1 "_law_draw" 2 F_drawB := ⟨f, fd, _, ok_draw T F, hm, F.kp, hb⟩
abbrev s_rowerr : Stmt := inClass (top 2) 0
theorem ok_rowerr {fI RE cda cc : Addr} {dV kV doc pm ct oc ccl cl : Value} {an od cdd cld : Option Addr} {osl ccs csl : Array (Option Value)} {vs0 : Array Value} {file : Str} {tf : Tok} {cdD : ClassData}
    (lk : K.lookup fI = some ⟨oc, od, .func (PySem.W.ksFn "__init__" "RowError.__init__" (defArgs s_rowerr) (defBody s_rowerr) (defScope s_rowerr) dV kV doc pm an (.ref cda) ct cc), osl⟩) (hcd : PySem.W.codeIn K (.ref cda) "RowError.__init__" = true)
    (hcode : K.lookup cda = some ⟨ccl, cdd, .fields vs0, ccs⟩) (hvs : vs0[2]? = some (.str file tf)) (hfile : ((P.main.file : Str) == file) = true)
    (hcell : K.lookup cc = some ⟨cl, cld, .cell (some (.ref RE)), csl⟩) (hD : PySem.W.clsIn K RE = some cdD) (hms : mg "super" = none) (hst : PySem.W.nsIn K cStatics "thirdparty.any" = some none) (htop : (P.main.scope.names.lookup ("super" : Str)).isSome = false) :
    FnOk P w K mg base (L2.CX P w) 1 fI (PySem.W.ksFn "__init__" "RowError.__init__" (defArgs s_rowerr) (defBody s_rowerr) (defScope s_rowerr) dV kV doc pm an (.ref cda) ct cc) ["self", "value"] (spRow K RE) :=
  fn_rowE (k := 0) lk hcd hcode hvs hfile hcell hD hms hst rfl rfl (NdefX.nscope_by (by decide +kernel)) rfl htop (by first | rfl | decide +kernel) (fun _ => rfl) rfl
theorem bd_rowerr {cc : Addr} {kV doc pm cdv ct : Value} {an : Option Addr} : Binds K (PySem.W.ksFn "__init__" "RowError.__init__" (defArgs s_rowerr) (defBody s_rowerr) (defScope s_rowerr) .none kV doc pm an cdv ct cc) ["self", "value"] [] :=
  .all fun us hl => match us, hl with | [_, _], _ => rfl
abbrev s_law : Stmt := top 24
theorem sc_law : FnScope ["script", "spot", "pool"] ["script"] (defScope s_law) := ⟨rfl, rfl, rfl, by decide +kernel, rfl, by decide +kernel, by decide +kernel⟩
def spLaw (K : PySem.W.Frag) : Sp := fun vs H Q _ => ∃ (a : Addr) (ns : List Int), vs = [.ref a] ∧ SqL K H a (ns.map V.int) ∧ ns.length ≤ 63 ∧ ∀ H', Q (.bl true) H'
theorem ok_law {f fp fr : Addr} {fd fdp fdr : FuncData} {k : Nat} {FR : FS} (T : TxtB mg CB CS) (F : Fun K "law" "law" s_law f fd)
    (FP : FnOk P w K mg base CX0 1 fp fdp ["script", "spot"] (spPool K)) (hp : mg "_law_pool" = some (.ref fp)) (kp : PySem.W.keepIn K (.ref fp) = true) (bp : Binds K fdp ["script", "spot"] [])
    (FRk : FnG P w K mg base (k + 1) fr fdr ["pool"] (spV (thB CB CS) 1 FR)) (hpr : mg "_law_fits" = some (.ref fr)) (kr : PySem.W.keepIn K (.ref fr) = true) (br : Binds K fdr ["pool"] [])
    (hR : ∀ (n : Nat) (P : Lo → Nat → Prop), (gam n).1 = 0 → (∀ n', P (.sh (.bl true)) n') → FR [.pool] n P) : FnG P w K mg base (k + 2) f fd ["script"] (spLaw K) := by
  refine FnG.ofBody F sc_law (fun vs H Q h => ?_) (fun cdv A outer s H vs Q hgd hr h => ?_)
  · obtain ⟨a, ns, e, _⟩ := h
    rw [e]; rfl
  · obtain ⟨a, ns, e, hs, h1, kk⟩ := h
    subst e
    have main := law1_readB (K := K) (CB := CB) (CS := CS) (M := 6) (FR := FR) hs (by decide) hR (D := { nx := fun _ H' => Q .non H', rt := Q }) kk
    refine ⟨_, pss_cons (ps_for PassesOwn.never rfl (pi_range1 (by rfl) (by exact T.n_range) (pa_cons (pe_callB (call_max2 (by rfl)) (by rfl) (by exact T.n_max) (by rfl) (pa_cons pe_int (pa_cons (pe_callB (call_min2 (by rfl)) (by rfl) (by exact T.n_min) (by rfl) (pa_cons pe_int (pa_cons (pe_callB call_len_seq (by rfl) (by exact T.n_len) PySem.boot_len (pa_cons (pv 0) pa_nil)) pa_nil))) pa_nil))) pa_nil)) (pg_name (i := 1) sc_law.nd rfl (Or.inl rfl))
      (pss_cons (ps_set (i := 2) sc_law.nd rfl (Or.inl rfl) (pe_call FP (hr.mono (by omega)) rfl hp kp bp .nil pass0 (pa_cons (pv 0) (pa_cons (pv 1) pa_nil))))
        (pss_one (ps_if (pt_not (pt_val (pe_callG FRk hgd (hr.mono (by omega)) rfl hpr kr br (pa_cons (pv 2) pa_nil)))) (pss_one (ps_ret pe_bl)) pss_nil))))
      (pss_one (ps_ret pe_bl)), main⟩
end
end Bk
end Vx

set_option Elab.async false
set_option maxRecDepth 100000
set_option linter.all false
namespace Vx
namespace Bk
open PySem PySem.Spec PyProof PyProof.Rows L2
theorem fnok_imp {T : Th} {P : Program} {w : World} {K : PySem.W.Frag} {mg : Str → Option Value} {base : Heap} {CX : CXT} {k m : Nat} {f : Addr} {fd : FuncData} {ps : List Str} {F G : FS} (h : FnOk P w K mg base CX k f fd ps (spV T m F)) (i : ∀ los n Q, G los n Q → F los n Q) : FnOk P w K mg base CX k f fd ps (spV T m G) :=
  h.imp fun vs H Q E ⟨W, n, los, P, a, b, c, d, e⟩ => ⟨W, n, los, P, a, b, c, i _ _ _ d, e⟩
set_option maxHeartbeats 8000000 in
theorem all_mk {l : PySem.W.OpenLaw} {w : World} {K : PySem.W.Frag} {h : Heap} {mg : Str → Option Value} {fa CB CS RE CL CR CN CM CT CU CD fI cda cc fS cdaS ccS p_rules : Addr} {rest_pr : List Value} {f_law_pool f_law_draw f_law_told f_law_refused f_law_fits f_law f_book_limit f_smallbook_limit f_book_len f_book_rules f_book_settle f_book_eq f_book_put f_book_change f_book_undo f_book_init : Addr} (X : K.In h) (G : h.Ns mainGlobals mg) (hfa : mg "law" = some (.ref fa))
    {nm_CN q_CN : Str} {N_CN : Addr} {bs_CN bm_CN : List Value} {sn_CN : List Str} {sub_CN : List Value} {ab_CN : Bool} {col_CN : Option Bool} {dd_CN : Option Addr} {k0_CN k1_CN k2_CN k3_CN k5_CN : Option Value}
    {nm_CT q_CT : Str} {N_CT : Addr} {bs_CT bm_CT : List Value} {sn_CT : List Str} {sub_CT : List Value} {ab_CT : Bool} {col_CT : Option Bool} {dd_CT : Option Addr} {k0_CT k1_CT k2_CT k3_CT k5_CT : Option Value}
    {nm_CL q_CL : Str} {N_CL : Addr} {bs_CL bm_CL : List Value} {sn_CL : List Str} {sub_CL : List Value} {ab_CL : Bool} {col_CL : Option Bool} {dd_CL : Option Addr} {k0_CL k1_CL k2_CL k3_CL k5_CL : Option Value}
    {nm_CU q_CU : Str} {N_CU : Addr} {bs_CU bm_CU : List Value} {sn_CU : List Str} {sub_CU : List Value} {ab_CU : Bool} {col_CU : Option Bool} {dd_CU : Option Addr} {k0_CU k1_CU k2_CU k3_CU k5_CU : Option Value}
    {kVi doci pmi cti oci ccl ccv : Value} {ani odi cdd cld : Option Addr} {osli ccs csl : Array (Option Value)} {vs0 : Array Value} {file : Str} {tf : Tok} {cdD : ClassData}
    {kVs docs pms cts ocs ccls ccvs : Value} {ans ods cdds clds : Option Addr} {osls ccss csls : Array (Option Value)} {vs0s : Array Value} {files : Str} {tfs : Tok} {cdDs : ClassData}
    {od_law_pool an_law_pool : Option Addr} {sl_law_pool : Array (Option Value)} {oc_law_pool kV_law_pool dc_law_pool pm_law_pool cd_law_pool ct_law_pool : Value}
    {od_law_draw an_law_draw : Option Addr} {sl_law_draw : Array (Option Value)} {oc_law_draw kV_law_draw dc_law_draw pm_law_draw cd_law_draw ct_law_draw : Value}
    {od_law_told an_law_told : Option Addr} {sl_law_told : Array (Option Value)} {oc_law_told kV_law_told dc_law_told pm_law_told cd_law_told ct_law_told : Value}
    {od_law_refused an_law_refused : Option Addr} {sl_law_refused : Array (Option Value)} {oc_law_refused kV_law_refused dc_law_refused pm_law_refused cd_law_refused ct_law_refused : Value}
    {od_law_fits an_law_fits : Option Addr} {sl_law_fits : Array (Option Value)} {oc_law_fits kV_law_fits dc_law_fits pm_law_fits cd_law_fits ct_law_fits : Value}
    {od_law an_law : Option Addr} {sl_law : Array (Option Value)} {oc_law kV_law dc_law pm_law cd_law ct_law : Value}
    {od_book_limit an_book_limit : Option Addr} {sl_book_limit : Array (Option Value)} {oc_book_limit kV_book_limit dc_book_limit pm_book_limit cd_book_limit ct_book_limit : Value}
    {od_smallbook_limit an_smallbook_limit : Option Addr} {sl_smallbook_limit : Array (Option Value)} {oc_smallbook_limit kV_smallbook_limit dc_smallbook_limit pm_smallbook_limit cd_smallbook_limit ct_smallbook_limit : Value}
    {od_book_len an_book_len : Option Addr} {sl_book_len : Array (Option Value)} {oc_book_len kV_book_len dc_book_len pm_book_len cd_book_len ct_book_len : Value}
    {od_book_rules an_book_rules : Option Addr} {sl_book_rules : Array (Option Value)} {oc_book_rules kV_book_rules dc_book_rules pm_book_rules cd_book_rules ct_book_rules : Value}
    {od_book_settle an_book_settle : Option Addr} {sl_book_settle : Array (Option Value)} {oc_book_settle kV_book_settle dc_book_settle pm_book_settle cd_book_settle ct_book_settle : Value}
    {od_book_eq an_book_eq : Option Addr} {sl_book_eq : Array (Option Value)} {oc_book_eq kV_book_eq dc_book_eq pm_book_eq cd_book_eq ct_book_eq : Value}
    {od_book_put an_book_put : Option Addr} {sl_book_put : Array (Option Value)} {oc_book_put kV_book_put dc_book_put pm_book_put cd_book_put ct_book_put : Value}
    {od_book_change an_book_change : Option Addr} {sl_book_change : Array (Option Value)} {oc_book_change kV_book_change dc_book_change pm_book_change cd_book_change ct_book_change : Value}
    {od_book_undo an_book_undo : Option Addr} {sl_book_undo : Array (Option Value)} {oc_book_undo kV_book_undo dc_book_undo pm_book_undo cd_book_undo ct_book_undo : Value}
    {od_book_init an_book_init : Option Addr} {sl_book_init : Array (Option Value)} {oc_book_init kV_book_init dc_book_init pm_book_init cd_book_init ct_book_init : Value}
    (g_CB : PySem.W.nsIn K mainGlobals "Book" = some (some (.ref CB)))
    (g_CS : PySem.W.nsIn K mainGlobals "SmallBook" = some (some (.ref CS)))
    (g_RE : PySem.W.nsIn K mainGlobals "RowError" = some (some (.ref RE)))
    (g_CL : PySem.W.nsIn K mainGlobals "InvalidLetter" = some (some (.ref CL)))
    (g_CR : PySem.W.nsIn K mainGlobals "InvalidRules" = some (some (.ref CR)))
    (g_CN : PySem.W.nsIn K mainGlobals "InvalidNumber" = some (some (.ref CN)))
    (g_CM : PySem.W.nsIn K mainGlobals "NotMixed" = some (some (.ref CM)))
    (g_CT : PySem.W.nsIn K mainGlobals "TooMany" = some (some (.ref CT)))
    (g_CU : PySem.W.nsIn K mainGlobals "NothingToUndo" = some (some (.ref CU)))
    (g_CD : PySem.W.nsIn K mainGlobals "Unreadable" = some (some (.ref CD)))
    (a_law_pool : PySem.W.nsIn K mainGlobals "_law_pool" = some (some (.ref f_law_pool)))
    (a_law_draw : PySem.W.nsIn K mainGlobals "_law_draw" = some (some (.ref f_law_draw)))
    (a_law_told : PySem.W.nsIn K mainGlobals "_law_told" = some (some (.ref f_law_told)))
    (a_law_refused : PySem.W.nsIn K mainGlobals "_law_refused" = some (some (.ref f_law_refused)))
    (a_law_fits : PySem.W.nsIn K mainGlobals "_law_fits" = some (some (.ref f_law_fits)))
    (a_law : PySem.W.nsIn K mainGlobals "law" = some (some (.ref f_law)))
    (b_book_limit_at : PySem.W.findIn K (.ref CB) "limit" = some (some (.ref f_book_limit)))
    (i_book_limit : PySem.W.isFn K (.ref f_book_limit) = true)
    (sAt_smallbook_limit : PySem.W.findIn K (.ref CS) "limit" = some (some (.ref f_smallbook_limit)))
    (i_smallbook_limit : PySem.W.isFn K (.ref f_smallbook_limit) = true)
    (b_book_len_at : PySem.W.findIn K (.ref CB) "__len__" = some (some (.ref f_book_len)))
    (sAt_book_len : PySem.W.findIn K (.ref CS) "__len__" = some (some (.ref f_book_len)))
    (i_book_len : PySem.W.isFn K (.ref f_book_len) = true)
    (b_book_settle_at : PySem.W.findIn K (.ref CB) "settle" = some (some (.ref f_book_settle)))
    (sAt_book_settle : PySem.W.findIn K (.ref CS) "settle" = some (some (.ref f_book_settle)))
    (i_book_settle : PySem.W.isFn K (.ref f_book_settle) = true)
    (b_book_eq_at : PySem.W.findIn K (.ref CB) "__eq__" = some (some (.ref f_book_eq)))
    (sAt_book_eq : PySem.W.findIn K (.ref CS) "__eq__" = some (some (.ref f_book_eq)))
    (i_book_eq : PySem.W.isFn K (.ref f_book_eq) = true)
    (b_book_put_at : PySem.W.findIn K (.ref CB) "put" = some (some (.ref f_book_put)))
    (sAt_book_put : PySem.W.findIn K (.ref CS) "put" = some (some (.ref f_book_put)))
    (i_book_put : PySem.W.isFn K (.ref f_book_put) = true)
    (b_book_change_at : PySem.W.findIn K (.ref CB) "change" = some (some (.ref f_book_change)))
    (sAt_book_change : PySem.W.findIn K (.ref CS) "change" = some (some (.ref f_book_change)))
    (i_book_change : PySem.W.isFn K (.ref f_book_change) = true)
    (b_book_undo_at : PySem.W.findIn K (.ref CB) "undo" = some (some (.ref f_book_undo)))
    (sAt_book_undo : PySem.W.findIn K (.ref CS) "undo" = some (some (.ref f_book_undo)))
    (i_book_undo : PySem.W.isFn K (.ref f_book_undo) = true)
    (b_book_init_at : PySem.W.findIn K (.ref CB) "__init__" = some (some (.ref f_book_init)))
    (i_book_init : PySem.W.isFn K (.ref f_book_init) = true)
    (at_pr : PySem.W.findIn K (.ref CB) "rules" = some (some (.ref p_rules)))
    (at_ps : PySem.W.findIn K (.ref CS) "rules" = some (some (.ref p_rules)))
    (get_pr : PySem.W.specialIn K (.ref p_rules) "__get__" = some (some (.builtin "property.__get__")))
    (tak_pr : PySem.W.takesIn K (.ref p_rules) = some true)
    (rec_pr : PySem.W.recIn K p_rules "property" = some (.ref f_book_rules :: rest_pr))
    (pgCB : PySem.W.plainGet K CB Str.empty = true)
    (hdCB : PySem.W.hasDictIn K CB = true)
    (poCB : PySem.W.plainOver K CB = true)
    (saCB : PySem.W.findIn K (.ref CB) "__setattr__" = some (some (.builtin "object.__setattr__")))
    (n1CB : PySem.W.findIn K (.ref CB) "calls" = some none)
    (n2CB : PySem.W.findIn K (.ref CB) "states" = some none)
    (mkCB : PySem.W.makesIn K CB = true)
    (kcCB : PySem.W.keepIn K (.ref CB) = true)
    (ckCB : PySem.W.findIn K (.ref CB) "__class__" = some (some (.builtin "object.__class__")))
    (obCB : PySem.W.mroIn K CB (.type "object") = some true)
    (kbCB : PySem.W.kitOne K (.ref CB) (.ref CB) = some true)
    (pgCS : PySem.W.plainGet K CS Str.empty = true)
    (hdCS : PySem.W.hasDictIn K CS = true)
    (poCS : PySem.W.plainOver K CS = true)
    (saCS : PySem.W.findIn K (.ref CS) "__setattr__" = some (some (.builtin "object.__setattr__")))
    (n1CS : PySem.W.findIn K (.ref CS) "calls" = some none)
    (n2CS : PySem.W.findIn K (.ref CS) "states" = some none)
    (mkCS : PySem.W.makesIn K CS = true)
    (kcCS : PySem.W.keepIn K (.ref CS) = true)
    (ckCS : PySem.W.findIn K (.ref CS) "__class__" = some (some (.builtin "object.__class__")))
    (obCS : PySem.W.mroIn K CS (.type "object") = some true)
    (kbCS : PySem.W.kitOne K (.ref CS) (.ref CB) = some true)
    (n3CS : PySem.W.findIn K (.ref CS) "greatest" = some none)
    (sb1 : PySem.W.subIn K (.ref CB) (.ref CS) = some false)
    (sb2 : PySem.W.subIn K (.ref CS) (.ref CB) = some true)
    (a_small : PySem.W.findIn K (.ref CS) "__init__" = some (some (.ref fS)))
    (i_small : PySem.W.isFn K (.ref fS) = true)
    (lk_CN : K.lookup CN = some (excClassObj nm_CN q_CN CN N_CN bs_CN bm_CN true sn_CN sub_CN ab_CN col_CN dd_CN k0_CN k1_CN k2_CN k3_CN k5_CN "ValueError.__new__"))
    (rv_CN : PySem.HandSPX.refsVE bm_CN = true)
    (sa_CN : PySem.W.findIn K (.ref CN) "__setattr__" = some (some (.builtin "object.__setattr__")))
    (ex_CN : PySem.W.subIn K (.ref CN) (.type "BaseException") = some true)
    (ty_CN : PySem.W.typeIn K (.ref CN) = some (.type "type"))
    (kc_CN : PySem.W.keepIn K (.ref CN) = true)
    (mr_CN : PySem.W.mroIn K CN (.ref RE) = some true)
    (su_CN : PySem.W.ks_superIn K CN RE "__init__" = some (some (.builtin "ValueError.__init__")))
    (ve_CN : PySem.W.subIn K (.ref CN) (.type "ValueError") = some true)
    (no_CN : PySem.W.findIn K (.ref CN) "value" = some none)
    (ga_CN : PySem.W.findIn K (.ref CN) "__getattribute__" = some (some (.builtin "BaseException.__getattribute__")))
    (gg_CN : PySem.W.findIn K (.ref CN) "__getattr__" = some none)
    (hd_CN : PySem.W.hasDictIn K CN = true)
    (cl_CN : PySem.W.findIn K (.ref CN) "__class__" = some (some (.builtin "object.__class__")))
    (ob_CN : PySem.W.mroIn K CN (.type "object") = some true)
    (re_CN : PySem.W.subIn K (.ref CN) (.ref RE) = some true)
    (in_CN : PySem.W.findIn K (.ref CN) "__init__" = some (some (.ref fI)))
    (lk_CT : K.lookup CT = some (excClassObj nm_CT q_CT CT N_CT bs_CT bm_CT true sn_CT sub_CT ab_CT col_CT dd_CT k0_CT k1_CT k2_CT k3_CT k5_CT "ValueError.__new__"))
    (rv_CT : PySem.HandSPX.refsVE bm_CT = true)
    (sa_CT : PySem.W.findIn K (.ref CT) "__setattr__" = some (some (.builtin "object.__setattr__")))
    (ex_CT : PySem.W.subIn K (.ref CT) (.type "BaseException") = some true)
    (ty_CT : PySem.W.typeIn K (.ref CT) = some (.type "type"))
    (kc_CT : PySem.W.keepIn K (.ref CT) = true)
    (mr_CT : PySem.W.mroIn K CT (.ref RE) = some true)
    (su_CT : PySem.W.ks_superIn K CT RE "__init__" = some (some (.builtin "ValueError.__init__")))
    (ve_CT : PySem.W.subIn K (.ref CT) (.type "ValueError") = some true)
    (no_CT : PySem.W.findIn K (.ref CT) "value" = some none)
    (ga_CT : PySem.W.findIn K (.ref CT) "__getattribute__" = some (some (.builtin "BaseException.__getattribute__")))
    (gg_CT : PySem.W.findIn K (.ref CT) "__getattr__" = some none)
    (hd_CT : PySem.W.hasDictIn K CT = true)
    (cl_CT : PySem.W.findIn K (.ref CT) "__class__" = some (some (.builtin "object.__class__")))
    (ob_CT : PySem.W.mroIn K CT (.type "object") = some true)
    (re_CT : PySem.W.subIn K (.ref CT) (.ref RE) = some true)
    (in_CT : PySem.W.findIn K (.ref CT) "__init__" = some (some (.ref fI)))
    (lk_CL : K.lookup CL = some (excClassObj nm_CL q_CL CL N_CL bs_CL bm_CL true sn_CL sub_CL ab_CL col_CL dd_CL k0_CL k1_CL k2_CL k3_CL k5_CL "ValueError.__new__"))
    (rv_CL : PySem.HandSPX.refsVE bm_CL = true)
    (sa_CL : PySem.W.findIn K (.ref CL) "__setattr__" = some (some (.builtin "object.__setattr__")))
    (ex_CL : PySem.W.subIn K (.ref CL) (.type "BaseException") = some true)
    (ty_CL : PySem.W.typeIn K (.ref CL) = some (.type "type"))
    (kc_CL : PySem.W.keepIn K (.ref CL) = true)
    (mr_CL : PySem.W.mroIn K CL (.ref RE) = some true)
    (su_CL : PySem.W.ks_superIn K CL RE "__init__" = some (some (.builtin "ValueError.__init__")))
    (ve_CL : PySem.W.subIn K (.ref CL) (.type "ValueError") = some true)
    (no_CL : PySem.W.findIn K (.ref CL) "value" = some none)
    (ga_CL : PySem.W.findIn K (.ref CL) "__getattribute__" = some (some (.builtin "BaseException.__getattribute__")))
    (gg_CL : PySem.W.findIn K (.ref CL) "__getattr__" = some none)
    (hd_CL : PySem.W.hasDictIn K CL = true)
    (cl_CL : PySem.W.findIn K (.ref CL) "__class__" = some (some (.builtin "object.__class__")))
    (ob_CL : PySem.W.mroIn K CL (.type "object") = some true)
    (re_CL : PySem.W.subIn K (.ref CL) (.ref RE) = some true)
    (in_CL : PySem.W.findIn K (.ref CL) "__init__" = some (some (.ref fI)))
    (lk_CU : K.lookup CU = some (excClassObj nm_CU q_CU CU N_CU bs_CU bm_CU true sn_CU sub_CU ab_CU col_CU dd_CU k0_CU k1_CU k2_CU k3_CU k5_CU "ValueError.__new__"))
    (rv_CU : PySem.HandSPX.refsVE bm_CU = true)
    (sa_CU : PySem.W.findIn K (.ref CU) "__setattr__" = some (some (.builtin "object.__setattr__")))
    (ex_CU : PySem.W.subIn K (.ref CU) (.type "BaseException") = some true)
    (ty_CU : PySem.W.typeIn K (.ref CU) = some (.type "type"))
    (kc_CU : PySem.W.keepIn K (.ref CU) = true)
    (mr_CU : PySem.W.mroIn K CU (.ref RE) = some true)
    (su_CU : PySem.W.ks_superIn K CU RE "__init__" = some (some (.builtin "ValueError.__init__")))
    (ve_CU : PySem.W.subIn K (.ref CU) (.type "ValueError") = some true)
    (no_CU : PySem.W.findIn K (.ref CU) "value" = some none)
    (ga_CU : PySem.W.findIn K (.ref CU) "__getattribute__" = some (some (.builtin "BaseException.__getattribute__")))
    (gg_CU : PySem.W.findIn K (.ref CU) "__getattr__" = some none)
    (hd_CU : PySem.W.hasDictIn K CU = true)
    (cl_CU : PySem.W.findIn K (.ref CU) "__class__" = some (some (.builtin "object.__class__")))
    (ob_CU : PySem.W.mroIn K CU (.type "object") = some true)
    (re_CU : PySem.W.subIn K (.ref CU) (.ref RE) = some true)
    (in_CU : PySem.W.findIn K (.ref CU) "__init__" = some (some (.ref fI)))
    (q2 : PySem.W.specialIn K (.builtin "object.__class__") "__get__" = some (some (.builtin "getset_descriptor.__get__")))
    (q3 : PySem.W.takesIn K (.builtin "object.__class__") = some true)
    (xR : PySem.W.subIn K (.ref RE) (.type "BaseException") = some true)
    (hR : PySem.W.hasDictIn K RE = true)
    (tR : PySem.W.typeIn K (.ref RE) = some (.type "type"))
    (k6CN : PySem.W.kitAny K (.ref CN) [.ref CL, .ref CR, .ref CM, .ref CU, .ref CT, .ref CD] = some false)
    (k6CT : PySem.W.kitAny K (.ref CT) [.ref CL, .ref CN, .ref CR, .ref CM, .ref CU, .ref CD] = some false)
    (kVCN : PySem.W.kitOne K (.ref CN) (.type "ValueError") = some true)
    (kVCT : PySem.W.kitOne K (.ref CT) (.type "ValueError") = some true)
    (kXCN : PySem.W.kitOne K (.ref CN) (.ref CN) = some true)
    (kXCT : PySem.W.kitOne K (.ref CT) (.ref CT) = some true)
    (tI : PySem.W.typeIn K (.ref fI) = some (.type "function"))
    (lkI : K.lookup fI = some ⟨oci, odi, .func (PySem.W.ksFn "__init__" "RowError.__init__" (defArgs s_rowerr) (defBody s_rowerr) (defScope s_rowerr) .none kVi doci pmi ani (.ref cda) cti cc), osli⟩)
    (cdI : PySem.W.codeIn K (.ref cda) "RowError.__init__" = true)
    (coI : K.lookup cda = some ⟨ccl, cdd, .fields vs0, ccs⟩)
    (hvI : vs0[2]? = some (.str file tf))
    (hfI : ((l.prog.main.file : Str) == file) = true)
    (ceI : K.lookup cc = some ⟨ccv, cld, .cell (some (.ref RE)), csl⟩)
    (hDI : PySem.W.clsIn K RE = some cdD)
    (lkS : K.lookup fS = some ⟨ocs, ods, .func (PySem.W.ksFn "__init__" "SmallBook.__init__" (defArgs s_smallbook_init) (defBody s_smallbook_init) (defScope s_smallbook_init) .none kVs docs pms ans (.ref cdaS) cts ccS), osls⟩)
    (cdS : PySem.W.codeIn K (.ref cdaS) "SmallBook.__init__" = true)
    (coS : K.lookup cdaS = some ⟨ccls, cdds, .fields vs0s, ccss⟩)
    (hvS : vs0s[2]? = some (.str files tfs))
    (hfS : ((l.prog.main.file : Str) == files) = true)
    (ceS : K.lookup ccS = some ⟨ccvs, clds, .cell (some (.ref CS)), csls⟩)
    (hDS : PySem.W.clsIn K CS = some cdDs)
    (stI : PySem.W.nsIn K cStatics "thirdparty.any" = some none)
    (tpI : (l.prog.main.scope.names.lookup ("super" : Str)).isSome = false)
    (mrS : PySem.W.mroIn K CS (.ref CS) = some true)
    (suS : PySem.W.ks_superIn K CS CS "__init__" = some (some (.ref f_book_init)))
    (t0S : PySem.W.typeIn K (.ref f_book_init) = some (.type "function"))
    (f0S : PySem.W.fnIn K f_book_init = true)
    (l_law_pool : K.lookup f_law_pool = some ⟨oc_law_pool, od_law_pool, .func (PySem.W.fnOf "_law_pool" "_law_pool" (defArgs s_pool) (defBody s_pool) (defScope s_pool) .none kV_law_pool dc_law_pool pm_law_pool an_law_pool cd_law_pool ct_law_pool), sl_law_pool⟩)
    (c_law_pool : PySem.W.codeIn K cd_law_pool "_law_pool" = true)
    (k_law_pool : PySem.W.keepIn K (.ref f_law_pool) = true)
    (l_law_draw : K.lookup f_law_draw = some ⟨oc_law_draw, od_law_draw, .func (PySem.W.fnOf "_law_draw" "_law_draw" (defArgs s_draw) (defBody s_draw) (defScope s_draw) .none kV_law_draw dc_law_draw pm_law_draw an_law_draw cd_law_draw ct_law_draw), sl_law_draw⟩)
    (c_law_draw : PySem.W.codeIn K cd_law_draw "_law_draw" = true)
    (k_law_draw : PySem.W.keepIn K (.ref f_law_draw) = true)
    (l_law_told : K.lookup f_law_told = some ⟨oc_law_told, od_law_told, .func (PySem.W.fnOf "_law_told" "_law_told" (defArgs s_law_told) (defBody s_law_told) (defScope s_law_told) .none kV_law_told dc_law_told pm_law_told an_law_told cd_law_told ct_law_told), sl_law_told⟩)
    (c_law_told : PySem.W.codeIn K cd_law_told "_law_told" = true)
    (k_law_told : PySem.W.keepIn K (.ref f_law_told) = true)
    (l_law_refused : K.lookup f_law_refused = some ⟨oc_law_refused, od_law_refused, .func (PySem.W.fnOf "_law_refused" "_law_refused" (defArgs s_law_refused) (defBody s_law_refused) (defScope s_law_refused) .none kV_law_refused dc_law_refused pm_law_refused an_law_refused cd_law_refused ct_law_refused), sl_law_refused⟩)
    (c_law_refused : PySem.W.codeIn K cd_law_refused "_law_refused" = true)
    (k_law_refused : PySem.W.keepIn K (.ref f_law_refused) = true)
    (l_law_fits : K.lookup f_law_fits = some ⟨oc_law_fits, od_law_fits, .func (PySem.W.fnOf "_law_fits" "_law_fits" (defArgs s_law_fits) (defBody s_law_fits) (defScope s_law_fits) .none kV_law_fits dc_law_fits pm_law_fits an_law_fits cd_law_fits ct_law_fits), sl_law_fits⟩)
    (c_law_fits : PySem.W.codeIn K cd_law_fits "_law_fits" = true)
    (k_law_fits : PySem.W.keepIn K (.ref f_law_fits) = true)
    (l_law : K.lookup f_law = some ⟨oc_law, od_law, .func (PySem.W.fnOf "law" "law" (defArgs s_law) (defBody s_law) (defScope s_law) .none kV_law dc_law pm_law an_law cd_law ct_law), sl_law⟩)
    (c_law : PySem.W.codeIn K cd_law "law" = true)
    (k_law : PySem.W.keepIn K (.ref f_law) = true)
    (l_book_limit : K.lookup f_book_limit = some ⟨oc_book_limit, od_book_limit, .func (PySem.W.fnOf "limit" "Book.limit" (defArgs s_book_limit) (defBody s_book_limit) (defScope s_book_limit) .none kV_book_limit dc_book_limit pm_book_limit an_book_limit cd_book_limit ct_book_limit), sl_book_limit⟩)
    (c_book_limit : PySem.W.codeIn K cd_book_limit "Book.limit" = true)
    (k_book_limit : PySem.W.keepIn K (.ref f_book_limit) = true)
    (l_smallbook_limit : K.lookup f_smallbook_limit = some ⟨oc_smallbook_limit, od_smallbook_limit, .func (PySem.W.fnOf "limit" "SmallBook.limit" (defArgs s_smallbook_limit) (defBody s_smallbook_limit) (defScope s_smallbook_limit) .none kV_smallbook_limit dc_smallbook_limit pm_smallbook_limit an_smallbook_limit cd_smallbook_limit ct_smallbook_limit), sl_smallbook_limit⟩)
    (c_smallbook_limit : PySem.W.codeIn K cd_smallbook_limit "SmallBook.limit" = true)
    (k_smallbook_limit : PySem.W.keepIn K (.ref f_smallbook_limit) = true)
    (l_book_len : K.lookup f_book_len = some ⟨oc_book_len, od_book_len, .func (PySem.W.fnOf "__len__" "Book.__len__" (defArgs s_book_len) (defBody s_book_len) (defScope s_book_len) .none kV_book_len dc_book_len pm_book_len an_book_len cd_book_len ct_book_len), sl_book_len⟩)
    (c_book_len : PySem.W.codeIn K cd_book_len "Book.__len__" = true)
    (k_book_len : PySem.W.keepIn K (.ref f_book_len) = true)
    (l_book_rules : K.lookup f_book_rules = some ⟨oc_book_rules, od_book_rules, .func (PySem.W.fnOf "rules" "Book.rules" (defArgs s_book_rules) (defBody s_book_rules) (defScope s_book_rules) .none kV_book_rules dc_book_rules pm_book_rules an_book_rules cd_book_rules ct_book_rules), sl_book_rules⟩)
    (c_book_rules : PySem.W.codeIn K cd_book_rules "Book.rules" = true)
    (k_book_rules : PySem.W.keepIn K (.ref f_book_rules) = true)
    (l_book_settle : K.lookup f_book_settle = some ⟨oc_book_settle, od_book_settle, .func (PySem.W.fnOf "settle" "Book.settle" (defArgs s_book_settle) (defBody s_book_settle) (defScope s_book_settle) .none kV_book_settle dc_book_settle pm_book_settle an_book_settle cd_book_settle ct_book_settle), sl_book_settle⟩)
    (c_book_settle : PySem.W.codeIn K cd_book_settle "Book.settle" = true)
    (k_book_settle : PySem.W.keepIn K (.ref f_book_settle) = true)
    (l_book_eq : K.lookup f_book_eq = some ⟨oc_book_eq, od_book_eq, .func (PySem.W.fnOf "__eq__" "Book.__eq__" (defArgs s_book_eq) (defBody s_book_eq) (defScope s_book_eq) .none kV_book_eq dc_book_eq pm_book_eq an_book_eq cd_book_eq ct_book_eq), sl_book_eq⟩)
    (c_book_eq : PySem.W.codeIn K cd_book_eq "Book.__eq__" = true)
    (k_book_eq : PySem.W.keepIn K (.ref f_book_eq) = true)
    (l_book_put : K.lookup f_book_put = some ⟨oc_book_put, od_book_put, .func (PySem.W.fnOf "put" "Book.put" (defArgs s_book_put) (defBody s_book_put) (defScope s_book_put) .none kV_book_put dc_book_put pm_book_put an_book_put cd_book_put ct_book_put), sl_book_put⟩)
    (c_book_put : PySem.W.codeIn K cd_book_put "Book.put" = true)
    (k_book_put : PySem.W.keepIn K (.ref f_book_put) = true)
    (l_book_change : K.lookup f_book_change = some ⟨oc_book_change, od_book_change, .func (PySem.W.fnOf "change" "Book.change" (defArgs s_book_change) (defBody s_book_change) (defScope s_book_change) .none kV_book_change dc_book_change pm_book_change an_book_change cd_book_change ct_book_change), sl_book_change⟩)
    (c_book_change : PySem.W.codeIn K cd_book_change "Book.change" = true)
    (k_book_change : PySem.W.keepIn K (.ref f_book_change) = true)
    (l_book_undo : K.lookup f_book_undo = some ⟨oc_book_undo, od_book_undo, .func (PySem.W.fnOf "undo" "Book.undo" (defArgs s_book_undo) (defBody s_book_undo) (defScope s_book_undo) .none kV_book_undo dc_book_undo pm_book_undo an_book_undo cd_book_undo ct_book_undo), sl_book_undo⟩)
    (c_book_undo : PySem.W.codeIn K cd_book_undo "Book.undo" = true)
    (k_book_undo : PySem.W.keepIn K (.ref f_book_undo) = true)
    (l_book_init : K.lookup f_book_init = some ⟨oc_book_init, od_book_init, .func (PySem.W.fnOf "__init__" "Book.__init__" (defArgs s_book_init) (defBody s_book_init) (defScope s_book_init) .none kV_book_init dc_book_init pm_book_init an_book_init cd_book_init ct_book_init), sl_book_init⟩)
    (c_book_init : PySem.W.codeIn K cd_book_init "Book.__init__" = true)
    (k_book_init : PySem.W.keepIn K (.ref f_book_init) = true)
    (z_ValueError : PySem.W.nsIn K mainGlobals "ValueError" = some none)
    (z_abs : PySem.W.nsIn K mainGlobals "abs" = some none)
    (z_int : PySem.W.nsIn K mainGlobals "int" = some none)
    (z_isinstance : PySem.W.nsIn K mainGlobals "isinstance" = some none)
    (z_len : PySem.W.nsIn K mainGlobals "len" = some none)
    (z_list : PySem.W.nsIn K mainGlobals "list" = some none)
    (z_max : PySem.W.nsIn K mainGlobals "max" = some none)
    (z_min : PySem.W.nsIn K mainGlobals "min" = some none)
    (z_range : PySem.W.nsIn K mainGlobals "range" = some none)
    (z_repr : PySem.W.nsIn K mainGlobals "repr" = some none)
    (z_super : PySem.W.nsIn K mainGlobals "super" = some none)
    (z_tuple : PySem.W.nsIn K mainGlobals "tuple" = some none) :
    ∃ fd : FuncData, (∀ (s : Shared) (v : Value), BindsTo s fd ⟨[v], []⟩ [("script", v)]) ∧ ∀ base : Heap, K.In base → base.Ns mainGlobals mg → FnG l.prog w K mg base 7 fa fd ["script"] (spLaw K) := by
  have e0 : f_law = fa := by
    have := PySem.W.mg_of X G a_law
    rw [hfa] at this
    cases this
    rfl
  subst e0
  have T : TxtB mg CB CS := ⟨PySem.W.mg_of X G g_CB, PySem.W.mg_of X G g_CS, PySem.W.mg_none_of X G z_abs, PySem.W.mg_none_of X G z_int, PySem.W.mg_none_of X G z_isinstance, PySem.W.mg_none_of X G z_len, PySem.W.mg_none_of X G z_list, PySem.W.mg_none_of X G z_max, PySem.W.mg_none_of X G z_min, PySem.W.mg_none_of X G z_range, PySem.W.mg_none_of X G z_repr, PySem.W.mg_none_of X G z_tuple⟩
  have B : BkC K CB CS := ⟨⟨pgCB, hdCB, poCB, saCB⟩, ⟨pgCS, hdCS, poCS, saCS⟩, n1CB, n2CB, n1CS, n2CS, n3CS⟩
  have IB : IsBC K CB CS := ⟨fun C hC => by rcases hC with rfl | rfl <;> assumption, q2, q3, fun C hC => by rcases hC with rfl | rfl <;> assumption, fun C hC => by rcases hC with rfl | rfl <;> assumption⟩
  have ECN : ECls K CN RE := ecls_mk lk_CN rv_CN sa_CN ex_CN ty_CN kc_CN mr_CN su_CN ve_CN no_CN ga_CN gg_CN hd_CN cl_CN ob_CN re_CN
  have ECT : ECls K CT RE := ecls_mk lk_CT rv_CT sa_CT ex_CT ty_CT kc_CT mr_CT su_CT ve_CT no_CT ga_CT gg_CT hd_CT cl_CT ob_CT re_CT
  have ECL : ECls K CL RE := ecls_mk lk_CL rv_CL sa_CL ex_CL ty_CL kc_CL mr_CL su_CL ve_CL no_CL ga_CL gg_CL hd_CL cl_CL ob_CL re_CL
  have ECU : ECls K CU RE := ecls_mk lk_CU rv_CU sa_CU ex_CU ty_CU kc_CU mr_CU su_CU ve_CU no_CU ga_CU gg_CU hd_CU cl_CU ob_CU re_CU
  have Y : ErrY K mg RE CL CR CN CM CT CU CD := ⟨ECN, ECT, ECL, ECU, q2, q3, xR, hR, tR, PySem.W.mg_of X G g_RE, PySem.W.mg_none_of X G z_ValueError, PySem.W.mg_none_of X G z_isinstance, PySem.W.mg_of X G g_CL, PySem.W.mg_of X G g_CR, PySem.W.mg_of X G g_CN, PySem.W.mg_of X G g_CM, PySem.W.mg_of X G g_CT, PySem.W.mg_of X G g_CU, PySem.W.mg_of X G g_CD, k6CN, k6CT, kVCN, kVCT, kXCN, kXCT⟩
  have U_law_pool := fun_mk (st := s_pool) l_law_pool c_law_pool k_law_pool
  have b_law_pool := U_law_pool.binds (ps := ["script", "spot"]) fun _ _ _ _ _ _ us hl => match us, hl with | [_, _], _ => rfl
  have U_law_draw := fun_mk (st := s_draw) l_law_draw c_law_draw k_law_draw
  have b_law_draw := U_law_draw.binds (ps := ["pool", "span"]) fun _ _ _ _ _ _ us hl => match us, hl with | [_, _], _ => rfl
  have U_law_told := fun_mk (st := s_law_told) l_law_told c_law_told k_law_told
  have b_law_told := U_law_told.binds (ps := ["way", "limit"]) fun _ _ _ _ _ _ us hl => match us, hl with | [_, _], _ => rfl
  have U_law_refused := fun_mk (st := s_law_refused) l_law_refused c_law_refused k_law_refused
  have b_law_refused := U_law_refused.binds (ps := ["page", "step"]) fun _ _ _ _ _ _ us hl => match us, hl with | [_, _], _ => rfl
  have U_law_fits := fun_mk (st := s_law_fits) l_law_fits c_law_fits k_law_fits
  have b_law_fits := U_law_fits.binds (ps := ["pool"]) fun _ _ _ _ _ _ us hl => match us, hl with | [_], _ => rfl
  have U_law := fun_mk (st := s_law) l_law c_law k_law
  have U_book_limit := fun_mk (st := s_book_limit) l_book_limit c_book_limit k_book_limit
  have b_book_limit := U_book_limit.binds (ps := ["self"]) fun _ _ _ _ _ _ us hl => match us, hl with | [_], _ => rfl
  have U_smallbook_limit := fun_mk (st := s_smallbook_limit) l_smallbook_limit c_smallbook_limit k_smallbook_limit
  have b_smallbook_limit := U_smallbook_limit.binds (ps := ["self"]) fun _ _ _ _ _ _ us hl => match us, hl with | [_], _ => rfl
  have U_book_len := fun_mk (st := s_book_len) l_book_len c_book_len k_book_len
  have b_book_len := U_book_len.binds (ps := ["self"]) fun _ _ _ _ _ _ us hl => match us, hl with | [_], _ => rfl
  have U_book_rules := fun_mk (st := s_book_rules) l_book_rules c_book_rules k_book_rules
  have b_book_rules := U_book_rules.binds (ps := ["self"]) fun _ _ _ _ _ _ us hl => match us, hl with | [_], _ => rfl
  have U_book_settle := fun_mk (st := s_book_settle) l_book_settle c_book_settle k_book_settle
  have b_book_settle := U_book_settle.binds (ps := ["self", "call", "words"]) fun _ _ _ _ _ _ us hl => match us, hl with | [_, _, _], _ => rfl
  have U_book_eq := fun_mk (st := s_book_eq) l_book_eq c_book_eq k_book_eq
  have b_book_eq := U_book_eq.binds (ps := ["self", "other"]) fun _ _ _ _ _ _ us hl => match us, hl with | [_, _], _ => rfl
  have U_book_put := fun_mk (st := s_book_put) l_book_put c_book_put k_book_put
  have b_book_put := U_book_put.binds (ps := ["self", "word"]) fun _ _ _ _ _ _ us hl => match us, hl with | [_, _], _ => rfl
  have U_book_change := fun_mk (st := s_book_change) l_book_change c_book_change k_book_change
  have b_book_change := U_book_change.binds (ps := ["self", "letter", "word"]) fun _ _ _ _ _ _ us hl => match us, hl with | [_, _, _], _ => rfl
  have U_book_undo := fun_mk (st := s_book_undo) l_book_undo c_book_undo k_book_undo
  have b_book_undo := U_book_undo.binds (ps := ["self"]) fun _ _ _ _ _ _ us hl => match us, hl with | [_], _ => rfl
  have U_book_init := fun_mk (st := s_book_init) l_book_init c_book_init k_book_init
  have b_book_init := U_book_init.binds (ps := ["self"]) fun _ _ _ _ _ _ us hl => match us, hl with | [_], _ => rfl
  refine ⟨PySem.W.fnOf "law" "law" (defArgs s_law) (defBody s_law) (defScope s_law) .none kV_law dc_law pm_law an_law cd_law ct_law, fun s v => .of_eq rfl, fun base _ _ => ?_⟩
  have o_rowerr := ok_rowerr (P := l.prog) (w := w) (base := base) lkI cdI coI hvI hfI ceI hDI (PySem.W.mg_none_of X G z_super) stI tpI
  have eN : ErrC l.prog w K mg base "InvalidNumber" CN := err_mk ECN (PySem.W.mg_of X G g_CN) in_CN tI o_rowerr bd_rowerr
  have eT : ErrC l.prog w K mg base "TooMany" CT := err_mk ECT (PySem.W.mg_of X G g_CT) in_CT tI o_rowerr bd_rowerr
  have eL : ErrC l.prog w K mg base "InvalidLetter" CL := err_mk ECL (PySem.W.mg_of X G g_CL) in_CL tI o_rowerr bd_rowerr
  have eU : ErrC l.prog w K mg base "NothingToUndo" CU := err_mk ECU (PySem.W.mg_of X G g_CU) in_CU tI o_rowerr bd_rowerr
  have o_book_limit : FnOk l.prog w K mg base CX0 1 f_book_limit _ ["self"] (spV (thB CB CS) 1 F_limN) := fnok_imp (fnok_of (k := 0) U_book_limit sc_book_limit fun cdv A outer s H EX hr => d_book_limit  cdv A outer s H EX hr) fun _ _ _ h => m_limN h
  have o_smallbook_limit : FnOk l.prog w K mg base CX0 1 f_smallbook_limit _ ["self"] (spV (thB CB CS) 1 F_limS) := fnok_imp (fnok_of (k := 0) U_smallbook_limit sc_smallbook_limit fun cdv A outer s H EX hr => d_smallbook_limit B cdv A outer s H EX hr) fun _ _ _ h => m_limS h
  have c_book_limit : MethB l.prog w K mg base CB CS 1 "limit" 1 F_limN F_limS := ⟨_, _, _, _, _, _, ⟨b_book_limit_at, i_book_limit, k_book_limit⟩, o_book_limit, b_book_limit, ⟨sAt_smallbook_limit, i_smallbook_limit, k_smallbook_limit⟩, o_smallbook_limit, b_smallbook_limit⟩
  have o_book_len : FnOk l.prog w K mg base CX0 1 f_book_len _ ["self"] (spV (thB CB CS) 1 F_lenB) := fnok_imp (fnok_of (k := 0) U_book_len sc_book_len fun cdv A outer s H EX hr => d_book_len T B cdv A outer s H EX hr) fun _ _ _ h => m_lenB h
  have c_book_len : MethB l.prog w K mg base CB CS 1 "__len__" 1 F_lenB F_lenB := ⟨_, _, _, _, _, _, ⟨b_book_len_at, i_book_len, k_book_len⟩, o_book_len, b_book_len, ⟨sAt_book_len, i_book_len, k_book_len⟩, o_book_len, b_book_len⟩
  have o_book_settle : FnOk l.prog w K mg base CX0 1 f_book_settle _ ["self", "call", "words"] (spV (thB CB CS) 3 F_settle) := fnok_imp (fnok_of (k := 0) U_book_settle sc_book_settle fun cdv A outer s H EX hr => d_book_settle B cdv A outer s H EX hr) fun _ _ _ h => m_settle h
  have c_book_settle : MethB l.prog w K mg base CB CS 1 "settle" 3 F_settle F_settle := ⟨_, _, _, _, _, _, ⟨b_book_settle_at, i_book_settle, k_book_settle⟩, o_book_settle, b_book_settle, ⟨sAt_book_settle, i_book_settle, k_book_settle⟩, o_book_settle, b_book_settle⟩
  have o_book_rules : FnOk l.prog w K mg base CX0 1 f_book_rules _ ["self"] (spV (thB CB CS) 1 F_rulesB) := fnok_imp (fnok_of (k := 0) U_book_rules sc_book_rules fun cdv A outer s H EX hr => d_book_rules T B cdv A outer s H EX hr) fun _ _ _ h => m_rulesB h
  have c_book_rules : PropB l.prog w K mg base CB CS 1 "rules" F_rulesB := ⟨p_rules, p_rules, _, _, _, ⟨at_pr, get_pr, tak_pr, _, rec_pr⟩, ⟨at_ps, get_pr, tak_pr, _, rec_pr⟩, o_book_rules, b_book_rules⟩
  have o_book_eq : FnOk l.prog w K mg base CX0 2 f_book_eq _ ["self", "other"] (spV (thB CB CS) 2 F_eqB) := fnok_imp (fnok_of (k := 1) U_book_eq sc_book_eq fun cdv A outer s H EX hr => d_book_eq T B IB c_book_limit cdv A outer s H EX hr) fun _ _ _ h => m_eqB h
  have e_book : EqB l.prog w K mg base CB CS 2 := ⟨⟨_, _, _, b_book_eq_at, sAt_book_eq, i_book_eq, o_book_eq, b_book_eq⟩, sb1, sb2, fun z => by
    rw [z] at sb1 sb2
    rw [sb1] at sb2
    cases sb2⟩
  have x_book_put : MethX l.prog w K mg base CB CS 3 "put" 2 (F_putX CT) := ⟨_, _, _, ⟨b_book_put_at, i_book_put, k_book_put⟩, ⟨sAt_book_put, i_book_put, k_book_put⟩, okx_book_put T B c_book_limit c_book_settle c_book_len eT U_book_put, b_book_put⟩
  have x_book_change : MethX l.prog w K mg base CB CS 3 "change" 3 (F_changeX CL) := ⟨_, _, _, ⟨b_book_change_at, i_book_change, k_book_change⟩, ⟨sAt_book_change, i_book_change, k_book_change⟩, okx_book_change T B c_book_settle eL U_book_change, b_book_change⟩
  have x_book_undo : MethX l.prog w K mg base CB CS 3 "undo" 1 (F_undoX CU) := ⟨_, _, _, ⟨b_book_undo_at, i_book_undo, k_book_undo⟩, ⟨sAt_book_undo, i_book_undo, k_book_undo⟩, okx_book_undo B eU U_book_undo, b_book_undo⟩
  have o_book_init := ok_book_init (P := l.prog) (w := w) (mg := mg) (base := base) B U_book_init
  have n_book : NewB l.prog w K mg base CB CS 1 := ⟨_, _, _, ⟨mkCB, b_book_init_at, i_book_init, kcCB⟩, o_book_init, b_book_init⟩
  have n_small : NewS l.prog w K mg base CS CN 3 := ⟨_, _, _, ⟨mkCS, a_small, i_small, kcCS⟩, ok_small_init B eN lkS cdS coS hvS hfS ceS hDS (PySem.W.mg_none_of X G z_super) stI tpI mrS suS t0S f0S o_book_init b_book_init, bd_small, kb_small⟩
  have c_law_draw : FnV (thB CB CS) l.prog w K mg base CX0 1 "_law_draw" 2 F_drawB := c_draw T U_law_draw (PySem.W.mg_of X G a_law_draw) b_law_draw
  have c_law_told : FnV (thB CB CS) l.prog w K mg base CX0 5 "_law_told" 2 F_told := ⟨_, _, _, okq_law_told T Y n_small U_law_told, PySem.W.mg_of X G a_law_told, k_law_told, b_law_told⟩
  have c_law_refused : FnV (thB CB CS) l.prog w K mg base CX0 5 "_law_refused" 2 F_ref := ⟨_, _, _, okq_law_refused T B Y x_book_put U_law_refused, PySem.W.mg_of X G a_law_refused, k_law_refused, b_law_refused⟩
  have r_fits : FnG l.prog w K mg base 6 f_law_fits _ ["pool"] (spV (thB CB CS) 1 F_fits) := (fng_of (k := 5) U_law_fits sc_law_fits fun cdv A outer s H hgd hr => d_law_fits T B c_book_len c_book_rules e_book x_book_change x_book_undo n_book c_law_draw c_law_told c_law_refused cdv A outer s H L2.E0 hgd hr).imp fun _ _ _ h => m_fits h
  exact ok_law (k := 5) T U_law (ok_pool T U_law_pool) (PySem.W.mg_of X G a_law_pool) k_law_pool b_law_pool r_fits (PySem.W.mg_of X G a_law_fits) k_law_fits b_law_fits fun n Q h1 h2 => ⟨rfl, h1, h2⟩
theorem walk {l : PySem.W.OpenLaw} {q : Program} {loose : List Str} {XP : (Str → Option Value) → Heap → Prop} {YP : World → Heap → Prop} {d : DefRec} {K : Params → PySem.W.Frag} (hn : l.most = some 63) (hdf : d.params.defaults = [])
    (hY : ∀ (w : World) (h : Heap), YP w h → (K w.params).In h)
    (F : ∀ (w : World) (mg : Str → Option Value) (fa : Addr) (h : Heap), (K w.params).In h → h.Ns mainGlobals mg → mg d.name = some (.ref fa) →
      ∃ fd : FuncData, (∀ (s : Shared) (u : Value), BindsTo s fd ⟨[u], []⟩ [("script", u)]) ∧ ∀ base : Heap, (K w.params).In base → base.Ns mainGlobals mg → FnG l.prog w (K w.params) mg base 7 fa fd ["script"] (spLaw (K w.params))) :
    PySem.W.WalkO q loose XP YP l.row.toRowW d [] (fun f vs => PySem.call f vs) :=
  walkG (n := 63) (k := 7) (x := "script") (sp := fun w => spLaw (K w.params)) hn (by decide) hdf ⟨rfl, by decide, by decide⟩ hY F (fun _ _ a ns hl hS => ⟨a, ns, rfl, hS, hl, fun _ => rfl⟩)
end Bk
end Vx

open PySem PySem.W PyProof.Rows
set_option Elab.async false
set_option linter.all false
set_option maxRecDepth 100000 in
set_option maxHeartbeats 0 in
theorem PySem.Challenge.cw_returnrows_k48_small_books_holds : PySem.Challenge.rw_returnrows_k48_small_books.Holds := by
  w_on; o_law; k_head; (case hw => w_witness2)
  k_fill
  refine Vx.Bk.walk (l := PySem.Challenge.rw_returnrows_k48_small_books) rfl rfl (fun w h Y => PySem.W.kIn_of Y) ?F
  case F =>
    intro w mg fa h KX G hmg
    refine' Vx.Bk.all_mk KX G hmg ?g_CB ?g_CS ?g_RE ?g_CL ?g_CR ?g_CN ?g_CM ?g_CT ?g_CU ?g_CD ?a_law_pool ?a_law_draw ?a_law_told ?a_law_refused ?a_law_fits ?a_law ?b_book_limit_at ?i_book_limit ?sAt_smallbook_limit ?i_smallbook_limit ?b_book_len_at ?sAt_book_len ?i_book_len ?b_book_settle_at ?sAt_book_settle ?i_book_settle ?b_book_eq_at ?sAt_book_eq ?i_book_eq ?b_book_put_at ?sAt_book_put ?i_book_put ?b_book_change_at ?sAt_book_change ?i_book_change ?b_book_undo_at ?sAt_book_undo ?i_book_undo ?b_book_init_at ?i_book_init ?at_pr ?at_ps ?get_pr ?tak_pr ?rec_pr ?pgCB ?hdCB ?poCB ?saCB ?n1CB ?n2CB ?mkCB ?kcCB ?ckCB ?obCB ?kbCB ?pgCS ?hdCS ?poCS ?saCS ?n1CS ?n2CS ?mkCS ?kcCS ?ckCS ?obCS ?kbCS ?n3CS ?sb1 ?sb2 ?a_small ?i_small ?lk_CN ?rv_CN ?sa_CN ?ex_CN ?ty_CN ?kc_CN ?mr_CN ?su_CN ?ve_CN ?no_CN ?ga_CN ?gg_CN ?hd_CN ?cl_CN ?ob_CN ?re_CN ?in_CN ?lk_CT ?rv_CT ?sa_CT ?ex_CT ?ty_CT ?kc_CT ?mr_CT ?su_CT ?ve_CT ?no_CT ?ga_CT ?gg_CT ?hd_CT ?cl_CT ?ob_CT ?re_CT ?in_CT ?lk_CL ?rv_CL ?sa_CL ?ex_CL ?ty_CL ?kc_CL ?mr_CL ?su_CL ?ve_CL ?no_CL ?ga_CL ?gg_CL ?hd_CL ?cl_CL ?ob_CL ?re_CL ?in_CL ?lk_CU ?rv_CU ?sa_CU ?ex_CU ?ty_CU ?kc_CU ?mr_CU ?su_CU ?ve_CU ?no_CU ?ga_CU ?gg_CU ?hd_CU ?cl_CU ?ob_CU ?re_CU ?in_CU ?q2 ?q3 ?xR ?hR ?tR ?k6CN ?k6CT ?kVCN ?kVCT ?kXCN ?kXCT ?tI ?lkI ?cdI ?coI ?hvI ?hfI ?ceI ?hDI ?lkS ?cdS ?coS ?hvS ?hfS ?ceS ?hDS ?stI ?tpI ?mrS ?suS ?t0S ?f0S ?l_law_pool ?c_law_pool ?k_law_pool ?l_law_draw ?c_law_draw ?k_law_draw ?l_law_told ?c_law_told ?k_law_told ?l_law_refused ?c_law_refused ?k_law_refused ?l_law_fits ?c_law_fits ?k_law_fits ?l_law ?c_law ?k_law ?l_book_limit ?c_book_limit ?k_book_limit ?l_smallbook_limit ?c_smallbook_limit ?k_smallbook_limit ?l_book_len ?c_book_len ?k_book_len ?l_book_rules ?c_book_rules ?k_book_rules ?l_book_settle ?c_book_settle ?k_book_settle ?l_book_eq ?c_book_eq ?k_book_eq ?l_book_put ?c_book_put ?k_book_put ?l_book_change ?c_book_change ?k_book_change ?l_book_undo ?c_book_undo ?k_book_undo ?l_book_init ?c_book_init ?k_book_init ?z_ValueError ?z_abs ?z_int ?z_isinstance ?z_len ?z_list ?z_max ?z_min ?z_range ?z_repr ?z_super ?z_tuple
    (case g_CB => k_is)
    (case g_CS => k_is)
    (case g_RE => k_is)
    (case g_CL => k_is)
    (case g_CR => k_is)
    (case g_CN => k_is)
    (case g_CM => k_is)
    (case g_CT => k_is)
    (case g_CU => k_is)
    (case g_CD => k_is)
    (case a_law_pool => k_is)
    (case a_law_draw => k_is)
    (case a_law_told => k_is)
    (case a_law_refused => k_is)
    (case a_law_fits => k_is)
    (case a_law => k_is)
    (case b_book_limit_at => k_is)
    (case i_book_limit => k_is)
    (case sAt_smallbook_limit => k_is)
    (case i_smallbook_limit => k_is)
    (case b_book_len_at => k_is)
    (case sAt_book_len => k_is)
    (case i_book_len => k_is)
    (case b_book_settle_at => k_is)
    (case sAt_book_settle => k_is)
    (case i_book_settle => k_is)
    (case b_book_eq_at => k_is)
    (case sAt_book_eq => k_is)
    (case i_book_eq => k_is)
    (case b_book_put_at => k_is)
    (case sAt_book_put => k_is)
    (case i_book_put => k_is)
    (case b_book_change_at => k_is)
    (case sAt_book_change => k_is)
    (case i_book_change => k_is)
    (case b_book_undo_at => k_is)
    (case sAt_book_undo => k_is)
    (case i_book_undo => k_is)
    (case b_book_init_at => k_is)
    (case i_book_init => k_is)
    (case at_pr => k_is)
    (case at_ps => k_is)
    (case get_pr => k_is)
    (case tak_pr => k_is)
    (case rec_pr => k_is)
    (case pgCB => k_is)
    (case hdCB => k_is)
    (case poCB => k_is)
    (case saCB => k_is)
    (case n1CB => k_is)
    (case n2CB => k_is)
    (case mkCB => k_is)
    (case kcCB => k_is)
    (case ckCB => k_is)
    (case obCB => k_is)
    (case kbCB => kernel_rfl)
    (case pgCS => k_is)
    (case hdCS => k_is)
    (case poCS => k_is)
    (case saCS => k_is)
    (case n1CS => k_is)
    (case n2CS => k_is)
    (case mkCS => k_is)
    (case kcCS => k_is)
    (case ckCS => k_is)
    (case obCS => k_is)
    (case kbCS => kernel_rfl)
    (case n3CS => k_is)
    (case sb1 => k_is)
    (case sb2 => k_is)
    (case a_small => k_is)
    (case i_small => k_is)
    (case lk_CN => k_is)
    (case rv_CN => kernel_rfl)
    (case sa_CN => k_is)
    (case ex_CN => k_is)
    (case ty_CN => k_is)
    (case kc_CN => k_is)
    (case mr_CN => k_is)
    (case su_CN => first | ks_is | kernel_rfl)
    (case ve_CN => k_is)
    (case no_CN => k_is)
    (case ga_CN => k_is)
    (case gg_CN => k_is)
    (case hd_CN => k_is)
    (case cl_CN => k_is)
    (case ob_CN => k_is)
    (case re_CN => k_is)
    (case in_CN => k_is)
    (case lk_CT => k_is)
    (case rv_CT => kernel_rfl)
    (case sa_CT => k_is)
    (case ex_CT => k_is)
    (case ty_CT => k_is)
    (case kc_CT => k_is)
    (case mr_CT => k_is)
    (case su_CT => first | ks_is | kernel_rfl)
    (case ve_CT => k_is)
    (case no_CT => k_is)
    (case ga_CT => k_is)
    (case gg_CT => k_is)
    (case hd_CT => k_is)
    (case cl_CT => k_is)
    (case ob_CT => k_is)
    (case re_CT => k_is)
    (case in_CT => k_is)
    (case lk_CL => k_is)
    (case rv_CL => kernel_rfl)
    (case sa_CL => k_is)
    (case ex_CL => k_is)
    (case ty_CL => k_is)
    (case kc_CL => k_is)
    (case mr_CL => k_is)
    (case su_CL => first | ks_is | kernel_rfl)
    (case ve_CL => k_is)
    (case no_CL => k_is)
    (case ga_CL => k_is)
    (case gg_CL => k_is)
    (case hd_CL => k_is)
    (case cl_CL => k_is)
    (case ob_CL => k_is)
    (case re_CL => k_is)
    (case in_CL => k_is)
    (case lk_CU => k_is)
    (case rv_CU => kernel_rfl)
    (case sa_CU => k_is)
    (case ex_CU => k_is)
    (case ty_CU => k_is)
    (case kc_CU => k_is)
    (case mr_CU => k_is)
    (case su_CU => first | ks_is | kernel_rfl)
    (case ve_CU => k_is)
    (case no_CU => k_is)
    (case ga_CU => k_is)
    (case gg_CU => k_is)
    (case hd_CU => k_is)
    (case cl_CU => k_is)
    (case ob_CU => k_is)
    (case re_CU => k_is)
    (case in_CU => k_is)
    (case q2 => k_is)
    (case q3 => k_is)
    (case xR => k_is)
    (case hR => k_is)
    (case tR => k_is)
    (case k6CN => kernel_rfl)
    (case k6CT => kernel_rfl)
    (case kVCN => kernel_rfl)
    (case kVCT => kernel_rfl)
    (case kXCN => kernel_rfl)
    (case kXCT => kernel_rfl)
    (case tI => k_is)
    (case lkI => k_is)
    (case cdI => k_is)
    (case coI => k_is)
    (case hvI => rfl)
    (case hfI => first | rfl | decide +kernel)
    (case ceI => k_is)
    (case hDI => k_is)
    (case lkS => k_is)
    (case cdS => k_is)
    (case coS => k_is)
    (case hvS => rfl)
    (case hfS => first | rfl | decide +kernel)
    (case ceS => k_is)
    (case hDS => k_is)
    (case stI => k_is)
    (case tpI => first | rfl | decide +kernel)
    (case mrS => k_is)
    (case suS => first | ks_is | kernel_rfl)
    (case t0S => k_is)
    (case f0S => k_is)
    (case l_law_pool => k_is)
    (case c_law_pool => k_is)
    (case k_law_pool => k_is)
    (case l_law_draw => k_is)
    (case c_law_draw => k_is)
    (case k_law_draw => k_is)
    (case l_law_told => k_is)
    (case c_law_told => k_is)
    (case k_law_told => k_is)
    (case l_law_refused => k_is)
    (case c_law_refused => k_is)
    (case k_law_refused => k_is)
    (case l_law_fits => k_is)
    (case c_law_fits => k_is)
    (case k_law_fits => k_is)
    (case l_law => k_is)
    (case c_law => k_is)
    (case k_law => k_is)
    (case l_book_limit => k_is)
    (case c_book_limit => k_is)
    (case k_book_limit => k_is)
    (case l_smallbook_limit => k_is)
    (case c_smallbook_limit => k_is)
    (case k_smallbook_limit => k_is)
    (case l_book_len => k_is)
    (case c_book_len => k_is)
    (case k_book_len => k_is)
    (case l_book_rules => k_is)
    (case c_book_rules => k_is)
    (case k_book_rules => k_is)
    (case l_book_settle => k_is)
    (case c_book_settle => k_is)
    (case k_book_settle => k_is)
    (case l_book_eq => k_is)
    (case c_book_eq => k_is)
    (case k_book_eq => k_is)
    (case l_book_put => k_is)
    (case c_book_put => k_is)
    (case k_book_put => k_is)
    (case l_book_change => k_is)
    (case c_book_change => k_is)
    (case k_book_change => k_is)
    (case l_book_undo => k_is)
    (case c_book_undo => k_is)
    (case k_book_undo => k_is)
    (case l_book_init => k_is)
    (case c_book_init => k_is)
    (case k_book_init => k_is)
    (case z_ValueError => k_is)
    (case z_abs => k_is)
    (case z_int => k_is)
    (case z_isinstance => k_is)
    (case z_len => k_is)
    (case z_list => k_is)
    (case z_max => k_is)
    (case z_min => k_is)
    (case z_range => k_is)
    (case z_repr => k_is)
    (case z_super => k_is)
    (case z_tuple => k_is)
