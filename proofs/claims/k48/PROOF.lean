import PyProof.Rows.All
import Wide.All
import OpenK.AllK
import Wide.FinOn
import HandS.ForMost
import HandS.TupAny
import HandS.Star
import HandS.ForExc
import PyProof.ReprRoads
import KE.KIsAll
import KE.KExcIs
import HandS.ExcField
import HandS.EndBits
import KE.KExcSuper
import HandS.ExcInit
import HandS.Property
import HandS.IsInst
import HandS.Deep
import HandS.ClsMeth
import PyProof.EqAt
import PyProof.EqKinds
import PyProof.TupleCall
import HandS.MakeKwOnly
import HandS.WideMore
import HandS.OwnEq
import PySem.Challenge.RW_returnrows_k48_small_books
import HandS.Wide
import PyProof.ReprLen
import PyProof.FitsInt
set_option Elab.async false
set_option linter.all false
set_option maxRecDepth 100000
set_option maxHeartbeats 4000000
/-! RR0: data, worlds, what stands at a slot -/
namespace RR
open PySem L2

/-- plain data; a row by its rules; an instance by its class and its attributes -/
inductive D where
  | non | bl (b : Bool) | int (i : Int) | str (s : Str) | lst (xs : List D) | tup (xs : List D) | row (r : List (List Int))
  | ins (C : Addr) (fs : List (Str × D))
  | scr (xs : List D)
  /-- an error that a suite holds: where it stands, its dict, its value -/
  | exc (a dd : Addr) (x : D)
  /-- any value, as it is -/
  | raw (v : V)

abbrev Rls := List (List Int)
/-- a world: what never changes, the rows that are known (rules, where their lengths stand) -/
structure W where
  M : Hp
  R : Addr → Option (Rls × Addr)

/-- the addresses of the two classes of books -/
structure Cs where
  row : Addr
  book : Addr
  small : Addr
  /-- the classes of errors: 0 RowError, 1 InvalidLetter, 2 InvalidRules, 3 InvalidNumber, 4 NotMixed, 5 TooMany, 6 NothingToUndo, 7 Unreadable -/
  ex : Nat → Addr

mutual
inductive Rp (K : PySem.W.Frag) (c : Cs) (w : W) : V → D → Prop
  | non : Rp K c w .non .non
  | bl (b : Bool) : Rp K c w (.bl b) (.bl b)
  | int (i : Int) : Rp K c w (.int i) (.int i)
  | str (s : Str) : Rp K c w (.str s) (.str s)
  | lst {a : Addr} {xs : List V} {ds : List D} : w.M a = some (.lst xs) → RpA K c w xs ds → Rp K c w (.ref a) (.lst ds)
  | tup {a : Addr} {xs : List V} {ds : List D} : w.M a = some (.tup xs) → RpA K c w xs ds → Rp K c w (.ref a) (.tup ds)
  | scr {a : Addr} {xs : List V} {ds : List D} : SqL K w.M a xs → RpA K c w xs ds → Rp K c w (.ref a) (.scr ds)
  | exc {a dd : Addr} {v : V} {d : D} : w.M dd = some (.xd [("value", v)]) → Rp K c w v d → Rp K c w (.ref a) (.exc a dd d)
  | raw (v : V) : Rp K c w v (.raw v)
  | row {a p : Addr} {r : Rls} : w.R a = some (r, p) → Rp K c w (.ref a) (.row r)
  | ins {a C dx : Addr} {fv : List (Str × V)} {fs : List (Str × D)} : w.M a = some (.ins C dx fv) → RpF K c w fv fs → Rp K c w (.ref a) (.ins C fs)
inductive RpA (K : PySem.W.Frag) (c : Cs) (w : W) : List V → List D → Prop
  | nil : RpA K c w [] []
  | cons {v : V} {d : D} {vs : List V} {ds : List D} : Rp K c w v d → RpA K c w vs ds → RpA K c w (v :: vs) (d :: ds)
inductive RpF (K : PySem.W.Frag) (c : Cs) (w : W) : List (Str × V) → List (Str × D) → Prop
  | nil : RpF K c w [] []
  | cons {f : Str} {v : V} {d : D} {vs : List (Str × V)} {ds : List (Str × D)} : Rp K c w v d → RpF K c w vs ds → RpF K c w ((f, v) :: vs) ((f, d) :: ds)
end

structure W.le (w w' : W) : Prop where
  m : ∀ a o, w.M a = some o → w'.M a = some o
  r : ∀ a x, w.R a = some x → w'.R a = some x
theorem W.le.refl (w : W) : w.le w := ⟨fun _ _ h => h, fun _ _ h => h⟩
theorem W.le.trans {a b c : W} (x : a.le b) (y : b.le c) : a.le c := ⟨fun q o h => y.m q o (x.m q o h), fun q o h => y.r q o (x.r q o h)⟩
theorem sqL_le {K : PySem.W.Frag} {H H' : Hp} {a : Addr} {xs : List V} (e : ∀ a o, H a = some o → H' a = some o) (h : SqL K H a xs) : SqL K H' a xs := by
  rcases h with (h | ⟨o, h⟩) | h
  · exact .inl (.inl (e _ _ h))
  · exact .inl (.inr ⟨o, e _ _ h⟩)
  · exact .inr h
theorem sqT_le {K : PySem.W.Frag} {H H' : Hp} {a : Addr} {xs : List V} (e : ∀ a o, H a = some o → H' a = some o) (h : SqT K H a xs) : SqT K H' a xs := by
  rcases h with (h | ⟨o, h⟩) | h
  · exact .inl (.inl (e _ _ h))
  · exact .inl (.inr ⟨o, e _ _ h⟩)
  · exact .inr h

section
variable {K : PySem.W.Frag} {c : Cs} {w w' : W}
mutual
theorem Rp.mono (l : w.le w') : ∀ {v : V} {d : D}, Rp K c w v d → Rp K c w' v d
  | _, _, .non => .non
  | _, _, .bl b => .bl b
  | _, _, .int i => .int i
  | _, _, .str s => .str s
  | _, _, .lst h r => .lst (l.m _ _ h) (RpA.mono l r)
  | _, _, .tup h r => .tup (l.m _ _ h) (RpA.mono l r)
  | _, _, .scr h r => .scr (sqL_le l.m h) (RpA.mono l r)
  | _, _, .exc h r => .exc (l.m _ _ h) (Rp.mono l r)
  | _, _, .raw v => .raw v
  | _, _, .row h => .row (l.r _ _ h)
  | _, _, .ins h r => .ins (l.m _ _ h) (RpF.mono l r)
theorem RpA.mono (l : w.le w') : ∀ {vs : List V} {ds : List D}, RpA K c w vs ds → RpA K c w' vs ds
  | _, _, .nil => .nil
  | _, _, .cons r t => .cons (Rp.mono l r) (RpA.mono l t)
theorem RpF.mono (l : w.le w') : ∀ {vs : List (Str × V)} {ds : List (Str × D)}, RpF K c w vs ds → RpF K c w' vs ds
  | _, _, .nil => .nil
  | _, _, .cons r t => .cons (Rp.mono l r) (RpF.mono l t)
end
theorem RpF.length : ∀ {vs : List (Str × V)} {ds : List (Str × D)}, RpF K c w vs ds → vs.length = ds.length
  | _, _, .nil => rfl
  | _, _, .cons _ t => congrArg Nat.succ (RpF.length t)
theorem RpF.look {f : Str} : ∀ {vs : List (Str × V)} {ds : List (Str × D)} {d : D}, RpF K c w vs ds → ds.lookup f = some d → ∃ v, vs.lookup f = some v ∧ Rp K c w v d
  | _, _, _, .nil, h => by cases h
  | _, _, d, .cons (f := g) r t, h => by
    unfold List.lookup at h ⊢
    cases e : f == g with
    | true => rw [e] at h; cases h; exact ⟨_, rfl, r⟩
    | false => rw [e] at h; exact RpF.look t h
theorem RpF.lookN {f : Str} : ∀ {vs : List (Str × V)} {ds : List (Str × D)}, RpF K c w vs ds → ds.lookup f = none → vs.lookup f = none
  | _, _, .nil, h => rfl
  | _, _, .cons (f := g) r t, h => by
    unfold List.lookup at h ⊢
    cases e : f == g with
    | true => rw [e] at h; cases h
    | false => rw [e] at h; exact RpF.lookN t h
/-- a field is stored -/
def putD (f : Str) (d : D) : List (Str × D) → List (Str × D)
  | [] => [(f, d)]
  | (g, x) :: r => if g = f then (g, d) :: r else (g, x) :: putD f d r
theorem RpF.put {f : Str} {v : V} {d : D} (h : Rp K c w v d) : ∀ {vs : List (Str × V)} {ds : List (Str × D)}, RpF K c w vs ds → RpF K c w (putF f v vs) (putD f d ds)
  | _, _, .nil => .cons h .nil
  | _, _, .cons (f := g) r t => by
    unfold putF putD
    by_cases e : g = f
    · rw [if_pos e, if_pos e]; exact .cons h t
    · rw [if_neg e, if_neg e]; exact .cons r (RpF.put h t)
theorem RpA.length : ∀ {vs : List V} {ds : List D}, RpA K c w vs ds → vs.length = ds.length
  | _, _, .nil => rfl
  | _, _, .cons _ t => congrArg Nat.succ (RpA.length t)
theorem RpA.append : ∀ {vs us : List V} {ds es : List D}, RpA K c w vs ds → RpA K c w us es → RpA K c w (vs ++ us) (ds ++ es)
  | _, _, _, _, .nil, s => s
  | _, _, _, _, .cons r t, s => .cons r (RpA.append t s)
theorem RpA.get : ∀ {vs : List V} {ds : List D} {i : Nat} {v : V}, RpA K c w vs ds → vs[i]? = some v → ∃ d, ds[i]? = some d ∧ Rp K c w v d
  | _, _, _, _, .nil, e => by simp at e
  | _, _, 0, _, .cons r _, e => by simp at e; subst e; exact ⟨_, rfl, r⟩
  | _, _, i + 1, v, .cons _ t, e => by
    obtain ⟨d, h1, h2⟩ := RpA.get (i := i) (v := v) t (by simpa using e)
    exact ⟨d, by simpa using h1, h2⟩
theorem RpA.get' : ∀ {vs : List V} {ds : List D} {i : Nat} {d : D}, RpA K c w vs ds → ds[i]? = some d → ∃ v, vs[i]? = some v ∧ Rp K c w v d
  | _, _, _, _, .nil, e => by simp at e
  | _, _, 0, _, .cons r _, e => by simp at e; subst e; exact ⟨_, rfl, r⟩
  | _, _, i + 1, d, .cons _ t, e => by
    obtain ⟨v, h1, h2⟩ := RpA.get' (i := i) (d := d) t (by simpa using e)
    exact ⟨v, by simpa using h1, h2⟩
theorem RpA.take : ∀ {vs : List V} {ds : List D} (n : Nat), RpA K c w vs ds → RpA K c w (vs.take n) (ds.take n)
  | _, _, 0, _ => .nil
  | _, _, _ + 1, .nil => .nil
  | _, _, n + 1, .cons r t => .cons r (RpA.take n t)
theorem RpA.drop : ∀ {vs : List V} {ds : List D} (n : Nat), RpA K c w vs ds → RpA K c w (vs.drop n) (ds.drop n)
  | _, _, 0, h => h
  | _, _, _ + 1, .nil => .nil
  | _, _, n + 1, .cons _ t => RpA.drop n t
theorem RpA.set {v : V} {d : D} (h : Rp K c w v d) : ∀ {vs : List V} {ds : List D} (n : Nat), RpA K c w vs ds → RpA K c w (vs.set n v) (ds.set n d)
  | _, _, _, .nil => .nil
  | _, _, 0, .cons _ t => .cons h t
  | _, _, n + 1, .cons r t => .cons r (RpA.set h n t)
end

/-! ### pure rows: what the object keeps -/
def wd (r : Rls) (a : Int) : List Int := r.getD a.toNat []
/-- one step -/
def exch (r : Rls) (x : List Int) : List Int := x.flatMap (wd r)
/-- how long the words are behind k steps -/
def lens (r : Rls) : Nat → List Int
  | 0 => r.map fun _ => 1
  | k + 1 => r.map fun x => (x.map fun a => (lens r k).getD a.toNat 0).sum
/-- cut ahead of each 0 -/
def cutStep (acc : List (List Int)) (a : Int) : List (List Int) :=
  let acc' := if a = 0 then acc ++ [[]] else acc
  acc'.dropLast ++ [(acc'.getLast?.getD []) ++ [a]]
def cutW (x : List Int) : List (List Int) := x.foldl cutStep []
def firstRet (r : Rls) : Nat → List Int → Option (List Int)
  | 0, _ => none
  | n + 1, x => if x.count 0 < 2 then firstRet r n (exch r x) else (cutW x).head?
/-- the pieces of one word: what is known grows -/
def numStep (s : List (List Int) × List Int) (p : List Int) : List (List Int) × List Int :=
  if p ∈ s.1 then (s.1, s.2 ++ [(s.1.idxOf p : Int)]) else (s.1 ++ [p], s.2 ++ [(s.1.length : Int)])
def retLoop (r : Rls) : Nat → Nat → List (List Int) → Rls → Option (List (List Int) × Rls)
  | 0, _, _, _ => none
  | n + 1, at_, known, out =>
    match known[at_]? with
    | none => some (known, out)
    | some x => let s := (cutW (exch r x)).foldl numStep (known, []); retLoop r n (at_ + 1) s.1 (out ++ [s.2])
def retsN (n : Nat) (r : Rls) : Option (List (List Int) × Rls) := (firstRet r n [0]).bind fun x => retLoop r n 0 [x] []
/-- the returns of a row and its rules of returns -/
def Rets (r : Rls) (ws : List (List Int)) (t : Rls) : Prop := ∃ n, retsN n r = some (ws, t)

def iD (x : List Int) : List D := x.map D.int
def rulesD (r : Rls) : D := .tup (r.map fun x => .tup (iD x))
/-- a row stands at a; its lengths at p -/
def RowAt (K : PySem.W.Frag) (c : Cs) (w : W) (H : Hp) (a : Addr) (r : Rls) (p : Addr) : Prop :=
  ∃ (dx : Addr) (vr vk vb : V) (m : Nat) (ls : List V), H a = some (.ins c.row dx [("kept_rules", vr), ("lengths", .ref p), ("kept_returns", vk), ("kept_below", vb)]) ∧ Rp K c w vr (rulesD r) ∧
    H p = some (.lst ls) ∧ RpA K c w ls ((List.range (m + 1)).map fun k => .lst (iD (lens r k))) ∧ m ≤ 1000 ∧
    ((vk = .non ∧ vb = .non) ∨ ∃ ws t, Rets r ws t ∧ Rp K c w vk (.lst (ws.map fun x => .tup (iD x))) ∧ Rp K c w vb (.row t))
def Cell (w : W) (a : Addr) : Prop := (∃ x, w.R a = some x) ∨ ∃ b r, w.R b = some (r, a)
theorem Cell.mono {w w' : W} {a : Addr} (l : w.le w') (h : Cell w a) : Cell w' a := by
  rcases h with ⟨x, h⟩ | ⟨b, r, h⟩
  · exact .inl ⟨x, l.r _ _ h⟩
  · exact .inr ⟨b, r, l.r _ _ h⟩
theorem RowAt.stay {K : PySem.W.Frag} {c : Cs} {w w' : W} {H H' : Hp} {a p : Addr} {r : Rls} (h : RowAt K c w H a r p) (l : w.le w') (ha : ∀ o, H a = some o → H' a = some o) (hp : ∀ o, H p = some o → H' p = some o) : RowAt K c w' H' a r p := by
  obtain ⟨dx, vr, vk, vb, m, ls, h1, h2, h3, h4, h5, h6⟩ := h
  refine ⟨dx, vr, vk, vb, m, ls, ha _ h1, h2.mono l, hp _ h3, h4.mono l, h5, ?_⟩
  rcases h6 with h6 | ⟨ws, t, q1, q2, q3⟩
  · exact .inl h6
  · exact .inr ⟨ws, t, q1, q2.mono l, q3.mono l⟩
structure Ok (K : PySem.W.Frag) (c : Cs) (w : W) (H : Hp) : Prop where
  sub : ∀ a o, w.M a = some o → H a = some o
  rows : ∀ a r p, w.R a = some (r, p) → RowAt K c w H a r p
  ma : ∀ a x, w.R a = some x → w.M a = none
  mp : ∀ a r p, w.R a = some (r, p) → w.M p = none
  inj : ∀ a b r r' p, w.R a = some (r, p) → w.R b = some (r', p) → a = b
theorem Ok.cell {K : PySem.W.Frag} {c : Cs} {w : W} {H : Hp} (h : Ok K c w H) {a : Addr} (q : Cell w a) : w.M a = none ∧ ∃ o, H a = some o := by
  rcases q with ⟨⟨r, p⟩, q⟩ | ⟨b, r, q⟩
  · obtain ⟨_, _, _, _, _, _, h1, _⟩ := h.rows a r p q
    exact ⟨h.ma _ _ q, _, h1⟩
  · obtain ⟨_, _, _, _, _, _, _, _, h1, _⟩ := h.rows b r a q
    exact ⟨h.mp _ _ _ q, _, h1⟩

/-! ### slots -/
/-- an object that one name alone holds -/
inductive O where
  | lst (xs : List D)
  | ins (C : Addr) (fs : List (Str × D))
def O.toD : O → D
  | .lst xs => .lst xs
  | .ins C fs => .ins C fs
def ObjAt (K : PySem.W.Frag) (c : Cs) (w : W) (H : Hp) (p : Addr) : O → Prop
  | .lst xs => ∃ vs, H p = some (.lst vs) ∧ RpA K c w vs xs
  | .ins C fs => ∃ dx fv, H p = some (.ins C dx fv) ∧ RpF K c w fv fs
theorem ObjAt.stay {K : PySem.W.Frag} {c : Cs} {w w' : W} {H H' : Hp} {p : Addr} {o : O} (h : ObjAt K c w H p o) (l : w.le w') (hp : ∀ o, H p = some o → H' p = some o) : ObjAt K c w' H' p o := by
  cases o with
  | lst xs =>
    obtain ⟨vs, h1, h2⟩ := h
    exact ⟨vs, hp _ h1, h2.mono l⟩
  | ins C fs =>
    obtain ⟨dx, fv, h1, h2⟩ := h
    exact ⟨dx, fv, hp _ h1, h2.mono l⟩
theorem ObjAt.some {K : PySem.W.Frag} {c : Cs} {w : W} {H : Hp} {p : Addr} {o : O} (h : ObjAt K c w H p o) : ∃ u, H p = some u := by
  cases o with
  | lst xs =>
    obtain ⟨vs, h1, h2⟩ := h
    exact ⟨_, h1⟩
  | ins C fs =>
    obtain ⟨dx, fv, h1, h2⟩ := h
    exact ⟨_, h1⟩
/-- what a slot holds: nothing known, data, an object of its own, an object lent by the caller -/
inductive A where
  | un
  | d (x : D)
  | own (o : O)
  | bor (o : O)
def A.isBor : A → Bool
  | .bor _ => true
  | _ => false
/-- an error: its class, its value -/
structure Xc where
  n : Nat
  v : D
/-- a def's entry: the heap, the world, the arguments; where an error goes -/
structure Ent where
  H0 : Hp
  w0 : W
  vs : List V
  as : List A
  /-- what lies by for a while, held by no slot -/
  hold : Hp
  xw : Value → Option Addr → L2.St → Hp → Prop
  xx : Xc → List A → Prop
def Bor (e : Ent) (a : Addr) : Prop := ∃ (i : Nat) (o : O), e.as[i]? = some (.bor o) ∧ e.vs[i]? = some (.ref a)
structure At (K : PySem.W.Frag) (c : Cs) (e : Ent) (w : W) (σ : L2.St) (H : Hp) (Γ : List A) : Prop where
  ok : Ok K c w H
  le : e.w0.le w
  keep : ∀ a o, e.H0 a = some o → ¬ Cell e.w0 a → ¬ Bor e a → H a = some o
  fre : ∀ a, H a = none → e.H0 a = none
  new : ∀ a, ((∃ o, w.M a = some o) ∨ Cell w a) → (∃ o, e.w0.M a = some o) ∨ Cell e.w0 a ∨ e.H0 a = none
  len : σ.length = Γ.length
  dat : ∀ (i : Nat) x, Γ[i]? = some (.d x) → ∃ v, σ[i]? = some (some v) ∧ Rp K c w v x
  own : ∀ (i : Nat) o, Γ[i]? = some (.own o) → ∃ p, σ[i]? = some (some (.ref p)) ∧ ObjAt K c w H p o ∧ w.M p = none ∧ ¬ Cell w p ∧ e.H0 p = none
  bor : ∀ (i : Nat) o, Γ[i]? = some (.bor o) → ∃ p, σ[i]? = some (some (.ref p)) ∧ ObjAt K c w H p o ∧ w.M p = none ∧ ¬ Cell w p ∧ Bor e p
  sep : ∀ (i j : Nat) o o' p, (Γ[i]? = some (.own o) ∨ Γ[i]? = some (.bor o)) → (Γ[j]? = some (.own o') ∨ Γ[j]? = some (.bor o')) → σ[i]? = some (some (.ref p)) → σ[j]? = some (some (.ref p)) → i = j
  par : ∀ (i : Nat) o, e.as[i]? = some (.bor o) → ∃ o', Γ[i]? = some (.bor o') ∧ σ[i]? = e.vs[i]?.map some
  hld : ∀ p u, e.hold p = some u → H p = some u ∧ w.M p = none ∧ ¬ Cell w p ∧ ∀ (i : Nat) o', (Γ[i]? = some (.own o') ∨ Γ[i]? = some (.bor o')) → σ[i]? ≠ some (some (.ref p))
/-- an object that nobody holds yet -/
structure Fresh (K : PySem.W.Frag) (c : Cs) (e : Ent) (w : W) (σ : L2.St) (H : Hp) (Γ : List A) (p : Addr) (o : O) : Prop where
  ob : ObjAt K c w H p o
  nm : w.M p = none
  nc : ¬ Cell w p
  n0 : e.H0 p = none
  nh : ∀ (i : Nat) o', (Γ[i]? = some (.own o') ∨ Γ[i]? = some (.bor o')) → σ[i]? ≠ some (some (.ref p))
  nd : e.hold p = none

section
variable {K : PySem.W.Frag} {c : Cs} {e : Ent} {w w' : W} {σ : L2.St} {H H' : Hp} {Γ : List A}
/-- a step that leaves the slots' own objects: the world grows -/
theorem At.grow (h : At K c e w σ H Γ) (l : w.le w') (ok : Ok K c w' H') (hk : ∀ a o, H a = some o → ¬ Cell w a → H' a = some o) (hf : ∀ a, H' a = none → H a = none)
    (hn : ∀ a, ((∃ o, w'.M a = some o) ∨ Cell w' a) → (∃ o, w.M a = some o) ∨ Cell w a ∨ H a = none) : At K c e w' σ H' Γ := by
  have nw : ∀ p, w.M p = none → ¬ Cell w p → (∃ u, H p = some u) → w'.M p = none ∧ ¬ Cell w' p := fun p h1 h2 ⟨u, h3⟩ => by
    have z : ¬ ((∃ o, w'.M p = some o) ∨ Cell w' p) := fun q => by
      rcases hn p q with ⟨o, q⟩ | q | q
      · rw [h1] at q; cases q
      · exact h2 q
      · rw [h3] at q; cases q
    refine ⟨?_, fun q => z (.inr q)⟩
    cases q : w'.M p with
    | none => rfl
    | some o => exact (z (.inl ⟨o, q⟩)).elim
  refine ⟨ok, h.le.trans l, fun a o h1 h2 h3 => hk a o (h.keep a o h1 h2 h3) fun q => ?_, fun a q => h.fre a (hf a q), fun a q => ?_, h.len, fun i x q => ?_, fun i o q => ?_, fun i o q => ?_, h.sep, h.par, fun p u q => ?_⟩
  · rcases h.new a (.inr q) with ⟨u, z⟩ | z | z
    · have := (h.ok.cell q).1
      rw [h.le.m _ _ z] at this
      cases this
    · exact h2 z
    · rw [h1] at z; cases z
  · rcases hn a q with q | q | q
    · exact h.new a (.inl q)
    · exact h.new a (.inr q)
    · exact .inr (.inr (h.fre a q))
  · obtain ⟨v, h1, h2⟩ := h.dat i x q
    exact ⟨v, h1, h2.mono l⟩
  · obtain ⟨p, h1, h2, h3, h4, h5⟩ := h.own i o q
    obtain ⟨z1, z2⟩ := nw p h3 h4 h2.some
    exact ⟨p, h1, h2.stay l fun o r => hk p o r h4, z1, z2, h5⟩
  · obtain ⟨p, h1, h2, h3, h4, h5⟩ := h.bor i o q
    obtain ⟨z1, z2⟩ := nw p h3 h4 h2.some
    exact ⟨p, h1, h2.stay l fun o r => hk p o r h4, z1, z2, h5⟩
  · obtain ⟨h1, h2, h3, h4⟩ := h.hld p u q
    obtain ⟨z1, z2⟩ := nw p h2 h3 ⟨u, h1⟩
    exact ⟨hk p u h1 h3, z1, z2, h4⟩
/-- a new object, held by nobody -/
theorem At.alloc (h : At K c e w σ H Γ) {p : Addr} {u : HO} {o : O} (hp : H p = none) (ho : ObjAt K c w (upd H p u) p o) : At K c e w σ (upd H p u) Γ ∧ Fresh K c e w σ (upd H p u) Γ p o := by
  have hk : ∀ a o, H a = some o → upd H p u a = some o := fun a o q => by rw [upd_ne (ne_of_none q hp)]; exact q
  have nm : w.M p = none := by
    cases q : w.M p with
    | none => rfl
    | some o => rw [h.ok.sub _ _ q] at hp; cases hp
  have nc : ¬ Cell w p := fun q => by
    obtain ⟨_, o, z⟩ := h.ok.cell q
    rw [z] at hp; cases hp
  refine ⟨h.grow (W.le.refl w) ⟨fun a o q => hk a o (h.ok.sub a o q), fun a r q z => (h.ok.rows a r q z).stay (W.le.refl w) (hk a) (hk q), h.ok.ma, h.ok.mp, h.ok.inj⟩ (fun a o q _ => hk a o q) (fun a q => ?_) fun a q => q.elim .inl fun q => .inr (.inl q), ho, nm, nc, h.fre p hp, fun i o' q z => ?_, ?_⟩
  · cases z : H a with
    | none => rfl
    | some o => rw [hk a o z] at q; cases q
  · rcases q with q | q
    · obtain ⟨p', h1, h2, _⟩ := h.own i o' q
      rw [h1] at z
      cases z
      obtain ⟨u', h3⟩ := h2.some
      rw [h3] at hp; cases hp
    · obtain ⟨p', h1, h2, _⟩ := h.bor i o' q
      rw [h1] at z
      cases z
      obtain ⟨u', h3⟩ := h2.some
      rw [h3] at hp; cases hp
  · cases z : e.hold p with
    | none => rfl
    | some o => rw [(h.hld p o z).1] at hp; cases hp
/-- the world with one thing more -/
def W.put (w : W) (p : Addr) (u : HO) : W := ⟨upd w.M p u, w.R⟩
theorem W.le_put {p : Addr} {u : HO} (h : w.M p = none) : w.le (w.put p u) := ⟨fun a o q => by show upd w.M p u a = _; rw [upd_ne (ne_of_none q h)]; exact q, fun _ _ q => q⟩
theorem cell_put {p a : Addr} {u : HO} : Cell (w.put p u) a ↔ Cell w a := Iff.rfl
theorem Ok.put (h : Ok K c w H) {p : Addr} {u : HO} (hu : H p = some u) (nm : w.M p = none) (nc : ¬ Cell w p) : Ok K c (w.put p u) H := by
  refine ⟨fun a o q => ?_, fun a r q z => (h.rows a r q z).stay (W.le_put nm) (fun _ y => y) fun _ y => y, fun a x q => ?_, fun a r p' q => ?_, h.inj⟩
  · by_cases e : a = p
    · subst e
      have z : upd w.M a u a = some o := q
      rw [upd_same] at z
      cases z
      exact hu
    · have z : upd w.M p u a = some o := q
      rw [upd_ne e] at z
      exact h.sub a o z
  · show upd w.M p u a = none
    have n : a ≠ p := fun z => nc (.inl ⟨x, by rw [← z]; exact q⟩)
    rw [upd_ne n]
    exact h.ma _ _ q
  · show upd w.M p u p' = none
    have n : p' ≠ p := fun z => nc (.inr ⟨a, r, by rw [← z]; exact q⟩)
    rw [upd_ne n]
    exact h.mp _ _ _ q
theorem rp_put {p : Addr} {o : O} {u : HO} (ho : ObjAt K c w H p o) (hu : H p = some u) (nm : w.M p = none) : Rp K c (w.put p u) (.ref p) o.toD := by
  have l := W.le_put (w := w) (u := u) nm
  cases o with
  | lst xs =>
    obtain ⟨vs, h1, h2⟩ := ho
    rw [hu] at h1
    cases h1
    exact .lst upd_same (h2.mono l)
  | ins C fs =>
    obtain ⟨dx, fv, h1, h2⟩ := ho
    rw [hu] at h1
    cases h1
    exact .ins upd_same (h2.mono l)
/-- a fresh thing becomes data for ever -/
theorem At.freeze (h : At K c e w σ H Γ) {p : Addr} {o : O} (f : Fresh K c e w σ H Γ p o) : ∃ w', w.le w' ∧ At K c e w' σ H Γ ∧ Rp K c w' (.ref p) o.toD := by
  obtain ⟨u, hu⟩ := f.ob.some
  have l := W.le_put (w := w) (u := u) f.nm
  have ok := h.ok.put hu f.nm f.nc
  have nm : ∀ q, w.M q = none → q ≠ p → (w.put p u).M q = none := fun q z n => by show upd w.M p u q = none; rw [upd_ne n]; exact z
  refine ⟨w.put p u, l, ⟨ok, h.le.trans l, h.keep, h.fre, fun a q => ?_, h.len, fun i x q => ?_, fun i o q => ?_, fun i o q => ?_, h.sep, h.par, fun q u q1 => ?_⟩, rp_put f.ob hu f.nm⟩
  · rcases q with ⟨x, q⟩ | q
    · by_cases z : a = p
      · subst z
        exact .inr (.inr f.n0)
      · have q' : upd w.M p u a = some x := q
        rw [upd_ne z] at q'
        exact h.new a (.inl ⟨x, q'⟩)
    · exact h.new a (.inr q)
  · obtain ⟨v, h1, h2⟩ := h.dat i x q
    exact ⟨v, h1, h2.mono l⟩
  · obtain ⟨p', h1, h2, h3, h4, h5⟩ := h.own i o q
    exact ⟨p', h1, h2.stay l fun _ y => y, nm p' h3 (fun z => f.nh i o (.inl q) (by rw [h1, z])), h4, h5⟩
  · obtain ⟨p', h1, h2, h3, h4, h5⟩ := h.bor i o q
    exact ⟨p', h1, h2.stay l fun _ y => y, nm p' h3 (fun z => f.nh i o (.inr q) (by rw [h1, z])), h4, h5⟩
  · obtain ⟨h1, h2, h3, h4⟩ := h.hld q u q1
    exact ⟨h1, nm q h2 (fun z => by rw [z, f.nd] at q1; cases q1), h3, h4⟩
theorem get_set {α : Type} {l : List α} {i j : Nat} {x y : α} (h : (l.set i x)[j]? = some y) : (i = j ∧ x = y) ∨ (i ≠ j ∧ l[j]? = some y) := by
  by_cases e : i = j
  · subst e
    rw [List.getElem?_set] at h
    simp only [if_true] at h
    split at h
    · exact .inl ⟨rfl, Option.some.inj h⟩
    · cases h
  · rw [List.getElem?_set_ne e] at h
    exact .inr ⟨e, h⟩
theorem set_get {α : Type} {l : List α} {i : Nat} {x : α} (h : i < l.length) : (l.set i x)[i]? = some x := by
  rw [List.getElem?_set_self h]
theorem not_bor {Γ : List A} {i : Nat} (hb : (Γ.getD i .un).isBor = false) (o : O) : Γ[i]? ≠ some (.bor o) := fun q => by
  rw [List.getD_eq_getElem?_getD, q] at hb
  cases hb
/-- a slot gets data -/
theorem At.setD (h : At K c e w σ H Γ) {i : Nat} {v : V} {x : D} (hb : (Γ.getD i .un).isBor = false) (r : Rp K c w v x) : At K c e w (σ.set i (some v)) H (Γ.set i (.d x)) := by
  have nb := not_bor hb
  have ne : ∀ (j : Nat) (a : A), (∀ y, a ≠ .d y) → (Γ.set i (.d x))[j]? = some a → i ≠ j ∧ Γ[j]? = some a := fun j a n q => by
    rcases get_set q with ⟨_, z⟩ | z
    · exact (n _ z.symm).elim
    · exact z
  refine ⟨h.ok, h.le, h.keep, h.fre, h.new, by simp [h.len], fun j y q => ?_, fun j o q => ?_, fun j o q => ?_, fun j k o o' p h1 h2 h3 h4 => ?_, fun j o q => ?_, fun p u q => ?_⟩
  · rcases get_set q with ⟨z, z'⟩ | ⟨z, q⟩
    · subst z
      cases z'
      refine ⟨v, set_get ?_, r⟩
      rw [h.len]
      have := (List.getElem?_eq_some_iff.mp q).1
      rw [List.length_set] at this
      exact this
    · obtain ⟨u, h1, h2⟩ := h.dat j y q
      exact ⟨u, by rw [List.getElem?_set_ne z]; exact h1, h2⟩
  · obtain ⟨z, q⟩ := ne j _ (fun y z => by cases z) q
    obtain ⟨p, h1, h2⟩ := h.own j o q
    exact ⟨p, by rw [List.getElem?_set_ne z]; exact h1, h2⟩
  · obtain ⟨z, q⟩ := ne j _ (fun y z => by cases z) q
    obtain ⟨p, h1, h2⟩ := h.bor j o q
    exact ⟨p, by rw [List.getElem?_set_ne z]; exact h1, h2⟩
  · have a1 : i ≠ j ∧ (Γ[j]? = some (.own o) ∨ Γ[j]? = some (.bor o)) := by
      rcases h1 with h1 | h1
      · obtain ⟨z, q⟩ := ne j _ (fun y z => by cases z) h1
        exact ⟨z, .inl q⟩
      · obtain ⟨z, q⟩ := ne j _ (fun y z => by cases z) h1
        exact ⟨z, .inr q⟩
    have a2 : i ≠ k ∧ (Γ[k]? = some (.own o') ∨ Γ[k]? = some (.bor o')) := by
      rcases h2 with h2 | h2
      · obtain ⟨z, q⟩ := ne k _ (fun y z => by cases z) h2
        exact ⟨z, .inl q⟩
      · obtain ⟨z, q⟩ := ne k _ (fun y z => by cases z) h2
        exact ⟨z, .inr q⟩
    rw [List.getElem?_set_ne a1.1] at h3
    rw [List.getElem?_set_ne a2.1] at h4
    exact h.sep j k o o' p a1.2 a2.2 h3 h4
  · obtain ⟨o', h1, h2⟩ := h.par j o q
    have z : i ≠ j := fun z => nb o' (z ▸ h1)
    exact ⟨o', by rw [List.getElem?_set_ne z]; exact h1, by rw [List.getElem?_set_ne z]; exact h2⟩
  · obtain ⟨h1, h2, h3, h4⟩ := h.hld p u q
    refine ⟨h1, h2, h3, fun j o q => ?_⟩
    have a1 : i ≠ j ∧ (Γ[j]? = some (.own o) ∨ Γ[j]? = some (.bor o)) := by
      rcases q with q | q
      · obtain ⟨z, q⟩ := ne j _ (fun y z => by cases z) q
        exact ⟨z, .inl q⟩
      · obtain ⟨z, q⟩ := ne j _ (fun y z => by cases z) q
        exact ⟨z, .inr q⟩
    rw [List.getElem?_set_ne a1.1]
    exact h4 j o a1.2
/-- a slot gets a fresh object -/
theorem At.setO (h : At K c e w σ H Γ) {i : Nat} {p : Addr} {o : O} (hb : (Γ.getD i .un).isBor = false) (f : Fresh K c e w σ H Γ p o) : At K c e w (σ.set i (some (.ref p))) H (Γ.set i (.own o)) := by
  have nb := not_bor hb
  refine ⟨h.ok, h.le, h.keep, h.fre, h.new, by simp [h.len], fun j y q => ?_, fun j o' q => ?_, fun j o' q => ?_, fun j k o1 o2 p' h1 h2 h3 h4 => ?_, fun j o' q => ?_, fun p' u q => ?_⟩
  · rcases get_set q with ⟨_, z'⟩ | ⟨z, q⟩
    · cases z'
    · obtain ⟨u, h1, h2⟩ := h.dat j y q
      exact ⟨u, by rw [List.getElem?_set_ne z]; exact h1, h2⟩
  · rcases get_set q with ⟨z, z'⟩ | ⟨z, q'⟩
    · subst z
      cases z'
      refine ⟨p, set_get ?_, f.ob, f.nm, f.nc, f.n0⟩
      rw [h.len]
      have := (List.getElem?_eq_some_iff.mp q).1
      rw [List.length_set] at this
      exact this
    · obtain ⟨p', h1, h2⟩ := h.own j o' q'
      exact ⟨p', by rw [List.getElem?_set_ne z]; exact h1, h2⟩
  · rcases get_set q with ⟨_, z'⟩ | ⟨z, q⟩
    · cases z'
    · obtain ⟨p', h1, h2⟩ := h.bor j o' q
      exact ⟨p', by rw [List.getElem?_set_ne z]; exact h1, h2⟩
  · have f1 : ∀ (j : Nat) o1, ((Γ.set i (.own o))[j]? = some (.own o1) ∨ (Γ.set i (.own o))[j]? = some (.bor o1)) → (σ.set i (some (.ref p)))[j]? = some (some (.ref p')) → (i = j ∧ p' = p) ∨ (i ≠ j ∧ (Γ[j]? = some (.own o1) ∨ Γ[j]? = some (.bor o1)) ∧ σ[j]? = some (some (.ref p'))) := fun j o1 q s => by
      rcases get_set s with ⟨z, z'⟩ | ⟨z, s⟩
      · cases z'
        exact .inl ⟨z, rfl⟩
      · rw [List.getElem?_set_ne z] at q
        exact .inr ⟨z, q, s⟩
    rcases f1 j o1 h1 h3 with ⟨z1, y1⟩ | ⟨z1, q1, s1⟩
    · rcases f1 k o2 h2 h4 with ⟨z2, _⟩ | ⟨z2, q2, s2⟩
      · exact z1.symm.trans z2
      · subst y1
        exact (f.nh k o2 q2 s2).elim
    · rcases f1 k o2 h2 h4 with ⟨z2, y2⟩ | ⟨z2, q2, s2⟩
      · subst y2
        exact (f.nh j o1 q1 s1).elim
      · exact h.sep j k o1 o2 p' q1 q2 s1 s2
  · obtain ⟨o1, h1, h2⟩ := h.par j o' q
    have z : i ≠ j := fun z => nb o1 (z ▸ h1)
    exact ⟨o1, by rw [List.getElem?_set_ne z]; exact h1, by rw [List.getElem?_set_ne z]; exact h2⟩
  · obtain ⟨h1, h2, h3, h4⟩ := h.hld p' u q
    refine ⟨h1, h2, h3, fun j o' q2 s => ?_⟩
    rcases get_set s with ⟨z, z'⟩ | ⟨z, s⟩
    · cases z'
      rw [f.nd] at q; cases q
    · rw [List.getElem?_set_ne z] at q2
      exact h4 j o' q2 s
/-- a slot is forgotten -/
theorem At.drop (h : At K c e w σ H Γ) {i : Nat} {v : Option V} (hb : (Γ.getD i .un).isBor = false) : At K c e w (σ.set i v) H (Γ.set i .un) := by
  have nb := not_bor hb
  have ne : ∀ (j : Nat) (a : A), a ≠ .un → (Γ.set i .un)[j]? = some a → i ≠ j ∧ Γ[j]? = some a := fun j a n q => by
    rcases get_set q with ⟨_, z⟩ | z
    · exact (n z.symm).elim
    · exact z
  refine ⟨h.ok, h.le, h.keep, h.fre, h.new, by simp [h.len], fun j y q => ?_, fun j o q => ?_, fun j o q => ?_, fun j k o o' p h1 h2 h3 h4 => ?_, fun j o q => ?_, fun p u q => ?_⟩
  · obtain ⟨z, q⟩ := ne j _ (fun z => by cases z) q
    obtain ⟨p, h1, h2⟩ := h.dat j y q
    exact ⟨p, by rw [List.getElem?_set_ne z]; exact h1, h2⟩
  · obtain ⟨z, q⟩ := ne j _ (fun z => by cases z) q
    obtain ⟨p, h1, h2⟩ := h.own j o q
    exact ⟨p, by rw [List.getElem?_set_ne z]; exact h1, h2⟩
  · obtain ⟨z, q⟩ := ne j _ (fun z => by cases z) q
    obtain ⟨p, h1, h2⟩ := h.bor j o q
    exact ⟨p, by rw [List.getElem?_set_ne z]; exact h1, h2⟩
  · have a1 : i ≠ j ∧ (Γ[j]? = some (.own o) ∨ Γ[j]? = some (.bor o)) := by
      rcases h1 with h1 | h1
      · obtain ⟨z, q⟩ := ne j _ (fun z => by cases z) h1
        exact ⟨z, .inl q⟩
      · obtain ⟨z, q⟩ := ne j _ (fun z => by cases z) h1
        exact ⟨z, .inr q⟩
    have a2 : i ≠ k ∧ (Γ[k]? = some (.own o') ∨ Γ[k]? = some (.bor o')) := by
      rcases h2 with h2 | h2
      · obtain ⟨z, q⟩ := ne k _ (fun z => by cases z) h2
        exact ⟨z, .inl q⟩
      · obtain ⟨z, q⟩ := ne k _ (fun z => by cases z) h2
        exact ⟨z, .inr q⟩
    rw [List.getElem?_set_ne a1.1] at h3
    rw [List.getElem?_set_ne a2.1] at h4
    exact h.sep j k o o' p a1.2 a2.2 h3 h4
  · obtain ⟨o', h1, h2⟩ := h.par j o q
    have z : i ≠ j := fun z => nb o' (z ▸ h1)
    exact ⟨o', by rw [List.getElem?_set_ne z]; exact h1, by rw [List.getElem?_set_ne z]; exact h2⟩
  · obtain ⟨h1, h2, h3, h4⟩ := h.hld p u q
    refine ⟨h1, h2, h3, fun j o q => ?_⟩
    have a1 : i ≠ j ∧ (Γ[j]? = some (.own o) ∨ Γ[j]? = some (.bor o)) := by
      rcases q with q | q
      · obtain ⟨z, q⟩ := ne j _ (fun z => by cases z) q
        exact ⟨z, .inl q⟩
      · obtain ⟨z, q⟩ := ne j _ (fun z => by cases z) q
        exact ⟨z, .inr q⟩
    rw [List.getElem?_set_ne a1.1]
    exact h4 j o a1.2
/-- the own object of a slot becomes data -/
theorem At.thaw (h : At K c e w σ H Γ) {i : Nat} {o : O} (hi : Γ[i]? = some (.own o)) : ∃ w' p, w.le w' ∧ σ[i]? = some (some (.ref p)) ∧ At K c e w' σ H (Γ.set i (.d o.toD)) ∧ Rp K c w' (.ref p) o.toD := by
  obtain ⟨p, h1, h2, h3, h4, h5⟩ := h.own i o hi
  have lt := (List.getElem?_eq_some_iff.mp hi).1
  have hu := h.drop (i := i) (v := some (.ref p)) (by rw [List.getD_eq_getElem?_getD, hi]; rfl)
  have es : σ.set i (some (.ref p)) = σ := by
    refine List.ext_getElem? fun j => ?_
    by_cases z : i = j
    · subst z
      rw [set_get (by rw [h.len]; exact lt), h1]
    · rw [List.getElem?_set_ne z]
  rw [es] at hu
  have nh : ∀ (j : Nat) o', ((Γ.set i .un)[j]? = some (.own o') ∨ (Γ.set i .un)[j]? = some (.bor o')) → σ[j]? ≠ some (some (.ref p)) := fun j o' q z => by
    by_cases y : i = j
    · subst y
      rw [set_get lt] at q
      rcases q with q | q <;> cases q
    · rw [List.getElem?_set_ne y] at q
      exact y (h.sep i j o o' p (.inl hi) q h1 z)
  have nd : e.hold p = none := by
    cases z : e.hold p with
    | none => rfl
    | some u => exact ((h.hld p u z).2.2.2 i o (.inl hi) h1).elim
  obtain ⟨w', l, h', r⟩ := hu.freeze (p := p) (o := o) ⟨h2, h3, h4, h5, nh, nd⟩
  have h6 := h'.setD (i := i) (v := .ref p) (x := o.toD) (by rw [List.getD_eq_getElem?_getD, set_get lt]; rfl) r
  rw [es, List.set_set] at h6
  exact ⟨w', p, l, h1, h6, r⟩
/-- the own (or lent) object of a slot changes -/
theorem At.mutate (h : At K c e w σ H Γ) {i : Nat} {o o' : O} {p : Addr} {u : HO} {a' : A} (hi : (Γ[i]? = some (.own o) ∧ a' = .own o') ∨ (Γ[i]? = some (.bor o) ∧ a' = .bor o')) (hp : σ[i]? = some (some (.ref p))) (ho : ObjAt K c w (upd H p u) p o') :
    At K c e w σ (upd H p u) (Γ.set i a') := by
  have lt : i < Γ.length := by rcases hi with ⟨q, _⟩ | ⟨q, _⟩ <;> exact (List.getElem?_eq_some_iff.mp q).1
  have hq : w.M p = none ∧ ¬ Cell w p ∧ (∃ z, H p = some z) ∧ (e.H0 p = none ∨ Bor e p) := by
    rcases hi with ⟨q, _⟩ | ⟨q, _⟩
    · obtain ⟨p', h1, h2, h3, h4, h5⟩ := h.own i o q
      rw [hp] at h1
      cases h1
      exact ⟨h3, h4, h2.some, .inl h5⟩
    · obtain ⟨p', h1, h2, h3, h4, h5⟩ := h.bor i o q
      rw [hp] at h1
      cases h1
      exact ⟨h3, h4, h2.some, .inr h5⟩
  obtain ⟨nm, nc, hs, hb⟩ := hq
  have hi' : Γ[i]? = some (.own o) ∨ Γ[i]? = some (.bor o) := hi.elim (fun q => .inl q.1) fun q => .inr q.1
  have hk : ∀ a z, a ≠ p → H a = some z → upd H p u a = some z := fun a z n q => by rw [upd_ne n]; exact q
  have ot : ∀ (j : Nat) o1 p', i ≠ j → (Γ[j]? = some (.own o1) ∨ Γ[j]? = some (.bor o1)) → σ[j]? = some (some (.ref p')) → p' ≠ p := fun j o1 p' n q s z => n (h.sep i j o o1 p hi' q hp (z ▸ s))
  refine ⟨⟨fun a z q => hk a z (fun y => by rw [y, nm] at q; cases q) (h.ok.sub a z q), fun a r q z => (h.ok.rows a r q z).stay (W.le.refl w) (fun x y => hk a x (fun m => nc (m ▸ .inl ⟨_, z⟩)) y) fun x y => hk q x (fun m => nc (m ▸ .inr ⟨a, r, z⟩)) y, h.ok.ma, h.ok.mp, h.ok.inj⟩, h.le, fun a z h1 h2 h3 => ?_, fun a q => ?_, h.new, by simp [h.len], fun j y q => ?_, fun j o1 q => ?_, fun j o1 q => ?_, fun j k o1 o2 p' h1 h2 h3 h4 => ?_, fun j o1 q => ?_, fun q u hq => ?_⟩
  · refine hk a z (fun y => ?_) (h.keep a z h1 h2 h3)
    subst y
    rcases hb with hb | hb
    · rw [hb] at h1; cases h1
    · exact h3 hb
  · by_cases z : a = p
    · subst z
      rw [upd_same] at q; cases q
    · rw [upd_ne z] at q
      exact h.fre a q
  · rcases get_set q with ⟨_, z⟩ | ⟨_, q⟩
    · rcases hi with ⟨_, z'⟩ | ⟨_, z'⟩ <;> (rw [z'] at z; cases z)
    · exact h.dat j y q
  · rcases get_set q with ⟨z, z'⟩ | ⟨z, q⟩
    · subst z
      rcases hi with ⟨q1, z2⟩ | ⟨_, z2⟩
      · rw [z2] at z'
        cases z'
        obtain ⟨p', h1, _, _, _, h5⟩ := h.own i o q1
        rw [hp] at h1
        cases h1
        exact ⟨p, hp, ho, nm, nc, h5⟩
      · rw [z2] at z'; cases z'
    · obtain ⟨p', h1, h2, h3⟩ := h.own j o1 q
      exact ⟨p', h1, h2.stay (W.le.refl w) fun x y => hk p' x (ot j o1 p' z (.inl q) h1) y, h3⟩
  · rcases get_set q with ⟨z, z'⟩ | ⟨z, q⟩
    · subst z
      rcases hi with ⟨_, z2⟩ | ⟨q1, z2⟩
      · rw [z2] at z'; cases z'
      · rw [z2] at z'
        cases z'
        obtain ⟨p', h1, _, _, _, h5⟩ := h.bor i o q1
        rw [hp] at h1
        cases h1
        exact ⟨p, hp, ho, nm, nc, h5⟩
    · obtain ⟨p', h1, h2, h3⟩ := h.bor j o1 q
      exact ⟨p', h1, h2.stay (W.le.refl w) fun x y => hk p' x (ot j o1 p' z (.inr q) h1) y, h3⟩
  · have f1 : ∀ (j : Nat) o1, ((Γ.set i a')[j]? = some (.own o1) ∨ (Γ.set i a')[j]? = some (.bor o1)) → ∃ o3, Γ[j]? = some (.own o3) ∨ Γ[j]? = some (.bor o3) := fun j o1 q => by
      by_cases z : i = j
      · subst z
        exact ⟨o, hi'⟩
      · rw [List.getElem?_set_ne z] at q
        exact ⟨o1, q⟩
    obtain ⟨o3, q3⟩ := f1 j o1 h1
    obtain ⟨o4, q4⟩ := f1 k o2 h2
    exact h.sep j k o3 o4 p' q3 q4 h3 h4
  · obtain ⟨o2, h1, h2⟩ := h.par j o1 q
    by_cases z : i = j
    · subst z
      rcases hi with ⟨q1, _⟩ | ⟨_, z2⟩
      · rw [h1] at q1; cases q1
      · exact ⟨o', by rw [set_get lt, z2], h2⟩
    · exact ⟨o2, by rw [List.getElem?_set_ne z]; exact h1, h2⟩
  · obtain ⟨h1, h2, h3, h4⟩ := h.hld q u hq
    refine ⟨hk q u (fun z => h4 i o hi' (by rw [z]; exact hp)) h1, h2, h3, fun j o1 q1 s => ?_⟩
    by_cases z : i = j
    · subst z
      exact h4 i o hi' s
    · rw [List.getElem?_set_ne z] at q1
      exact h4 j o1 q1 s
end
end RR

set_option Elab.async false
set_option linter.all false
set_option maxRecDepth 100000
set_option maxHeartbeats 4000000
/-! RR1: what readings do, told by worlds -/
namespace RR
open PySem L2

/-- what a def hands back -/
inductive Rs where
  | d (x : D)
  | own (o : O)
/-- ends of a statement -/
structure Nd where
  nx : List A → Prop
  rt : Rs → List A → Prop
  bk : List A → Prop
  ct : List A → Prop

/-- errors go where they are wanted -/
def Rz (K : PySem.W.Frag) (c : Cs) (e : Ent) (w : W) : Prop := ∀ x dd v σ' H' w' Γ', w.le w' → At K c e w' σ' H' Γ' → w'.M dd = some (.xd [("value", v)]) → Rp K c w' v x.v → e.xx x Γ' → e.xw (.ref (c.ex x.n)) (some dd) σ' H'
theorem Rz.up {K : PySem.W.Frag} {c : Cs} {e : Ent} {w w' : W} (z : Rz K c e w) (l : w.le w') : Rz K c e w' := fun x dd v σ H w2 Γ l2 => z x dd v σ H w2 Γ (l.trans l2)
structure Az (K : PySem.W.Frag) (c : Cs) (e : Ent) (w : W) (σ : L2.St) (H : Hp) (Γ : List A) : Prop extends At K c e w σ H Γ where
  rz : Rz K c e w
theorem At.z {K : PySem.W.Frag} {c : Cs} {e : Ent} {w w' : W} {σ σ0 : L2.St} {H H0 : Hp} {Γ Γ0 : List A} (h : At K c e w' σ H Γ) (a : Az K c e w σ0 H0 Γ0) (l : w.le w') : Az K c e w' σ H Γ := ⟨h, a.rz.up l⟩

section
variable (K : PySem.W.Frag) (c : Cs) (e : Ent)
def WE (t : TE) (Γ : List A) (Q : D → List A → Prop) : Prop := ∀ σ H w, Az K c e w σ H Γ → ∀ P : VK,
  (∀ v H' w' x Γ', w.le w' → Az K c e w' σ H' Γ' → Rp K c w' v x → Q x Γ' → P v H') → t σ H P
def WF (t : TE) (Γ : List A) (Q : O → List A → Prop) : Prop := ∀ σ H w, Az K c e w σ H Γ → ∀ P : VK,
  (∀ p H' w' o Γ', w.le w' → Az K c e w' σ H' Γ' → Fresh K c e w' σ H' Γ' p o → Q o Γ' → P (.ref p) H') → t σ H P
def WT (t : TT) (Γ : List A) (Q : Bool → List A → Prop) : Prop := ∀ σ H w, Az K c e w σ H Γ → ∀ P : Bool → Hp → Prop,
  (∀ b H' w' Γ', w.le w' → Az K c e w' σ H' Γ' → Q b Γ' → P b H') → t σ H P
/-- a list of data -/
def WL (t : TA) (Γ : List A) (Q : List D → List A → Prop) : Prop := ∀ σ H w, Az K c e w σ H Γ → ∀ P : List V → Hp → Prop,
  (∀ vs H' w' xs Γ', w.le w' → Az K c e w' σ H' Γ' → RpA K c w' vs xs → Q xs Γ' → P vs H') → t σ H P
/-- an operation on two values -/
def Op (r : R2) (x y : D) (Γ : List A) (Q : D → List A → Prop) : Prop := ∀ σ H w vx vy, Az K c e w σ H Γ → Rp K c w vx x → Rp K c w vy y → ∀ P : VK,
  (∀ v H' w' z Γ', w.le w' → Az K c e w' σ H' Γ' → Rp K c w' v z → Q z Γ' → P v H') → r vx vy H P
def OpF (r : R2) (x y : D) (Γ : List A) (Q : O → List A → Prop) : Prop := ∀ σ H w vx vy, Az K c e w σ H Γ → Rp K c w vx x → Rp K c w vy y → ∀ P : VK,
  (∀ p H' w' o Γ', w.le w' → Az K c e w' σ H' Γ' → Fresh K c e w' σ H' Γ' p o → Q o Γ' → P (.ref p) H') → r vx vy H P
/-- an operation on one value -/
def Un1 (r : V → Hp → VK → Prop) (x : D) (Γ : List A) (Q : D → List A → Prop) : Prop := ∀ σ H w vx, Az K c e w σ H Γ → Rp K c w vx x → ∀ P : VK,
  (∀ v H' w' z Γ', w.le w' → Az K c e w' σ H' Γ' → Rp K c w' v z → Q z Γ' → P v H') → r vx H P
/-- a built-in's call on data -/
def Cb (r : List V → Hp → VK → Prop) (xs : List D) (Γ : List A) (Q : D → List A → Prop) : Prop := ∀ σ H w vs, Az K c e w σ H Γ → RpA K c w vs xs → ∀ P : VK,
  (∀ v H' w' z Γ', w.le w' → Az K c e w' σ H' Γ' → Rp K c w' v z → Q z Γ' → P v H') → r vs H P
def CbF (r : List V → Hp → VK → Prop) (xs : List D) (Γ : List A) (Q : O → List A → Prop) : Prop := ∀ σ H w vs, Az K c e w σ H Γ → RpA K c w vs xs → ∀ P : VK,
  (∀ p H' w' o Γ', w.le w' → Az K c e w' σ H' Γ' → Fresh K c e w' σ H' Γ' p o → Q o Γ' → P (.ref p) H') → r vs H P
/-- what a returned value is, told to the caller -/
def RsAt (w : W) (H : Hp) (v : V) : Rs → Prop
  | .d x => Rp K c w v x
  | .own o => ∃ p, v = .ref p ∧ ObjAt K c w H p o ∧ w.M p = none ∧ ¬ Cell w p ∧ e.H0 p = none
structure Go (σ : L2.St) (w : W) (E : Ends) (D : Nd) : Prop where
  nx : ∀ σ' H' w' Γ', w.le w' → Az K c e w' σ' H' Γ' → D.nx Γ' → E.nx σ' H'
  bk : ∀ σ' H' w' Γ', w.le w' → Az K c e w' σ' H' Γ' → D.bk Γ' → E.bk σ' H'
  ct : ∀ σ' H' w' Γ', w.le w' → Az K c e w' σ' H' Γ' → D.ct Γ' → E.ct σ' H'
  rt : ∀ v r σ' H' w' Γ', w.le w' → Az K c e w' σ' H' Γ' → RsAt K c e w' H' v r → D.rt r Γ' → E.rt v H'
def WS (t : TS) (Γ : List A) (D : Nd) : Prop := ∀ σ H w, Az K c e w σ H Γ → ∀ E : Ends, Go K c e σ w E D → t E σ H
end

section
variable {K : PySem.W.Frag} {c : Cs} {e : Ent} {Γ : List A} {Q : D → List A → Prop} {QO : O → List A → Prop} {QB : Bool → List A → Prop} {QL : List D → List A → Prop} {ta tb te tx : TE} {tt tu : TT} {i : Nat}

/-! ### names and constants -/
theorem we_var {x : D} (h : Γ[i]? = some (.d x)) (q : Q x Γ) : WE K c e (tVar i) Γ Q := fun σ H w a P k => by
  obtain ⟨v, h1, h2⟩ := a.dat i x h
  exact ⟨v, h1, k v H w x Γ (W.le.refl w) a h2 q⟩
theorem we_thaw {o : O} (h : Γ[i]? = some (.own o)) (q : Q o.toD (Γ.set i (.d o.toD))) : WE K c e (tVar i) Γ Q := fun σ H w a P k => by
  obtain ⟨w', p, l, h1, a', r⟩ := a.thaw h
  exact ⟨_, h1, k _ H w' _ _ l (a'.z a l) r q⟩
theorem we_int {n : Int} (q : Q (.int n) Γ) : WE K c e (tC (.int n)) Γ Q := fun σ H w a P k => k _ H w _ Γ (W.le.refl w) a (.int n) q
theorem we_bl {n : Bool} (q : Q (.bl n) Γ) : WE K c e (tC (.bl n)) Γ Q := fun σ H w a P k => k _ H w _ Γ (W.le.refl w) a (.bl n) q
theorem we_str {n : Str} (q : Q (.str n) Γ) : WE K c e (tC (.str n)) Γ Q := fun σ H w a P k => k _ H w _ Γ (W.le.refl w) a (.str n) q
theorem we_raw {v : V} (q : Q (.raw v) Γ) : WE K c e (tC v) Γ Q := fun σ H w a P k => k _ H w _ Γ (W.le.refl w) a (.raw v) q
theorem we_non (q : Q .non Γ) : WE K c e (tC .non) Γ Q := fun σ H w a P k => k _ H w _ Γ (W.le.refl w) a .non q
/-- a fresh thing, wanted as data -/
theorem we_frz (h : WF K c e te Γ fun o Γ' => Q o.toD Γ') : WE K c e te Γ Q := fun σ H w a P k => h σ H w a P fun p H' w' o Γ' l a' f q => by
  obtain ⟨w2, l2, a2, r⟩ := a'.freeze f
  exact k _ H' w2 _ Γ' (l.trans l2) (a2.z a' l2) r q
theorem WE.imp {Q' : D → List A → Prop} (h : WE K c e te Γ Q) (f : ∀ x Γ', Q x Γ' → Q' x Γ') : WE K c e te Γ Q' := fun σ H w a P k => h σ H w a P fun v H' w' x Γ' l a' r q => k v H' w' x Γ' l a' r (f _ _ q)
theorem WF.imp {Q' : O → List A → Prop} (h : WF K c e te Γ QO) (f : ∀ x Γ', QO x Γ' → Q' x Γ') : WF K c e te Γ Q' := fun σ H w a P k => h σ H w a P fun v H' w' x Γ' l a' r q => k v H' w' x Γ' l a' r (f _ _ q)
theorem WT.imp {Q' : Bool → List A → Prop} (h : WT K c e tt Γ QB) (f : ∀ x Γ', QB x Γ' → Q' x Γ') : WT K c e tt Γ Q' := fun σ H w a P k => h σ H w a P fun b H' w' Γ' l a' q => k b H' w' Γ' l a' (f _ _ q)

/-! ### operations -/
theorem we_op {r : R2} (h : WE K c e ta Γ fun x Γ1 => WE K c e tb Γ1 fun y Γ2 => Op K c e r x y Γ2 Q) : WE K c e (tOp r ta tb) Γ Q := fun σ H w a P k =>
  h σ H w a _ fun v H1 w1 x Γ1 l1 a1 r1 q1 => q1 σ H1 w1 a1 _ fun u H2 w2 y Γ2 l2 a2 r2 q2 => q2 σ H2 w2 v u a2 (r1.mono l2) r2 P fun z H3 w3 d Γ3 l3 a3 r3 q3 => k z H3 w3 d Γ3 ((l1.trans l2).trans l3) a3 r3 q3
theorem wf_op {r : R2} (h : WE K c e ta Γ fun x Γ1 => WE K c e tb Γ1 fun y Γ2 => OpF K c e r x y Γ2 QO) : WF K c e (tOp r ta tb) Γ QO := fun σ H w a P k =>
  h σ H w a _ fun v H1 w1 x Γ1 l1 a1 r1 q1 => q1 σ H1 w1 a1 _ fun u H2 w2 y Γ2 l2 a2 r2 q2 => q2 σ H2 w2 v u a2 (r1.mono l2) r2 P fun z H3 w3 d Γ3 l3 a3 r3 q3 => k z H3 w3 d Γ3 ((l1.trans l2).trans l3) a3 r3 q3
theorem we_un {r : V → Hp → VK → Prop} (h : WE K c e ta Γ fun x Γ1 => Un1 K c e r x Γ1 Q) : WE K c e (tUn r ta) Γ Q := fun σ H w a P k =>
  h σ H w a _ fun v H1 w1 x Γ1 l1 a1 r1 q1 => q1 σ H1 w1 v a1 r1 P fun z H3 w3 d Γ3 l3 a3 r3 q3 => k z H3 w3 d Γ3 (l1.trans l3) a3 r3 q3
theorem we_cb {r : List V → Hp → VK → Prop} {t : TA} (h : WL K c e t Γ fun xs Γ1 => Cb K c e r xs Γ1 Q) : WE K c e (tCB r t) Γ Q := fun σ H w a P k =>
  h σ H w a _ fun v H1 w1 x Γ1 l1 a1 r1 q1 => q1 σ H1 w1 v a1 r1 P fun z H3 w3 d Γ3 l3 a3 r3 q3 => k z H3 w3 d Γ3 (l1.trans l3) a3 r3 q3
theorem wf_cb {r : List V → Hp → VK → Prop} {t : TA} (h : WL K c e t Γ fun xs Γ1 => CbF K c e r xs Γ1 QO) : WF K c e (tCB r t) Γ QO := fun σ H w a P k =>
  h σ H w a _ fun v H1 w1 x Γ1 l1 a1 r1 q1 => q1 σ H1 w1 v a1 r1 P fun z H3 w3 d Γ3 l3 a3 r3 q3 => k z H3 w3 d Γ3 (l1.trans l3) a3 r3 q3
theorem wl_nil (q : QL [] Γ) : WL K c e tNil Γ QL := fun σ H w a P k => k [] H w [] Γ (W.le.refl w) a .nil q
theorem wl_cons {t : TA} (h : WE K c e ta Γ fun x Γ1 => WL K c e t Γ1 fun xs Γ2 => QL (x :: xs) Γ2) : WL K c e (tCons ta t) Γ QL := fun σ H w a P k =>
  h σ H w a _ fun v H1 w1 x Γ1 l1 a1 r1 q1 => q1 σ H1 w1 a1 _ fun vs H2 w2 xs Γ2 l2 a2 r2 q2 => k _ H2 w2 _ Γ2 (l1.trans l2) a2 (.cons (r1.mono l2) r2) q2
theorem op_int {f : Int → Int → Int} {i j : Int} (q : Q (.int (f i j)) Γ) : Op K c e (rI0 fun i j => .int (f i j)) (.int i) (.int j) Γ Q := fun σ H w vx vy a rx ry P k => by
  cases rx; cases ry
  exact ⟨i, j, rfl, rfl, k _ H w _ Γ (W.le.refl w) a (.int _) q⟩
theorem op_bl {f : Int → Int → Bool} {i j : Int} (q : Q (.bl (f i j)) Γ) : Op K c e (rI0 fun i j => .bl (f i j)) (.int i) (.int j) Γ Q := fun σ H w vx vy a rx ry P k => by
  cases rx; cases ry
  exact ⟨i, j, rfl, rfl, k _ H w _ Γ (W.le.refl w) a (.bl _) q⟩
theorem op_intC {C : Int → Int → Prop} {f : Int → Int → Int} {i j : Int} (hc : C i j) (q : Q (.int (f i j)) Γ) : Op K c e (rI C fun i j => .int (f i j)) (.int i) (.int j) Γ Q := fun σ H w vx vy a rx ry P k => by
  cases rx; cases ry
  exact ⟨i, j, rfl, rfl, hc, k _ H w _ Γ (W.le.refl w) a (.int _) q⟩
theorem un_int {f : Int → Int} {i : Int} (q : Q (.int (f i)) Γ) : Un1 K c e (rU fun i => .int (f i)) (.int i) Γ Q := fun σ H w vx a rx P k => by
  cases rx
  exact ⟨i, rfl, k _ H w _ Γ (W.le.refl w) a (.int _) q⟩
/-- == of flat things -/
def D.scal : D → D → Option Bool
  | .int i, .int j => some (decide (i = j))
  | .bl i, .bl j => some (decide (i = j))
  | .str i, .str j => some (decide (i = j))
  | .non, .non => some true
  | _, _ => none
theorem scal_v {w : W} {x y : D} {vx vy : V} {b : Bool} (h : D.scal x y = some b) (rx : Rp K c w vx x) (ry : Rp K c w vy y) : scal vx vy = true ∧ decide (vx = vy) = b := by
  cases rx <;> cases ry <;> simp [D.scal] at h <;> subst h <;> refine ⟨rfl, ?_⟩ <;> simp
theorem op_eqS {x y : D} {b : Bool} (h : D.scal x y = some b) (q : Q (.bl b) Γ) : Op K c e rEq x y Γ Q := fun σ H w vx vy a rx ry P k => by
  obtain ⟨h1, h2⟩ := scal_v h rx ry
  exact ⟨h1, by rw [h2]; exact k _ H w _ Γ (W.le.refl w) a (.bl b) q⟩
theorem op_neS {x y : D} {b : Bool} (h : D.scal x y = some b) (q : Q (.bl (!b)) Γ) : Op K c e rNe x y Γ Q := fun σ H w vx vy a rx ry P k => by
  obtain ⟨h1, h2⟩ := scal_v h rx ry
  exact ⟨h1, by rw [h2]; exact k _ H w _ Γ (W.le.refl w) a (.bl (!b)) q⟩
/-- x is None, x is not None -/
def D.isNon : D → Bool
  | .non => true
  | _ => false
def D.isRaw : D → Bool
  | .raw _ => true
  | _ => false
theorem isNon_v {w : W} {x : D} {vx : V} (h : x.isRaw = false) (rx : Rp K c w vx x) : decide (vx = V.non) = x.isNon := by
  cases rx <;> first | (cases h; done) | simp [D.isNon]
theorem op_is {x : D} (h : x.isRaw = false) (q : Q (.bl x.isNon) Γ) : Op K c e (fun x y H Q => y = V.non ∧ Q (.bl (decide (x = .non))) H) x .non Γ Q := fun σ H w vx vy a rx ry P k => by
  cases ry
  exact ⟨rfl, by rw [isNon_v h rx]; exact k _ H w _ Γ (W.le.refl w) a (.bl _) q⟩
theorem op_isnt {x : D} (h : x.isRaw = false) (q : Q (.bl (!x.isNon)) Γ) : Op K c e (fun x y H Q => y = V.non ∧ Q (.bl (!decide (x = .non))) H) x .non Γ Q := fun σ H w vx vy a rx ry P k => by
  cases ry
  exact ⟨rfl, by rw [isNon_v h rx]; exact k _ H w _ Γ (W.le.refl w) a (.bl _) q⟩

/-! ### tests -/
theorem wt_test (h : WE K c e te Γ fun x Γ' => ∃ b, x = .bl b ∧ QB b Γ') : WT K c e (tTest te) Γ QB := fun σ H w a P k => h σ H w a _ fun v H' w' x Γ' l a' r q => by
  obtain ⟨b, rfl, q⟩ := q
  cases r
  exact ⟨b, rfl, k b H' w' Γ' l a' q⟩
theorem wt_B (h : WE K c e te Γ fun x Γ' => ∃ b, x = .bl b ∧ QB b Γ') : WT K c e (tB te) Γ QB := wt_test h
theorem wt_not (h : WT K c e tt Γ fun b Γ' => QB (!b) Γ') : WT K c e (tNot tt) Γ QB := fun σ H w a P k => h σ H w a _ fun b H' w' Γ' l a' q => k _ H' w' Γ' l a' q
theorem wt_and (h : WT K c e tt Γ fun b Γ' => (b = true → WT K c e tu Γ' QB) ∧ (b = false → QB false Γ')) : WT K c e (tAnd tt tu) Γ QB := fun σ H w a P k => h σ H w a _ fun b H' w' Γ' l a' q => by
  cases b with
  | true => exact q.1 rfl σ H' w' a' _ fun b2 H2 w2 Γ2 l2 a2 q2 => k b2 H2 w2 Γ2 (l.trans l2) a2 q2
  | false => exact k false H' w' Γ' l a' (q.2 rfl)
theorem wt_or (h : WT K c e tt Γ fun b Γ' => (b = true → QB true Γ') ∧ (b = false → WT K c e tu Γ' QB)) : WT K c e (tOr tt tu) Γ QB := fun σ H w a P k => h σ H w a _ fun b H' w' Γ' l a' q => by
  cases b with
  | false => exact q.2 rfl σ H' w' a' _ fun b2 H2 w2 Γ2 l2 a2 q2 => k b2 H2 w2 Γ2 (l.trans l2) a2 q2
  | true => exact k true H' w' Γ' l a' (q.1 rfl)
theorem we_andV (h : WE K c e ta Γ fun x Γ' => ∃ b, x = .bl b ∧ (b = true → WE K c e tb Γ' Q) ∧ (b = false → Q (.bl false) Γ')) : WE K c e (tAndV ta tb) Γ Q := fun σ H w a P k => h σ H w a _ fun v H' w' x Γ' l a' r q => by
  obtain ⟨b, rfl, q1, q2⟩ := q
  cases r
  refine ⟨b, rfl, ?_⟩
  cases b with
  | true => exact q1 rfl σ H' w' a' _ fun v2 H2 w2 x2 Γ2 l2 a2 r2 q2 => k v2 H2 w2 x2 Γ2 (l.trans l2) a2 r2 q2
  | false => exact k _ H' w' _ Γ' l a' (.bl false) (q2 rfl)
theorem we_orV (h : WE K c e ta Γ fun x Γ' => ∃ b, x = .bl b ∧ (b = true → Q (.bl true) Γ') ∧ (b = false → WE K c e tb Γ' Q)) : WE K c e (tOrV ta tb) Γ Q := fun σ H w a P k => h σ H w a _ fun v H' w' x Γ' l a' r q => by
  obtain ⟨b, rfl, q1, q2⟩ := q
  cases r
  refine ⟨b, rfl, ?_⟩
  cases b with
  | false => exact q2 rfl σ H' w' a' _ fun v2 H2 w2 x2 Γ2 l2 a2 r2 q2 => k v2 H2 w2 x2 Γ2 (l.trans l2) a2 r2 q2
  | true => exact k _ H' w' _ Γ' l a' (.bl true) (q1 rfl)
theorem we_notV (h : WE K c e ta Γ fun x Γ' => ∃ b, x = .bl b ∧ Q (.bl (!b)) Γ') : WE K c e (tNotV ta) Γ Q := fun σ H w a P k => h σ H w a _ fun v H' w' x Γ' l a' r q => by
  obtain ⟨b, rfl, q⟩ := q
  cases r
  exact ⟨b, rfl, k _ H' w' _ Γ' l a' (.bl (!b)) q⟩
theorem we_if (h : WT K c e tt Γ fun b Γ' => (b = true → WE K c e ta Γ' Q) ∧ (b = false → WE K c e tb Γ' Q)) : WE K c e (tIf tt ta tb) Γ Q := fun σ H w a P k => h σ H w a _ fun b H' w' Γ' l a' q => by
  cases b with
  | true => exact q.1 rfl σ H' w' a' _ fun v2 H2 w2 x2 Γ2 l2 a2 r2 q2 => k v2 H2 w2 x2 Γ2 (l.trans l2) a2 r2 q2
  | false => exact q.2 rfl σ H' w' a' _ fun v2 H2 w2 x2 Γ2 l2 a2 r2 q2 => k v2 H2 w2 x2 Γ2 (l.trans l2) a2 r2 q2
theorem wf_if (h : WT K c e tt Γ fun b Γ' => (b = true → WF K c e ta Γ' QO) ∧ (b = false → WF K c e tb Γ' QO)) : WF K c e (tIf tt ta tb) Γ QO := fun σ H w a P k => h σ H w a _ fun b H' w' Γ' l a' q => by
  cases b with
  | true => exact q.1 rfl σ H' w' a' _ fun v2 H2 w2 x2 Γ2 l2 a2 r2 q2 => k v2 H2 w2 x2 Γ2 (l.trans l2) a2 r2 q2
  | false => exact q.2 rfl σ H' w' a' _ fun v2 H2 w2 x2 Γ2 l2 a2 r2 q2 => k v2 H2 w2 x2 Γ2 (l.trans l2) a2 r2 q2
/-- a < b < c -/
theorem we_chain {r r' : R2} {tc : TE} (h : WE K c e ta Γ fun x Γ1 => WE K c e tb Γ1 fun y Γ2 => Op K c e r x y Γ2 fun z Γ3 => ∃ b, z = .bl b ∧ (b = true → WE K c e tc Γ3 fun u Γ4 => Op K c e r' y u Γ4 Q) ∧ (b = false → Q (.bl false) Γ3)) :
    WE K c e (tChain r r' ta tb tc) Γ Q := fun σ H w a P k =>
  h σ H w a _ fun v H1 w1 x Γ1 l1 a1 r1 q1 => q1 σ H1 w1 a1 _ fun u H2 w2 y Γ2 l2 a2 r2 q2 => q2 σ H2 w2 v u a2 (r1.mono l2) r2 _ fun z H3 w3 d Γ3 l3 a3 r3 q3 => by
    obtain ⟨b, rfl, q4, q5⟩ := q3
    cases r3
    refine ⟨b, rfl, ?_⟩
    cases b with
    | true => exact q4 rfl σ H3 w3 a3 _ fun v4 H4 w4 x4 Γ4 l4 a4 r4 q4 => q4 σ H4 w4 u v4 a4 ((r2.mono l3).mono l4) r4 P fun v5 H5 w5 x5 Γ5 l5 a5 r5 q5 => k v5 H5 w5 x5 Γ5 ((((l1.trans l2).trans l3).trans l4).trans l5) a5 r5 q5
    | false => exact k _ H3 w3 _ Γ3 ((l1.trans l2).trans l3) a3 (.bl false) (q5 rfl)

/-! ### statements -/
variable {D : Nd} {t1 t2 : TS}
theorem Go.up {σ : L2.St} {w w' : W} {E : Ends} (g : Go K c e σ w E D) (l : w.le w') {σ' : L2.St} : Go K c e σ' w' E D :=
  ⟨fun _ _ _ _ l2 => g.nx _ _ _ _ (l.trans l2), fun _ _ _ _ l2 => g.bk _ _ _ _ (l.trans l2), fun _ _ _ _ l2 => g.ct _ _ _ _ (l.trans l2), fun _ _ _ _ _ _ l2 => g.rt _ _ _ _ _ _ (l.trans l2)⟩
theorem ws_seq (h : WS K c e t1 Γ { D with nx := fun Γ' => WS K c e t2 Γ' D }) : WS K c e (tSeq t1 t2) Γ D := fun σ H w a E g =>
  h σ H w a _ ⟨fun σ' H' w' Γ' l a' q => q σ' H' w' a' E (g.up l), g.bk, g.ct, g.rt⟩
theorem ws_next (q : D.nx Γ) : WS K c e tNext Γ D := fun σ H w a E g => g.nx σ H w Γ (W.le.refl w) a q
theorem ws_brk (q : D.bk Γ) : WS K c e tBreak Γ D := fun σ H w a E g => g.bk σ H w Γ (W.le.refl w) a q
theorem ws_cont (q : D.ct Γ) : WS K c e tCont Γ D := fun σ H w a E g => g.ct σ H w Γ (W.le.refl w) a q
theorem ws_asg (h : WE K c e te Γ fun x Γ' => (Γ'.getD i .un).isBor = false ∧ D.nx (Γ'.set i (.d x))) : WS K c e (tAsg te (gName i)) Γ D := fun σ H w a E g =>
  h σ H w a _ fun v H' w' x Γ' l a' r q => g.nx _ H' w' _ l ((a'.setD q.1 r).z a' (W.le.refl w')) q.2
theorem ws_asgF (h : WF K c e te Γ fun o Γ' => (Γ'.getD i .un).isBor = false ∧ D.nx (Γ'.set i (.own o))) : WS K c e (tAsg te (gName i)) Γ D := fun σ H w a E g =>
  h σ H w a _ fun p H' w' o Γ' l a' f q => g.nx _ H' w' _ l ((a'.setO q.1 f).z a' (W.le.refl w')) q.2
theorem ws_drop (h : WE K c e te Γ fun x Γ' => D.nx Γ') : WS K c e (tDrop te) Γ D := fun σ H w a E g =>
  h σ H w a _ fun v H' w' x Γ' l a' r q => g.nx _ H' w' _ l a' q
theorem ws_ret (h : WE K c e te Γ fun x Γ' => D.rt (.d x) Γ') : WS K c e (tRet te) Γ D := fun σ H w a E g =>
  h σ H w a _ fun v H' w' x Γ' l a' r q => g.rt v (.d x) σ H' w' Γ' l a' r q
theorem ws_retF (h : WF K c e te Γ fun o Γ' => D.rt (.own o) Γ') : WS K c e (tRet te) Γ D := fun σ H w a E g =>
  h σ H w a _ fun p H' w' o Γ' l a' f q => g.rt _ (.own o) σ H' w' Γ' l a' ⟨p, rfl, f.ob, f.nm, f.nc, f.n0⟩ q
theorem ws_retN (q : D.rt (.d .non) Γ) : WS K c e tRetN Γ D := fun σ H w a E g => g.rt _ (.d .non) σ H w Γ (W.le.refl w) a .non q
/-- an own object handed back -/
theorem ws_retO {o : O} (h : Γ[i]? = some (.own o)) (q : D.rt (.own o) Γ) : WS K c e (tRet (tVar i)) Γ D := fun σ H w a E g => by
  obtain ⟨p, h1, h2, h3, h4, h5⟩ := a.own i o h
  exact ⟨_, h1, g.rt _ (.own o) σ H w Γ (W.le.refl w) a ⟨p, rfl, h2, h3, h4, h5⟩ q⟩
theorem ws_if (h : WT K c e tt Γ fun b Γ' => (b = true → WS K c e t1 Γ' D) ∧ (b = false → WS K c e t2 Γ' D)) : WS K c e (tIfS tt t1 t2) Γ D := fun σ H w a E g => h σ H w a _ fun b H' w' Γ' l a' q => by
  cases b with
  | true => exact q.1 rfl σ H' w' a' E (g.up l)
  | false => exact q.2 rfl σ H' w' a' E (g.up l)
theorem ws_par {j : Nat} {t : TA} (h : WL K c e t Γ fun xs Γ' => ∃ x y, xs = [x, y] ∧ (Γ'.getD i .un).isBor = false ∧ ((Γ'.set i (.d x)).getD j .un).isBor = false ∧ D.nx ((Γ'.set i (.d x)).set j (.d y))) :
    WS K c e (tPar i j t) Γ D := fun σ H w a E g => h σ H w a _ fun vs H' w' xs Γ' l a' r q => by
  obtain ⟨x, y, rfl, q1, q2, q3⟩ := q
  cases r with
  | cons r1 r =>
    cases r with
    | cons r2 r =>
      cases r
      exact ⟨_, _, rfl, g.nx _ H' w' _ l (((a'.setD q1 r1).setD q2 r2).z a' (W.le.refl w')) q3⟩
/-- for over data: the word P by the turn -/
theorem ws_for {g : TG} {tb : TS} {j : Nat}
    (h : WE K c e ta Γ fun x Γ' => ∃ xs, ∃ P : Nat → List A → Prop, x = .lst xs ∧ P 0 Γ' ∧ (∀ (n : Nat) d Γ1, xs[n]? = some d → P n Γ1 → (Γ1.getD j .un).isBor = false ∧ WS K c e tb (Γ1.set j (.d d)) { D with nx := P (n + 1), ct := P (n + 1), bk := D.nx }) ∧ ∀ Γ1, P xs.length Γ1 → D.nx Γ1) :
    WS K c e (tFor (iList K ta) (gName j) tb) Γ D := fun σ H w a E g => h σ H w a _ fun v H' w' x Γ' l a' r q => by
  obtain ⟨xs, P, rfl, q0, q1, q2⟩ := q
  cases r with
  | lst hs ra =>
    rename_i p vs
    have up : ∀ {w2 : W} {H2 : Hp}, Ok K c w2 H2 → w'.le w2 → SqL K H2 p vs := fun ok l2 => SqL.of (ok.sub _ _ (l2.m _ _ hs))
    refine ⟨p, rfl, ⟨vs, up a'.ok (W.le.refl w')⟩, for_list (K := K) (a := p) (xs := vs) (fun n σ2 H2 => ∃ w2 Γ2, w'.le w2 ∧ Az K c e w2 σ2 H2 Γ2 ∧ P n Γ2) ⟨w', Γ', W.le.refl w', a', q0⟩ (fun n σ2 H2 _ ⟨w2, Γ2, l2, a2, _⟩ => up a2.ok l2) ?_ ?_⟩
    · rintro n y σ2 H2 hn ⟨w2, Γ2, l2, a2, p2⟩
      obtain ⟨d, hd, rd⟩ := ra.get hn
      obtain ⟨z1, z2⟩ := q1 n d Γ2 hd p2
      refine z2 _ H2 w2 ((a2.setD z1 (rd.mono l2)).z a2 (W.le.refl w2)) _ ⟨fun σ3 H3 w3 Γ3 l3 a3 p3 => ⟨w3, Γ3, l2.trans l3, a3, p3⟩, fun σ3 H3 w3 Γ3 l3 => g.nx σ3 H3 w3 Γ3 ((l.trans l2).trans l3), fun σ3 H3 w3 Γ3 l3 a3 p3 => ⟨w3, Γ3, l2.trans l3, a3, p3⟩, fun v r σ3 H3 w3 Γ3 l3 => g.rt v r σ3 H3 w3 Γ3 ((l.trans l2).trans l3)⟩
    · rintro σ2 H2 ⟨w2, Γ2, l2, a2, p2⟩
      rw [ra.length] at p2
      exact g.nx σ2 H2 w2 Γ2 (l.trans l2) a2 (q2 Γ2 p2)
theorem ws_forT {g : TG} {tb : TS} {j : Nat}
    (h : WE K c e ta Γ fun x Γ' => ∃ xs, ∃ P : Nat → List A → Prop, x = .tup xs ∧ P 0 Γ' ∧ (∀ (n : Nat) d Γ1, xs[n]? = some d → P n Γ1 → (Γ1.getD j .un).isBor = false ∧ WS K c e tb (Γ1.set j (.d d)) { D with nx := P (n + 1), ct := P (n + 1), bk := D.nx }) ∧ ∀ Γ1, P xs.length Γ1 → D.nx Γ1) :
    WS K c e (tFor (iTup K ta) (gName j) tb) Γ D := fun σ H w a E g => h σ H w a _ fun v H' w' x Γ' l a' r q => by
  obtain ⟨xs, P, rfl, q0, q1, q2⟩ := q
  cases r with
  | tup hs ra =>
    rename_i p vs
    have up : ∀ {w2 : W} {H2 : Hp}, Ok K c w2 H2 → w'.le w2 → SqT K H2 p vs := fun ok l2 => SqT.of (ok.sub _ _ (l2.m _ _ hs))
    refine ⟨p, rfl, ⟨vs, up a'.ok (W.le.refl w')⟩, for_tup (K := K) (a := p) (xs := vs) (fun n σ2 H2 => ∃ w2 Γ2, w'.le w2 ∧ Az K c e w2 σ2 H2 Γ2 ∧ P n Γ2) ⟨w', Γ', W.le.refl w', a', q0⟩ (fun n σ2 H2 _ ⟨w2, Γ2, l2, a2, _⟩ => up a2.ok l2) ?_ ?_⟩
    · rintro n y σ2 H2 hn ⟨w2, Γ2, l2, a2, p2⟩
      obtain ⟨d, hd, rd⟩ := ra.get hn
      obtain ⟨z1, z2⟩ := q1 n d Γ2 hd p2
      refine z2 _ H2 w2 ((a2.setD z1 (rd.mono l2)).z a2 (W.le.refl w2)) _ ⟨fun σ3 H3 w3 Γ3 l3 a3 p3 => ⟨w3, Γ3, l2.trans l3, a3, p3⟩, fun σ3 H3 w3 Γ3 l3 => g.nx σ3 H3 w3 Γ3 ((l.trans l2).trans l3), fun σ3 H3 w3 Γ3 l3 a3 p3 => ⟨w3, Γ3, l2.trans l3, a3, p3⟩, fun v r σ3 H3 w3 Γ3 l3 => g.rt v r σ3 H3 w3 Γ3 ((l.trans l2).trans l3)⟩
    · rintro σ2 H2 ⟨w2, Γ2, l2, a2, p2⟩
      rw [ra.length] at p2
      exact g.nx σ2 H2 w2 Γ2 (l.trans l2) a2 (q2 Γ2 p2)
/-- for over range(n) -/
theorem ws_forR {tb : TS} {j : Nat} {t : TA}
    (h : WL K c e t Γ fun xs Γ' => ∃ n : Int, ∃ P : Nat → List A → Prop, xs = [.int n] ∧ (-(2 ^ 62) ≤ n ∧ n < 2 ^ 62) ∧ P 0 Γ' ∧ (∀ (k : Nat) Γ1, k < n.toNat → P k Γ1 → (Γ1.getD j .un).isBor = false ∧ WS K c e tb (Γ1.set j (.d (.int k))) { D with nx := P (k + 1), ct := P (k + 1), bk := D.nx }) ∧ ∀ Γ1, P n.toNat Γ1 → D.nx Γ1) :
    WS K c e (tFor (iRng1 t) (gName j) tb) Γ D := fun σ H w a E g => h σ H w a _ fun vs H' w' xs Γ' l a' r q => by
  obtain ⟨n, P, rfl, hb, q0, q1, q2⟩ := q
  cases r with
  | cons r1 r =>
    cases r
    cases r1
    refine ⟨n, rfl, hb.1, hb.2, for_range (lo := 0) (n := n.toNat) (fun k σ2 H2 => ∃ w2 Γ2, w'.le w2 ∧ Az K c e w2 σ2 H2 Γ2 ∧ P k Γ2) ⟨w', Γ', W.le.refl w', a', q0⟩ ?_ ?_⟩
    · rintro k σ2 H2 hk ⟨w2, Γ2, l2, a2, p2⟩
      obtain ⟨z1, z2⟩ := q1 k Γ2 hk p2
      have e0 : (0 : Int) + (k : Int) = (k : Int) := Int.zero_add _
      rw [e0]
      exact z2 _ H2 w2 ((a2.setD z1 (.int _)).z a2 (W.le.refl w2)) _ ⟨fun σ3 H3 w3 Γ3 l3 a3 p3 => ⟨w3, Γ3, l2.trans l3, a3, p3⟩, fun σ3 H3 w3 Γ3 l3 => g.nx σ3 H3 w3 Γ3 ((l.trans l2).trans l3), fun σ3 H3 w3 Γ3 l3 a3 p3 => ⟨w3, Γ3, l2.trans l3, a3, p3⟩, fun v r σ3 H3 w3 Γ3 l3 => g.rt v r σ3 H3 w3 Γ3 ((l.trans l2).trans l3)⟩
    · rintro σ2 H2 ⟨w2, Γ2, l2, a2, p2⟩
      exact g.nx σ2 H2 w2 Γ2 (l.trans l2) a2 (q2 Γ2 p2)
/-- for over range(lo, hi) -/
theorem ws_forR2 {tb : TS} {j : Nat} {t : TA}
    (h : WL K c e t Γ fun xs Γ' => ∃ lo n : Int, ∃ P : Nat → List A → Prop, xs = [.int lo, .int n] ∧ (-(2 ^ 62) ≤ lo ∧ lo < 2 ^ 62 ∧ -(2 ^ 62) ≤ n ∧ n < 2 ^ 62) ∧ P 0 Γ' ∧ (∀ (k : Nat) Γ1, k < (n - lo).toNat → P k Γ1 → (Γ1.getD j .un).isBor = false ∧ WS K c e tb (Γ1.set j (.d (.int (lo + k)))) { D with nx := P (k + 1), ct := P (k + 1), bk := D.nx }) ∧ ∀ Γ1, P (n - lo).toNat Γ1 → D.nx Γ1) :
    WS K c e (tFor (iRng2 t) (gName j) tb) Γ D := fun σ H w a E g => h σ H w a _ fun vs H' w' xs Γ' l a' r q => by
  obtain ⟨lo, n, P, rfl, hb, q0, q1, q2⟩ := q
  cases r with
  | cons r0 r =>
    cases r with
    | cons r1 r =>
      cases r
      cases r0
      cases r1
      refine ⟨lo, n, rfl, hb, for_range (lo := lo) (n := (n - lo).toNat) (fun k σ2 H2 => ∃ w2 Γ2, w'.le w2 ∧ Az K c e w2 σ2 H2 Γ2 ∧ P k Γ2) ⟨w', Γ', W.le.refl w', a', q0⟩ ?_ ?_⟩
      · rintro k σ2 H2 hk ⟨w2, Γ2, l2, a2, p2⟩
        obtain ⟨z1, z2⟩ := q1 k Γ2 hk p2
        exact z2 _ H2 w2 ((a2.setD z1 (.int _)).z a2 (W.le.refl w2)) _ ⟨fun σ3 H3 w3 Γ3 l3 a3 p3 => ⟨w3, Γ3, l2.trans l3, a3, p3⟩, fun σ3 H3 w3 Γ3 l3 => g.nx σ3 H3 w3 Γ3 ((l.trans l2).trans l3), fun σ3 H3 w3 Γ3 l3 a3 p3 => ⟨w3, Γ3, l2.trans l3, a3, p3⟩, fun v r σ3 H3 w3 Γ3 l3 => g.rt v r σ3 H3 w3 Γ3 ((l.trans l2).trans l3)⟩
      · rintro σ2 H2 ⟨w2, Γ2, l2, a2, p2⟩
        exact g.nx σ2 H2 w2 Γ2 (l.trans l2) a2 (q2 Γ2 p2)
/-- while: the word P with a measure -/
theorem ws_while {tb : TS} (P : Nat → List A → Prop) (h0 : ∃ m, P m Γ)
    (h : ∀ m Γ1, P m Γ1 → WT K c e tt Γ1 fun b Γ2 => (b = true → WS K c e tb Γ2 { D with nx := fun Γ3 => ∃ m', m' < m ∧ P m' Γ3, ct := fun Γ3 => ∃ m', m' < m ∧ P m' Γ3, bk := D.nx }) ∧ (b = false → D.nx Γ2)) :
    WS K c e (tWhile tt tb) Γ D := fun σ H w a E g => by
  obtain ⟨m0, p0⟩ := h0
  refine ⟨fun m σ2 H2 => ∃ w2 Γ2, w.le w2 ∧ Az K c e w2 σ2 H2 Γ2 ∧ P m Γ2, ⟨m0, w, Γ, W.le.refl w, a, p0⟩, ?_⟩
  rintro m σ2 H2 ⟨w2, Γ2, l2, a2, p2⟩
  refine h m Γ2 p2 σ2 H2 w2 a2 _ fun b H3 w3 Γ3 l3 a3 q3 => ?_
  cases b with
  | true =>
    refine ⟨fun σ4 H4 => ∃ w4 Γ4 m', m' < m ∧ w3.le w4 ∧ Az K c e w4 σ4 H4 Γ4 ∧ P m' Γ4, fun σ4 H4 ⟨w4, Γ4, m', hm, l4, a4, p4⟩ => ⟨m', hm, w4, Γ4, (l2.trans l3).trans l4, a4, p4⟩, ?_⟩
    exact q3.1 rfl σ2 H3 w3 a3 _ ⟨fun σ4 H4 w4 Γ4 l4 a4 ⟨m', hm, p4⟩ => ⟨w4, Γ4, m', hm, l4, a4, p4⟩, fun σ4 H4 w4 Γ4 l4 => g.nx σ4 H4 w4 Γ4 ((l2.trans l3).trans l4), fun σ4 H4 w4 Γ4 l4 a4 ⟨m', hm, p4⟩ => ⟨w4, Γ4, m', hm, l4, a4, p4⟩, fun v r σ4 H4 w4 Γ4 l4 => g.rt v r σ4 H4 w4 Γ4 ((l2.trans l3).trans l4)⟩
  | false => exact g.nx σ2 H3 w3 Γ3 (l2.trans l3) a3 (q3.2 rfl)
end
end RR

set_option Elab.async false
set_option linter.all false
set_option maxRecDepth 100000
set_option maxHeartbeats 4000000
/-! RR2: lists, tuples, comprehensions -/
namespace RR
open PySem L2 StX

def A.ob : A → Option O
  | .own o => some o
  | .bor o => some o
  | _ => none
def A.put : A → O → A
  | .bor _, o => .bor o
  | _, o => .own o
def ob (Γ : List A) (i : Nat) : Option O := (Γ.getD i .un).ob
def chg (Γ : List A) (i : Nat) (o : O) : List A := Γ.set i ((Γ.getD i .un).put o)
theorem sz100 {n : Nat} (h : n ≤ 1000000) : n ≤ sizeLine := Nat.le_trans h (by rw [sizeLine_eq]; decide)
theorem sz100' {n : Nat} (h : n < 1000000) : n < sizeLine := Nat.lt_of_lt_of_le h (by rw [sizeLine_eq]; decide)

section
variable {K : PySem.W.Frag} {c : Cs} {e : Ent} {Γ : List A} {Q : D → List A → Prop} {QO : O → List A → Prop} {QB : Bool → List A → Prop} {QL : List D → List A → Prop} {ta tb te tx : TE} {tt tu : TT} {i : Nat} {w w' : W} {σ : L2.St} {H H' : Hp}
theorem ob_or {o : O} (h : ob Γ i = some o) : (Γ[i]? = some (.own o) ∧ ∀ o', (Γ.getD i .un).put o' = .own o') ∨ (Γ[i]? = some (.bor o) ∧ ∀ o', (Γ.getD i .un).put o' = .bor o') := by
  unfold ob at h
  rw [List.getD_eq_getElem?_getD] at *
  cases q : Γ[i]? with
  | none => rw [q] at h; cases h
  | some a =>
    rw [q] at h
    cases a with
    | un => cases h
    | d x => cases h
    | own o1 => cases h; exact .inl ⟨rfl, fun _ => rfl⟩
    | bor o1 => cases h; exact .inr ⟨rfl, fun _ => rfl⟩
theorem At.obj (h : At K c e w σ H Γ) {o : O} (q : ob Γ i = some o) : ∃ p, σ[i]? = some (some (.ref p)) ∧ ObjAt K c w H p o := by
  rcases ob_or q with ⟨q, _⟩ | ⟨q, _⟩
  · obtain ⟨p, h1, h2, _⟩ := h.own i o q
    exact ⟨p, h1, h2⟩
  · obtain ⟨p, h1, h2, _⟩ := h.bor i o q
    exact ⟨p, h1, h2⟩
theorem At.change (h : At K c e w σ H Γ) {o o' : O} {p : Addr} {u : HO} (q : ob Γ i = some o) (hp : σ[i]? = some (some (.ref p))) (ho : ObjAt K c w (upd H p u) p o') : At K c e w σ (upd H p u) (chg Γ i o') := by
  unfold chg
  rcases ob_or q with ⟨q, z⟩ | ⟨q, z⟩
  · rw [z]
    exact h.mutate (.inl ⟨q, rfl⟩) hp ho
  · rw [z]
    exact h.mutate (.inr ⟨q, rfl⟩) hp ho
theorem At.allocL (h : At K c e w σ H Γ) {p : Addr} {vs : List V} {xs : List D} (hp : H p = none) (r : RpA K c w vs xs) : At K c e w σ (upd H p (.lst vs)) Γ ∧ Fresh K c e w σ (upd H p (.lst vs)) Γ p (.lst xs) :=
  h.alloc hp ⟨vs, upd_same, r⟩
/-- a new tuple -/
theorem At.allocT (h : At K c e w σ H Γ) {p : Addr} {vs : List V} {xs : List D} (hp : H p = none) (r : RpA K c w vs xs) : ∃ w', w.le w' ∧ At K c e w' σ (upd H p (.tup vs)) Γ ∧ Rp K c w' (.ref p) (.tup xs) := by
  have hk : ∀ a o, H a = some o → upd H p (.tup vs) a = some o := fun a o q => by rw [upd_ne (ne_of_none q hp)]; exact q
  have nm : w.M p = none := by
    cases q : w.M p with
    | none => rfl
    | some o => rw [h.ok.sub _ _ q] at hp; cases hp
  have nc : ¬ Cell w p := fun q => by
    obtain ⟨_, o, z⟩ := h.ok.cell q
    rw [z] at hp; cases hp
  have ok1 : Ok K c w (upd H p (.tup vs)) := ⟨fun a o q => hk a o (h.ok.sub a o q), fun a r q z => (h.ok.rows a r q z).stay (W.le.refl w) (hk a) (hk q), h.ok.ma, h.ok.mp, h.ok.inj⟩
  have ok2 := ok1.put (p := p) (u := .tup vs) upd_same nm nc
  have l := W.le_put (w := w) (p := p) (u := .tup vs) nm
  refine ⟨w.put p (.tup vs), l, h.grow l ok2 (fun a o q _ => hk a o q) (fun a q => ?_) fun a q => ?_, .tup upd_same (r.mono l)⟩
  · cases z : H a with
    | none => rfl
    | some o => rw [hk a o z] at q; cases q
  · rcases q with ⟨x, q⟩ | q
    · by_cases z : a = p
      · subst z
        exact .inr (.inr hp)
      · have q' : upd w.M p (.tup vs) a = some x := q
        rw [upd_ne z] at q'
        exact .inl ⟨x, q'⟩
    · exact .inr (.inl q)

/-! ### displays -/
theorem wf_lst {t : TA} (h : WL K c e t Γ fun xs Γ' => xs.length ≤ 1000000 ∧ QO (.lst xs) Γ') : WF K c e (tLst t) Γ QO := fun σ H w a P k => h σ H w a _ fun vs H1 w1 xs Γ1 l1 a1 r1 q1 =>
  ⟨by rw [r1.length]; exact sz100 q1.1, fun p hp => by
    obtain ⟨a2, f⟩ := a1.allocL hp r1
    exact k p _ w1 _ Γ1 l1 (a2.z a1 (W.le.refl w1)) f q1.2⟩
theorem we_tup {t : TA} (h : WL K c e t Γ fun xs Γ' => xs.length ≤ 1000000 ∧ Q (.tup xs) Γ') : WE K c e (tTup t) Γ Q := fun σ H w a P k => h σ H w a _ fun vs H1 w1 xs Γ1 l1 a1 r1 q1 =>
  ⟨by rw [r1.length]; exact sz100 q1.1, fun p hp => by
    obtain ⟨w2, l2, a2, r2⟩ := a1.allocT hp r1
    exact k _ _ w2 _ Γ1 (l1.trans l2) (a2.z a1 l2) r2 q1.2⟩
def D.seq : D → Option (List D)
  | .lst xs => some xs
  | .tup xs => some xs
  | .scr xs => some xs
  | _ => none
theorem seq_of {x : D} {xs : List D} {v : V} (h : x.seq = some xs) (r : Rp K c w v x) (ok : Ok K c w H) : ∃ p vs, v = .ref p ∧ RpA K c w vs xs ∧ (SqT K H p vs ∨ SqL K H p vs) := by
  cases r with
  | lst hm ra =>
    cases h
    exact ⟨_, _, rfl, ra, .inr (SqL.of (ok.sub _ _ hm))⟩
  | tup hm ra =>
    cases h
    exact ⟨_, _, rfl, ra, .inl (SqT.of (ok.sub _ _ hm))⟩
  | scr hm ra =>
    cases h
    exact ⟨_, _, rfl, ra, .inr (sqL_le ok.sub hm)⟩
  | _ => cases h
theorem wl_star {t : TA} (h : WE K c e te Γ fun x Γ1 => ∃ xs, x.seq = some xs ∧ WL K c e t Γ1 fun ys Γ2 => QL (xs ++ ys) Γ2) : WL K c e (tStar K te t) Γ QL := fun σ H w a P k => h σ H w a _ fun v H1 w1 x Γ1 l1 a1 r1 q1 => by
  obtain ⟨xs, hx, q1⟩ := q1
  obtain ⟨p, vs, rfl, ra, hs⟩ := seq_of hx r1 a1.ok
  exact ⟨p, vs, rfl, hs, q1 σ H1 w1 a1 _ fun us H2 w2 ys Γ2 l2 a2 r2 q2 => k _ H2 w2 _ Γ2 (l1.trans l2) a2 ((ra.mono l2).append r2) q2⟩

/-! ### reading by place -/
theorem atI_rp {vs : List V} {xs : List D} {j : Int} {d : D} (r : RpA K c w vs xs) (h : atI xs j = some d) : ∃ v, atI vs j = some v ∧ Rp K c w v d := by
  unfold atI at h ⊢
  rw [r.length]
  cases q : ixN xs.length j with
  | none => rw [q] at h; cases h
  | some n =>
    rw [q] at h
    exact r.get' h
theorem op_ixL {xs : List D} {j : Int} {d : D} (h : atI xs j = some d) (q : Q d Γ) : Op K c e (rIxL K) (.lst xs) (.int j) Γ Q := fun σ H w vx vy a rx ry P k => by
  cases rx with
  | lst hm ra =>
    cases ry
    obtain ⟨v, h1, h2⟩ := atI_rp ra h
    exact ⟨_, _, j, v, rfl, rfl, SqL.of (a.ok.sub _ _ hm), h1, k v H w d Γ (W.le.refl w) a h2 q⟩
theorem op_ixS {xs : List D} {j : Int} {d : D} (h : atI xs j = some d) (q : Q d Γ) : Op K c e (rIxL K) (.scr xs) (.int j) Γ Q := fun σ H w vx vy a rx ry P k => by
  cases rx with
  | scr hm ra =>
    cases ry
    obtain ⟨v, h1, h2⟩ := atI_rp ra h
    exact ⟨_, _, j, v, rfl, rfl, sqL_le a.ok.sub hm, h1, k v H w d Γ (W.le.refl w) a h2 q⟩
theorem op_ixT {xs : List D} {j : Int} {d : D} (h : atI xs j = some d) (q : Q d Γ) : Op K c e (rIxT K) (.tup xs) (.int j) Γ Q := fun σ H w vx vy a rx ry P k => by
  cases rx with
  | tup hm ra =>
    cases ry
    obtain ⟨v, h1, h2⟩ := atI_rp ra h
    exact ⟨_, _, j, v, rfl, rfl, SqT.of (a.ok.sub _ _ hm), h1, k v H w d Γ (W.le.refl w) a h2 q⟩
/-- xs[j], xs an own list -/
theorem we_ixO (h : WE K c e tb Γ fun y Γ' => ∃ xs j d, ob Γ' i = some (.lst xs) ∧ y = .int j ∧ atI xs j = some d ∧ Q d Γ') (h0 : ∃ xs, ob Γ i = some (.lst xs)) : WE K c e (tOp (rIxL K) (tVar i) tb) Γ Q := fun σ H w a P k => by
  obtain ⟨xs0, h0⟩ := h0
  obtain ⟨p, hp, _⟩ := a.obj h0
  refine ⟨_, hp, h σ H w a _ fun v H1 w1 x Γ1 l1 a1 r1 q1 => ?_⟩
  obtain ⟨xs, j, d, h1, rfl, h3, q1⟩ := q1
  cases r1
  obtain ⟨p1, hp1, vs, h4, h5⟩ := a1.obj h1
  rw [hp] at hp1
  cases hp1
  obtain ⟨v, h6, h7⟩ := atI_rp h5 h3
  exact ⟨p, vs, j, v, rfl, rfl, SqL.of h4, h6, k v H1 w1 d Γ1 l1 a1 h7 q1⟩

/-! ### slices -/
def WO (K : PySem.W.Frag) (c : Cs) (e : Ent) (t : TO) (Γ : List A) (Q : Option Int → List A → Prop) : Prop := ∀ σ H w, Az K c e w σ H Γ → ∀ P : Option Int → Hp → Prop,
  (∀ o H' w' Γ', w.le w' → Az K c e w' σ H' Γ' → Q o Γ' → P o H') → t σ H P
theorem wo_none {q : Option Int → List A → Prop} (h : q none Γ) : WO K c e tNoPart Γ q := fun σ H w a P k => k none H w Γ (W.le.refl w) a h
theorem wo_some {q : Option Int → List A → Prop} (h : WE K c e te Γ fun x Γ' => ∃ j, x = .int j ∧ q (some j) Γ') : WO K c e (tPart te) Γ q := fun σ H w a P k => h σ H w a _ fun v H1 w1 x Γ1 l1 a1 r1 q1 => by
  obtain ⟨j, rfl, q1⟩ := q1
  cases r1
  exact ⟨j, rfl, k _ H1 w1 Γ1 l1 a1 q1⟩
def cutD (xs : List D) (lo hi : Option Int) : List D := (xs.drop (HT.sIx xs.length 0 lo)).take (HT.sIx xs.length xs.length hi - HT.sIx xs.length 0 lo)
theorem cut_rp {vs : List V} {xs : List D} {lo hi : Option Int} (r : RpA K c w vs xs) : RpA K c w (cutV vs lo hi) (cutD xs lo hi) := by
  unfold cutV cutD
  rw [r.length]
  exact (r.drop _).take _
theorem wf_slL {tl th : TO} (h : WE K c e te Γ fun x Γ1 => ∃ xs, x = .lst xs ∧ WO K c e tl Γ1 fun lo Γ2 => WO K c e th Γ2 fun hi Γ3 => QO (.lst (cutD xs lo hi)) Γ3) : WF K c e (tSl (rSlL K) te tl th) Γ QO := fun σ H w a P k =>
  h σ H w a _ fun v H1 w1 x Γ1 l1 a1 r1 q1 => by
    obtain ⟨xs, rfl, q1⟩ := q1
    refine q1 σ H1 w1 a1 _ fun lo H2 w2 Γ2 l2 a2 q2 => q2 σ H2 w2 a2 _ fun hi H3 w3 Γ3 l3 a3 q3 => ?_
    cases r1 with
    | lst hm ra =>
      refine ⟨_, _, rfl, SqL.of (a3.ok.sub _ _ (l3.m _ _ (l2.m _ _ hm))), fun p hp => ?_⟩
      obtain ⟨a4, f⟩ := a3.allocL hp (cut_rp (lo := lo) (hi := hi) ((ra.mono l2).mono l3))
      exact k p _ w3 _ Γ3 ((l1.trans l2).trans l3) (a4.z a3 (W.le.refl w3)) f q3
theorem we_slT {tl th : TO} (h : WE K c e te Γ fun x Γ1 => ∃ xs, x = .tup xs ∧ WO K c e tl Γ1 fun lo Γ2 => WO K c e th Γ2 fun hi Γ3 => Q (.tup (cutD xs lo hi)) Γ3) : WE K c e (tSl (rSlA K) te tl th) Γ Q := fun σ H w a P k =>
  h σ H w a _ fun v H1 w1 x Γ1 l1 a1 r1 q1 => by
    obtain ⟨xs, rfl, q1⟩ := q1
    refine q1 σ H1 w1 a1 _ fun lo H2 w2 Γ2 l2 a2 q2 => q2 σ H2 w2 a2 _ fun hi H3 w3 Γ3 l3 a3 q3 => ?_
    cases r1 with
    | tup hm ra =>
      have hm3 := l3.m _ _ (l2.m _ _ hm)
      have ra3 := (ra.mono l2).mono l3
      refine ⟨_, _, rfl, SqT.of (a3.ok.sub _ _ hm3), fun z => ?_, fun z p hp => ?_⟩
      · rename_i q vs
        have ev : cutD xs lo hi = xs := by
          unfold cutD
          rw [← ra.length, z.1, z.2]
          simp [ra.length]
        have q3' : Q (.tup (cutD xs lo hi)) Γ3 := q3
        rw [ev] at q3'
        exact k _ H3 w3 _ Γ3 ((l1.trans l2).trans l3) a3 (.tup hm3 ra3) q3'
      · obtain ⟨w4, l4, a4, r4⟩ := a3.allocT hp (cut_rp (lo := lo) (hi := hi) ra3)
        exact k _ _ w4 _ Γ3 (((l1.trans l2).trans l3).trans l4) (a4.z a3 l4) r4 q3

/-! ### len, list, tuple, sum, all, + -/
def rLen (K : PySem.W.Frag) : List V → Hp → VK → Prop := fun xs H Q => ∃ p ys, xs = [.ref p] ∧ (SqL K H p ys ∨ SqT K H p ys) ∧ Q (.int ys.length) H
theorem call_lenR {X : Cx} : CallR X (.builtin "len") (rLen X.K) := call_len_seq
def rLst (K : PySem.W.Frag) : List V → Hp → VK → Prop := fun xs H Q => ∃ p ys, xs = [.ref p] ∧ (SqL K H p ys ∨ SqT K H p ys) ∧ ∀ l, H l = none → Q (.ref l) (upd H l (.lst ys))
theorem call_lstR {X : Cx} : CallR X (.type "list") (rLst X.K) := call_list_of
def rTup (K : PySem.W.Frag) : List V → Hp → VK → Prop := fun xs H Q => ∃ p ys, xs = [.ref p] ∧ ((SqL K H p ys ∧ ∀ l, H l = none → Q (.ref l) (upd H l (.tup ys))) ∨ (SqT K H p ys ∧ Q (.ref p) H))
theorem call_tupR {X : Cx} : CallR X (.type "tuple") (rTup X.K) := call_tuple_of
theorem cb_len {x : D} {xs : List D} (h : x.seq = some xs) (q : Q (.int xs.length) Γ) : Cb K c e (rLen K) [x] Γ Q := fun σ H w vs a r P k => by
  cases r with
  | cons r0 r =>
    cases r
    obtain ⟨p, us, rfl, ra, hs⟩ := seq_of h r0 a.ok
    refine ⟨p, us, rfl, hs.symm, ?_⟩
    rw [ra.length]
    exact k _ H w _ Γ (W.le.refl w) a (.int _) q
theorem we_lenO {xs : List D} (h : ob Γ i = some (.lst xs)) (q : Q (.int xs.length) Γ) : WE K c e (tCB (rLen K) (tCons (tVar i) tNil)) Γ Q := fun σ H w a P k => by
  obtain ⟨p, hp, vs, h1, h2⟩ := a.obj h
  refine ⟨_, hp, p, vs, rfl, .inl (SqL.of h1), ?_⟩
  rw [h2.length]
  exact k _ H w _ Γ (W.le.refl w) a (.int _) q
theorem cb_lst {x : D} {xs : List D} (h : x.seq = some xs) (q : QO (.lst xs) Γ) : CbF K c e (rLst K) [x] Γ QO := fun σ H w vs a r P k => by
  cases r with
  | cons r0 r =>
    cases r
    obtain ⟨p, us, rfl, ra, hs⟩ := seq_of h r0 a.ok
    refine ⟨p, us, rfl, hs.symm, fun l hl => ?_⟩
    obtain ⟨a2, f⟩ := a.allocL hl ra
    exact k l _ w _ Γ (W.le.refl w) (a2.z a (W.le.refl w)) f q
theorem cb_tup {x : D} {xs : List D} (h : x.seq = some xs) (q : Q (.tup xs) Γ) : Cb K c e (rTup K) [x] Γ Q := fun σ H w vs a r P k => by
  cases r with
  | cons r0 r =>
    cases r
    have ok := a.ok
    have new : ∀ us, RpA K c w us xs → ∀ l, H l = none → P (.ref l) (upd H l (.tup us)) := fun us ra l hl => by
      obtain ⟨w2, l2, a2, r2⟩ := a.allocT hl ra
      exact k _ _ w2 _ Γ l2 (a2.z a l2) r2 q
    cases r0 with
    | lst hm ra =>
      cases h
      exact ⟨_, _, rfl, .inl ⟨SqL.of (ok.sub _ _ hm), new _ ra⟩⟩
    | scr hm ra =>
      cases h
      exact ⟨_, _, rfl, .inl ⟨sqL_le ok.sub hm, new _ ra⟩⟩
    | tup hm ra =>
      cases h
      exact ⟨_, _, rfl, .inr ⟨SqT.of (ok.sub _ _ hm), k _ H w _ Γ (W.le.refl w) a (.tup hm ra) q⟩⟩
    | _ => cases h
theorem op_catL {xs ys : List D} (hl : xs.length + ys.length ≤ 1000000) (q : QO (.lst (xs ++ ys)) Γ) : OpF K c e rCat (.lst xs) (.lst ys) Γ QO := fun σ H w vx vy a rx ry P k => by
  cases rx with
  | lst hm ra =>
    cases ry with
    | lst hm2 ra2 =>
      refine ⟨_, _, _, _, rfl, rfl, a.ok.sub _ _ hm, a.ok.sub _ _ hm2, by rw [ra.length, ra2.length]; exact sz100 hl, fun p hp => ?_⟩
      obtain ⟨a2, f⟩ := a.allocL hp (ra.append ra2)
      exact k p _ w _ Γ (W.le.refl w) (a2.z a (W.le.refl w)) f q
theorem rep_rp {vs : List V} {xs : List D} (r : RpA K c w vs xs) : ∀ n : Nat, RpA K c w (List.replicate n vs).flatten (List.replicate n xs).flatten
  | 0 => .nil
  | n + 1 => by
    rw [List.replicate_succ, List.replicate_succ, List.flatten_cons, List.flatten_cons]
    exact r.append (rep_rp r n)
theorem op_repL {xs : List D} {j : Int} (h1 : -(2 ^ 63) ≤ j) (h2 : j < 2 ^ 63) (hl : xs.length * j.toNat ≤ 1000000) (q : QO (.lst (List.replicate j.toNat xs).flatten) Γ) : OpF K c e rRep (.lst xs) (.int j) Γ QO := fun σ H w vx vy a rx ry P k => by
  cases rx with
  | lst hm ra =>
    cases ry
    refine ⟨_, _, _, rfl, rfl, a.ok.sub _ _ hm, h1, h2, by rw [ra.length]; exact sz100 hl, fun p hp => ?_⟩
    obtain ⟨a2, f⟩ := a.allocL hp (rep_rp ra _)
    exact k p _ w _ Γ (W.le.refl w) (a2.z a (W.le.refl w)) f q

/-! ### an own list changes -/
variable {D : Nd}
theorem ws_app (h0 : ∃ xs, ob Γ i = some (.lst xs)) (h : WE K c e te Γ fun x Γ' => ∃ xs, ob Γ' i = some (.lst xs) ∧ xs.length < 1000000 ∧ D.nx (chg Γ' i (.lst (xs ++ [x])))) :
    WS K c e (tDrop (tBM K "list" rAppend (tVar i) (tCons te tNil))) Γ D := fun σ H w a E g => by
  obtain ⟨xs0, h0⟩ := h0
  obtain ⟨p, hp, vs0, hv0, _⟩ := a.obj h0
  refine ⟨_, hp, .inl ⟨rfl, vs0, SqL.of hv0⟩, h σ H w a _ fun v H1 w1 x Γ1 l1 a1 r1 q1 => ?_⟩
  obtain ⟨xs, h1, h2, q1⟩ := q1
  obtain ⟨p1, hp1, vs, h4, h5⟩ := a1.obj h1
  rw [hp] at hp1
  cases hp1
  exact ⟨p, vs, v, rfl, rfl, h4, by rw [h5.length]; exact sz100' h2, g.nx σ _ w1 _ l1 ((a1.change (o' := .lst (xs ++ [x])) h1 hp ⟨_, upd_same, h5.append (.cons r1 .nil)⟩).z a1 (W.le.refl w1)) q1⟩
theorem ws_ext (h0 : ∃ xs, ob Γ i = some (.lst xs)) (h : WE K c e te Γ fun x Γ' => ∃ xs ys, x = .lst ys ∧ ob Γ' i = some (.lst xs) ∧ xs.length + ys.length ≤ 1000000 ∧ D.nx (chg Γ' i (.lst (xs ++ ys)))) :
    WS K c e (tDrop (tBM K "list" rExtend (tVar i) (tCons te tNil))) Γ D := fun σ H w a E g => by
  obtain ⟨xs0, h0⟩ := h0
  obtain ⟨p, hp, vs0, hv0, _⟩ := a.obj h0
  refine ⟨_, hp, .inl ⟨rfl, vs0, SqL.of hv0⟩, h σ H w a _ fun v H1 w1 x Γ1 l1 a1 r1 q1 => ?_⟩
  obtain ⟨xs, ys, rfl, h1, h2, q1⟩ := q1
  obtain ⟨p1, hp1, vs, h4, h5⟩ := a1.obj h1
  rw [hp] at hp1
  cases hp1
  cases r1 with
  | lst hm ra =>
    exact ⟨p, _, vs, _, rfl, rfl, h4, a1.ok.sub _ _ hm, by rw [h5.length, ra.length]; exact sz100 h2, g.nx σ _ w1 _ l1 ((a1.change (o' := .lst (xs ++ ys)) h1 hp ⟨_, upd_same, h5.append ra⟩).z a1 (W.le.refl w1)) q1⟩
/-- xs[j] = e -/
theorem ws_setI (h : WE K c e te Γ fun x Γ1 => (∃ xs, ob Γ1 i = some (.lst xs)) ∧ WE K c e tx Γ1 fun y Γ2 => ∃ xs j n, y = .int j ∧ ob Γ2 i = some (.lst xs) ∧ ixN xs.length j = some n ∧ D.nx (chg Γ2 i (.lst (xs.set n x)))) :
    WS K c e (tAsg te (gSub (tVar i) tx rSetL)) Γ D := fun σ H w a E g => h σ H w a _ fun v H1 w1 x Γ1 l1 a1 r1 q1 => by
  obtain ⟨⟨xs0, h0⟩, q1⟩ := q1
  obtain ⟨p, hp, vs0, hv0, _⟩ := a1.obj h0
  refine ⟨_, hp, q1 σ H1 w1 a1 _ fun u H2 w2 y Γ2 l2 a2 r2 q2 => ?_⟩
  obtain ⟨xs, j, n, rfl, h1, h2, q2⟩ := q2
  cases r2
  obtain ⟨p1, hp1, vs, h4, h5⟩ := a2.obj h1
  rw [hp] at hp1
  cases hp1
  exact ⟨p, vs, j, n, rfl, rfl, h4, by rw [h5.length]; exact h2, g.nx σ _ w2 _ (l1.trans l2) ((a2.change (o' := .lst (xs.set n x)) h1 hp ⟨_, upd_same, h5.set (r1.mono l2) n⟩).z a2 (W.le.refl w2)) q2⟩

/-! ### comprehensions: x in slot j; the word P by the turn, the list so far, the slots (x's one forgotten) -/
def Ent.lay (e : Ent) (p : Addr) (u : HO) : Ent := { e with hold := upd e.hold p u }
theorem At.lay {p : Addr} {u : HO} {o : O} (h : At K c e w σ H Γ) (f : Fresh K c e w σ H Γ p o) (hp : H p = some u) : At K c (e.lay p u) w σ H Γ := by
  refine ⟨h.ok, h.le, h.keep, h.fre, h.new, h.len, h.dat, h.own, h.bor, h.sep, h.par, fun q v hq => ?_⟩
  by_cases z : q = p
  · subst z
    have hq' : upd e.hold q u q = some v := hq
    rw [upd_same] at hq'
    cases hq'
    exact ⟨hp, f.nm, f.nc, f.nh⟩
  · have hq' : upd e.hold p u q = some v := hq
    rw [upd_ne z] at hq'
    exact h.hld q v hq'
theorem Bor_lay {p a : Addr} {u : HO} : Bor (e.lay p u) a ↔ Bor e a := Iff.rfl
theorem At.pick {p : Addr} {u : HO} (h : At K c (e.lay p u) w σ H Γ) (hd : e.hold p = none) : At K c e w σ H Γ ∧ H p = some u ∧ w.M p = none ∧ ¬ Cell w p ∧ ∀ (i : Nat) o', (Γ[i]? = some (.own o') ∨ Γ[i]? = some (.bor o')) → σ[i]? ≠ some (some (.ref p)) :=
  ⟨⟨h.ok, h.le, h.keep, h.fre, h.new, h.len, h.dat, h.own, h.bor, h.sep, h.par, fun q v hq => h.hld q v (by
    show upd e.hold p u q = some v
    rw [upd_ne (ne_of_none hq hd)]
    exact hq)⟩, h.hld p u upd_same⟩
theorem Rz.lay {p : Addr} {u : HO} (z : Rz K c e w) (hd : e.hold p = none) : Rz K c (e.lay p u) w := fun x dd v σ' H' w' Γ' l a h r q => z x dd v σ' H' w' Γ' l (a.pick hd).1 h r q
/-- what nobody holds is changed -/
theorem At.poke {p : Addr} {u : HO} {o o' : O} (h : At K c e w σ H Γ) (f : Fresh K c e w σ H Γ p o) (ho : ObjAt K c w (upd H p u) p o') : At K c e w σ (upd H p u) Γ ∧ Fresh K c e w σ (upd H p u) Γ p o' := by
  have hk : ∀ a z, a ≠ p → H a = some z → upd H p u a = some z := fun a z n q => by rw [upd_ne n]; exact q
  refine ⟨⟨⟨fun a z q => hk a z (fun y => by rw [y, f.nm] at q; cases q) (h.ok.sub a z q), fun a r q z => (h.ok.rows a r q z).stay (W.le.refl w) (fun x y => hk a x (fun m => f.nc (m ▸ .inl ⟨_, z⟩)) y) fun x y => hk q x (fun m => f.nc (m ▸ .inr ⟨a, r, z⟩)) y, h.ok.ma, h.ok.mp, h.ok.inj⟩, h.le, fun a z h1 h2 h3 => ?_, fun a q => ?_, h.new, h.len, h.dat, fun j o1 q => ?_, fun j o1 q => ?_, h.sep, h.par, fun q v hq => ?_⟩, ho, f.nm, f.nc, f.n0, f.nh, f.nd⟩
  · exact hk a z (fun y => by rw [y, f.n0] at h1; cases h1) (h.keep a z h1 h2 h3)
  · by_cases z : a = p
    · subst z
      exact f.n0
    · rw [upd_ne z] at q
      exact h.fre a q
  · obtain ⟨p', h1, h2, h3⟩ := h.own j o1 q
    exact ⟨p', h1, h2.stay (W.le.refl w) fun x y => hk p' x (fun z => f.nh j o1 (.inl q) (by rw [h1, z])) y, h3⟩
  · obtain ⟨p', h1, h2, h3⟩ := h.bor j o1 q
    exact ⟨p', h1, h2.stay (W.le.refl w) fun x y => hk p' x (fun z => f.nh j o1 (.inr q) (by rw [h1, z])) y, h3⟩
  · obtain ⟨h1, h2⟩ := h.hld q v hq
    exact ⟨hk q v (fun z => by rw [z, f.nd] at hq; cases hq) h1, h2⟩
theorem set_back {σ : L2.St} {j : Nat} {x : Option V} : ((σ.set j none).set j x).set j (σ.getD j none) = σ := by
  rw [List.set_set, List.set_set]
  refine List.ext_getElem? fun k => ?_
  by_cases z : j = k
  · subst z
    by_cases l : j < σ.length
    · rw [set_get l, List.getD_eq_getElem?_getD, List.getElem?_eq_getElem l]
      rfl
    · rw [List.getElem?_eq_none (by rw [List.length_set]; omega), List.getElem?_eq_none (by omega)]
  · rw [List.getElem?_set_ne z]
theorem At.forget {j : Nat} (h : At K c e w σ H Γ) (hb : (Γ.getD j .un).isBor = false) : At K c e w σ H (Γ.set j .un) := by
  have q := h.drop (i := j) (v := σ.getD j none) hb
  have es : σ.set j (σ.getD j none) = σ := by
    have := set_back (σ := σ) (j := j) (x := none)
    rw [List.set_set, List.set_set] at this
    exact this
  rwa [es] at q
/-- the element's slot, as the block sees it -/
theorem At.enter {j : Nat} {v : V} {d : RR.D} (h : At K c e w σ H Γ) (hb : (Γ.getD j .un).isBor = false) (r : Rp K c w v d) : At K c e w ((σ.set j none).set j (some v)) H (Γ.set j (.d d)) := by
  have q := (h.drop (i := j) (v := none) hb).setD (i := j) (v := v) (x := d) (by
    rw [List.getD_eq_getElem?_getD]
    by_cases l : j < Γ.length
    · rw [set_get l]; rfl
    · rw [List.getElem?_eq_none (by rw [List.length_set]; omega)]; rfl) r
  have e1 : (Γ.set j .un).set j (.d d) = Γ.set j (.d d) := List.set_set ..
  rwa [e1] at q
theorem At.leave {j : Nat} {v : Option V} (h : At K c e w ((σ.set j none).set j v) H Γ) (hb : (Γ.getD j .un).isBor = false) : At K c e w σ H (Γ.set j .un) := by
  have q := h.drop (i := j) (v := σ.getD j none) hb
  rwa [set_back] at q
/-- one turn of a comprehension -/
def LcTurn (K : PySem.W.Frag) (c : Cs) (tt : TT) (te : TE) (j : Nat) (P P' : List RR.D → List A → Prop) (d : RR.D) : Prop := ∀ e acc Γ1, P acc Γ1 → (Γ1.getD j .un).isBor = false ∧
  WT K c e tt (Γ1.set j (.d d)) fun b Γ2 => (b = true → WE K c e te Γ2 fun y Γ3 => (Γ3.getD j .un).isBor = false ∧ P' (acc ++ [y]) (Γ3.set j .un)) ∧ (b = false → (Γ2.getD j .un).isBor = false ∧ P' acc (Γ2.set j .un))
theorem lc_turn {j n : Nat} {P P' : List RR.D → List A → Prop} {d : RR.D} (t : LcTurn K c tt te j P P' d) {w0 w1 : W} {v : V} {Da : Addr} {acc : List RR.D} {Γ1 : List A} (l1 : w0.le w1) (a1 : Az K c e w1 σ H Γ1) (f1 : Fresh K c e w1 σ H Γ1 Da (.lst acc))
    (hn : acc.length ≤ n) (hz : n < 1000000) (p1 : P acc Γ1) (r : Rp K c w1 v d) : gName j v (wipe σ [j]) H fun σ2 H2 => wipe σ2 [j] = wipe σ [j] ∧ tt σ2 H2 fun b H3 =>
      if b = true then te σ2 H3 fun y H4 => ∃ us, H4 Da = some (.lst us) ∧ us.length < sizeLine ∧ (∃ w2 acc2 Γ2, w0.le w2 ∧ Az K c e w2 σ (upd H4 Da (.lst (us ++ [y]))) Γ2 ∧ Fresh K c e w2 σ (upd H4 Da (.lst (us ++ [y]))) Γ2 Da (.lst acc2) ∧ acc2.length ≤ n + 1 ∧ P' acc2 Γ2)
      else ∃ w2 acc2 Γ2, w0.le w2 ∧ Az K c e w2 σ H3 Γ2 ∧ Fresh K c e w2 σ H3 Γ2 Da (.lst acc2) ∧ acc2.length ≤ n + 1 ∧ P' acc2 Γ2 := by
  obtain ⟨us, hus, rus⟩ := f1.ob
  refine ⟨by show ((σ.set j none).set j (some v)).set j none = σ.set j none; rw [List.set_set, List.set_set], ?_⟩
  obtain ⟨nb, t1⟩ := t (e.lay Da (.lst us)) acc Γ1 p1
  refine t1 _ H w1 ⟨(a1.lay f1 hus).enter nb r, a1.rz.lay f1.nd⟩ _ fun b H3 w3 Γ3 l3 a3 q3 => ?_
  have fin : ∀ {w4 : W} {H4 : Hp} {Γ4 : List A}, w3.le w4 → w1.le w4 → At K c (e.lay Da (.lst us)) w4 ((σ.set j none).set j (some v)) H4 Γ4 → (Γ4.getD j .un).isBor = false → Az K c e w4 σ H4 (Γ4.set j .un) ∧ H4 Da = some (.lst us) ∧ Fresh K c e w4 σ H4 (Γ4.set j .un) Da (.lst acc) := fun {w4 H4 Γ4} l4 l5 a4 b4 => by
    obtain ⟨a5, h5, m5, n5, s5⟩ := (a4.leave b4).pick f1.nd
    exact ⟨a5.z a1 l5, h5, ⟨us, h5, (rus.mono l3).mono l4⟩, m5, n5, f1.n0, s5, f1.nd⟩
  cases b with
  | true =>
    refine q3.1 rfl _ H3 w3 a3 _ fun y H4 w4 dy Γ4 l4 a4 r4 q4 => ?_
    obtain ⟨a5, h5, f5⟩ := fin l4 (l3.trans l4) a4.toAt q4.1
    refine ⟨us, h5, by rw [rus.length]; exact sz100' (by omega), ?_⟩
    obtain ⟨a6, f6⟩ := a5.poke (u := .lst (us ++ [y])) (o' := .lst (acc ++ [dy])) f5 ⟨_, upd_same, ((rus.mono l3).mono l4).append (.cons r4 .nil)⟩
    exact ⟨w4, _, _, (l1.trans l3).trans l4, a6.z a5 (W.le.refl w4), f6, by rw [List.length_append]; exact Nat.add_le_add_right hn 1, q4.2⟩
  | false =>
    obtain ⟨q5, q6⟩ := q3.2 rfl
    obtain ⟨a5, h5, f5⟩ := fin (W.le.refl w3) l3 a3.toAt q5
    exact ⟨w3, acc, _, l1.trans l3, a5, f5, Nat.le_succ_of_le hn, q6⟩
theorem wf_lc {tl : TE} {j : Nat}
    (h : WE K c e tl Γ fun x Γ' => ∃ xs, ∃ P : Nat → List RR.D → List A → Prop, x = .lst xs ∧ xs.length ≤ 1000000 ∧ P 0 [] Γ' ∧ (∀ (n : Nat) d, xs[n]? = some d → LcTurn K c tt te j (P n) (P (n + 1)) d) ∧ (∀ acc Γ1, acc.length ≤ xs.length → P xs.length acc Γ1 → QO (.lst acc) Γ1)) :
    WF K c e (tLc (iList K tl) (gName j) tt te [j]) Γ QO := fun σ H w a Pk k => h σ H w a _ fun v H1 w1 x Γ1 l1 a1 r1 q1 => by
  obtain ⟨xs, P, rfl, hz, q0, qt, qd⟩ := q1
  cases r1 with
  | lst hm ra =>
    rename_i p vs
    have up : ∀ {w2 : W} {H2 : Hp}, Ok K c w2 H2 → w1.le w2 → SqL K H2 p vs := fun ok l2 => SqL.of (ok.sub _ _ (l2.m _ _ hm))
    refine ⟨p, rfl, ⟨vs, up a1.ok (W.le.refl w1)⟩, fun Da hD => ?_⟩
    refine lc_list (K := K) (a := p) (xs := vs) (fun n H2 => ∃ w2 acc2 Γ2, w1.le w2 ∧ Az K c e w2 σ H2 Γ2 ∧ Fresh K c e w2 σ H2 Γ2 Da (.lst acc2) ∧ acc2.length ≤ n ∧ P n acc2 Γ2) ?_ (fun n H2 _ ⟨w2, _, Γ2, l2, a2, _⟩ => up a2.ok l2) ?_ ?_
    · obtain ⟨a2, f⟩ := a1.allocL hD (.nil (K := K) (c := c) (w := w1))
      exact ⟨w1, [], Γ1, W.le.refl w1, a2.z a1 (W.le.refl w1), f, Nat.le_refl _, q0⟩
    · rintro n y H2 hn ⟨w2, acc2, Γ2, l2, a2, f2, hl2, p2⟩
      obtain ⟨d, hd, rd⟩ := ra.get hn
      have hlt := (List.getElem?_eq_some_iff.mp hd).1
      exact lc_turn (qt n d hd) l2 a2 f2 hl2 (by omega) p2 (rd.mono l2)
    · rintro H2 ⟨w2, acc2, Γ2, l2, a2, f2, hl2, p2⟩
      rw [ra.length] at p2 hl2
      exact k Da H2 w2 _ Γ2 (l1.trans l2) a2 f2 (qd acc2 Γ2 hl2 p2)
theorem wf_lcT {tl : TE} {j : Nat}
    (h : WE K c e tl Γ fun x Γ' => ∃ xs, ∃ P : Nat → List RR.D → List A → Prop, x = .tup xs ∧ xs.length ≤ 1000000 ∧ P 0 [] Γ' ∧ (∀ (n : Nat) d, xs[n]? = some d → LcTurn K c tt te j (P n) (P (n + 1)) d) ∧ (∀ acc Γ1, acc.length ≤ xs.length → P xs.length acc Γ1 → QO (.lst acc) Γ1)) :
    WF K c e (tLc (iTup K tl) (gName j) tt te [j]) Γ QO := fun σ H w a Pk k => h σ H w a _ fun v H1 w1 x Γ1 l1 a1 r1 q1 => by
  obtain ⟨xs, P, rfl, hz, q0, qt, qd⟩ := q1
  cases r1 with
  | tup hm ra =>
    rename_i p vs
    have up : ∀ {w2 : W} {H2 : Hp}, Ok K c w2 H2 → w1.le w2 → SqT K H2 p vs := fun ok l2 => SqT.of (ok.sub _ _ (l2.m _ _ hm))
    refine ⟨p, rfl, ⟨vs, up a1.ok (W.le.refl w1)⟩, fun Da hD => ?_⟩
    refine lc_tup (K := K) (a := p) (xs := vs) (fun n H2 => ∃ w2 acc2 Γ2, w1.le w2 ∧ Az K c e w2 σ H2 Γ2 ∧ Fresh K c e w2 σ H2 Γ2 Da (.lst acc2) ∧ acc2.length ≤ n ∧ P n acc2 Γ2) ?_ (fun n H2 _ ⟨w2, _, Γ2, l2, a2, _⟩ => up a2.ok l2) ?_ ?_
    · obtain ⟨a2, f⟩ := a1.allocL hD (.nil (K := K) (c := c) (w := w1))
      exact ⟨w1, [], Γ1, W.le.refl w1, a2.z a1 (W.le.refl w1), f, Nat.le_refl _, q0⟩
    · rintro n y H2 hn ⟨w2, acc2, Γ2, l2, a2, f2, hl2, p2⟩
      obtain ⟨d, hd, rd⟩ := ra.get hn
      have hlt := (List.getElem?_eq_some_iff.mp hd).1
      exact lc_turn (qt n d hd) l2 a2 f2 hl2 (by omega) p2 (rd.mono l2)
    · rintro H2 ⟨w2, acc2, Γ2, l2, a2, f2, hl2, p2⟩
      rw [ra.length] at p2 hl2
      exact k Da H2 w2 _ Γ2 (l1.trans l2) a2 f2 (qd acc2 Γ2 hl2 p2)
theorem wf_lcR {t : TA} {j : Nat}
    (h : WL K c e t Γ fun xs Γ' => ∃ m : Int, ∃ P : Nat → List RR.D → List A → Prop, xs = [.int m] ∧ (-(2 ^ 62) ≤ m ∧ m ≤ 1000000) ∧ P 0 [] Γ' ∧ (∀ n : Nat, n < m.toNat → LcTurn K c tt te j (P n) (P (n + 1)) (.int n)) ∧ (∀ acc Γ1, acc.length ≤ m.toNat → P m.toNat acc Γ1 → QO (.lst acc) Γ1)) :
    WF K c e (tLc (iRng1 t) (gName j) tt te [j]) Γ QO := fun σ H w a Pk k => h σ H w a _ fun vs H1 w1 x Γ1 l1 a1 r1 q1 => by
  obtain ⟨m, P, rfl, hz, q0, qt, qd⟩ := q1
  cases r1 with
  | cons r0 r1 =>
    cases r1
    cases r0
    refine ⟨m, rfl, hz.1, by omega, fun Da hD => ?_⟩
    refine lc_range (lo := 0) (n := m.toNat) (fun n H2 => ∃ w2 acc2 Γ2, w1.le w2 ∧ Az K c e w2 σ H2 Γ2 ∧ Fresh K c e w2 σ H2 Γ2 Da (.lst acc2) ∧ acc2.length ≤ n ∧ P n acc2 Γ2) ?_ ?_ ?_
    · obtain ⟨a2, f⟩ := a1.allocL hD (.nil (K := K) (c := c) (w := w1))
      exact ⟨w1, [], Γ1, W.le.refl w1, a2.z a1 (W.le.refl w1), f, Nat.le_refl _, q0⟩
    · rintro n H2 hn ⟨w2, acc2, Γ2, l2, a2, f2, hl2, p2⟩
      have e0 : (0 : Int) + (n : Int) = (n : Int) := Int.zero_add _
      rw [e0]
      exact lc_turn (qt n hn) l2 a2 f2 hl2 (by omega) p2 (.int _)
    · rintro H2 ⟨w2, acc2, Γ2, l2, a2, f2, hl2, p2⟩
      exact k Da H2 w2 _ Γ2 (l1.trans l2) a2 f2 (qd acc2 Γ2 hl2 p2)
theorem wt_yes (q : QB true Γ) : WT K c e tYes Γ QB := fun σ H w a P k => k true H w Γ (W.le.refl w) a q
end
end RR

set_option Elab.async false
set_option linter.all false
set_option maxRecDepth 100000
set_option maxHeartbeats 4000000
/-! RR3: calls and bodies -/
namespace RR
open PySem L2

/-- an argument: data, or the object that a slot holds -/
inductive Ag where
  | d (x : D)
  | sl (i : Nat)
def lend (Γ : List A) : Ag → A
  | .d x => .d x
  | .sl i => match ob Γ i with
    | some o => .bor o
    | none => .un
def back : List A → List Ag → List A → List A
  | Γ, .sl i :: gs, .bor o :: as => back (chg Γ i o) gs as
  | Γ, _ :: gs, _ :: as => back Γ gs as
  | Γ, _, _ => Γ
theorem lend_ob {Γ : List A} {i : Nat} {o : O} (h : ob Γ i = some o) : lend Γ (.sl i) = .bor o := by
  show (match ob Γ i with | some o => A.bor o | none => A.un) = _
  rw [h]
theorem lend_of {Γ : List A} {i : Nat} {a : A} (h : lend Γ (.sl i) = a) : a = .un ∨ ∃ o, ob Γ i = some o ∧ a = .bor o := by
  have h' : (match ob Γ i with | some o => A.bor o | none => A.un) = a := h
  cases q : ob Γ i with
  | none => rw [q] at h'; exact .inl h'.symm
  | some o => rw [q] at h'; exact .inr ⟨o, rfl, h'.symm⟩
def atsOf : List Ag → List Nat
  | [] => []
  | .sl i :: gs => i :: atsOf gs
  | .d _ :: gs => atsOf gs
inductive RpG (K : PySem.W.Frag) (c : Cs) (w : W) (σ : L2.St) : List V → List Ag → Prop
  | nil : RpG K c w σ [] []
  | d {v : V} {x : D} {vs : List V} {gs : List Ag} : Rp K c w v x → RpG K c w σ vs gs → RpG K c w σ (v :: vs) (.d x :: gs)
  | sl {v : V} {i : Nat} {vs : List V} {gs : List Ag} : σ[i]? = some (some v) → RpG K c w σ vs gs → RpG K c w σ (v :: vs) (.sl i :: gs)
/-- what a def does: from the arguments to what holds of the result and of the arguments behind it; or of the error -/
abbrev PF := List A → (Rs → List A → Prop) → (Xc → List A → Prop) → Prop
def ent (H : Hp) (w : W) (vs : List V) (as : List A) (xw : Value → Option Addr → L2.St → Hp → Prop) (xx : Xc → List A → Prop) : Ent := ⟨H, w, vs, as, fun _ => none, xw, xx⟩
def spF (K : PySem.W.Frag) (c : Cs) (F : PF) : Sp := fun vs H Q E => ∃ w as, At K c (ent H w vs as (fun _ _ _ _ => True) (fun _ _ => True)) w (vs.map some) H as ∧
  F as (fun r as' => ∀ v H' w', At K c (ent H w vs as (fun _ _ _ _ => True) (fun _ _ => True)) w' (vs.map some) H' as' → RsAt K c (ent H w vs as (fun _ _ _ _ => True) (fun _ _ => True)) w' H' v r → Q v H')
    (fun x as' => ∀ dd v H' w', At K c (ent H w vs as (fun _ _ _ _ => True) (fun _ _ => True)) w' (vs.map some) H' as' → w'.M dd = some (.xd [("value", v)]) → Rp K c w' v x.v → E (.ref (c.ex x.n)) (some dd) H')

section
variable {K : PySem.W.Frag} {c : Cs} {e : Ent} {Γ : List A} {Q : D → List A → Prop} {QO : O → List A → Prop} {ta tb te tx : TE} {i : Nat} {w w' : W} {σ : L2.St} {H H' : Hp} {vs : List V} {gs : List Ag}
theorem RpG.length : ∀ {vs : List V} {gs : List Ag}, RpG K c w σ vs gs → vs.length = gs.length
  | _, _, .nil => rfl
  | _, _, .d _ t => congrArg Nat.succ (RpG.length t)
  | _, _, .sl _ t => congrArg Nat.succ (RpG.length t)
theorem RpG.mono (l : w.le w') : ∀ {vs : List V} {gs : List Ag}, RpG K c w σ vs gs → RpG K c w' σ vs gs
  | _, _, .nil => .nil
  | _, _, .d r t => .d (r.mono l) (RpG.mono l t)
  | _, _, .sl r t => .sl r (RpG.mono l t)
theorem RpG.getD : ∀ {vs : List V} {gs : List Ag} {k : Nat} {x : D}, RpG K c w σ vs gs → gs[k]? = some (.d x) → ∃ v, vs[k]? = some v ∧ Rp K c w v x
  | _, _, _, _, .nil, h => by simp at h
  | _, _, 0, _, .d r _, h => by simp at h; subst h; exact ⟨_, rfl, r⟩
  | _, _, 0, _, .sl r _, h => by simp at h
  | _, _, k + 1, x, .d _ t, h => RpG.getD (k := k) t (by simpa using h)
  | _, _, k + 1, x, .sl _ t, h => RpG.getD (k := k) t (by simpa using h)
theorem RpG.getA : ∀ {vs : List V} {gs : List Ag} {k : Nat} {i : Nat}, RpG K c w σ vs gs → gs[k]? = some (.sl i) → ∃ v, vs[k]? = some v ∧ σ[i]? = some (some v)
  | _, _, _, _, .nil, h => by simp at h
  | _, _, 0, _, .d r _, h => by simp at h
  | _, _, 0, _, .sl r _, h => by simp at h; subst h; exact ⟨_, rfl, r⟩
  | _, _, k + 1, x, .d _ t, h => RpG.getA (k := k) t (by simpa using h)
  | _, _, k + 1, x, .sl _ t, h => RpG.getA (k := k) t (by simpa using h)
theorem mem_ats : ∀ {gs : List Ag} {i : Nat}, i ∈ atsOf gs ↔ ∃ k : Nat, gs[k]? = some (.sl i)
  | [], i => by simp [atsOf]
  | .d x :: gs, i => by
    show i ∈ atsOf gs ↔ _
    rw [mem_ats]
    exact ⟨fun ⟨k, h⟩ => ⟨k + 1, by simpa using h⟩, fun ⟨k, h⟩ => by
      cases k with
      | zero => simp at h
      | succ k => exact ⟨k, by simpa using h⟩⟩
  | .sl j :: gs, i => by
    show i ∈ j :: atsOf gs ↔ _
    rw [List.mem_cons, mem_ats]
    refine ⟨fun h => ?_, fun ⟨k, h⟩ => ?_⟩
    · rcases h with h | ⟨k, h⟩
      · subst h; exact ⟨0, rfl⟩
      · exact ⟨k + 1, by simpa using h⟩
    · cases k with
      | zero => simp at h; exact .inl h.symm
      | succ k => exact .inr ⟨k, by simpa using h⟩
theorem ats_inj : ∀ {gs : List Ag} {i k l : Nat}, (atsOf gs).Nodup → gs[k]? = some (.sl i) → gs[l]? = some (.sl i) → k = l
  | [], _, _, _, _, h, _ => by simp at h
  | .d x :: gs, i, 0, _, _, h, _ => by simp at h
  | .d x :: gs, i, k + 1, 0, _, _, h => by simp at h
  | .d x :: gs, i, k + 1, l + 1, nd, h1, h2 => congrArg Nat.succ (ats_inj (gs := gs) (i := i) nd (by simpa using h1) (by simpa using h2))
  | .sl j :: gs, i, 0, 0, _, _, _ => rfl
  | .sl j :: gs, i, 0, l + 1, nd, h1, h2 => by
    simp at h1 h2
    subst h1
    exact ((List.nodup_cons.mp nd).1 (mem_ats.mpr ⟨l, h2⟩)).elim
  | .sl j :: gs, i, k + 1, 0, nd, h1, h2 => by
    simp at h1 h2
    subst h2
    exact ((List.nodup_cons.mp nd).1 (mem_ats.mpr ⟨k, h1⟩)).elim
  | .sl j :: gs, i, k + 1, l + 1, nd, h1, h2 => congrArg Nat.succ (ats_inj (gs := gs) (i := i) (List.nodup_cons.mp nd).2 (by simpa using h1) (by simpa using h2))
theorem lend_bor {gs : List Ag} {k : Nat} {o : O} (h : (gs.map (lend Γ))[k]? = some (.bor o)) : ∃ i, gs[k]? = some (.sl i) ∧ ob Γ i = some o := by
  rw [List.getElem?_map] at h
  cases q : gs[k]? with
  | none => rw [q] at h; cases h
  | some g =>
    rw [q] at h
    cases g with
    | d x => cases h
    | sl i =>
      refine ⟨i, rfl, ?_⟩
      rcases lend_of (Option.some.inj h : lend Γ (.sl i) = .bor o) with z | ⟨o2, z, z'⟩
      · cases z
      · cases z'
        exact z
theorem At.objX (h : At K c e w σ H Γ) {o : O} (q : ob Γ i = some o) : ∃ p, σ[i]? = some (some (.ref p)) ∧ ObjAt K c w H p o ∧ w.M p = none ∧ ¬ Cell w p := by
  rcases ob_or q with ⟨q, _⟩ | ⟨q, _⟩
  · obtain ⟨p, h1, h2, h3, h4, _⟩ := h.own i o q
    exact ⟨p, h1, h2, h3, h4⟩
  · obtain ⟨p, h1, h2, h3, h4, _⟩ := h.bor i o q
    exact ⟨p, h1, h2, h3, h4⟩
theorem ob_ob {o : O} (h : ob Γ i = some o) : Γ[i]? = some (.own o) ∨ Γ[i]? = some (.bor o) := (ob_or h).elim (fun z => .inl z.1) fun z => .inr z.1
theorem ob_of {o : O} (h : Γ[i]? = some (.own o) ∨ Γ[i]? = some (.bor o)) : ob Γ i = some o := by
  unfold ob
  rw [List.getD_eq_getElem?_getD]
  rcases h with h | h <;> (rw [h]; rfl)
/-- the entry of a call -/
theorem call_in {xw : Value → Option Addr → L2.St → Hp → Prop} {xx : Xc → List A → Prop} (a : At K c e w σ H Γ) (r : RpG K c w σ vs gs) (nd : (atsOf gs).Nodup) : At K c (ent H w vs (gs.map (lend Γ)) xw xx) w (vs.map some) H (gs.map (lend Γ)) := by
  refine ⟨a.ok, W.le.refl w, fun _ _ h _ _ => h, fun _ h => h, fun _ h => h.elim .inl fun z => .inr (.inl z), by rw [List.length_map, List.length_map, r.length], fun k x h => ?_, fun k o h => ?_, fun k o h => ?_, fun k l o o' p h1 h2 h3 h4 => ?_, fun k o h => ⟨o, h, ?_⟩, fun p u h => by cases h⟩
  · rw [List.getElem?_map] at h
    cases q : gs[k]? with
    | none => rw [q] at h; cases h
    | some g =>
      rw [q] at h
      cases g with
      | d y =>
        cases h
        obtain ⟨v, h1, h2⟩ := r.getD q
        exact ⟨v, by rw [List.getElem?_map, h1]; rfl, h2⟩
      | sl i =>
        rcases lend_of (Option.some.inj h : lend Γ (.sl i) = .d x) with z | ⟨o2, z, z'⟩
        · cases z
        · cases z'
  · rw [List.getElem?_map] at h
    cases q : gs[k]? with
    | none => rw [q] at h; cases h
    | some g =>
      rw [q] at h
      cases g with
      | d y => cases h
      | sl i =>
        rcases lend_of (Option.some.inj h : lend Γ (.sl i) = .own o) with z | ⟨o2, z, z'⟩
        · cases z
        · cases z'
  · obtain ⟨i, h1, h2⟩ := lend_bor h
    obtain ⟨p, h3, h4, h5, h6⟩ := a.objX h2
    obtain ⟨v, h7, h8⟩ := r.getA h1
    rw [h3] at h8
    cases h8
    exact ⟨p, by rw [List.getElem?_map, h7]; rfl, h4, h5, h6, k, o, h, h7⟩
  · have f : ∀ (k : Nat) o, ((gs.map (lend Γ))[k]? = some (.own o) ∨ (gs.map (lend Γ))[k]? = some (.bor o)) → (vs.map some)[k]? = some (some (V.ref p)) → ∃ i, gs[k]? = some (.sl i) ∧ (Γ[i]? = some (.own o) ∨ Γ[i]? = some (.bor o)) ∧ σ[i]? = some (some (.ref p)) := fun k o h s => by
      have h' : (gs.map (lend Γ))[k]? = some (.bor o) := by
        rcases h with h | h
        · rw [List.getElem?_map] at h
          cases q : gs[k]? with
          | none => rw [q] at h; cases h
          | some g =>
            rw [q] at h
            cases g with
            | d y => cases h
            | sl i =>
              rcases lend_of (Option.some.inj h : lend Γ (.sl i) = .own o) with z | ⟨o2, z, z'⟩
              · cases z
              · cases z'
        · exact h
      obtain ⟨i, q1, q2⟩ := lend_bor h'
      obtain ⟨v, q3, q4⟩ := r.getA q1
      rw [List.getElem?_map, q3] at s
      cases s
      exact ⟨i, q1, ob_ob q2, q4⟩
    obtain ⟨i, q1, q2, q3⟩ := f k o h1 h3
    obtain ⟨j, z1, z2, z3⟩ := f l o' h2 h4
    have := a.sep i j o o' p q2 z2 q3 z3
    subst this
    exact ats_inj nd q1 z1
  · show (vs.map some)[k]? = vs[k]?.map some
    rw [List.getElem?_map]
theorem back_len : ∀ (gs : List Ag) (as : List A) (Γ : List A), (back Γ gs as).length = Γ.length
  | [], as, Γ => by unfold back; rfl
  | .d x :: gs, [], Γ => rfl
  | .sl i :: gs, [], Γ => rfl
  | .d x :: gs, a :: as, Γ => by unfold back; exact back_len gs as Γ
  | .sl i :: gs, .bor o :: as, Γ => by unfold back; rw [back_len gs as]; unfold chg; rw [List.length_set]
  | .sl i :: gs, .un :: as, Γ => by unfold back; exact back_len gs as Γ
  | .sl i :: gs, .d x :: as, Γ => by unfold back; exact back_len gs as Γ
  | .sl i :: gs, .own o :: as, Γ => by unfold back; exact back_len gs as Γ
theorem put_put {a : A} {o o' : O} : (a.put o).put o' = a.put o' := by cases a <;> rfl
theorem back_get : ∀ (gs : List Ag) (as : List A) (Γ : List A) (i : Nat) (a : A), (atsOf gs).Nodup → (∀ (k j : Nat), gs[k]? = some (.sl j) → ∃ o, as[k]? = some (.bor o)) → (back Γ gs as)[i]? = some a →
    (Γ[i]? = some a ∧ ∀ k : Nat, gs[k]? ≠ some (.sl i)) ∨ ∃ (k : Nat) (o : O), gs[k]? = some (.sl i) ∧ as[k]? = some (.bor o) ∧ a = (Γ.getD i .un).put o
  | [], as, Γ, i, a, _, _, h => .inl ⟨(by unfold back at h; exact h), (fun k => by simp)⟩
  | .d x :: gs, [], Γ, i, a, nd, hk, h => .inl ⟨h, fun k z => by
      obtain ⟨o, q⟩ := hk k i z
      simp at q⟩
  | .sl j :: gs, [], Γ, i, a, nd, hk, h => by
      obtain ⟨o, q⟩ := hk 0 j rfl
      simp at q
  | .d x :: gs, b :: as, Γ, i, a, nd, hk, h => by
    unfold back at h
    rcases back_get gs as Γ i a nd (fun k j z => by simpa using hk (k + 1) j (by simpa using z)) h with ⟨h1, h2⟩ | ⟨k, o, h1, h2, h3⟩
    · exact .inl ⟨h1, fun k => by cases k with
        | zero => simp
        | succ k => simpa using h2 k⟩
    · exact .inr ⟨k + 1, o, by simpa using h1, by simpa using h2, h3⟩
  | .sl j :: gs, b :: as, Γ, i, a, nd, hk, h => by
    obtain ⟨o, q⟩ := hk 0 j rfl
    simp at q
    subst q
    unfold back at h
    have nj := (List.nodup_cons.mp nd).1
    rcases back_get gs as (chg Γ j o) i a (List.nodup_cons.mp nd).2 (fun k l z => by simpa using hk (k + 1) l (by simpa using z)) h with ⟨h1, h2⟩ | ⟨k, o1, h1, h2, h3⟩
    · unfold chg at h1
      rcases get_set h1 with ⟨z, z'⟩ | ⟨z, h1⟩
      · subst z
        exact .inr ⟨0, o, rfl, rfl, z'.symm⟩
      · refine .inl ⟨h1, fun k => ?_⟩
        cases k with
        | zero =>
          intro y
          simp at y
          exact z y
        | succ k => simpa using h2 k
    · refine .inr ⟨k + 1, o1, by simpa using h1, by simpa using h2, ?_⟩
      have z : j ≠ i := fun z => nj (mem_ats.mpr ⟨k, by rw [z]; exact h1⟩)
      rw [h3]
      unfold chg
      rw [List.getD_eq_getElem?_getD, List.getElem?_set_ne z, ← List.getD_eq_getElem?_getD]
/-- the end of a call -/
theorem call_out {xw : Value → Option Addr → L2.St → Hp → Prop} {xx : Xc → List A → Prop} {as' : List A} (a : Az K c e w σ H Γ) (r : RpG K c w σ vs gs) (nd : (atsOf gs).Nodup)
    (b : At K c (ent H w vs (gs.map (lend Γ)) xw xx) w' (vs.map some) H' as') (ho : ∀ (k i : Nat), gs[k]? = some (.sl i) → ∃ o, ob Γ i = some o) : Az K c e w' σ H' (back Γ gs as') := by
  have l : w.le w' := b.le
  have bor' : ∀ p, Bor (ent H w vs (gs.map (lend Γ)) xw xx) p → ∃ i o, (Γ[i]? = some (.own o) ∨ Γ[i]? = some (.bor o)) ∧ σ[i]? = some (some (.ref p)) ∧ ∃ k : Nat, gs[k]? = some (.sl i) := fun p ⟨k, o, h1, h2⟩ => by
    obtain ⟨i, q1, q2⟩ := lend_bor h1
    obtain ⟨v, q3, q4⟩ := r.getA q1
    have h2' : vs[k]? = some (.ref p) := h2
    rw [h2'] at q3
    cases q3
    exact ⟨i, o, ob_ob q2, q4, k, q1⟩
  have hk : ∀ (k j : Nat), gs[k]? = some (.sl j) → ∃ o, as'[k]? = some (.bor o) := fun k j h => by
    obtain ⟨o, q⟩ := ho k j h
    have : (ent H w vs (gs.map (lend Γ)) xw xx).as[k]? = some (.bor o) := by
      show (gs.map (lend Γ))[k]? = _
      rw [List.getElem?_map, h]
      exact congrArg some (lend_ob q)
    obtain ⟨o', q', _⟩ := b.par k o this
    exact ⟨o', q'⟩
  have bg := fun i x h => back_get gs as' Γ i x nd hk h
  -- own and lent objects stand where they stood
  have sl : ∀ (i : Nat) o', ((back Γ gs as')[i]? = some (.own o') ∨ (back Γ gs as')[i]? = some (.bor o')) → ∃ o, Γ[i]? = some (.own o) ∨ Γ[i]? = some (.bor o) := fun i o' h => by
    rcases h with h | h
    · rcases bg i _ h with ⟨h1, _⟩ | ⟨k, o, h1, _, _⟩
      · exact ⟨o', .inl h1⟩
      · obtain ⟨o2, q⟩ := ho k i h1
        exact ⟨o2, ob_ob q⟩
    · rcases bg i _ h with ⟨h1, _⟩ | ⟨k, o, h1, _, _⟩
      · exact ⟨o', .inr h1⟩
      · obtain ⟨o2, q⟩ := ho k i h1
        exact ⟨o2, ob_ob q⟩
  have stay : ∀ p u, H p = some u → ¬ Cell w p → (∀ (i : Nat) o, (Γ[i]? = some (.own o) ∨ Γ[i]? = some (.bor o)) → σ[i]? = some (some (.ref p)) → ∀ k : Nat, gs[k]? ≠ some (.sl i)) → H' p = some u := fun p u h1 h2 h3 =>
    b.keep p u h1 h2 fun z => by
      obtain ⟨i, o, q1, q2, k, q3⟩ := bor' p z
      exact h3 i o q1 q2 k q3
  have nw : ∀ p, w.M p = none → ¬ Cell w p → (∃ u, H p = some u) → w'.M p = none ∧ ¬ Cell w' p := fun p h1 h2 ⟨u, h3⟩ => by
    have z : ¬ ((∃ o, w'.M p = some o) ∨ Cell w' p) := fun q => by
      rcases b.new p q with ⟨o, q⟩ | q | q
      · have q' : w.M p = some o := q
        rw [h1] at q'; cases q'
      · exact h2 q
      · have q' : H p = none := q
        rw [h3] at q'; cases q'
    refine ⟨?_, fun q => z (.inr q)⟩
    cases q : w'.M p with
    | none => rfl
    | some o => exact (z (.inl ⟨o, q⟩)).elim
  -- a lent one, as it stands now
  have lentAt : ∀ (i k : Nat) o p, gs[k]? = some (.sl i) → as'[k]? = some (.bor o) → σ[i]? = some (some (.ref p)) → ObjAt K c w' H' p o := fun i k o p h1 h2 h3 => by
    obtain ⟨p', q1, q2, _⟩ := b.bor k o h2
    obtain ⟨v, q3, q4⟩ := r.getA h1
    rw [List.getElem?_map, q3] at q1
    rw [h3] at q4
    cases q4
    cases q1
    exact q2
  refine ⟨⟨b.ok, a.le.trans l, fun p u h1 h2 h3 => stay p u (a.keep p u h1 h2 h3) (fun q => ?_) fun i o q s => ?_, fun p h => a.fre p (b.fre p h), fun p h => ?_, by rw [back_len, a.len], fun i x h => ?_, fun i o h => ?_, fun i o h => ?_, fun i j o o' p h1 h2 h3 h4 => ?_, fun i o h => ?_, fun p u h => ?_⟩, a.rz.up l⟩
  · rcases a.new p (.inr q) with ⟨u', z⟩ | z | z
    · have := (a.ok.cell q).1
      rw [a.le.m _ _ z] at this
      cases this
    · exact h2 z
    · rw [h1] at z; cases z
  · rcases q with q | q
    · obtain ⟨p', s', _, _, _, z⟩ := a.own i o q
      rw [s] at s'
      cases s'
      rw [h1] at z; cases z
    · obtain ⟨p', s', _, _, _, z⟩ := a.bor i o q
      rw [s] at s'
      cases s'
      exact (h3 z).elim
  · rcases b.new p h with z | z | z
    · exact a.new p (.inl z)
    · exact a.new p (.inr z)
    · exact .inr (.inr (a.fre p z))
  · rcases bg i _ h with ⟨h1, _⟩ | ⟨k, o, _, _, h3⟩
    · obtain ⟨v, q1, q2⟩ := a.dat i x h1
      exact ⟨v, q1, q2.mono l⟩
    · cases q : Γ.getD i .un <;> (rw [q] at h3; cases h3)
  · rcases bg i _ h with ⟨h1, h2⟩ | ⟨k, o1, h1, h2, h3⟩
    · obtain ⟨p, q1, q2, q3, q4, q5⟩ := a.own i o h1
      obtain ⟨z1, z2⟩ := nw p q3 q4 q2.some
      refine ⟨p, q1, q2.stay l fun u y => stay p u y q4 fun j o2 y1 y2 k => ?_, z1, z2, q5⟩
      have := a.sep i j o o2 p (.inl h1) y1 q1 y2
      subst this
      exact h2 k
    · obtain ⟨o2, q⟩ := ho k i h1
      rcases ob_or q with ⟨q, z⟩ | ⟨q, z⟩
      · rw [z] at h3
        cases h3
        obtain ⟨p, q1, q2, q3, q4, q5⟩ := a.own i o2 q
        obtain ⟨z1, z2⟩ := nw p q3 q4 q2.some
        exact ⟨p, q1, lentAt i k o p h1 h2 q1, z1, z2, q5⟩
      · rw [z] at h3
        cases h3
  · rcases bg i _ h with ⟨h1, h2⟩ | ⟨k, o1, h1, h2, h3⟩
    · obtain ⟨p, q1, q2, q3, q4, q5⟩ := a.bor i o h1
      obtain ⟨z1, z2⟩ := nw p q3 q4 q2.some
      refine ⟨p, q1, q2.stay l fun u y => stay p u y q4 fun j o2 y1 y2 k => ?_, z1, z2, q5⟩
      have := a.sep i j o o2 p (.inr h1) y1 q1 y2
      subst this
      exact h2 k
    · obtain ⟨o2, q⟩ := ho k i h1
      rcases ob_or q with ⟨q, z⟩ | ⟨q, z⟩
      · rw [z] at h3
        cases h3
      · rw [z] at h3
        cases h3
        obtain ⟨p, q1, q2, q3, q4, q5⟩ := a.bor i o2 q
        obtain ⟨z1, z2⟩ := nw p q3 q4 q2.some
        exact ⟨p, q1, lentAt i k o p h1 h2 q1, z1, z2, q5⟩
  · obtain ⟨o1, q1⟩ := sl i o h1
    obtain ⟨o2, q2⟩ := sl j o' h2
    exact a.sep i j o1 o2 p q1 q2 h3 h4
  · obtain ⟨o1, h1, h2⟩ := a.par i o h
    have lt : i < (back Γ gs as').length := by
      rw [back_len]
      exact (List.getElem?_eq_some_iff.mp h1).1
    obtain ⟨x, hx⟩ : ∃ x, (back Γ gs as')[i]? = some x := ⟨_, List.getElem?_eq_getElem lt⟩
    rcases bg i x hx with ⟨q1, _⟩ | ⟨k, o2, _, _, q3⟩
    · rw [h1] at q1
      cases q1
      exact ⟨o1, hx, h2⟩
    · rw [List.getD_eq_getElem?_getD, h1] at q3
      subst q3
      exact ⟨o2, hx, h2⟩
  · obtain ⟨h1, h2, h3, h4⟩ := a.hld p u h
    obtain ⟨z1, z2⟩ := nw p h2 h3 ⟨u, h1⟩
    refine ⟨stay p u h1 h3 fun i o q s k => (h4 i o q s).elim, z1, z2, fun i o' q s => ?_⟩
    obtain ⟨o, q⟩ := sl i o' q
    exact h4 i o q s

/-! ### arguments -/
variable {QG : List Ag → List A → Prop}
def WA (K : PySem.W.Frag) (c : Cs) (e : Ent) (t : TA) (Γ : List A) (Q : List Ag → List A → Prop) : Prop := ∀ σ H w, Az K c e w σ H Γ → ∀ P : List V → Hp → Prop,
  (∀ vs H' w' gs Γ', w.le w' → Az K c e w' σ H' Γ' → RpG K c w' σ vs gs → Q gs Γ' → P vs H') → t σ H P
theorem wa_nil (q : QG [] Γ) : WA K c e tNil Γ QG := fun σ H w a P k => k [] H w [] Γ (W.le.refl w) a .nil q
theorem wa_d {t : TA} (h : WE K c e ta Γ fun x Γ1 => WA K c e t Γ1 fun gs Γ2 => QG (.d x :: gs) Γ2) : WA K c e (tCons ta t) Γ QG := fun σ H w a P k =>
  h σ H w a _ fun v H1 w1 x Γ1 l1 a1 r1 q1 => q1 σ H1 w1 a1 _ fun vs H2 w2 xs Γ2 l2 a2 r2 q2 => k _ H2 w2 _ Γ2 (l1.trans l2) a2 (.d (r1.mono l2) r2) q2
theorem wa_o {t : TA} (h0 : ∃ o, ob Γ i = some o) (h : WA K c e t Γ fun gs Γ2 => QG (.sl i :: gs) Γ2) : WA K c e (tCons (tVar i) t) Γ QG := fun σ H w a P k => by
  obtain ⟨o, h0⟩ := h0
  obtain ⟨p, hp, _⟩ := a.obj h0
  exact ⟨_, hp, h σ H w a _ fun vs H2 w2 xs Γ2 l2 a2 r2 q2 => k _ H2 w2 _ Γ2 l2 a2 (.sl hp r2) q2⟩
def Rs.toD : Rs → D
  | .d x => x
  | .own o => o.toD
/-- the objects that are handed over stand in their slots -/
def lentOk (Γ : List A) : List Ag → Bool
  | [] => true
  | .d _ :: gs => lentOk Γ gs
  | .sl i :: gs => (ob Γ i).isSome && lentOk Γ gs
theorem lentOk_at : ∀ {gs : List Ag} {k i : Nat}, lentOk Γ gs = true → gs[k]? = some (.sl i) → ∃ o, ob Γ i = some o
  | [], _, _, _, h => by simp at h
  | .d _ :: gs, 0, _, _, h => by simp at h
  | .d _ :: gs, k + 1, i, q, h => lentOk_at (gs := gs) (k := k) q (by simpa using h)
  | .sl j :: gs, 0, i, q, h => by
    simp at h
    subst h
    unfold lentOk at q
    exact Option.isSome_iff_exists.mp (Bool.and_eq_true_iff.mp q).1
  | .sl j :: gs, k + 1, i, q, h => by
    unfold lentOk at q
    exact lentOk_at (gs := gs) (k := k) (Bool.and_eq_true_iff.mp q).2 (by simpa using h)
/-- the core of a call: E, where its errors go -/
theorem sp_call {F : PF} {P : VK} {E : XK} {r : RpG K c w σ vs gs} (a : Az K c e w σ H Γ) (h1 : lentOk Γ gs = true) (h2 : (atsOf gs).Nodup) {QR : Rs → List A → Prop} {QX : Xc → List A → Prop} (hF : F (gs.map (lend Γ)) (fun r as' => QR r (back Γ gs as')) fun x as' => QX x (back Γ gs as'))
    (mono : ∀ (Q1 Q2 : Rs → List A → Prop) (X1 X2 : Xc → List A → Prop), (∀ r as, Q1 r as → Q2 r as) → (∀ x as, X1 x as → X2 x as) → F (gs.map (lend Γ)) Q1 X1 → F (gs.map (lend Γ)) Q2 X2)
    (hE : ∀ (x : Xc × List A) dd v H' w', Az K c e w' σ H' (back Γ gs x.2) → w.le w' → w'.M dd = some (.xd [("value", v)]) → Rp K c w' v x.1.v → QX x.1 (back Γ gs x.2) → E (.ref (c.ex x.1.n)) (some dd) H')
    (hP : ∀ v H' w' r Γ', w.le w' → Az K c e w' σ H' Γ' → (Rp K c w' v r.toD ∧ r = .d r.toD ∨ ∃ p o, v = .ref p ∧ r = .own o ∧ Fresh K c e w' σ H' Γ' p o) → QR r Γ' → P v H') : spF K c F vs H P E := by
  refine ⟨w, gs.map (lend Γ), call_in a.toAt r h2, mono _ _ _ _ (fun rs as' q v H' w' b rr => ?_) (fun x as' q dd v H' w' b hd rv => ?_) hF⟩
  · have a2 := call_out a r h2 b (fun k i h => lentOk_at h1 h)
    refine hP v H' w' rs _ b.le a2 ?_ q
    cases rs with
    | d x => exact .inl ⟨rr, rfl⟩
    | own o =>
      obtain ⟨p, rfl, q1, q2, q3, q4⟩ := rr
      refine .inr ⟨p, o, rfl, rfl, q1, q2, q3, a.fre p q4, fun i o' z s => ?_, ?_⟩
      · have hk : ∀ (k j : Nat), gs[k]? = some (.sl j) → ∃ o, as'[k]? = some (.bor o) := fun k j h => by
          obtain ⟨o2, q⟩ := lentOk_at h1 h
          obtain ⟨o3, q', _⟩ := b.par k o2 (by show (gs.map (lend Γ))[k]? = _; rw [List.getElem?_map, h]; exact congrArg some (lend_ob q))
          exact ⟨o3, q'⟩
        have : ∃ o2, ob Γ i = some o2 := by
          rcases z with z | z
          · rcases back_get gs as' Γ i _ h2 hk z with ⟨z, _⟩ | ⟨k, o2, z, _, _⟩
            · exact ⟨_, ob_of (.inl z)⟩
            · exact lentOk_at h1 z
          · rcases back_get gs as' Γ i _ h2 hk z with ⟨z, _⟩ | ⟨k, o2, z, _, _⟩
            · exact ⟨_, ob_of (.inr z)⟩
            · exact lentOk_at h1 z
        obtain ⟨o2, z2⟩ := this
        obtain ⟨p', s', z3⟩ := a.obj z2
        rw [s] at s'
        cases s'
        obtain ⟨u, z4⟩ := z3.some
        have q4' : H p = none := q4
        rw [z4] at q4'; cases q4'
      · cases z : e.hold p with
        | none => rfl
        | some u =>
          have q4' : H p = none := q4
          rw [(a.hld p u z).1] at q4'; cases q4'
  · exact hE (x, as') dd v H' w' (call_out a r h2 b (fun k i h => lentOk_at h1 h)) b.le hd rv q
/-- a def's meaning may be weakened -/
def PF.Mono (F : PF) : Prop := ∀ as (Q1 Q2 : Rs → List A → Prop) (X1 X2 : Xc → List A → Prop), (∀ r as, Q1 r as → Q2 r as) → (∀ x as, X1 x as → X2 x as) → F as Q1 X1 → F as Q2 X2
/-- f(..), nothing is raised -/
theorem we_call {F : PF} {E : XK} {t : TA} (m : F.Mono) (h : WA K c e t Γ fun gs Γ1 => lentOk Γ1 gs = true ∧ (atsOf gs).Nodup ∧ F (gs.map (lend Γ1)) (fun r as' => Q r.toD (back Γ1 gs as')) fun _ _ => False) : WE K c e (tCall (spF K c F) [] E t) Γ Q := fun σ H w a P k =>
  h σ H w a _ fun vs H1 w1 gs Γ1 l1 a1 r1 ⟨q1, q2, q3⟩ => by
    rw [List.append_nil]
    refine sp_call (r := r1) a1 q1 q2 (QR := fun r Γ' => Q r.toD Γ') (QX := fun _ _ => False) q3 (m _) (fun _ _ _ _ _ _ _ _ _ z => z.elim) fun v H2 w2 r Γ2 l2 a2 r2 q => ?_
    rcases r2 with ⟨r2, _⟩ | ⟨p, o, rfl, rfl, f⟩
    · exact k v H2 w2 _ Γ2 (l1.trans l2) a2 r2 q
    · obtain ⟨w3, l3, a3, r3⟩ := a2.freeze f
      exact k _ H2 w3 _ Γ2 ((l1.trans l2).trans l3) (a3.z a2 l3) r3 q
theorem wf_call {F : PF} {E : XK} {t : TA} (m : F.Mono) (h : WA K c e t Γ fun gs Γ1 => lentOk Γ1 gs = true ∧ (atsOf gs).Nodup ∧ F (gs.map (lend Γ1)) (fun r as' => ∃ o, r = .own o ∧ QO o (back Γ1 gs as')) fun _ _ => False) : WF K c e (tCall (spF K c F) [] E t) Γ QO := fun σ H w a P k =>
  h σ H w a _ fun vs H1 w1 gs Γ1 l1 a1 r1 ⟨q1, q2, q3⟩ => by
    rw [List.append_nil]
    refine sp_call (r := r1) a1 q1 q2 (QR := fun r Γ' => ∃ o, r = .own o ∧ QO o Γ') (QX := fun _ _ => False) q3 (m _) (fun _ _ _ _ _ _ _ _ _ z => z.elim) fun v H2 w2 r Γ2 l2 a2 r2 q => ?_
    obtain ⟨o, rfl, q⟩ := q
    rcases r2 with ⟨r2, z⟩ | ⟨p, o2, rfl, z, f⟩
    · cases z
    · cases z
      exact k p H2 w2 _ Γ2 (l1.trans l2) a2 f q
/-- f(..), an error goes where it is wanted -/
theorem we_callX {F : PF} {t : TA} (m : F.Mono) (h : WA K c e t Γ fun gs Γ1 => lentOk Γ1 gs = true ∧ (atsOf gs).Nodup ∧ F (gs.map (lend Γ1)) (fun r as' => Q r.toD (back Γ1 gs as')) fun x as' => e.xx x (back Γ1 gs as')) :
    WE K c e (tCallS (spF K c F) (fun σ cls d H => e.xw cls d σ H) t) Γ Q := fun σ H w a P k =>
  h σ H w a _ fun vs H1 w1 gs Γ1 l1 a1 r1 ⟨q1, q2, q3⟩ => by
    refine sp_call (r := r1) a1 q1 q2 (QR := fun r Γ' => Q r.toD Γ') (QX := fun x Γ' => e.xx x Γ') q3 (m _) (fun x dd v H2 w2 a2 l2 hd rv q => a1.rz x.1 dd v σ H2 w2 _ l2 a2.toAt hd rv q) fun v H2 w2 r Γ2 l2 a2 r2 q => ?_
    rcases r2 with ⟨r2, _⟩ | ⟨p, o, rfl, rfl, f⟩
    · exact k v H2 w2 _ Γ2 (l1.trans l2) a2 r2 q
    · obtain ⟨w3, l3, a3, r3⟩ := a2.freeze f
      exact k _ H2 w3 _ Γ2 ((l1.trans l2).trans l3) (a3.z a2 l3) r3 q
theorem wf_callX {F : PF} {t : TA} (m : F.Mono) (h : WA K c e t Γ fun gs Γ1 => lentOk Γ1 gs = true ∧ (atsOf gs).Nodup ∧ F (gs.map (lend Γ1)) (fun r as' => ∃ o, r = .own o ∧ QO o (back Γ1 gs as')) fun x as' => e.xx x (back Γ1 gs as')) :
    WF K c e (tCallS (spF K c F) (fun σ cls d H => e.xw cls d σ H) t) Γ QO := fun σ H w a P k =>
  h σ H w a _ fun vs H1 w1 gs Γ1 l1 a1 r1 ⟨q1, q2, q3⟩ => by
    refine sp_call (r := r1) a1 q1 q2 (QR := fun r Γ' => ∃ o, r = .own o ∧ QO o Γ') (QX := fun x Γ' => e.xx x Γ') q3 (m _) (fun x dd v H2 w2 a2 l2 hd rv q => a1.rz x.1 dd v σ H2 w2 _ l2 a2.toAt hd rv q) fun v H2 w2 r Γ2 l2 a2 r2 q => ?_
    obtain ⟨o, rfl, q⟩ := q
    rcases r2 with ⟨r2, z⟩ | ⟨p, o2, rfl, z, f⟩
    · cases z
    · cases z
      exact k p H2 w2 _ Γ2 (l1.trans l2) a2 f q

/-! ### bodies -/
/-- the arguments behind a call: data as it was, lent objects as they are now -/
def fin : List A → List A → List A
  | .bor _ :: as, g :: Γ => g :: fin as Γ
  | a :: as, _ :: Γ => a :: fin as Γ
  | as, _ => as
theorem fin_len : ∀ (as Γ : List A), (fin as Γ).length = as.length
  | [], _ => by unfold fin; rfl
  | a :: as, [] => by cases a <;> rfl
  | a :: as, g :: Γ => by cases a <;> exact congrArg Nat.succ (fin_len as Γ)
theorem fin_get : ∀ (as Γ : List A) (i : Nat) x, as.length ≤ Γ.length → (fin as Γ)[i]? = some x → (as[i]? = some x ∧ ∀ o, x ≠ .bor o) ∨ (∃ o, as[i]? = some (.bor o)) ∧ Γ[i]? = some x
  | [], _, i, x, _, h => by unfold fin at h; simp at h
  | a :: as, [], i, x, hl, h => by simp at hl
  | a :: as, g :: Γ, 0, x, hl, h => by
    cases a with
    | bor o => exact .inr ⟨⟨o, rfl⟩, h⟩
    | un => cases h; exact .inl ⟨rfl, fun o z => by cases z⟩
    | d y => cases h; exact .inl ⟨rfl, fun o z => by cases z⟩
    | own o => cases h; exact .inl ⟨rfl, fun o z => by cases z⟩
  | a :: as, g :: Γ, i + 1, x, hl, h => by
    have h' : (fin as Γ)[i]? = some x := by cases a <;> simpa [fin] using h
    have := fin_get as Γ i x (by simpa using hl) h'
    simpa using this
theorem body_in {N : List Str} {as : List A} (hN : vs.length ≤ N.length) (h : At K c e w (vs.map some) H as) : At K c e w (L2.start N vs) H (as ++ List.replicate (N.length - as.length) .un) := by
  have hl : vs.length = as.length := by have := h.len; rw [List.length_map] at this; exact this
  have f : ∀ (i : Nat) x, x ≠ A.un → (as ++ List.replicate (N.length - as.length) A.un)[i]? = some x → as[i]? = some x := fun i x n q => by
    by_cases z : i < as.length
    · rwa [List.getElem?_append_left z] at q
    · rw [List.getElem?_append_right (by omega)] at q
      have := List.mem_of_getElem? q
      exact (n (List.eq_of_mem_replicate this)).elim
  have s : ∀ (i : Nat), i < as.length → (L2.start N vs)[i]? = (vs.map some)[i]? := fun i z => by
    unfold L2.start
    rw [List.getElem?_append_left (by rw [List.length_map]; omega)]
  have lt : ∀ (i : Nat) x, as[i]? = some x → i < as.length := fun i x q => (List.getElem?_eq_some_iff.mp q).1
  refine ⟨h.ok, h.le, h.keep, h.fre, h.new, by unfold L2.start; simp [hl], fun i x q => ?_, fun i o q => ?_, fun i o q => ?_, fun i j o o' p h1 h2 h3 h4 => ?_, fun i o q => ?_, fun p u q => ?_⟩
  · have q := f i _ (fun z => by cases z) q
    rw [s i (lt i _ q)]
    exact h.dat i x q
  · have q := f i _ (fun z => by cases z) q
    rw [s i (lt i _ q)]
    exact h.own i o q
  · have q := f i _ (fun z => by cases z) q
    rw [s i (lt i _ q)]
    exact h.bor i o q
  · have q1 : as[i]? = some (.own o) ∨ as[i]? = some (.bor o) := h1.elim (fun z => .inl (f i _ (fun z => by cases z) z)) fun z => .inr (f i _ (fun z => by cases z) z)
    have q2 : as[j]? = some (.own o') ∨ as[j]? = some (.bor o') := h2.elim (fun z => .inl (f j _ (fun z => by cases z) z)) fun z => .inr (f j _ (fun z => by cases z) z)
    rw [s i (q1.elim (lt i _) (lt i _))] at h3
    rw [s j (q2.elim (lt j _) (lt j _))] at h4
    exact h.sep i j o o' p q1 q2 h3 h4
  · obtain ⟨o', h1, h2⟩ := h.par i o q
    have l := lt i _ h1
    exact ⟨o', by rw [List.getElem?_append_left l]; exact h1, by rw [s i l]; exact h2⟩
  · obtain ⟨h1, h2, h3, h4⟩ := h.hld p u q
    refine ⟨h1, h2, h3, fun i o q2 z => ?_⟩
    have q1 : as[i]? = some (.own o) ∨ as[i]? = some (.bor o) := q2.elim (fun z => .inl (f i _ (fun z => by cases z) z)) fun z => .inr (f i _ (fun z => by cases z) z)
    rw [s i (q1.elim (lt i _) (lt i _))] at z
    exact h4 i o q1 z
/-- at the end of a body -/
theorem body_out {w0 : W} {H0 : Hp} {as : List A} {xw xw2 : Value → Option Addr → L2.St → Hp → Prop} {xx xx2 : Xc → List A → Prop} (h : At K c (ent H0 w0 vs as xw xx) w0 (vs.map some) H0 as) (hl : as.length ≤ Γ.length) (a : At K c (ent H0 w0 vs as xw2 xx2) w σ H Γ) :
    At K c (ent H0 w0 vs as xw xx) w (vs.map some) H (fin as Γ) := by
  have nown : ∀ (i : Nat) o, as[i]? ≠ some (.own o) := fun i o q => by
    obtain ⟨p, h1, h2, _, _, h5⟩ := h.own i o q
    obtain ⟨u, z⟩ := h2.some
    have h5' : H0 p = none := h5
    rw [z] at h5'; cases h5'
  have lent : ∀ (i : Nat) o o', as[i]? = some (.bor o) → Γ[i]? = some (.bor o') → ∃ p, (vs.map some)[i]? = some (some (.ref p)) ∧ σ[i]? = some (some (.ref p)) := fun i o o' q q' => by
    obtain ⟨o1, h1, h2⟩ := a.par i o q
    obtain ⟨p, h3, _⟩ := a.bor i o' q'
    refine ⟨p, ?_, h3⟩
    rw [h3] at h2
    rw [List.getElem?_map]
    exact h2.symm
  have fo : ∀ (i : Nat) o', (fin as Γ)[i]? = some (.bor o') → ∃ o, as[i]? = some (.bor o) ∧ Γ[i]? = some (.bor o') := fun i o' q => by
    rcases fin_get as Γ i _ hl q with ⟨_, q2⟩ | ⟨⟨o, q1⟩, q2⟩
    · exact (q2 o' rfl).elim
    · exact ⟨o, q1, q2⟩
  have fno : ∀ (i : Nat) o', (fin as Γ)[i]? ≠ some (.own o') := fun i o' q => by
    rcases fin_get as Γ i _ hl q with ⟨q1, _⟩ | ⟨⟨o, q1⟩, q2⟩
    · exact nown i o' q1
    · obtain ⟨o1, h1, _⟩ := a.par i o q1
      rw [h1] at q2; cases q2
  refine ⟨a.ok, a.le, a.keep, a.fre, a.new, by rw [List.length_map, fin_len]; have := h.len; rw [List.length_map] at this; exact this, fun i x q => ?_, fun i o q => (fno i o q).elim, fun i o q => ?_, fun i j o o' p h1 h2 h3 h4 => ?_, fun i o q => ?_, fun p u q => by cases q⟩
  · rcases fin_get as Γ i _ hl q with ⟨q1, _⟩ | ⟨⟨o, q1⟩, q2⟩
    · obtain ⟨v, h1, h2⟩ := h.dat i x q1
      exact ⟨v, h1, h2.mono a.le⟩
    · obtain ⟨o1, h1, _⟩ := a.par i o q1
      rw [h1] at q2; cases q2
  · obtain ⟨o1, q1, q2⟩ := fo i o q
    obtain ⟨p, h1, h2⟩ := lent i o1 o q1 q2
    obtain ⟨p', h3, h4⟩ := a.bor i o q2
    rw [h2] at h3
    cases h3
    exact ⟨p, h1, h4⟩
  · have q1 : (fin as Γ)[i]? = some (.bor o) := h1.elim (fun z => (fno i o z).elim) id
    have q2 : (fin as Γ)[j]? = some (.bor o') := h2.elim (fun z => (fno j o' z).elim) id
    obtain ⟨o1, z1, z2⟩ := fo i o q1
    obtain ⟨o2, z3, z4⟩ := fo j o' q2
    obtain ⟨p1, y1, y2⟩ := lent i o1 o z1 z2
    obtain ⟨p2, y3, y4⟩ := lent j o2 o' z3 z4
    rw [y1] at h3
    cases h3
    rw [y3] at h4
    cases h4
    exact a.sep i j o o' p (.inr z2) (.inr z4) y2 y4
  · obtain ⟨o', h1, _⟩ := a.par i o q
    refine ⟨o', ?_, ?_⟩
    · have lt : i < (fin as Γ).length := by
        rw [fin_len]
        exact (List.getElem?_eq_some_iff.mp q).1
      obtain ⟨x, hx⟩ : ∃ x, (fin as Γ)[i]? = some x := ⟨_, List.getElem?_eq_getElem lt⟩
      rcases fin_get as Γ i x hl hx with ⟨q1, q2⟩ | ⟨_, q2⟩
      · have q' : as[i]? = some (.bor o) := q
        rw [q'] at q1
        cases q1
        exact (q2 o rfl).elim
      · rw [h1] at q2
        cases q2
        exact hx
    · show (vs.map some)[i]? = vs[i]?.map some
      rw [List.getElem?_map]
/-- what a body must show; t may lean on where errors go -/
def BodyOk (K : PySem.W.Frag) (c : Cs) (F : PF) (N : List Str) (t : (Value → Option Addr → L2.St → Hp → Prop) → TS) : Prop := ∀ (e : Ent) as QR QX, F as QR QX → (e.xx = fun x Γ => as.length ≤ Γ.length ∧ QX x (fin as Γ)) →
  WS K c e (t e.xw) (as ++ List.replicate (N.length - as.length) .un) ⟨fun Γ => as.length ≤ Γ.length ∧ QR (.d .non) (fin as Γ), fun r Γ => as.length ≤ Γ.length ∧ QR r (fin as Γ), fun _ => False, fun _ => False⟩
theorem body_sp {F : PF} {N : List Str} {t : (Value → Option Addr → L2.St → Hp → Prop) → TS} {Q : VK} {E : XK} (b : BodyOk K c F N t) (h : spF K c F vs H Q E) (hN : vs.length ≤ N.length) (w0 : WX) (hw : w0 = fun cls d _ H => E cls d H) :
    t w0 { nx := fun _ H' => Q .non H', rt := Q } (L2.start N vs) H := by
  obtain ⟨w, as, a, hF⟩ := h
  have en : ∀ xw xx, At K c (ent H w vs as xw xx) w (vs.map some) H as := fun xw xx => ⟨a.ok, a.le, a.keep, a.fre, a.new, a.len, a.dat, a.own, a.bor, a.sep, a.par, fun p u q => by cases q⟩
  subst hw
  have a0 := body_in hN (en (fun cls d _ H => E cls d H) (fun x Γ => as.length ≤ Γ.length ∧ ∀ dd v H' w', At K c (ent H w vs as (fun _ _ _ _ => True) (fun _ _ => True)) w' (vs.map some) H' (fin as Γ) → w'.M dd = some (.xd [("value", v)]) → Rp K c w' v x.v → E (.ref (c.ex x.n)) (some dd) H'))
  refine b (ent H w vs as (fun cls d _ H => E cls d H) (fun x Γ => as.length ≤ Γ.length ∧ ∀ dd v H' w', At K c (ent H w vs as (fun _ _ _ _ => True) (fun _ _ => True)) w' (vs.map some) H' (fin as Γ) → w'.M dd = some (.xd [("value", v)]) → Rp K c w' v x.v → E (.ref (c.ex x.n)) (some dd) H')) as _ _ hF rfl (L2.start N vs) H w ⟨a0, fun x dd v σ' H' w' Γ' l a2 hd rv q => ?_⟩ _ ⟨fun σ' H' w' Γ' l a2 q => ?_, fun _ _ _ _ _ _ q => q.elim, fun _ _ _ _ _ _ q => q.elim, fun v r σ' H' w' Γ' l a2 rr q => ?_⟩
  · exact q.2 dd v H' w' (body_out a q.1 a2) hd rv
  · exact q.2 .non H' w' (body_out a q.1 a2.toAt) .non
  · exact q.2 v H' w' (body_out a q.1 a2.toAt) rr
end
end RR

set_option Elab.async false
set_option linter.all false
set_option maxRecDepth 100000
set_option maxHeartbeats 4000000
/-! RH: rules beside the hand layer's: repr of data, defs that must know that nothing is being shown, isinstance and fields of a caught error, len of an own object -/
namespace RH
open PySem PySem.Spec PyProof.Rows L2

/-! ### repr of data -/
def rRepr (K : PySem.W.Frag) : List V → Hp → VK → Prop := fun vs H Q => ∃ (a : Addr) (d : PyData), vs = [.ref a] ∧ Dp K H (.ref a) d ∧ d.showable = true ∧ d.hasDict = false ∧ d.depth ≤ 60 ∧ d.shown.length ≤ sizeLine ∧ Q (.str d.shown) H
theorem call_repr {X : Cx} (hg : X.A.guards = some []) (hu : X.A.units + 64 < cLine) : CallR X (.builtin "repr") (rRepr X.K) := by
  intro pins s σ H xs us Q I r h
  obtain ⟨a, d, rfl, hd, hs, hn, hdp, hz, q⟩ := h
  obtain ⟨u, rfl, ru⟩ := vals1 r
  cases ru
  obtain ⟨as, rd⟩ := Dp.reads I d _ _ hd rfl
  refine repr_of_reads' rd hs (PyData.noDict_hsm hn) hg (by omega) (fun _ _ e => e) (fun h' u tk hk => ?_) hz
  exact ⟨.str d.shown, H, I.kept (t' := tk) hk, ⟨u, rfl⟩, q⟩

/-! ### defs that are called where nothing is being shown -/
structure FnG (P : Program) (w : World) (K : PySem.W.Frag) (mg : Str → Option Value) (base : Heap) (CX : CXT) (k : Nat) (f : Addr) (fd : FuncData) (ps : List Str) (sp : Sp) : Prop where
  len : ∀ vs H Q E, sp vs H Q E → vs.length = ps.length
  run : ∀ (A : Around) (outer : List Env) (s : Shared) (H : Hp) (args : Args) (us : List Value) (vs : List V) (Q : VK) (E : XK), A.guards = some [] → Room k A → Env0 P w K mg base A outer s H → BindsTo s fd args (ps.zip us) → Vals vs us → sp vs H Q E →
    codeAny (model P w) A (.call (.ref f) args) (CR CX outer P w H s Q E) s
section
variable {P : Program} {w : World} {K : PySem.W.Frag} {mg : Str → Option Value} {base : Heap} {CX : CXT} {k : Nat} {f : Addr} {fd : FuncData} {ps : List Str} {sp : Sp}
theorem guards_deeper {A : Around} {env : Env} (h : A.guards = some []) : (A.deeper env).guards = some [] := by
  first | exact h | simp [Around.deeper, h]
theorem fnG_of {x qual : Str} {st : Stmt} {N : List Str} (F : Fun K x qual st f fd) (S : FnScope N ps (defScope st)) (len : ∀ vs H Q E, sp vs H Q E → vs.length = ps.length)
    (hbody : ∀ (cdv : Value) (A : Around) (outer : List Env) (s : Shared) (H : Hp) (vs : List V) (Q : VK) (E : XK), (A.deeper (envOfC qual (defScope st) s.heap.objs.size f cdv)).guards = some [] → Room k (A.deeper (envOfC qual (defScope st) s.heap.objs.size f cdv)) → sp vs H Q E →
      ∃ t, PSs (cxOf CX P w K mg base N qual (defScope st) f cdv A outer s H E) (defBody st) t ∧ t { nx := fun _ H' => Q .non H', rt := Q } (L2.start N vs) H) : FnG P w K mg base CX (k + 1) f fd ps sp := by
  obtain ⟨oc, od, kV, doc, pm, an, cdv, ct, osl, rfl, lk, hcd⟩ := F.ex
  refine ⟨len, fun A outer s H args us vs Q E hg hr e0 hb r hsp => ?_⟩
  have KX : K.In s.heap := e0.mod.kin.keeps fun b o e => (e0.bs b o e).1
  have lim : s.heap.NoLimit := e0.mod.nolimit.keeps fun b o e => (e0.bs b o e).1
  have hl : vs.length = ps.length := len _ _ _ _ hsp
  have kinds : ∀ y ∈ ps.zip us, (defScope st).names.lookup y.1 = some .local ∨ ((defScope st).names.lookup y.1 = some .cell ∧ ((cellsFrom (s.heap.objs.size + 1) (defScope st).names []).lookup y.1).isSome = true) := fun y hy =>
    (S.par y.1 (List.of_mem_zip (a := y.1) (b := y.2) hy).1).elim .inl fun q => .inr ⟨q, PySem.W.cellsFrom_some _ _ _ (.inl q)⟩
  refine codeAny_call_function hr.depth (KX _ _ lk) rfl S.co S.gen rfl (PySem.W.codeRec_of KX hcd) (hb _ _ _ _ (wpAny_newFunctionEnv_cells S.kind kinds fun env he s1 x => ?_))
  subst he
  obtain ⟨t, ht, hq⟩ := hbody cdv A outer s H vs Q E (guards_deeper hg) (hr.deeper _) hsp
  have I := inv_start (CX := CX) (cd := cdv) (qual := qual) (f := f) (E := E) S hr.hd e0 hl r x
  refine ⟨lim.keeps x.toInCall.keep, codeAny_func (wpAny_mono (ht.run [] s1 _ H _ I hq) (fun fl s' hs => ?_) fun e s' hs => hs)⟩
  cases fl with
  | ret u =>
    obtain ⟨v, σ', H', J, rv, q⟩ := hs
    exact ⟨v, H', J.os, J.bare, J.base, J.hok, rv, q⟩
  | next =>
    obtain ⟨σ', H', J, q⟩ := hs
    exact ⟨V.non, H', J.os, J.bare, J.base, J.hok, rfl, q⟩
  | brk =>
    obtain ⟨_, _, _, q⟩ := hs
    exact q.elim
  | cont =>
    obtain ⟨_, _, _, q⟩ := hs
    exact q.elim
end
section
variable {X : Cx} {CX : CXT} {k : Nat} {f : Addr} {fd : FuncData} {ps : List Str} {sp : Sp} {E : XK} {x : Str} {p pos : Pos} {e : Expr} {es : List Expr} {t : TA}
theorem pe_callG (F : FnG X.prog X.w X.K X.mg X.base CX k f fd ps sp) (hA : X.A.guards = some []) (hr : Room k X.A) (hg : Gl X x) (hm : X.mg x = some (.ref f)) (hk : PySem.W.keepIn X.K (.ref f) = true) (hb : Binds X.K fd ps []) (hx : Passes CX X E)
    (ha : PA X (e :: es) t) (hdb : (x == ("__debug__" : Str)) = false := by decide) (he : starEach (e :: es) X.env = (false, eval e X.env) :: starEach es X.env := by rfl) (hpl : (backTo pos (starEach es X.env)).any (·.1) = false := by rfl) :
    PE X (.Call (.Name x p) (e :: es) [] pos) (tCall sp [] E t) := by
  refine ⟨fun pins s σ H Q I h => wpAny_Call_Name_kw (ld_glob I hg hm (PySem.W.callWith_K (h₀ := X.base) I.ok.mod.kin hk (thn (ha.run pos pins s σ H _ I h) fun us s1 ⟨vs, H1, I1, r, q⟩ => ⟨I1.kIn, ?_⟩) he hpl) hdb)⟩
  have q : sp (vs ++ []) H1 Q E := q
  rw [List.append_nil] at q
  have hl : us.length = ps.length := r.length.symm.trans (F.len _ _ _ _ q)
  have hb' := hb s1 us I1.kIn (by rw [List.append_nil]; exact hl)
  rw [List.append_nil] at hb'
  refine wpAny_call (codeAny_mono (F.run X.A X.stack s1 H1 ⟨us, []⟩ us vs Q E hA hr I1.env0 hb' r q) fun r' s' hq => ?_)
  match r', hq with
  | .error er, hq => exact hx pins σ H1 s1 er s' I1 hq
  | .ok (.ret u), hq => exact I1.after hq
  | .ok .next, hq => exact False.elim hq
  | .ok .brk, hq => exact False.elim hq
  | .ok .cont, hq => exact False.elim hq
end

/-! ### a caught error -/
section
variable {X : Cx} {a : Addr} {oe : Obj} {cls : Value} {d : Option Addr} {pn : List (Addr × Obj)} {i : Nat} {x n : Str} {p pos : Pos}
/-- e.n, e the error in slot i -/
def tXfA (K : PySem.W.Frag) (a : Addr) (cls : Value) (d : Option Addr) (n : Str) (i : Nat) : TE := fun σ H Q => σ[i]? = some (some (.ref a)) ∧ ∃ (C dd : Addr) (fs : List (Str × V)) (v : V), cls = .ref C ∧ XfC K C ∧ PySem.W.findIn K (.ref C) n = some none ∧ d = some dd ∧ H dd = some (.xd fs) ∧ fs.lookup n = some v ∧ Q v H
theorem pe_xfA (hz : Zc cls d oe) (hf : ∃ vs, oe.data = .fields vs) (he : PE (X.suite a ((a, oe) :: pn)) (.Name x p) (tVar i))
    (hb : attributeBase (.Name x p) n X.env (eval (.Name x p) X.env) = eval (.Name x p) X.env := by rfl) : PE (X.suite a ((a, oe) :: pn)) (.Attribute (.Name x p) n pos) (tXfA X.K a cls d n i) := by
  refine ⟨fun pins s σ H Q I h => ?_⟩
  obtain ⟨h0, C, dd, fs, v, hc, T, hno, hd, hH, hl, q⟩ := h
  exact (pe_xf (pos := pos) T hno hz hf he hb).run pins s σ H Q I ⟨.ref a, h0, rfl, hc, dd, fs, v, hd, hH, hl, q⟩
/-- what isinstance asks of a class of errors -/
structure IsK (K : PySem.W.Frag) (C : Addr) : Prop where
  cl : (PySem.W.clsIn K C).isSome = true
  ga : PySem.W.findIn K (.ref C) "__getattribute__" = some (some (.builtin "BaseException.__getattribute__"))
  gt : PySem.W.findIn K (.ref C) "__getattr__" = some none
  sb : PySem.W.subIn K (.ref C) (.type "BaseException") = some true
  ca : PySem.W.findIn K (.ref C) "__class__" = some (some (.builtin "object.__class__"))
  sp : PySem.W.specialIn K (.builtin "object.__class__") "__get__" = some (some (.builtin "getset_descriptor.__get__"))
  tk : PySem.W.takesIn K (.builtin "object.__class__") = some true
  mo : PySem.W.mroIn K C (.type "object") = some true
/-- isinstance(e, c), isinstance(e, (c, ..)) of the error that the suite holds -/
def rIsX (K : PySem.W.Frag) (a : Addr) (cls : Value) (d : Option Addr) : List V → Hp → VK → Prop := fun xs H Q => ∃ (C dd : Addr) (fs : List (Str × V)) (y : V) (b : Bool), xs = [.ref a, y] ∧ cls = .ref C ∧ IsK K C ∧ d = some dd ∧ H dd = some (.xd fs) ∧
  ((∃ cv, (∀ u, RelV y u → u = cv) ∧ PySem.W.kitOne K (.ref C) cv = some b) ∨ ∃ tp ys cs, y = .ref tp ∧ H tp = some (.tup ys) ∧ (∀ us, Vals ys us → us = cs) ∧ PySem.W.kitAny K (.ref C) cs = some b) ∧ Q (.bl b) H
theorem call_isX (hz : Zc cls d oe) (hf : ∃ vs, oe.data = .fields vs) : CallR (X.suite a ((a, oe) :: pn)) (.builtin "isinstance") (rIsX X.K a cls d) := by
  intro pins s σ H xs us Q I r h
  obtain ⟨C, dd, fs, y, b, rfl, rfl, T, rfl, hH, hy, q⟩ := h
  obtain ⟨u, v, rfl, ru, rv⟩ : ∃ u v, us = [u, v] ∧ RelV (.ref a) u ∧ RelV y v := by
    cases r with
    | cons r1 r => cases r with | cons r2 r => cases r; exact ⟨_, _, rfl, r1, r2⟩
  obtain rfl : u = .ref a := ru
  obtain ⟨hget, _⟩ := I.pin (a, oe) (List.mem_append.mpr (.inl List.mem_cons_self))
  obtain ⟨ws, hw⟩ := hf
  obtain ⟨mA, hns, _⟩ : ∃ mA, s.heap.Ns1 dd mA ∧ ∀ f, RelO (fs.lookup f) (mA f) := I.hok dd _ hH
  obtain ⟨od, ho, _⟩ := lookIn_ns hns
  have J : PySem.W.InstAt s.heap a oe C (some od) := ⟨hget, hz.1, by unfold PySem.W.notCls; rw [hw] <;> rfl, by rw [hz.2]; exact ho⟩
  have Z := PySem.W.kitx_exc (x := a) (ox := oe) (od := some od) T.cl T.ga T.gt T.sb T.ca T.sp T.tk T.mo
  rcases hy with ⟨cv, h1, h2⟩ | ⟨tp, ys, cs, rfl, h1, h2, h3⟩
  · obtain rfl := h1 v rv
    exact PySem.W.kia_one Z I.kIn J h2 (fun z => nomatch z) fun tk => ⟨.bl b, H, I.kept (t' := tk) fun _ _ z => z, rfl, q⟩
  · obtain rfl : v = .ref tp := rv
    obtain ⟨its, r1, ⟨⟨oc, od2, oda, osl⟩, e1, e2, n, e3⟩, _⟩ := I.tuple (SqT.of h1)
    dsimp only at e2 e3
    subst e2 e3
    obtain rfl := h2 its r1
    exact PySem.W.kia_tup Z I.kIn J e1 h3 (fun z => nomatch z) fun tk => ⟨.bl b, H, I.kept (t' := tk) fun _ _ z => z, rfl, q⟩
end

/-! ### len of an own object, great powers -/
section
variable {X : Cx}
def rLenI (C : Addr) (sp : Sp) (E : XK) : List V → Hp → VK → Prop := fun xs H Q => ∃ a dx fs, xs = [.ref a] ∧ H a = some (.ins C dx fs) ∧ sp [.ref a] H (fun v H' => ∃ n : Int, v = .int n ∧ 0 ≤ n ∧ n < 2 ^ 63 ∧ Q (.int n) H') E
theorem call_lenI {CX : CXT} {k : Nat} {C f : Addr} {fd : FuncData} {ps : List Str} {sp : Sp} {E : XK} (hs : PySem.W.findIn X.K (.ref C) "__len__" = some (some (.ref f))) (hf : PySem.W.isFn X.K (.ref f) = true)
    (F : FnOk X.prog X.w X.K X.mg X.base CX k f fd ps sp) (hr : Room (k + 1) X.A) (hb : Binds X.K fd ps []) (hx : Passes CX X E) : CallR X (.builtin "len") (rLenI C sp E) := by
  intro pins s σ H xs us Q I r h
  obtain ⟨a, dx, fs, rfl, ha, q⟩ := h
  obtain ⟨u, rfl, ru⟩ := vals1 r
  cases ru
  obtain ⟨mA, J0, _⟩ := ins_get I.hok ha
  obtain ⟨od, J, _⟩ := J0.look
  obtain ⟨m, fr⟩ := I.fr
  refine PySem.W.len_K fr I.ok.mod.kin J hs hf ?_
  have hl : ([.ref a] : List Value).length = ps.length := F.len _ _ _ _ q
  have b := hb s [.ref a] I.kIn (by rw [List.append_nil]; exact hl)
  rw [List.append_nil] at b
  refine wpAny_call (codeAny_mono (F.run X.A.in1 X.stack s H ⟨[.ref a], []⟩ [.ref a] [.ref a] _ E hr.in1 I.env0.in1 b (.cons rfl .nil) q) fun r s' hq => ?_)
  match r, hq with
  | .error er, hq => exact hx pins σ H s er s' I hq
  | .ok (.ret u), hq =>
    obtain ⟨v, H', I', rv, n, rfl, h0, h1, q'⟩ := I.after hq
    obtain ⟨t, rfl⟩ := rv
    exact ⟨⟨h0, h1⟩, .int n, H', I'.tok _, ⟨_, rfl⟩, q'⟩
  | .ok .next, hq => exact False.elim hq
  | .ok .brk, hq => exact False.elim hq
  | .ok .cont, hq => exact False.elim hq
def CPowW (i j : Int) : Prop := 0 ≤ j ∧ (Builtin.Int.intBits i : Int) * j ≤ 2 ^ 27
theorem op_powW : OpR X (binaryOp .Pow) (rI CPowW fun i j => .int (i ^ j.toNat)) := opI fun _ _ _ _ _ _ _ hc q => pow_int hc.1 hc.2 q
/-- o.m(e, ..), o.m(): an error goes where it is wanted -/
def tMethX (C : Addr) (m : Str) (sp : Sp) (E : L2.St → XK) (ta : TE) (t : TA) : TE := fun σ H Q => ta σ H fun x H1 => ∃ a dx fs, x = .ref a ∧ H1 a = some (.ins C dx fs) ∧ fs.lookup m = none ∧ t σ H1 fun vs H2 => sp (x :: vs) H2 Q (E σ)
theorem pe_methX {CX : CXT} {k : Nat} {C f : Addr} {fd : FuncData} {ps : List Str} {sp : Sp} {E : L2.St → XK} {m : Str} {o e : Expr} {es : List Expr} {ta : TE} {t : TA} {apos pos : Pos} {pl : Sem Bool} (he : PE X o ta) (c : Cls X.K C) (hm : Meth X.K C m f)
    (F : FnOk X.prog X.w X.K X.mg X.base CX k f fd ps sp) (hr : Room k X.A) (hb : Binds X.K fd ps []) (hx : ∀ σ, PassesAt CX X σ (E σ)) (ha : PA X (e :: es) t)
    (hst : starEach (e :: es) X.env = (false, eval e X.env) :: starEach es X.env := by rfl) (hpl : (backTo pos (starEach es X.env)).any (·.1) = false := by rfl)
    (ht : eval (.Call (.Attribute o m apos) (e :: es) [] pos) X.env = (do
      let ov ← eval o X.env
      standAt apos.atName
      let (f, first) ← holding [ov] (getMethod ov m pl)
      callWith pos f first (backTo pos (starEach (e :: es) X.env)) (backToKw pos (keywordEach [] X.env))) := by rfl) :
    PE X (.Call (.Attribute o m apos) (e :: es) [] pos) (tMethX C m sp E ta t) :=
  ⟨fun pins s σ H Q I h => PySem.W.methodCall_KW (pl := pl) (thn (he.run pins s σ H _ I h) fun u s1 ⟨x, H1, I1, rx, a, dx, fs, ex, ea, l, q⟩ => by
    subst ex
    obtain rfl : u = Value.ref a := rx
    exact getmeth_ok I1 ea c hm l (PySem.W.callWith_K (first := [.ref a]) (h₀ := X.base) I.ok.mod.kin hm.kp (thn (ha.run pos pins s1 σ H1 _ I1 q) fun us s2 ⟨vs, H2, I2, r, q2⟩ => ⟨I2.kIn, run_fnS (us := .ref a :: us) (vs := .ref a :: vs) F hr hb (hx σ) I2 (.cons rfl r) q2⟩) hst hpl)) ht⟩
theorem pe_methX0 {CX : CXT} {k : Nat} {C f : Addr} {fd : FuncData} {ps : List Str} {sp : Sp} {E : L2.St → XK} {m : Str} {o : Expr} {ta : TE} {apos pos : Pos} {pl : Sem Bool} (he : PE X o ta) (c : Cls X.K C) (hm : Meth X.K C m f)
    (F : FnOk X.prog X.w X.K X.mg X.base CX k f fd ps sp) (hr : Room k X.A) (hb : Binds X.K fd ps []) (hx : ∀ σ, PassesAt CX X σ (E σ))
    (ht : eval (.Call (.Attribute o m apos) [] [] pos) X.env = (do
      let ov ← eval o X.env
      standAt apos.atName
      let (f, first) ← holding [ov] (getMethod ov m pl)
      callWith pos f first (backTo pos (starEach [] X.env)) (backToKw pos (keywordEach [] X.env))) := by rfl) :
    PE X (.Call (.Attribute o m apos) [] [] pos) (tMethX C m sp E ta tNil) :=
  ⟨fun pins s σ H Q I h => PySem.W.methodCall_KW (pl := pl) (thn (he.run pins s σ H _ I h) fun u s1 ⟨x, H1, I1, rx, a, dx, fs, ex, ea, l, q⟩ => by
    subst ex
    obtain rfl : u = Value.ref a := rx
    exact getmeth_ok I1 ea c hm l (PySem.W.callWith_K0 (first := [.ref a]) I1.kIn hm.kp (run_fnS (us := [.ref a]) (vs := [.ref a]) F hr hb (hx σ) I1 (.cons rfl .nil) q))) ht⟩
end
end RH

set_option Elab.async false
set_option linter.all false
set_option maxRecDepth 100000
set_option maxHeartbeats 4000000
/-! RX: the errors of the program: super().__init__(value), self.value = value -/
namespace RX
open PySem PySem.W PySem.Calls PyProof.Rows L2

/-- the text of RowError.__init__ -/
structure IniText (P : Program) (st : Stmt) : Prop where
  body : ∃ p0 p1 p2 p3 p4 p5 q1 q2 q3 q4, defBody st = [.Expr (.Call (.Attribute (.Call (.Name "super" p0) [] [] p1) "__init__" p2) [.Name "value" p3] [] p4) p5, .Assign [.Attribute (.Name "self" q1) "value" q2] (.Name "value" q3) q4] ∧
    ∃ pl, ∀ env, eval (.Call (.Attribute (.Call (.Name "super" p0) [] [] p1) "__init__" p2) [.Name "value" p3] [] p4) env = (do
      let ov ← attributeBase (.Call (.Name "super" p0) [] [] p1) "__init__" env (eval (.Call (.Name "super" p0) [] [] p1) env)
      standAt p2.atName
      let (f, first) ← holding [ov] (getMethod ov "__init__" pl)
      callWith p4 f first (backTo p4 (starEach [.Name "value" p3] env)) [])
  sup : (defScope st).names.lookup ("super" : Str) = some .globalImplicit
  cls : (defScope st).names.lookup ("__class__" : Str) = some .free
  slf : (defScope st).names.lookup ("self" : Str) = some .local
  val : (defScope st).names.lookup ("value" : Str) = some .local
  knd : (defScope st).kind = .function
  co : (defScope st).isCoroutine = false
  gen : (defScope st).isGenerator = false
  ncl : ∀ x ∈ (defScope st).names, x.2 ≠ .cell
  top : (P.main.scope.names.lookup ("super" : Str)).isSome = false
  par : ∃ ar, ((defArgs st).posonlyargs ++ (defArgs st).args).head? = some ar ∧ ar.arg = "self"
/-- what the top has written of it -/
structure IniK (P : Program) (K : Frag) (mg : Str → Option Value) (st : Stmt) (fI R0 : Addr) (fd : FuncData) : Prop where
  fn : ∃ oc od kV doc pm an ct osl cda cc, fd = ksFn "__init__" "RowError.__init__" (defArgs st) (defBody st) (defScope st) .none kV doc pm an (.ref cda) ct cc ∧ K.lookup fI = some ⟨oc, od, .func fd, osl⟩ ∧ codeIn K (.ref cda) "RowError.__init__" = true ∧
    (∃ ccl cdd vs ccs file tf, K.lookup cda = some ⟨ccl, cdd, .fields vs, ccs⟩ ∧ vs[2]? = some (.str file tf) ∧ ((P.main.file : Str) == file) = true) ∧ ∃ cl cld csl, K.lookup cc = some ⟨cl, cld, .cell (some (.ref R0)), csl⟩
  cls : ∃ cd, clsIn K R0 = some cd
  sup : mg "super" = none
  op : nsIn K cStatics "thirdparty.any" = some none
/-- a class of errors -/
structure ErrK (K : Frag) (R0 C : Addr) : Prop where
  ox : OexC K C
  al : ∃ cd, clsIn K C = some cd ∧ alongIn K "__init__" ((cd.mro.dropWhile (· != .ref R0)).drop 1) = some (some (.builtin "ValueError.__init__"))
  sub : mroIn K C (.ref R0) = some true
  sv : subIn K (.ref C) (.type "ValueError") = some true
  nv : findIn K (.ref C) "value" = some none
def spIni (K : Frag) (R0 : Addr) : Sp := fun vs H Q _ => ∃ a C v, vs = [.ref a, v] ∧ ErrK K R0 C ∧ H a = some (exo a C none) ∧ ∀ dx, H dx = none → dx ≠ a → Q .non (upd (upd H dx (exd dx [("value", v)])) a (exo a C (some dx)))

section
variable {P : Program} {w : World} {K : Frag} {mg : Str → Option Value} {base : Heap} {st : Stmt} {fI R0 : Addr} {fd : FuncData}
theorem inter {env : Env} (h : env.scope.kind = .function) : interactive env = false := by
  unfold interactive
  rw [h]
  rfl
theorem loadV {M : Model} {A : Around} {E : Value → Shared → Prop} {s : Shared} {env : Env} {m : Str → Option Value} {x : Str} {v : Value} {Q : Value → Shared → Prop} (hk : env.scope.kind = .function) (hl : env.kindOf x = some .local)
    (hn : s.heap.Ns env.locals m) (hv : m x = some v) (h : Q v s) : wpAny M A (loadName env x) Q E s := wpAny_loadName_local hk hl hn hv h
/-- the bound built-in __init__ is called -/
theorem ini_bound {A : Around} {E : Value → Shared → Prop} {h : Heap} {g : Array GenState} {d : Drawn} {t : Nat} {os : OsState} {u x C t0 : Addr} {rest : List Value} {Q : Value → Shared → Prop}
    {nm q : Str} {N : Addr} {bs bm : List Value} {sn : List Str} {sub : List Value} {ab : Bool} {col : Option Bool} {dd : Option Addr} {k0 k1 k2 k3 k5 : Option Value}
    (hC : h.get? C = some (excClassObj nm q C N bs bm true sn sub ab col dd k0 k1 k2 k3 k5 "ValueError.__new__")) (hbm : HandSPX.refsVE bm = true) (hx : h.get? x = some (HandSPX.excO C t0)) (hu : h.get? u = some (kxs_mw "ValueError.__init__" x)) (hz : rest.length ≤ sizeLine)
    (hq : ∀ h' t1, (∀ b o, b ≠ x → h.get? b = some o → h'.get? b = some o) → h'.get? x = some (HandSPX.excO C t1) → Q .none ⟨h', g, d, t, os⟩) :
    wpAny (model P w) A (call (.ref u) rest) Q E ⟨h, g, d, t, os⟩ := by
  refine wpAny_call (codeAny_of_tree ?_)
  show wpAny _ A.in1 (callAny (.ref u) ⟨rest, []⟩) _ _ _
  unfold callAny
  refine wpAny_bind (wpAny_load hu ?_)
  have e1 : (Value.type "method-wrapper" == Value.type "method" || Value.type "method-wrapper" == Value.type "builtin_function_or_method" || Value.type "method-wrapper" == Value.type "method-wrapper") = true := by decide
  dsimp only [kxs_mw]
  rw [if_pos e1]
  refine KFB.if_so (by decide) ?_
  refine wpAny_bind (check_bound_init F.excBase_ValueError.toExcCallFacts hC hx rfl ?_)
  refine wpAny_bind (wpAny_pure (wpAny_pure ⟨plainId_quiet F.excBase_ValueError.init.plain _, codeAny_builtin F.excBase_ValueError.initEntry ?_⟩))
  refine exc_init_tree (cls := .ref C) (t0 := t0) (dv := none) (c2 := .none) (c3 := .none) (b4 := .bool false) hx hz fun h' k e' _ => ?_
  exact hq h' h.objs.size k e'
theorem ini_ok (T : IniText P st) (F : IniK P K mg st fI R0 fd) {CX : CXT} : FnOk P w K mg base CX 1 fI fd ["self", "value"] (spIni K R0) := by
  refine ⟨fun vs H Q E h => ?_, fun A outer s H args us vs Q E hr he hb hv h => ?_⟩
  · obtain ⟨a, C, v, rfl, _⟩ := h
    rfl
  obtain ⟨a, C, v, rfl, X, ha, q⟩ := h
  obtain ⟨hp, gs, dr, tk, os⟩ := s
  obtain ⟨oc, od, kV, doc, pm, an, ct, osl, cda, cc, rfl, hf, hcd, ⟨ccl, cdd, cvs, ccs, file, tf, hcode, hvs2, hfile⟩, cl, cld, csl, hcell⟩ := F.fn
  obtain ⟨u1, us, rfl, hu1, hv⟩ : ∃ u1 us', us = u1 :: us' ∧ RelV (.ref a) u1 ∧ Vals [v] us' := by cases hv with | cons r t => exact ⟨_, _, rfl, r, t⟩
  obtain ⟨u2, rfl, hu2⟩ : ∃ u2, us = [u2] ∧ RelV v u2 := by
    cases hv with
    | cons r t => cases t; exact ⟨_, rfl, r⟩
  obtain rfl : u1 = .ref a := hu1
  have Kb : K.In hp := fun b o e => (he.bs b o (he.mod.kin b o e)).1
  obtain ⟨mb, hmb, hboot⟩ := he.mod.blt
  have keepB : ∀ b o, base.get? b = some o → hp.get? b = some o := fun b o e => (he.bs b o e).1
  obtain ⟨t0, hax⟩ := exo_at he.hok ha
  obtain ⟨nm, qn, N, bs, bm, sn, sub, ab, col, dd, k0, k1, k2, k3, k5, hC, hbm⟩ := X.ox.cls
  obtain ⟨cd, hcd2, hal⟩ := X.al
  obtain ⟨p0, p1, p2, p3, p4, p5, q1, q2, q3, q4, hbody, pl, hev⟩ := T.body
  obtain ⟨ar, har, harg⟩ := T.par
  have hlim : hp.NoLimit := he.mod.nolimit.keeps keepB
  have haC : a ≠ C := fun z => by
    rw [z] at hax
    have := (Kb _ _ hC).symm.trans hax
    cases this
  refine ks_codeAny_call_defAt (body := defBody st) hr.depth (Kb _ _ hf) rfl hlim (codeRec_of Kb hcd) rfl hb T.ncl (fun y hy => ?_) (fun h₀ hns hk => ?_) T.co T.gen T.knd
  · have hy' : y ∈ ([("self", .ref a), ("value", u2)] : List (Str × Value)) := hy
    rcases List.mem_cons.mp hy' with rfl | hy'
    · exact T.slf
    · rcases List.mem_cons.mp hy' with rfl | hy'
      · exact T.val
      · cases hy'
  -- the frame
  have hn1 : ((["self", "value"] : List Str).zip [Value.ref a, u2]).reverse.lookup ("self" : Str) = some (.ref a) := by
    show List.lookup ("self" : Str) [(("value" : Str), u2), (("self" : Str), Value.ref a)] = _
    have : (("self" : Str) == ("value" : Str)) = false := by decide +kernel
    simp [List.lookup, this]
  have hn2 : ((["self", "value"] : List Str).zip [Value.ref a, u2]).reverse.lookup ("value" : Str) = some u2 := by
    show List.lookup ("value" : Str) [(("value" : Str), u2), (("self" : Str), Value.ref a)] = _
    simp [List.lookup]
  rw [hbody]
  have K0 : K.In h₀ := fun b o e => hk b o (Kb b o e)
  -- super().__init__(value)
  refine ks_wpAt_execs_cons (ks_wpAt_Expr_any (hi := inter T.knd) (ks_wpAt_MethodCall (pl := pl) (he := hev _) (ks_wpAt_super_base T.sup T.cls (by decide +kernel) rfl (K0 _ _ hf) rfl har rfl (K0 _ _ hcode) rfl hvs2 hfile T.top ?_)))
  refine ks_loadName_global T.knd T.sup (loadGlobal_builtin (he.mod.glob.keeps fun b o e => hk b o (keepB b o e)) F.sup (hmb.keeps fun b o e => hk b o (keepB b o e)) ((hboot _ (by decide +kernel)).trans (by decide +kernel)) ⟨rfl, ?_⟩)
  refine wpAny_loadName_free T.knd T.cls rfl ⟨_, K0 _ _ hcell, rfl⟩ ?_
  rw [harg]
  refine loadV T.knd T.slf hns hn1 ?_
  obtain ⟨cdR, hcdR⟩ := F.cls
  obtain ⟨oR, hR1, hR2⟩ : ∃ oR, h₀.get? R0 = some oR ∧ oR.data = .cls cdR := by
    unfold clsIn at hcdR
    split at hcdR
    · rename_i ho
      cases hcdR
      exact ⟨_, K0 _ _ ho, rfl⟩
    · cases hcdR
  refine ks_wpAny_isType_cls hR1 hR2 ⟨rfl, ?_⟩
  have hax0 := hk _ _ hax
  refine ks_wpAny_call_super hR1 hR2 hax0 rfl (fun c z => by cases z) (looks_mroIn K0 X.sub) (fun h1 hso k1 => ?_)
  have K1 : K.In h1 := fun b o e => k1 b o (K0 b o e)
  have I1 : InstAt h1 a (HandSPX.excO C t0) C none := ⟨k1 _ _ hax0, rfl, rfl, trivial⟩
  refine kxs_getMethod kxs_ValueError hso (looks_opaque K1 F.op) (l₀ := cd.mro) ?_ rfl K1 hal (I1.type.andThen (looks_subIn K1 X.sv)) haC (by decide +kernel) ?_
  · exact fun A Q E s k q => wpAny_bind ((looks_clsIn K1 hcd2) A _ E s k (wpAny_pure q))
  refine kxs_callWith (i := "ValueError.__init__") (x := a) (by rfl) (evalArgs_plain ?_)
  refine Calls.spliced_cons (wpAny_Name (loadV T.knd T.val ((hns.keeps k1).keeps fun b o e => Heap.get?_push_of_some _ e) hn2 ?_) (by decide +kernel))
  refine Calls.spliced_nil ⟨Heap.get?_push_size _ rfl, ?_⟩
  have K2 : K.In (h1.push (kxs_mw "ValueError.__init__" a)) := fun b o e => Heap.get?_push_of_some _ (K1 b o e)
  have kk2 : ∀ b o, hp.get? b = some o → (h1.push (kxs_mw "ValueError.__init__" a)).get? b = some o := fun b o e => Heap.get?_push_of_some _ (k1 b o (hk b o e))
  refine ini_bound (t0 := t0) (K2 _ _ hC) hbm (kk2 _ _ hax) (Heap.get?_push_size _ rfl) (by rw [sizeLine_eq]; exact (by decide : 1 ≤ 16777216)) fun h3 t1 k3 hx3 => ?_
  -- self.value = value
  have K3 : K.In h3 := fun b o e => k3 b o (fun z => by
    subst z
    have := (Kb _ _ e).symm.trans hax
    have hx2 : HOk P w H hp := he.hok
    rcases he.bs b o (he.mod.kin b o e) with ⟨_, z⟩
    rw [ha] at z
    cases z) (K2 b o e)
  have hcl : clsIn K C = some { name := nm, bases := bs, mro := .ref C :: bm, ns := N, qualname := qn, hasDict := true, slotNames := sn, subclasses := sub, abstract := ab, collection := col, hasDel := false } := by unfold clsIn; rw [hC] <;> rfl
  have ns3 : h3.Ns hp.objs.size (fun x => ((["self", "value"] : List Str).zip [Value.ref a, u2]).reverse.lookup x) := by
    have n2 := (hns.keeps k1).keeps (h' := h1.push (kxs_mw "ValueError.__init__" a)) fun b o e => Heap.get?_push_of_some _ e
    exact n2.at fun o e => k3 _ o (fun z => by
      have := Heap.lt_size hax
      rw [← z] at this
      exact absurd this (Nat.lt_irrefl _)) e
  refine ks_wpAt_execs_cons (ks_wpAt_Assign_Attr (wpAt_of_wpAny (wpAny_Name (loadV T.knd T.val ns3 hn2 ?_) (by decide +kernel))))
  refine wpAny_Name (loadV T.knd T.slf ns3 hn1 ?_) (by decide +kernel)
  refine set_plain K3 (ox := HandSPX.excO C t1) (od := none) ⟨hx3, rfl, rfl, trivial⟩ X.ox.sa ?_
  refine HandSPX.exc_osa K3 hx3 hcl (show HandSPX.refsVE (.ref C :: bm) = true from hbm) rfl X.nv fun h4 tk4 dx k4 dn dne hx4 hn4 => ?_
  refine wpAt_of_wpAny (wpAny_execs_nil ?_)
  -- the end
  have lt3 : hp.objs.size < h3.objs.size := ns3.lt
  have hnd : H dx = none := by
    cases z : H dx with
    | none => rfl
    | some o => exact absurd (Nat.lt_of_lt_of_le (Nat.lt_trans (he.hok.lt z) lt3) dn) (Nat.lt_irrefl _)
  have kk : ∀ b o, b ≠ a → hp.get? b = some o → h4.get? b = some o := fun b o n e => k4 b o n (k3 b o n (kk2 b o e))
  have nd : ∀ {b : Addr} {o : Obj}, hp.get? b = some o → b ≠ dx := fun {b o} e z => by
    have y := Heap.lt_size e
    rw [z] at y
    exact absurd (Nat.lt_of_lt_of_le (Nat.lt_trans y lt3) dn) (Nat.lt_irrefl _)
  have na : ∀ {b : Addr}, H b = none → b ≠ a := fun {b} n z => by
    rw [z, ha] at n
    cases n
  refine ⟨.non, upd (upd H dx (exd dx [("value", v)])) a (exo a C (some dx)), rfl, he.bare, ⟨fun b o q n _ _ => kk b o (na n) q, fun b o q n _ _ => ⟨o.slots, kk b o (na n) q⟩, fun b o q n _ => by rw [upd_ne (na n), upd_ne (nd q)]; exact n, fun b o q _ => ?_,
    fun b xs q => by rw [upd_ne (at_ne ha q exo_tup), upd_ne (ne_of_none q hnd)]; exact q, fun b o u q => by rw [upd_ne (at_ne ha q exo_frz), upd_ne (ne_of_none q hnd)]; exact q, fun b ps q => ⟨#[], by rw [upd_ne (at_ne ha q exo_tbl), upd_ne (ne_of_none q hnd), q]; simp⟩⟩, fun b o q => ?_, rfl, q dx hnd dne⟩
  · by_cases z : b = a
    · exact ⟨_, by rw [z]; exact hx4⟩
    · exact ⟨o, kk b o z q⟩
  · by_cases z : b = a
    · subst z
      rw [upd_same] at q
      cases q
      exact exo_ok hx4
    · rw [upd_ne z] at q
      by_cases y : b = dx
      · subst y
        rw [upd_same] at q
        cases q
        exact exd_ok hn4 (relO_put (fs := []) hu2 fun g => True.intro)
      · rw [upd_ne y] at q
        refine (he.hok b o q).stay (fun x u hx e => kk x u ?_ e) (fun x e => ?_) fun x xs e => ?_
        · rcases hx with hx | hx
          · rw [hx]; exact z
          · exact at_ne ha hx exo_own
        · rw [upd_ne (at_ne ha e exo_own), upd_ne (ne_of_none e hnd)]; exact e
        · rw [upd_ne (at_ne ha e exo_tup), upd_ne (ne_of_none e hnd)]; exact e
end
end RX

set_option Elab.async false
set_option linter.all false
set_option maxRecDepth 100000
set_option maxHeartbeats 4000000
/-! RR4: data shown and compared, instances, errors -/
namespace RR
open PySem L2 RH RX

/-! ### data as the library has it -/
mutual
def D.toPy : D → PyData
  | .non => .none
  | .bl b => .bool b
  | .int i => .int i
  | .str s => .str s
  | .lst xs => .list (toPyA xs)
  | .tup xs => .tuple (toPyA xs)
  | .scr xs => .list (toPyA xs)
  | .row _ => .none
  | .ins _ _ => .none
  | .exc _ _ _ => .none
  | .raw _ => .none
def toPyA : List D → List PyData
  | [] => []
  | x :: xs => x.toPy :: toPyA xs
end
mutual
/-- no rows, no instances -/
def D.pure : D → Bool
  | .non => true
  | .bl _ => true
  | .int _ => true
  | .str _ => true
  | .lst xs => pureA xs
  | .tup xs => pureA xs
  | .scr xs => pureA xs
  | .row _ => false
  | .ins _ _ => false
  | .exc _ _ _ => false
  | .raw _ => false
def pureA : List D → Bool
  | [] => true
  | x :: xs => x.pure && pureA xs
end
theorem toPyA_map : ∀ xs : List D, toPyA xs = xs.map D.toPy
  | [] => rfl
  | x :: xs => by rw [toPyA, toPyA_map xs]; rfl
theorem pureA_all : ∀ xs : List D, pureA xs = xs.all D.pure
  | [] => rfl
  | x :: xs => by rw [pureA, pureA_all xs]; rfl
mutual
theorem noDict : ∀ x : D, x.toPy.hasDict = false
  | .non => rfl
  | .bl _ => rfl
  | .int _ => rfl
  | .str _ => rfl
  | .lst xs => by simp only [D.toPy, PyData.hasDict]; exact noDictA xs
  | .tup xs => by simp only [D.toPy, PyData.hasDict]; exact noDictA xs
  | .scr xs => by simp only [D.toPy, PyData.hasDict]; exact noDictA xs
  | .row _ => rfl
  | .ins _ _ => rfl
  | .exc _ _ _ => rfl
  | .raw _ => rfl
theorem noDictA : ∀ xs : List D, PyData.hasDictAll (toPyA xs) = false
  | [] => rfl
  | x :: xs => by simp only [toPyA, PyData.hasDictAll, noDict x, noDictA xs, Bool.or_false]
end

section
variable {K : PySem.W.Frag} {c : Cs} {e : Ent} {Γ : List A} {Q : D → List A → Prop} {QO : O → List A → Prop} {QB : Bool → List A → Prop} {ta tb te tx : TE} {i : Nat} {w w' : W} {σ : L2.St} {H H' : Hp} {Dn : Nd}
mutual
theorem dp_of (ok : Ok K c w H) : ∀ {v : V} {x : D}, Rp K c w v x → x.pure = true → Dp K H v x.toPy
  | _, _, .non, _ => .non
  | _, _, .bl b, _ => .bl b
  | _, _, .int i, _ => .int i
  | _, _, .str s, _ => .str s
  | _, _, .lst h r, p => by
    simp only [D.pure] at p
    simp only [D.toPy]
    exact .lst (SqL.of (ok.sub _ _ h)) (dp_all ok r p)
  | _, _, .tup h r, p => by
    simp only [D.pure] at p
    simp only [D.toPy]
    exact .tup (SqT.of (ok.sub _ _ h)) (dp_all ok r p)
  | _, _, .scr h r, p => by
    simp only [D.pure] at p
    simp only [D.toPy]
    exact .lst (sqL_le ok.sub h) (dp_all ok r p)
theorem dp_all (ok : Ok K c w H) : ∀ {vs : List V} {xs : List D}, RpA K c w vs xs → pureA xs = true → DpAll K H vs (toPyA xs)
  | _, _, .nil, _ => .nil
  | _, _, .cons r t, p => by
    simp only [pureA, Bool.and_eq_true] at p
    exact .cons (dp_of ok r p.1) (dp_all ok t p.2)
end
def D.isSeq : D → Bool
  | .lst _ => true
  | .tup _ => true
  | .scr _ => true
  | _ => false
theorem cb_repr {x : D} (h1 : x.isSeq = true) (h2 : x.pure = true) (h3 : x.toPy.showable = true) (h4 : x.toPy.depth ≤ 60) (h5 : x.toPy.shown.length ≤ 10000000) (q : Q (.str x.toPy.shown) Γ) : Cb K c e (rRepr K) [x] Γ Q := fun σ H w vs a r P k => by
  cases r with
  | cons r0 r =>
    cases r
    have hd := dp_of a.ok r0 h2
    have hz : x.toPy.shown.length ≤ sizeLine := Nat.le_trans h5 (by rw [sizeLine_eq]; decide)
    cases r0 with
    | lst hm ra => exact ⟨_, _, rfl, hd, h3, noDict _, h4, hz, k _ H w _ Γ (W.le.refl w) a (.str _) q⟩
    | tup hm ra => exact ⟨_, _, rfl, hd, h3, noDict _, h4, hz, k _ H w _ Γ (W.le.refl w) a (.str _) q⟩
    | scr hm ra => exact ⟨_, _, rfl, hd, h3, noDict _, h4, hz, k _ H w _ Γ (W.le.refl w) a (.str _) q⟩
    | _ => cases h1
theorem op_eqP {x y : D} (h1 : x.pure = true) (h2 : y.pure = true) (h3 : SeqAt.shaped x.toPy = true) (h4 : SeqAt.shaped y.toPy = true) (q : Q (.bl (PyData.eqv x.toPy y.toPy)) Γ) : Op K c e (rEqD K) x y Γ Q := fun σ H w vx vy a rx ry P k =>
  ⟨_, _, dp_of a.ok rx h1, dp_of a.ok ry h2, h3, h4, k _ H w _ Γ (W.le.refl w) a (.bl _) q⟩
theorem op_neP {x y : D} (h1 : x.pure = true) (h2 : y.pure = true) (h3 : SeqAt.shaped x.toPy = true) (h4 : SeqAt.shaped y.toPy = true) (q : Q (.bl (!PyData.eqv x.toPy y.toPy)) Γ) : Op K c e (rNeD K) x y Γ Q := fun σ H w vx vy a rx ry P k =>
  ⟨_, _, dp_of a.ok rx h1, dp_of a.ok ry h2, h3, h4, k _ H w _ Γ (W.le.refl w) a (.bl _) q⟩

/-! ### numbers -/
def rAbs : List V → Hp → VK → Prop := fun xs H Q => ∃ i, xs = [.int i] ∧ Q (.int (if i < 0 then -i else i)) H
theorem call_absR {X : Cx} : CallR X (.builtin "abs") rAbs := call_abs
def rMax2 : List V → Hp → VK → Prop := fun xs H Q => ∃ i j, xs = [.int i, .int j] ∧ Q (.int (if j > i then j else i)) H
theorem call_maxR {X : Cx} (hc : X.calm = true) : CallR X (.builtin "max") rMax2 := call_max2 hc
def rMin2 : List V → Hp → VK → Prop := fun xs H Q => ∃ i j, xs = [.int i, .int j] ∧ Q (.int (if j < i then j else i)) H
theorem call_minR {X : Cx} (hc : X.calm = true) : CallR X (.builtin "min") rMin2 := call_min2 hc
def rInt1 : List V → Hp → VK → Prop := fun xs H Q => (∃ i, xs = [.int i] ∧ Q (.int i) H) ∨ ∃ k, xs = [.bl k] ∧ Q (.int (if k then 1 else 0)) H
theorem call_intR {X : Cx} : CallR X (.type "int") rInt1 := call_int1
theorem cb_abs {j : Int} (q : Q (.int (if j < 0 then -j else j)) Γ) : Cb K c e rAbs [.int j] Γ Q := fun σ H w vs a r P k => by
  cases r with
  | cons r0 r => cases r; cases r0; exact ⟨j, rfl, k _ H w _ Γ (W.le.refl w) a (.int _) q⟩
theorem cb_max {j l : Int} (q : Q (.int (if l > j then l else j)) Γ) : Cb K c e rMax2 [.int j, .int l] Γ Q := fun σ H w vs a r P k => by
  cases r with
  | cons r0 r =>
    cases r with
    | cons r1 r => cases r; cases r0; cases r1; exact ⟨j, l, rfl, k _ H w _ Γ (W.le.refl w) a (.int _) q⟩
theorem cb_min {j l : Int} (q : Q (.int (if l < j then l else j)) Γ) : Cb K c e rMin2 [.int j, .int l] Γ Q := fun σ H w vs a r P k => by
  cases r with
  | cons r0 r =>
    cases r with
    | cons r1 r => cases r; cases r0; cases r1; exact ⟨j, l, rfl, k _ H w _ Γ (W.le.refl w) a (.int _) q⟩
theorem cb_int {j : Int} (q : Q (.int j) Γ) : Cb K c e rInt1 [.int j] Γ Q := fun σ H w vs a r P k => by
  cases r with
  | cons r0 r => cases r; cases r0; exact .inl ⟨j, rfl, k _ H w _ Γ (W.le.refl w) a (.int _) q⟩
theorem cb_intB {b : Bool} (q : Q (.int (if b then 1 else 0)) Γ) : Cb K c e rInt1 [.bl b] Γ Q := fun σ H w vs a r P k => by
  cases r with
  | cons r0 r => cases r; cases r0; exact .inr ⟨b, rfl, k _ H w _ Γ (W.le.refl w) a (.int _) q⟩

/-! ### instances -/
theorem we_fld {C : Addr} {fs : List (Str × D)} {f : Str} {d : D} (h : ob Γ i = some (.ins C fs)) (h1 : Cls K C) (h2 : NoAttr K C f) (h3 : fs.lookup f = some d) (q : Q d Γ) : WE K c e (tFld K (tVar i) f) Γ Q := fun σ H w a P k => by
  obtain ⟨p, hp, dx, fv, h4, h5⟩ := a.obj h
  obtain ⟨v, h6, h7⟩ := h5.look h3
  exact ⟨_, hp, p, C, dx, fv, v, rfl, h4, h1, h2, h6, k v H w d Γ (W.le.refl w) a h7 q⟩
theorem ws_fld {f : Str} (h : WE K c e te Γ fun x Γ1 => ∃ C fs, ob Γ1 i = some (.ins C fs) ∧ Cls K C ∧ NoAttr K C f ∧ fs.length < 1000 ∧ Dn.nx (chg Γ1 i (.ins C (putD f x fs)))) : WS K c e (sFld K (tVar i) te f) Γ Dn := fun σ H w a E g =>
  h σ H w a _ fun v H1 w1 x Γ1 l1 a1 r1 q => by
    obtain ⟨C, fs, h0, h1, h2, h3, q⟩ := q
    obtain ⟨p, hp, dx, fv, h4, h5⟩ := a1.obj h0
    refine ⟨_, hp, p, C, dx, fv, rfl, h4, h1, h2, by rw [h5.length]; exact h3, g.nx σ _ w1 _ l1 ((a1.change (o' := .ins C (putD f x fs)) h0 hp ⟨dx, _, upd_same, h5.put r1⟩).z a1 (W.le.refl w1)) q⟩
/-- o.m(..), o in slot i -/
theorem we_meth {F : PF} {E : XK} {t : TA} {C : Addr} {m : Str} (mo : F.Mono) (h0 : ∃ fs, ob Γ i = some (.ins C fs) ∧ fs.lookup m = none)
    (h : WA K c e t Γ fun gs Γ1 => lentOk Γ1 (.sl i :: gs) = true ∧ (atsOf (.sl i :: gs)).Nodup ∧ F ((Ag.sl i :: gs).map (lend Γ1)) (fun r as' => Q r.toD (back Γ1 (.sl i :: gs) as')) fun _ _ => False) : WE K c e (tMeth C m (spF K c F) [] E (tVar i) t) Γ Q := fun σ H w a P k => by
  obtain ⟨fs, h0, hm⟩ := h0
  obtain ⟨p, hp, dx, fv, h4, h5⟩ := a.obj h0
  refine ⟨_, hp, p, dx, fv, rfl, h4, h5.lookN hm, h σ H w a _ fun vs H1 w1 gs Γ1 l1 a1 r1 ⟨q1, q2, q3⟩ => ?_⟩
  rw [List.append_nil]
  refine sp_call (r := .sl hp r1) a1 q1 q2 (QR := fun r Γ' => Q r.toD Γ') (QX := fun _ _ => False) q3 (mo _) (fun _ _ _ _ _ _ _ _ _ z => z.elim) fun v H2 w2 r Γ2 l2 a2 r2 q => ?_
  rcases r2 with ⟨r2, _⟩ | ⟨p, o, rfl, rfl, f⟩
  · exact k v H2 w2 _ Γ2 (l1.trans l2) a2 r2 q
  · obtain ⟨w3, l3, a3, r3⟩ := a2.freeze f
    exact k _ H2 w3 _ Γ2 ((l1.trans l2).trans l3) (a3.z a2 l3) r3 q
theorem we_methX {F : PF} {t : TA} {C : Addr} {m : Str} (mo : F.Mono) (h0 : ∃ fs, ob Γ i = some (.ins C fs) ∧ fs.lookup m = none)
    (h : WA K c e t Γ fun gs Γ1 => lentOk Γ1 (.sl i :: gs) = true ∧ (atsOf (.sl i :: gs)).Nodup ∧ F ((Ag.sl i :: gs).map (lend Γ1)) (fun r as' => Q r.toD (back Γ1 (.sl i :: gs) as')) fun x as' => e.xx x (back Γ1 (.sl i :: gs) as')) :
    WE K c e (tMethX C m (spF K c F) (fun σ cls d H => e.xw cls d σ H) (tVar i) t) Γ Q := fun σ H w a P k => by
  obtain ⟨fs, h0, hm⟩ := h0
  obtain ⟨p, hp, dx, fv, h4, h5⟩ := a.obj h0
  refine ⟨_, hp, p, dx, fv, rfl, h4, h5.lookN hm, h σ H w a _ fun vs H1 w1 gs Γ1 l1 a1 r1 ⟨q1, q2, q3⟩ => ?_⟩
  refine sp_call (r := .sl hp r1) a1 q1 q2 (QR := fun r Γ' => Q r.toD Γ') (QX := fun x Γ' => e.xx x Γ') q3 (mo _) (fun x dd v H2 w2 a2 l2 hd rv q => a1.rz x.1 dd v σ H2 w2 _ l2 a2.toAt hd rv q) fun v H2 w2 r Γ2 l2 a2 r2 q => ?_
  rcases r2 with ⟨r2, _⟩ | ⟨p, o, rfl, rfl, f⟩
  · exact k v H2 w2 _ Γ2 (l1.trans l2) a2 r2 q
  · obtain ⟨w3, l3, a3, r3⟩ := a2.freeze f
    exact k _ H2 w3 _ Γ2 ((l1.trans l2).trans l3) (a3.z a2 l3) r3 q
/-- o.f, a property -/
theorem we_prop {F : PF} {E : XK} {C : Addr} (mo : F.Mono) (h0 : ∃ fs, ob Γ i = some (.ins C fs)) (h : F [lend Γ (.sl i)] (fun r as' => Q r.toD (back Γ [.sl i] as')) fun _ _ => False) : WE K c e (tProp C (spF K c F) [] E (tVar i)) Γ Q := fun σ H w a P k => by
  obtain ⟨fs, h0⟩ := h0
  obtain ⟨p, hp, dx, fv, h4, h5⟩ := a.obj h0
  refine ⟨_, hp, p, dx, fv, rfl, h4, ?_⟩
  refine sp_call (gs := [.sl i]) (r := .sl hp .nil) a (by show ((ob Γ i).isSome && true) = true; rw [h0]; rfl) (by simp [atsOf]) (QR := fun r Γ' => Q r.toD Γ') (QX := fun _ _ => False) h (mo _) (fun _ _ _ _ _ _ _ _ _ z => z.elim) fun v H2 w2 r Γ2 l2 a2 r2 q => ?_
  rcases r2 with ⟨r2, _⟩ | ⟨p, o, rfl, rfl, f⟩
  · exact k v H2 w2 _ Γ2 l2 a2 r2 q
  · obtain ⟨w3, l3, a3, r3⟩ := a2.freeze f
    exact k _ H2 w3 _ Γ2 (l2.trans l3) (a3.z a2 l3) r3 q
/-- len(o) by its own __len__ -/
theorem we_lenI {F : PF} {E : XK} {C : Addr} (mo : F.Mono) (h0 : ∃ fs, ob Γ i = some (.ins C fs)) (h : F [lend Γ (.sl i)] (fun r as' => ∃ n : Int, r.toD = .int n ∧ 0 ≤ n ∧ n < 2 ^ 63 ∧ Q (.int n) (back Γ [.sl i] as')) fun _ _ => False) : WE K c e (tCB (rLenI C (spF K c F) E) (tCons (tVar i) tNil)) Γ Q := fun σ H w a P k => by
  obtain ⟨fs, h0⟩ := h0
  obtain ⟨p, hp, dx, fv, h4, h5⟩ := a.obj h0
  refine ⟨_, hp, p, dx, fv, rfl, h4, ?_⟩
  refine sp_call (gs := [.sl i]) (r := .sl hp .nil) a (by show ((ob Γ i).isSome && true) = true; rw [h0]; rfl) (by simp [atsOf]) (QR := fun r Γ' => ∃ n : Int, r.toD = .int n ∧ 0 ≤ n ∧ n < 2 ^ 63 ∧ Q (.int n) Γ') (QX := fun _ _ => False) h (mo _) (fun _ _ _ _ _ _ _ _ _ z => z.elim) fun v H2 w2 r Γ2 l2 a2 r2 q => ?_
  obtain ⟨n, e1, n0, n1, q⟩ := q
  rcases r2 with ⟨r2, _⟩ | ⟨p, o, rfl, rfl, f⟩
  · rw [e1] at r2
    cases r2
    exact ⟨n, rfl, n0, n1, k _ H2 w2 _ Γ2 l2 a2 (.int n) q⟩
  · cases o <;> cases e1

/-! ### a new instance -/
theorem At.laid (h : At K c e w σ H Γ) {p : Addr} {u : HO} (hp : H p = none) : At K c e w σ (upd H p u) Γ := by
  have hk : ∀ a o, H a = some o → upd H p u a = some o := fun a o q => by rw [upd_ne (ne_of_none q hp)]; exact q
  refine h.grow (W.le.refl w) ⟨fun a o q => hk a o (h.ok.sub a o q), fun a r q z => (h.ok.rows a r q z).stay (W.le.refl w) (hk a) (hk q), h.ok.ma, h.ok.mp, h.ok.inj⟩ (fun a o q _ => hk a o q) (fun a q => ?_) fun a q => q.elim .inl fun q => .inr (.inl q)
  cases z : H a with
  | none => rfl
  | some o => rw [hk a o z] at q; cases q
theorem get_app {α : Type} {l : List α} {x y : α} {k : Nat} (h : (l ++ [x])[k]? = some y) : l[k]? = some y ∨ (k = l.length ∧ x = y) := by
  by_cases z : k < l.length
  · rw [List.getElem?_append_left z] at h
    exact .inl h
  · rw [List.getElem?_append_right (by omega)] at h
    cases q : k - l.length with
    | zero => rw [q] at h; exact .inr ⟨by omega, Option.some.inj h⟩
    | succ n => rw [q] at h; simp at h
/-- a fresh thing as one slot more -/
theorem At.push (h : At K c e w σ H Γ) {p : Addr} {o : O} (f : Fresh K c e w σ H Γ p o) : At K c e w (σ ++ [some (.ref p)]) H (Γ ++ [.own o]) := by
  have s : ∀ (k : Nat) x, σ[k]? = some x → (σ ++ [some (V.ref p)])[k]? = some x := fun k x q => by rw [List.getElem?_append_left (List.getElem?_eq_some_iff.mp q).1]; exact q
  have fo : ∀ (k : Nat) o', ((Γ ++ [A.own o])[k]? = some (.own o') ∨ (Γ ++ [A.own o])[k]? = some (.bor o')) → (Γ[k]? = some (.own o') ∨ Γ[k]? = some (.bor o')) ∨ k = Γ.length := fun k o' q => by
    rcases q with q | q
    · rcases get_app q with q | ⟨q, _⟩
      · exact .inl (.inl q)
      · exact .inr q
    · rcases get_app q with q | ⟨q, _⟩
      · exact .inl (.inr q)
      · exact .inr q
  have at_ : ∀ (k : Nat) o' p', (Γ[k]? = some (.own o') ∨ Γ[k]? = some (.bor o')) → (σ ++ [some (V.ref p)])[k]? = some (some (.ref p')) → σ[k]? = some (some (.ref p')) := fun k o' p' q z => by
    have lt : k < Γ.length := by rcases q with q | q <;> exact (List.getElem?_eq_some_iff.mp q).1
    rwa [List.getElem?_append_left (by rw [h.len]; exact lt)] at z
  have last : ∀ (k : Nat) p', k = Γ.length → (σ ++ [some (V.ref p)])[k]? = some (some (.ref p')) → p' = p := fun k p' q z => by
    rw [q, ← h.len, List.getElem?_append_right (Nat.le_refl _), Nat.sub_self] at z
    cases z
    rfl
  refine ⟨h.ok, h.le, h.keep, h.fre, h.new, by simp [h.len], fun k x q => ?_, fun k o' q => ?_, fun k o' q => ?_, fun k l o1 o2 p' h1 h2 h3 h4 => ?_, fun k o' q => ?_, fun q u hq => ?_⟩
  · rcases get_app q with q | ⟨_, q⟩
    · obtain ⟨v, h1, h2⟩ := h.dat k x q
      exact ⟨v, s k _ h1, h2⟩
    · cases q
  · rcases get_app q with q | ⟨z, q⟩
    · obtain ⟨p', h1, h2⟩ := h.own k o' q
      exact ⟨p', s k _ h1, h2⟩
    · cases q
      exact ⟨p, by rw [z, ← h.len, List.getElem?_append_right (Nat.le_refl _), Nat.sub_self]; rfl, f.ob, f.nm, f.nc, f.n0⟩
  · rcases get_app q with q | ⟨_, q⟩
    · obtain ⟨p', h1, h2⟩ := h.bor k o' q
      exact ⟨p', s k _ h1, h2⟩
    · cases q
  · rcases fo k o1 h1 with q1 | q1
    · rcases fo l o2 h2 with q2 | q2
      · exact h.sep k l o1 o2 p' q1 q2 (at_ k o1 p' q1 h3) (at_ l o2 p' q2 h4)
      · have := last l p' q2 h4
        subst this
        exact (f.nh k o1 q1 (at_ k o1 _ q1 h3)).elim
    · rcases fo l o2 h2 with q2 | q2
      · have := last k p' q1 h3
        subst this
        exact (f.nh l o2 q2 (at_ l o2 _ q2 h4)).elim
      · exact q1.trans q2.symm
  · obtain ⟨o1, h1, h2⟩ := h.par k o' q
    have lt := (List.getElem?_eq_some_iff.mp h1).1
    exact ⟨o1, by rw [List.getElem?_append_left lt]; exact h1, by rw [List.getElem?_append_left (by rw [h.len]; exact lt)]; exact h2⟩
  · obtain ⟨h1, h2, h3, h4⟩ := h.hld q u hq
    refine ⟨h1, h2, h3, fun k o' z y => ?_⟩
    rcases fo k o' z with z | z
    · exact h4 k o' z (at_ k o' q z y)
    · have := last k q z y
      subst this
      rw [f.nd] at hq
      cases hq
theorem At.pop {p : Addr} {o : O} (h : At K c e w (σ ++ [some (.ref p)]) H (Γ ++ [.own o])) : At K c e w σ H Γ ∧ Fresh K c e w σ H Γ p o := by
  have hl : σ.length = Γ.length := by have := h.len; simp at this; exact this
  have g : ∀ (k : Nat) a, Γ[k]? = some a → (Γ ++ [A.own o])[k]? = some a := fun k a q => by rw [List.getElem?_append_left (List.getElem?_eq_some_iff.mp q).1]; exact q
  have s : ∀ (k : Nat) a, Γ[k]? = some a → (σ ++ [some (V.ref p)])[k]? = σ[k]? := fun k a q => by rw [List.getElem?_append_left (by rw [hl]; exact (List.getElem?_eq_some_iff.mp q).1)]
  have so : ∀ (k : Nat) o', (Γ[k]? = some (.own o') ∨ Γ[k]? = some (.bor o')) → (σ ++ [some (V.ref p)])[k]? = σ[k]? := fun k o' q => q.elim (s k _) (s k _)
  have go : ∀ (k : Nat) o', (Γ[k]? = some (.own o') ∨ Γ[k]? = some (.bor o')) → (Γ ++ [A.own o])[k]? = some (.own o') ∨ (Γ ++ [A.own o])[k]? = some (.bor o') := fun k o' q => q.elim (fun z => .inl (g k _ z)) fun z => .inr (g k _ z)
  have sl : (σ ++ [some (V.ref p)])[Γ.length]? = some (some (.ref p)) := by rw [← hl, List.getElem?_append_right (Nat.le_refl _), Nat.sub_self]; rfl
  have gl : (Γ ++ [A.own o])[Γ.length]? = some (.own o) := by rw [List.getElem?_append_right (Nat.le_refl _), Nat.sub_self]; rfl
  have lt : ∀ (k : Nat) o', (Γ[k]? = some (.own o') ∨ Γ[k]? = some (.bor o')) → k ≠ Γ.length := fun k o' q z => by
    rcases q with q | q <;> (have := (List.getElem?_eq_some_iff.mp q).1; omega)
  obtain ⟨p', h1, h2, h3, h4, h5⟩ := h.own _ _ gl
  rw [sl] at h1
  cases h1
  refine ⟨⟨h.ok, h.le, h.keep, h.fre, h.new, hl, fun k x q => ?_, fun k o' q => ?_, fun k o' q => ?_, fun k l o1 o2 p' q1 q2 z1 z2 => ?_, fun k o' q => ?_, fun q u hq => ?_⟩, h2, h3, h4, h5, fun k o' q z => ?_, ?_⟩
  · have := h.dat k x (g k _ q)
    rwa [s k _ q] at this
  · have := h.own k o' (g k _ q)
    rwa [s k _ q] at this
  · have := h.bor k o' (g k _ q)
    rwa [s k _ q] at this
  · exact h.sep k l o1 o2 p' (go k _ q1) (go l _ q2) (by rw [so k _ q1]; exact z1) (by rw [so l _ q2]; exact z2)
  · obtain ⟨o1, y1, y2⟩ := h.par k o' q
    rcases get_app y1 with y1 | ⟨_, y1⟩
    · exact ⟨o1, y1, by rw [← s k _ y1]; exact y2⟩
    · cases y1
  · obtain ⟨y1, y2, y3, y4⟩ := h.hld q u hq
    exact ⟨y1, y2, y3, fun k o' z y => y4 k o' (go k _ z) (by rw [so k _ z]; exact y)⟩
  · exact lt k o' q (h.sep k _ o' o p (go k _ q) (.inl gl) (by rw [so k _ q]; exact z) sl)
  · cases z : e.hold p with
    | none => rfl
    | some u => exact ((h.hld p u z).2.2.2 _ o (.inl gl) sl).elim
/-- what no slot sees may follow -/
theorem back_app : ∀ {gs : List Ag} {as : List A} {Γ : List A} {a : A}, atsOf gs = [] → back (Γ ++ [a]) gs as = back Γ gs as ++ [a]
  | [], as, Γ, a, _ => by unfold back; rfl
  | .d _ :: gs, [], Γ, a, _ => rfl
  | .d _ :: gs, b :: as, Γ, a, h => by unfold back; exact back_app (gs := gs) h
  | .sl _ :: gs, as, Γ, a, h => by cases h
theorem back_data : ∀ {gs : List Ag} {as : List A} {Γ : List A}, atsOf gs = [] → back Γ gs as = Γ
  | [], as, Γ, _ => by unfold back; rfl
  | .d _ :: gs, [], Γ, _ => rfl
  | .d _ :: gs, b :: as, Γ, h => by unfold back; exact back_data (gs := gs) h
  | .sl _ :: gs, as, Γ, h => by cases h
theorem lend_app {gs : List Ag} {Γ : List A} {a : A} (h : atsOf gs = []) : gs.map (lend (Γ ++ [a])) = gs.map (lend Γ) := by
  induction gs with
  | nil => rfl
  | cons g gs ih =>
    cases g with
    | d x => exact congrArg (A.d x :: ·) (ih h)
    | sl j => cases h
theorem ob_last {o : O} : ob (Γ ++ [.own o]) Γ.length = some o := ob_of (.inl (by rw [List.getElem?_append_right (Nat.le_refl _), Nat.sub_self]; rfl))
theorem chg_last {o o' : O} : chg (Γ ++ [.own o]) Γ.length o' = Γ ++ [.own o'] := by
  unfold chg
  rw [List.getD_eq_getElem?_getD, List.getElem?_append_right (Nat.le_refl _), Nat.sub_self]
  show (Γ ++ [A.own o]).set Γ.length (.own o') = _
  rw [List.set_append_right _ _ (Nat.le_refl _), Nat.sub_self]
  rfl
theorem RpG.push {x : Option V} : ∀ {vs : List V} {gs : List Ag}, atsOf gs = [] → RpG K c w σ vs gs → RpG K c w (σ ++ [x]) vs gs
  | _, _, _, .nil => .nil
  | _, _, h, .d r t => .d r (RpG.push h t)
  | _, _, h, .sl _ _ => by cases h
theorem back_make {C : Addr} {fs : List (Str × D)} {as' : List A} (h : atsOf gs = []) (z : as'.head? = some (.bor (.ins C fs))) : back (Γ ++ [.own (.ins C [])]) (.sl Γ.length :: gs) as' = Γ ++ [.own (.ins C fs)] := by
  cases as' with
  | nil => cases z
  | cons b as' =>
    cases z
    show back (chg (Γ ++ [.own (.ins C [])]) Γ.length (.ins C fs)) gs as' = _
    rw [chg_last]
    exact back_data h
/-- C(..), its arguments data -/
theorem wf_make {F : PF} {t : TA} {C : Addr} {E : XK} (mo : F.Mono) (hE : ∀ (H : Hp) cls d, E cls d H → False)
    (h : WA K c e t Γ fun gs Γ1 => atsOf gs = [] ∧ F (.bor (.ins C []) :: gs.map (lend Γ1)) (fun r as' => r.toD = .non ∧ ∃ fs, as'.head? = some (.bor (.ins C fs)) ∧ QO (.ins C fs) Γ1) fun x as' => False) :
    WF K c e (tMake C (spF K c F) [] E t) Γ QO := fun σ H w a P k => h σ H w a _ fun vs H1 w1 gs Γ1 l1 a1 r1 ⟨q1, q2⟩ x dx nx ndx nex => by
  rw [List.append_nil]
  have a2 := a1.toAt.laid (p := dx) (u := .own x) ndx
  have nx2 : upd H1 dx (.own x) x = none := by rw [upd_ne (Ne.symm nex)]; exact nx
  obtain ⟨a3, f3⟩ := a2.alloc (u := .ins C dx []) (o := .ins C []) nx2 ⟨dx, [], upd_same, .nil⟩
  have a4 : Az K c e w1 (σ ++ [some (.ref x)]) _ (Γ1 ++ [.own (.ins C [])]) := (a3.push f3).z a1 (W.le.refl w1)
  have r4 : RpG K c w1 (σ ++ [some (V.ref x)]) (.ref x :: vs) (.sl Γ1.length :: gs) := by
    exact .sl (by rw [← a1.len, List.getElem?_append_right (Nat.le_refl _), Nat.sub_self]; rfl) (r1.push q1)
  have q2' : F ((Ag.sl Γ1.length :: gs).map (lend (Γ1 ++ [.own (.ins C [])]))) (fun r as' => r.toD = .non ∧ ∃ fs, as'.head? = some (.bor (.ins C fs)) ∧ QO (.ins C fs) Γ1) fun x as' => False := by
    rw [List.map_cons, lend_app q1, lend_ob ob_last]
    exact q2
  have lo : lentOk (Γ1 ++ [.own (.ins C [])]) (.sl Γ1.length :: gs) = true := by
    show ((ob _ Γ1.length).isSome && lentOk _ gs) = true
    rw [ob_last]
    have : ∀ gs : List Ag, atsOf gs = [] → lentOk (Γ1 ++ [.own (.ins C [])]) gs = true := fun gs => by
      induction gs with
      | nil => intro _; rfl
      | cons g gs ih =>
        intro z
        cases g with
        | d y => exact ih z
        | sl j => cases z
    rw [this gs q1]
    rfl
  refine sp_call (r := r4) a4 lo (by show (Γ1.length :: atsOf gs).Nodup; rw [q1]; simp) (QR := fun r Γ' => r.toD = .non ∧ ∃ fs, Γ' = Γ1 ++ [.own (.ins C fs)] ∧ QO (.ins C fs) Γ1) (QX := fun _ _ => False)
    (mo _ _ _ _ _ (fun r as' ⟨z1, fs, z2, z3⟩ => ⟨z1, fs, back_make q1 z2, z3⟩) (fun _ _ z => z) q2') (mo _) (fun _ _ _ _ _ _ _ _ _ z => z.elim) fun v H2 w2 r Γ2 l2 a5 r5 ⟨z1, fs, z2, z3⟩ => ?_
  subst z2
  obtain ⟨a6, f6⟩ := a5.toAt.pop
  rcases r5 with ⟨r5, _⟩ | ⟨p, o, rfl, rfl, f⟩
  · rw [z1] at r5
    cases r5
    exact ⟨rfl, k x H2 w2 _ Γ1 (l1.trans l2) (a6.z a1 l2) f6 z3⟩
  · cases o <;> cases z1

/-! ### errors -/
theorem At.allocX (h : At K c e w σ H Γ) {p : Addr} {v : V} (hp : H p = none) : ∃ w', w.le w' ∧ At K c e w' σ (upd H p (.xd [("value", v)])) Γ ∧ w'.M p = some (.xd [("value", v)]) := by
  have a1 := h.laid (p := p) (u := .xd [("value", v)]) hp
  have nm : w.M p = none := by
    cases q : w.M p with
    | none => rfl
    | some o => rw [h.ok.sub _ _ q] at hp; cases hp
  have nc : ¬ Cell w p := fun q => by
    obtain ⟨_, o, z⟩ := h.ok.cell q
    rw [z] at hp; cases hp
  have ok2 := a1.ok.put (p := p) (u := .xd [("value", v)]) upd_same nm nc
  have l := W.le_put (w := w) (p := p) (u := .xd [("value", v)]) nm
  have hk : ∀ a o, H a = some o → upd H p (.xd [("value", v)]) a = some o := fun a o q => by rw [upd_ne (ne_of_none q hp)]; exact q
  refine ⟨w.put p (.xd [("value", v)]), l, h.grow l ok2 (fun a o q _ => hk a o q) (fun a q => ?_) fun a q => ?_, upd_same⟩
  · cases z : H a with
    | none => rfl
    | some o => rw [hk a o z] at q; cases q
  · rcases q with ⟨x, q⟩ | q
    · by_cases z : a = p
      · subst z
        exact .inr (.inr hp)
      · have q' : upd w.M p (.xd [("value", v)]) a = some x := q
        rw [upd_ne z] at q'
        exact .inl ⟨x, q'⟩
    · exact .inr (.inl q)
/-- raise C(e) -/
def tRz (K : PySem.W.Frag) (R0 C : Addr) (xw : Value → Option Addr → L2.St → Hp → Prop) (te : TE) : TS := fun _ σ H => tMkO C (spIni K R0) [] (tCons te tNil) σ H fun cls d H' => xw cls d σ H'
theorem ws_raise {n : Nat} {R0 : Addr} (hk : ErrK K R0 (c.ex n)) (h : WE K c e te Γ fun x Γ1 => e.xx ⟨n, x⟩ Γ1) : WS K c e (tRz K R0 (c.ex n) e.xw te) Γ Dn := fun σ H w a E g =>
  h σ H w a _ fun v H1 w1 x Γ1 l1 a1 r1 q => by
    refine ⟨Nat.succ_le_succ (Nat.zero_le _), fun b hb => ?_⟩
    refine ⟨b, c.ex n, v, rfl, hk, upd_same, fun dx hdx hne => ⟨rfl, dx, [("value", v)], upd_same, ?_, ?_, ?_⟩⟩
    · rw [upd_ne hne, upd_same]
    · rw [upd_ne hne] at hdx
      exact hdx
    · have hdx1 : H1 dx = none := by rw [upd_ne hne] at hdx; exact hdx
      have eH : upd (del (upd (upd (upd H1 b (exo b (c.ex n) none)) dx (exd dx [("value", v)])) b (exo b (c.ex n) (some dx))) b) dx (.xd [("value", v)]) = upd H1 dx (.xd [("value", v)]) := by
        funext y
        by_cases z : y = dx
        · subst z
          rw [upd_same, upd_same]
        · rw [upd_ne z, upd_ne z]
          by_cases z2 : y = b
          · subst z2
            rw [del_same, hb]
          · rw [del_ne z2, upd_ne z2, upd_ne z, upd_ne z2]
      rw [eH]
      obtain ⟨w2, l2, a2, m2⟩ := a1.toAt.allocX (v := v) hdx1
      exact a1.rz ⟨n, x⟩ dx v σ _ w2 Γ1 l2 a2 m2 (r1.mono l2) q
/-- where errors go is changed -/
def Ent.to (e : Ent) (xw : Value → Option Addr → L2.St → Hp → Prop) (xx : Xc → List A → Prop) : Ent := { e with xw := xw, xx := xx }
theorem At.to {xw : Value → Option Addr → L2.St → Hp → Prop} {xx : Xc → List A → Prop} (h : At K c e w σ H Γ) : At K c (e.to xw xx) w σ H Γ := ⟨h.ok, h.le, h.keep, h.fre, h.new, h.len, h.dat, h.own, h.bor, h.sep, h.par, h.hld⟩
theorem At.un {xw : Value → Option Addr → L2.St → Hp → Prop} {xx : Xc → List A → Prop} (h : At K c (e.to xw xx) w σ H Γ) : At K c e w σ H Γ := ⟨h.ok, h.le, h.keep, h.fre, h.new, h.len, h.dat, h.own, h.bor, h.sep, h.par, h.hld⟩
/-- try: body, except R as i: suite; what the body raises are instances of the program's classes; R is the class r of them (0: all) -/
theorem ws_try {tb : (Value → Option Addr → L2.St → Hp → Prop) → TS} {ts : Addr → Value → Option Addr → TS} {R : Addr} {r : Nat} (j : Nat) (X : Xc → List A → Prop)
    (hx : ∀ n : Nat, ∃ b, PySem.W.exmOne K (.ref (c.ex n)) (.ref R) = some b ∧ (b = true ↔ (r = 0 ∨ r = n)))
    (hb : ∀ e' : Ent, e'.xx = X → WS K c e' (tb e'.xw) Γ Dn)
    (hs : ∀ x Γ1, X x Γ1 → (r = 0 ∨ r = x.n) → (Γ1.getD j .un).isBor = false ∧ ∀ a dd, WS K c e (ts a (.ref (c.ex x.n)) (some dd)) (Γ1.set j (.d (.exc a dd x.v))) { nx := fun Γ2 => (Γ2.getD j .un).isBor = false ∧ Dn.nx (Γ2.set j .un), rt := Dn.rt, bk := fun Γ2 => (Γ2.getD j .un).isBor = false ∧ Dn.bk (Γ2.set j .un), ct := fun Γ2 => (Γ2.getD j .un).isBor = false ∧ Dn.ct (Γ2.set j .un) })
    (ho : ∀ x Γ1, X x Γ1 → ¬ (r = 0 ∨ r = x.n) → e.xx x Γ1) : WS K c e (fun D σ H => tb (wAs K (.ref R) j ts e.xw D) D σ H) Γ Dn := fun σ H w a E g => by
  refine hb (e.to (wAs K (.ref R) j ts e.xw E) X) rfl σ H w ⟨a.toAt.to, fun x dd v σ' H' w' Γ' l a' hd rv q => ?_⟩ E ⟨fun σ' H' w' Γ' l a' q => g.nx σ' H' w' Γ' l (a'.toAt.un.z a l) q, fun σ' H' w' Γ' l a' q => g.bk σ' H' w' Γ' l (a'.toAt.un.z a l) q, fun σ' H' w' Γ' l a' q => g.ct σ' H' w' Γ' l (a'.toAt.un.z a l) q, fun v rr σ' H' w' Γ' l a' rv q => g.rt v rr σ' H' w' Γ' l (a'.toAt.un.z a l) rv q⟩
  obtain ⟨b, h1, h2⟩ := hx x.n
  have q : X x Γ' := q
  have a1 : At K c e w' σ' H' Γ' := a'.un
  refine ⟨b, h1, fun hb' p hp => ?_, fun hb' => ?_⟩
  · obtain ⟨nb, hs'⟩ := hs x Γ' q (h2.mp hb')
    have a2 := a1.setD (i := j) (v := .ref p) (x := .exc p dd x.v) nb (.exc hd rv)
    refine hs' p dd _ H' w' (a2.z a l) _ ⟨fun σ2 H2 w2 Γ2 l2 a3 q3 => g.nx _ H2 w2 _ (l.trans l2) ((a3.drop q3.1).z a3 (W.le.refl w2)) q3.2, fun σ2 H2 w2 Γ2 l2 a3 q3 => g.bk _ H2 w2 _ (l.trans l2) ((a3.drop q3.1).z a3 (W.le.refl w2)) q3.2, fun σ2 H2 w2 Γ2 l2 a3 q3 => g.ct _ H2 w2 _ (l.trans l2) ((a3.drop q3.1).z a3 (W.le.refl w2)) q3.2, fun v2 r2 σ2 H2 w2 Γ2 l2 a3 rv2 q3 => g.rt v2 r2 σ2 H2 w2 Γ2 (l.trans l2) a3 rv2 q3⟩
  · refine a.rz x dd v σ' H' w' Γ' l a1 hd rv (ho x Γ' q fun z => ?_)
    rw [h2.mpr z] at hb'
    cases hb'
/-- e.value, e the error in slot i -/
theorem we_xf {p dd : Addr} {x : D} {C : Addr} (h : Γ[i]? = some (.d (.exc p dd x))) (h1 : XfC K C) (h2 : PySem.W.findIn K (.ref C) "value" = some none) (q : Q x Γ) : WE K c e (tXfA K p (.ref C) (some dd) "value" i) Γ Q := fun σ H w a P k => by
  obtain ⟨v, h3, h4⟩ := a.dat i _ h
  cases h4 with
  | exc hm rv => exact ⟨h3, C, dd, _, _, rfl, h1, h2, rfl, a.ok.sub _ _ hm, by simp [List.lookup], k _ H w x Γ (W.le.refl w) a rv q⟩
theorem cb_isX {p dd : Addr} {x : D} {C C2 : Addr} {b : Bool} (h1 : IsK K C) (h2 : PySem.W.kitOne K (.ref C) (.ref C2) = some b) (q : Q (.bl b) Γ) : Cb K c e (rIsX K p (.ref C) (some dd)) [.exc p dd x, .raw (.ref C2)] Γ Q := fun σ H w vs a r P k => by
  cases r with
  | cons r0 r =>
    cases r with
    | cons r1 r =>
      cases r
      cases r1
      cases r0 with
      | exc hm rv => exact ⟨C, dd, _, _, b, rfl, rfl, h1, rfl, a.ok.sub _ _ hm, .inl ⟨_, fun u z => z, h2⟩, k _ H w _ Γ (W.le.refl w) a (.bl b) q⟩
theorem cb_isXT {p dd : Addr} {x : D} {C : Addr} {n : String} {b : Bool} (h1 : IsK K C) (h2 : PySem.W.kitOne K (.ref C) (.type n) = some b) (q : Q (.bl b) Γ) : Cb K c e (rIsX K p (.ref C) (some dd)) [.exc p dd x, .raw (.ty n)] Γ Q := fun σ H w vs a r P k => by
  cases r with
  | cons r0 r =>
    cases r with
    | cons r1 r =>
      cases r
      cases r1
      cases r0 with
      | exc hm rv => exact ⟨C, dd, _, _, b, rfl, rfl, h1, rfl, a.ok.sub _ _ hm, .inl ⟨_, fun u z => z, h2⟩, k _ H w _ Γ (W.le.refl w) a (.bl b) q⟩
def raws (cs : List Addr) : List D := cs.map fun a => .raw (.ref a)
theorem raws_v : ∀ {cs : List Addr} {vs : List V}, RpA K c w vs (raws cs) → ∀ us, Vals vs us → us = cs.map Value.ref
  | [], _, .nil, _, .nil => rfl
  | a :: cs, _, .cons (.raw _) t, _, .cons r s => by
    have e1 := raws_v t _ s
    have e2 : _ = Value.ref a := r
    rw [e1, e2]
    rfl
theorem cb_isXs {p dd : Addr} {x : D} {C : Addr} {cs : List Addr} {b : Bool} (h1 : IsK K C) (h2 : PySem.W.kitAny K (.ref C) (cs.map Value.ref) = some b) (q : Q (.bl b) Γ) : Cb K c e (rIsX K p (.ref C) (some dd)) [.exc p dd x, .tup (raws cs)] Γ Q := fun σ H w vs a r P k => by
  cases r with
  | cons r0 r =>
    cases r with
    | cons r1 r =>
      cases r
      cases r1 with
      | tup hm1 ra =>
        cases r0 with
        | exc hm rv => exact ⟨C, dd, _, _, b, rfl, rfl, h1, rfl, a.ok.sub _ _ hm, .inr ⟨_, _, _, rfl, a.ok.sub _ _ hm1, raws_v ra, h2⟩, k _ H w _ Γ (W.le.refl w) a (.bl b) q⟩
end
end RR

set_option Elab.async false
set_option linter.all false
set_option maxRecDepth 100000
set_option maxHeartbeats 4000000
/-! RS: an __init__ that begins with super().__init__() -/
namespace RX
open PySem PySem.W PySem.Calls PyProof.Rows L2

/-- the text: super().__init__() ahead of rest -/
structure SupText (P : Program) (st : Stmt) (rest : List Stmt) : Prop where
  body : ∃ p0 p1 p2 p4 p5, defBody st = .Expr (.Call (.Attribute (.Call (.Name "super" p0) [] [] p1) "__init__" p2) [] [] p4) p5 :: rest ∧
    ∃ pl, ∀ env, eval (.Call (.Attribute (.Call (.Name "super" p0) [] [] p1) "__init__" p2) [] [] p4) env = (do
      let ov ← attributeBase (.Call (.Name "super" p0) [] [] p1) "__init__" env (eval (.Call (.Name "super" p0) [] [] p1) env)
      standAt p2.atName
      let (f, first) ← holding [ov] (getMethod ov "__init__" pl)
      callWith p4 f first (backTo p4 (starEach [] env)) [])
  sup : (defScope st).names.lookup ("super" : Str) = some .globalImplicit
  cls : (defScope st).names.lookup ("__class__" : Str) = some .free
  slf : (defScope st).names.lookup ("self" : Str) = some .local
  knd : (defScope st).kind = .function
  co : (defScope st).isCoroutine = false
  gen : (defScope st).isGenerator = false
  ncl : ∀ x ∈ (defScope st).names, x.2 ≠ .cell
  ofr : ∀ x ∈ (defScope st).names, x.2 = .free → x.1 = "__class__"
  top : (P.main.scope.names.lookup ("super" : Str)).isSome = false
  par : ∃ ar, ((defArgs st).posonlyargs ++ (defArgs st).args).head? = some ar ∧ ar.arg = "self"
/-- what the top has written of it: D is the class in which it stands -/
structure SupK (P : Program) (K : Frag) (mg : Str → Option Value) (st : Stmt) (qual : Str) (fI D cda cc : Addr) (fd : FuncData) : Prop where
  fn : ∃ oc od kV doc pm an ct osl, fd = ksFn "__init__" qual (defArgs st) (defBody st) (defScope st) .none kV doc pm an (.ref cda) ct cc ∧ K.lookup fI = some ⟨oc, od, .func fd, osl⟩ ∧ codeIn K (.ref cda) qual = true ∧
    (∃ ccl cdd vs ccs file tf, K.lookup cda = some ⟨ccl, cdd, .fields vs, ccs⟩ ∧ vs[2]? = some (.str file tf) ∧ ((P.main.file : Str) == file) = true) ∧ ∃ cl cld csl, K.lookup cc = some ⟨cl, cld, .cell (some (.ref D)), csl⟩
  cls : ∃ cd, clsIn K D = some cd
  sup : mg "super" = none
  op : nsIn K cStatics "thirdparty.any" = some none
/-- C's next __init__ behind D's is f0 -/
structure SupC (K : Frag) (C D f0 : Addr) : Prop where
  along : ks_superIn K C D "__init__" = some (some (.ref f0))
  sub : mroIn K C (.ref D) = some true
  ty : typeIn K (.ref f0) = some (.type "function")
  fn : fnIn K f0 = true
/-- the names and parameters -/
structure SupN (N ps : List Str) (sc : Scope) : Prop where
  nd : N.Nodup
  pre : N.take ps.length = ps
  par : ∀ x ∈ ps, sc.names.lookup x = some .local
def cxS (P : Program) (w : World) (K : Frag) (mg : Str → Option Value) (base : Heap) (N : List Str) (qual : Str) (scope : Scope) (f : Addr) (cda cc : Addr) (A : Around) (outer : List Env) (s : Shared) (H : Hp) (E : XK) : Cx where
  prog := P
  w := w
  K := K
  mg := mg
  base := base
  A := A.deeper (ksEnv qual scope s.heap.objs.size f (.ref cda) cc)
  N := N
  s_0 := s
  H_0 := H
  env := ksEnv qual scope s.heap.objs.size f (.ref cda) cc
  outer := outer
  stack := ksEnv qual scope s.heap.objs.size f (.ref cda) cc :: outer
  ex := []
  calm := true
  fn := fun x => decide (x ≠ "__class__")
  pn := []
  xe := fun e s' => wpAny (model P w) (A.deeper (ksEnv qual scope s.heap.objs.size f (.ref cda) cc)) (leaving (ksEnv qual scope s.heap.objs.size f (.ref cda) cc) e) (fun _ s'' => L2.CX P w outer H s E e s'') (fun e' s'' => L2.CX P w outer H s E e' s'') s'
theorem one_cell {x : Str} {c cc : Addr} (h : List.lookup x [(("__class__" : Str), cc)] = some c) : x = "__class__" ∧ c = cc := by
  unfold List.lookup at h
  cases e : x == ("__class__" : Str) with
  | true => rw [e] at h; cases h; exact ⟨by simpa using e, rfl⟩
  | false => rw [e] at h; cases h
theorem look_app {y : Str} : ∀ (a b : List (Str × Value)), (a ++ b).lookup y = (a.lookup y).or (b.lookup y)
  | [], b => rfl
  | (x, v) :: a, b => by
    rw [List.cons_append, List.lookup_cons, List.lookup_cons]
    cases e : y == x with
    | true => rfl
    | false => exact look_app a b
theorem look_out {y : Str} : ∀ (ps : List Str) (us : List Value), y ∉ ps → ((ps.zip us).reverse).lookup y = none
  | [], us, _ => rfl
  | p :: ps, [], _ => rfl
  | p :: ps, u :: us, h => by
    show (List.reverse ((p, u) :: ps.zip us)).lookup y = none
    rw [List.reverse_cons, look_app, look_out ps us fun z => h (List.mem_cons_of_mem _ z)]
    have : (y == p) = false := by simp; intro z; exact h (z ▸ List.mem_cons_self)
    simp [List.lookup, this]
theorem look_zip {y : Str} {u : Value} : ∀ {ps : List Str} {us : List Value} {i : Nat}, ps.Nodup → ps[i]? = some y → us[i]? = some u → ((ps.zip us).reverse).lookup y = some u
  | [], us, i, _, h, _ => by simp at h
  | p :: ps, [], i, _, _, h => by simp at h
  | p :: ps, u0 :: us, 0, nd, h1, h2 => by
    simp at h1 h2
    subst h1
    subst h2
    show (List.reverse ((p, u0) :: ps.zip us)).lookup p = _
    rw [List.reverse_cons, look_app, look_out ps us (List.nodup_cons.mp nd).1]
    simp [List.lookup]
  | p :: ps, u0 :: us, i + 1, nd, h1, h2 => by
    show (List.reverse ((p, u0) :: ps.zip us)).lookup y = _
    rw [List.reverse_cons, look_app, look_zip (i := i) (List.nodup_cons.mp nd).2 (by simpa using h1) (by simpa using h2)]
    rfl
section
variable {P : Program} {w : World} {K : Frag} {mg : Str → Option Value} {base : Heap} {st : Stmt} {qual : Str} {fI D cda cc : Addr} {fd : FuncData} {N ps : List Str} {rest : List Stmt}
theorem sup_inv {A : Around} {outer : List Env} {s : Shared} {H : Hp} {E : XK} {us : List Value} {vs : List V} {h₀ : Heap} {t : Nat} (T : SupText P st rest) (S : SupN N ps (defScope st)) (hd : A.handled = none) (e0 : Env0 P w K mg base A outer s H) (hl : vs.length = ps.length) (r : Vals vs us)
    (hcell : ∃ cl cld csl, K.lookup cc = some ⟨cl, cld, .cell (some (.ref D)), csl⟩) (hns : h₀.Ns s.heap.objs.size (fun x => (ps.zip us).reverse.lookup x)) (hk : ∀ b o, s.heap.get? b = some o → h₀.get? b = some o) :
    Inv (cxS P w K mg base N qual (defScope st) fI cda cc A outer s H E) [] (L2.start N vs) H { s with heap := h₀, toks := t } := by
  obtain ⟨cl, cld, csl, hcc⟩ := hcell
  have hb := e0.mod.kin _ _ hcc
  have cell : ∀ (x : Str) c, List.lookup x [(("__class__" : Str), cc)] = some c → x = "__class__" ∧ c = cc := fun x c h => one_cell h
  have noA : ∀ b : Addr, b ∉ ([] : List Addr) := fun b z => nomatch z
  have hpl : ps.length ≤ N.length := by have := congrArg List.length S.pre; rw [List.length_take] at this; omega
  have ndP : ps.Nodup := by rw [← S.pre]; exact S.nd.sublist (List.take_sublist _ _)
  have ok : (cxS P w K mg base N qual (defScope st) fI cda cc A outer s H E).Ok :=
    { mod := e0.mod, kind := T.knd, glob := rfl, blt := rfl, above := Nat.le_refl _
      inj := fun x y c h1 h2 => (cell x c h1).1.trans (cell y c h2).1.symm
      has := fun x h => by
        have h : (defScope st).names.lookup x = some .cell ∨ (defScope st).names.lookup x = some .free := h
        rcases h with h | h
        · exact absurd rfl (T.ncl _ (PySem.mem_of_lookup h))
        · obtain rfl : x = "__class__" := T.ofr _ (PySem.mem_of_lookup h) rfl
          exact ⟨cc, by show List.lookup ("__class__" : Str) [(("__class__" : Str), cc)] = some cc; simp [List.lookup]⟩
      cab := fun x c h1 h2 => by
        have h1 : decide (x ≠ ("__class__" : Str)) = true := h1
        exact absurd (cell x c h2).1 (of_decide_eq_true h1)
      hd := fun _ => hd, frames := Around.frames_deeper e0.frames, stk := .inr ⟨rfl, rfl⟩, exf := fun b z => absurd z (noA b), bs := e0.bs, bsz := e0.bsz, noex := fun b _ _ => noA b, exfs := fun b z => absurd z (noA b), funs := e0.funs, frf := e0.frf }
  refine ⟨ok, rfl, e0.bare, Un.kept hk, ⟨_, hns, fun i y v h1 h2 h3 => ?_⟩, fun y c h => ?_, e0.hok.fresh (Nat.le_refl _), fun y c h => ?_, fun p hp => absurd (show p ∈ ([] : List (Addr × Obj)) from hp) (by simp), e0.hok.kept hk, ?_⟩
  · have hi : i < vs.length := by
      unfold L2.start at h2
      by_cases z : i < vs.length
      · exact z
      · rw [List.getElem?_append_right (by simpa using z), List.getElem?_replicate] at h2
        split at h2 <;> cases h2
    have ha : vs[i]? = some v := by
      unfold L2.start at h2
      rw [List.getElem?_append_left (by simpa using hi), List.getElem?_map] at h2
      cases e : vs[i]? with
      | none => rw [e] at h2; cases h2
      | some a => rw [e] at h2; cases h2; rfl
    obtain ⟨u, hu, rv⟩ := r.get ha
    have hp : ps[i]? = some y := by
      rw [← S.pre, List.getElem?_take_of_lt (by omega)]; exact h1
    refine ⟨u, rv, .inl ⟨S.par y (List.mem_of_getElem? hp), ?_⟩⟩
    exact look_zip ndP hp hu
  · obtain ⟨_, rfl⟩ := cell y c h
    exact ⟨_, _, hk _ _ (e0.bs _ _ hb).1, rfl⟩
  · obtain ⟨_, rfl⟩ := cell y c h
    exact (e0.bs _ _ hb).2
  · unfold L2.start
    show _ = N.length
    rw [List.length_append, List.length_map, List.length_replicate]
    omega
theorem super_ok {k : Nat} {f0 : Addr} {fd0 : FuncData} {sp sp0 : Sp} (T : SupText P st rest) (F : SupK P K mg st qual fI D cda cc fd) (S : SupN N ps (defScope st)) (p0 : ps.head? = some "self")
    (F0 : FnOk P w K mg base (L2.CX P w) k f0 fd0 ["self"] sp0) (b0 : Binds K fd0 ["self"] []) (len : ∀ vs H Q E, sp vs H Q E → vs.length = ps.length)
    (hb : ∀ (A : Around) (outer : List Env) (s : Shared) (H : Hp) (vs : List V) (Q : VK) (E : XK), Room k (A.deeper (ksEnv qual (defScope st) s.heap.objs.size fI (.ref cda) cc)) → sp vs H Q E →
      ∃ a C dx fs vr t, vs = .ref a :: vr ∧ H a = some (.ins C dx fs) ∧ SupC K C D f0 ∧ PSs (cxS P w K mg base N qual (defScope st) fI cda cc A outer s H E) rest t ∧ sp0 [.ref a] H (fun _ H1 => t { nx := fun _ H' => Q .non H', rt := Q } (L2.start N vs) H1) fun _ _ _ => False) :
    FnOk P w K mg base (L2.CX P w) (k + 1) fI fd ps sp := by
  refine ⟨len, fun A outer s H args us vs Q E hr he hbd hv hsp => ?_⟩
  obtain ⟨oc, od, kV, doc, pm, an, ct, osl, rfl, hf, hcd, ⟨ccl, cdd, cvs, ccs, file, tf, hcode, hvs2, hfile⟩, hcell⟩ := F.fn
  obtain ⟨a, C, dx, fs, vr, t, rfl, ha, X, hP, h0⟩ := hb A outer s H vs Q E (hr.deeper _) hsp
  have hl : (V.ref a :: vr).length = ps.length := len _ _ _ _ hsp
  have Kb : K.In s.heap := fun b o e => (he.bs b o (he.mod.kin b o e)).1
  have keepB : ∀ b o, base.get? b = some o → s.heap.get? b = some o := fun b o e => (he.bs b o e).1
  obtain ⟨mb, hmb, hboot⟩ := he.mod.blt
  have hlim : s.heap.NoLimit := he.mod.nolimit.keeps keepB
  obtain ⟨p0', p1, p2, p4, p5, hbody, pl, hev⟩ := T.body
  obtain ⟨ar, har, harg⟩ := T.par
  refine ks_codeAny_call_defAt (body := defBody st) hr.depth (Kb _ _ hf) rfl hlim (codeRec_of Kb hcd) rfl hbd T.ncl (fun y hy => ?_) (fun h₀ hns hk => ?_) T.co T.gen T.knd
  · exact S.par y.1 (List.of_mem_zip (a := y.1) (b := y.2) hy).1
  have I0 := sup_inv (w := w) (fI := fI) (cda := cda) (qual := qual) (E := E) (t := s.toks + (ps.zip us).length) T S hr.hd he hl hv hcell hns hk
  have K0 : K.In h₀ := fun b o e => hk b o (Kb b o e)
  obtain ⟨cl, cld, csl, hcc⟩ := hcell
  obtain ⟨u0, us', rfl, hu0, hv'⟩ : ∃ u1 us', us = u1 :: us' ∧ RelV (.ref a) u1 ∧ Vals vr us' := by cases hv with | cons r t => exact ⟨_, _, rfl, r, t⟩
  obtain rfl : u0 = .ref a := hu0
  have hself : (ps.zip (Value.ref a :: us')).reverse.lookup ("self" : Str) = some (.ref a) := by
    have ndP : ps.Nodup := by rw [← S.pre]; exact S.nd.sublist (List.take_sublist _ _)
    exact look_zip (i := 0) ndP (by rw [← List.head?_eq_getElem?]; exact p0) rfl
  rw [hbody]
  refine ks_wpAt_execs_cons (ks_wpAt_Expr_any (hi := inter T.knd) (ks_wpAt_MethodCall (pl := pl) (he := hev _) (ks_wpAt_super_base T.sup T.cls (by decide +kernel) rfl (K0 _ _ hf) rfl har rfl (K0 _ _ hcode) rfl hvs2 hfile T.top ?_)))
  refine ks_loadName_global T.knd T.sup (loadGlobal_builtin (he.mod.glob.keeps fun b o e => hk b o (keepB b o e)) F.sup (hmb.keeps fun b o e => hk b o (keepB b o e)) ((hboot _ (by decide +kernel)).trans (by decide +kernel)) ⟨rfl, ?_⟩)
  refine wpAny_loadName_free T.knd T.cls rfl ⟨_, K0 _ _ hcc, rfl⟩ ?_
  rw [harg]
  refine loadV T.knd T.slf hns hself ?_
  obtain ⟨cdD, hcdD⟩ := F.cls
  obtain ⟨oD, hD1, hD2⟩ : ∃ oR, h₀.get? D = some oR ∧ oR.data = .cls cdD := by
    unfold clsIn at hcdD
    split at hcdD
    · rename_i ho
      cases hcdD
      exact ⟨_, K0 _ _ ho, rfl⟩
    · cases hcdD
  refine ks_wpAny_isType_cls hD1 hD2 ⟨rfl, ?_⟩
  obtain ⟨mA, O, _, _, _, _⟩ := ins_get I0.hok ha
  obtain ⟨od0, J, _⟩ := O.look
  refine ks_wpAny_call_super hD1 hD2 J.at_ rfl (fun c z => by cases z) (looks_mroIn K0 X.sub) (fun h1 hso k1 => ?_)
  have K1 : K.In h1 := fun b o e => k1 b o (K0 b o e)
  have al := X.along
  unfold ks_superIn at al
  cases hc : clsIn K C with
  | none => rw [hc] at al; cases al
  | some cd =>
    rw [hc] at al
    obtain ⟨of, hof, hofc⟩ : ∃ of, h1.get? f0 = some of ∧ of.cls = .type "function" := by
      have ht' : (K.lookup f0).map (·.cls) = some (.type "function") := X.ty
      cases z : K.lookup f0 with
      | none => rw [z] at ht'; cases ht'
      | some of => rw [z] at ht'; exact ⟨of, K1 _ _ z, Option.some.inj ht'⟩
    have haC : a ≠ C := ks_ne K0 J hc
    refine ks_wpAny_getMethod_super hso (looks_opaque K1 F.op) (l₀ := cd.mro) ?_ rfl K1 al hof hofc haC (by decide +kernel) ?_
    · exact fun A Q E s k q => wpAny_bind ((looks_clsIn K1 hc) A _ E s k (wpAny_pure q))
    have I1 := I0.kept (h' := h1.push (methodObj (.ref f0) (.ref a))) (t' := s.toks + (ps.zip (Value.ref a :: us')).length + 1) fun b o e => Heap.get?_push_of_some _ (k1 b o e)
    have hq : (h1.push (methodObj (.ref f0) (.ref a))).get? h1.objs.size = some (methodObj (.ref f0) (.ref a)) := Heap.get?_push_size _ rfl
    refine callWith_M0 (first := []) (self := .ref a) ⟨hq, I1.kIn⟩ X.fn ?_
    refine wpAny_call (method_call (self := .ref a) hq (codeAny_mono (F0.run _ _ _ H ⟨[.ref a], []⟩ [.ref a] [.ref a] _ _ (hr.deeper _) I1.env0 (b0 _ [.ref a] I1.kIn rfl) (.cons rfl .nil) h0) fun r s' h => ?_))
    match r, h with
    | .error er, h =>
      obtain ⟨_, _, _, _, _, _, _, _, _, _, _, _, z⟩ := h
      exact z.elim
    | .ok .next, h => exact False.elim h
    | .ok .brk, h => exact False.elim h
    | .ok .cont, h => exact False.elim h
    | .ok (.ret u), h =>
      obtain ⟨v, H1, I2, rv, q⟩ := I1.after h
      refine wpAt_of_wpAny (wpAny_mono (hP.run [] s' _ H1 _ I2 q) (fun fl s2 hs => ?_) fun e s2 hs => hs)
      cases fl with
      | ret u =>
        obtain ⟨v, σ', H', J, rv, q⟩ := hs
        exact ⟨v, H', J.os, J.bare, J.base, J.hok, rv, q⟩
      | next =>
        obtain ⟨σ', H', J, q⟩ := hs
        exact ⟨V.non, H', J.os, J.bare, J.base, J.hok, rfl, q⟩
      | brk =>
        obtain ⟨_, _, _, q⟩ := hs
        exact q.elim
      | cont =>
        obtain ⟨_, _, _, q⟩ := hs
        exact q.elim
end
end RX

set_option Elab.async false
set_option linter.all false
set_option maxRecDepth 100000
set_option maxHeartbeats 4000000
/-! RE: the end of a law whose defs must know that nothing is being shown -/
namespace RH
open PySem PySem.Spec PyProof.Rows L2
section
variable {P : Program} {w : World} {K : PySem.W.Frag} {mg mb : Str → Option Value} {k : Nat} {fa a : Addr} {fd : FuncData} {x : Str} {sp : Sp} {s : Shared} {vs : List Value} {ns : List Int}
/-- what is tracked at first: the script, unless the top has written it -/
theorem first_heap (ha : s.heap.get? a = some { cls := .type "list", data := .seq vs.toArray }) (hi : IntsAre vs ns) (hl : ns.length ≤ sizeLine) (KX : K.In s.heap) :
    ∃ H : Hp, Only H ∧ SqL K H a (ns.map V.int) ∧ HOk P w H s.heap ∧ ∀ b, H b ≠ none → b = a ∧ K.lookup b = none := by
  have rv := vals_ints hi
  cases q : K.lookup a with
  | some ob =>
    have z := KX a ob q
    rw [ha] at z
    cases z
    exact ⟨fun _ => none, fun _ => .inl rfl, .inr ⟨_, vs.toArray, _, q, rfl, rfl, rfl, by rw [List.size_toArray, hi.length]; exact hl, by simpa using rv⟩, by (intro b u z; cases z), fun b z => absurd rfl z⟩
  | none =>
    obtain ⟨u, hu⟩ : ∃ u : HO, u = .frz { cls := .type "list", data := .seq vs.toArray } (.lst (ns.map V.int)) := ⟨_, rfl⟩
    have at_ : ∀ b v, upd (fun _ => none) a u b = some v → b = a ∧ u = v := fun b v z => by
      by_cases e : b = a
      · subst e; rw [upd_same] at z; exact ⟨rfl, Option.some.inj z⟩
      · rw [upd_ne e] at z; cases z
    refine ⟨upd (fun _ => none) a u, fun b => ?_, .inl (.inr ⟨{ cls := .type "list", data := .seq vs.toArray }, by rw [upd_same, hu]⟩), fun b v z => ?_, fun b z => ?_⟩
    · by_cases e : b = a
      · subst e; exact .inr ⟨_, _, by rw [upd_same, hu]⟩
      · exact .inl (upd_ne e)
    · obtain ⟨rfl, rfl⟩ := at_ b v z
      subst hu
      exact ⟨ha, by rw [List.length_map]; exact hl, vs, _, rv, ha⟩
    · by_cases e : b = a
      · subst e; exact ⟨rfl, q⟩
      · exact absurd (upd_ne e) z
theorem law_end (KX : K.In s.heap) (hns : s.heap.Ns mainGlobals mg) (hb : s.heap.Ns builtinsNs mb) (hbb : ∀ x : Str, x ≠ "__name__" → mb x = bootBuiltins x) (hlim : s.heap.NoLimit) (hg : s.gens = #[])
    (ha : s.heap.get? a = some { cls := .type "list", data := .seq vs.toArray }) (hi : IntsAre vs ns) (hl : ns.length ≤ sizeLine) (hr : Room k callerA)
    (F : ∀ base : Heap, K.In base → base.Ns mainGlobals mg → FnG P w K mg base (L2.CX P w) k fa fd [x] sp) (hbind : ∀ (s : Shared) (u : Value), BindsTo s fd ⟨[u], []⟩ [(x, u)])
    (hsp : ∀ H : Hp, Only H → SqL K H a (ns.map V.int) → sp [.ref a] H (fun v _ => v = .bl true) fun _ _ _ => False) :
    codeAny (model P w) callerA (.call (.ref fa) ⟨[.ref a], []⟩) (fun r s' => r = .ok (.ret (.bool true)) ∧ OldK s.heap s'.heap ∧ s'.os = s.os ∧ AllBare s'.gens) s := by
  obtain ⟨H, h1, h2, h3, h4⟩ := first_heap (P := P) (w := w) ha hi hl KX
  have free : ∀ (b : Addr) (o : Obj), s.heap.get? b = some o → (∀ es ep, o.data ≠ .dict es ep) ∨ H b = none := fun b o q => by
    cases z : H b with
    | none => exact .inr rfl
    | some u =>
      obtain ⟨rfl, _⟩ := h4 b (by rw [z]; exact fun y => nomatch y)
      rw [ha] at q
      cases q
      exact .inl fun es ep y => nomatch y
  have up : ∀ {b : Addr} {m : Str → Option Value}, s.heap.Ns b m → (hidT s.heap H).Ns b m := fun {b m} ⟨o, es, ep, q, d, r⟩ => ⟨o, es, ep, hidT_get q ((free b o q).resolve_left fun z => z es ep d), d, r⟩
  have kin : K.In (hidT s.heap H) := fun b o q => hidT_get (KX b o q) (by
    cases z : H b with
    | none => rfl
    | some u =>
      have y := (h4 b (by rw [z]; exact fun y => nomatch y)).2
      rw [q] at y; cases y)
  obtain ⟨mc, l1, l2⟩ := hlim
  have E0 : Env0 P w K mg (hidT s.heap H) callerA [] s H :=
    { frames := rfl, mod := ⟨kin, up hns, ⟨mb, up hb, hbb⟩, ⟨mc, up l1, l2⟩⟩, bs := fun b o q => of_hidT q, bsz := Nat.le_of_eq (hidT_size _ _), funs := trivial, frf := fun b q => (nomatch (show b ∈ ([] : List Addr) from q)), hok := h3, bare := .of_eq hg }
  refine codeAny_mono ((F _ kin (up hns)).run callerA [] s H ⟨[.ref a], []⟩ [.ref a] [.ref a] _ _ rfl hr E0 (hbind s (.ref a)) (.cons rfl .nil) (hsp H h1 h2)) fun r s' q => ?_
  match r, q with
  | .error u, q =>
    obtain ⟨_, _, _, _, _, _, _, _, _, _, _, _, z⟩ := q
    exact z.elim
  | .ok .next, q => exact False.elim q
  | .ok .brk, q => exact False.elim q
  | .ok .cont, q => exact False.elim q
  | .ok (.ret u), q =>
    obtain ⟨v, H', os, bare, un, hk', rv, z⟩ := q
    cases (show v = .bl true from z)
    cases (show u = Value.bool true from rv)
    refine ⟨rfl, OldK.of_keep fun b o q => ?_, os, bare⟩
    rcases h1 b with z | ⟨ob, xs, z⟩
    · exact un.keep b o q z (fun y => nomatch (show b ∈ ([] : List Addr) from y)) (by simp)
    · obtain ⟨e1, _⟩ := h3 b _ z
      obtain ⟨e2, _⟩ := hk' b _ (un.frzs b ob _ z)
      rw [q] at e1
      cases e1
      exact e2
end
theorem walk_G {l : PySem.W.OpenLaw} {n k : Nat} {q : Program} {loose : List Str} {XP : (Str → Option Value) → Heap → Prop} {YP : World → Heap → Prop} {d : DefRec} {K : Params → PySem.W.Frag} {sp : World → Sp} {x : Str}
    (hn : l.most = some n) (hn2 : n ≤ sizeLine) (hdf : d.params.defaults = []) (hr : Room k callerA) (hY : ∀ (w : World) (h : Heap), YP w h → (K w.params).In h)
    (F : ∀ (w : World) (mg : Str → Option Value) (fa : Addr) (h : Heap), (K w.params).In h → h.Ns mainGlobals mg → mg d.name = some (.ref fa) →
      ∃ fd : FuncData, (∀ (s : Shared) (u : Value), BindsTo s fd ⟨[u], []⟩ [(x, u)]) ∧ ∀ base : Heap, (K w.params).In base → base.Ns mainGlobals mg → FnG l.prog w (K w.params) mg base (L2.CX l.prog w) k fa fd [x] (sp w))
    (hsp : ∀ (w : World) (H : Hp) (a : Addr) (ns : List Int), ns.length ≤ n → (∀ z ∈ ns, Builtin.Int.intBits z ≤ 1048576) → Only H → SqL (K w.params) H a (ns.map V.int) → sp w [.ref a] H (fun v _ => v = .bl true) fun _ _ _ => False) :
    PySem.W.WalkO q loose XP YP l.row.toRowW d [] (fun f vs => PySem.call f vs) := by
  refine Att.attach_callB hn hdf fun w s0 s mg mb fa o pm cd doc a vs ns G Y ho hd hcd hmg hobj hints hlen hbits hg => ?_
  have KX := hY w _ Y
  obtain ⟨fd, hb, hF⟩ := F w mg fa _ KX G.T.g hmg
  exact law_end KX G.T.g G.T.b G.T.builtins G.T.nolimit hg hobj hints (Nat.le_trans hlen hn2) hr hF hb fun H hO hS => hsp w H a ns hlen hbits hO hS
end RH

set_option Elab.async false
set_option linter.all false
set_option maxRecDepth 100000
set_option maxHeartbeats 4000000
/-! RG: contracts, what the top has left, some more rules -/
namespace RR
open PySem L2 RH RX

/-! ### contracts -/
def Ct {α : Type} (pre : α → List A → Prop) (post : α → Rs → List A → Prop) (err : α → Xc → List A → Prop) : PF := fun as Q X => ∃ a, pre a as ∧ (∀ r as', post a r as' → Q r as') ∧ ∀ x as', err a x as' → X x as'
theorem Ct.mono {α : Type} {pre : α → List A → Prop} {post : α → Rs → List A → Prop} {err : α → Xc → List A → Prop} : (Ct pre post err).Mono := fun as Q1 Q2 X1 X2 hq hx ⟨a, h1, h2, h3⟩ => ⟨a, h1, fun r as' h => hq r as' (h2 r as' h), fun x as' h => hx x as' (h3 x as' h)⟩
/-- nothing is raised -/
def noX {α : Type} : α → Xc → List A → Prop := fun _ _ _ => False
/-- for both classes of books (or any other choice) -/
def pfX {β : Type} (F : β → PF) : PF := fun as Q X => ∃ b, F b as Q X
theorem pfX.mono {β : Type} {F : β → PF} (h : ∀ b, (F b).Mono) : (pfX F).Mono := fun as Q1 Q2 X1 X2 hq hx ⟨b, q⟩ => ⟨b, h b as Q1 Q2 X1 X2 hq hx q⟩
/-- the length of the arguments -/
def Len (n : Nat) (F : PF) : Prop := ∀ as Q X, F as Q X → as.length = n
theorem Ct.len {α : Type} {n : Nat} {pre : α → List A → Prop} {post : α → Rs → List A → Prop} {err : α → Xc → List A → Prop} (h : ∀ a as, pre a as → as.length = n) : Len n (Ct pre post err) := fun as _ _ ⟨a, q, _⟩ => h a as q
theorem pfX.len {β : Type} {n : Nat} {F : β → PF} (h : ∀ b, Len n (F b)) : Len n (pfX F) := fun as Q X ⟨b, q⟩ => h b as Q X q

section
variable {K : PySem.W.Frag} {c : Cs} {vs : List V} {H : Hp} {Q : VK} {E : XK}
theorem spF_len {n : Nat} {F : PF} (h : Len n F) (q : spF K c F vs H Q E) : vs.length = n := by
  obtain ⟨w, as, a, q⟩ := q
  have e := a.len
  rw [List.length_map] at e
  rw [e]
  exact h _ _ _ q
theorem spF_ex {β : Type} {F : β → PF} (q : spF K c (pfX F) vs H Q E) : ∃ b, spF K c (F b) vs H Q E := by
  obtain ⟨w, as, a, b, q⟩ := q
  exact ⟨b, w, as, a, q⟩
theorem passF {X : Cx} : Passes (L2.CX X.prog X.w) X (fun _ _ _ => False) := fun _ _ _ _ _ _ _ ⟨_, _, _, _, _, _, _, _, _, _, _, _, z⟩ => z.elim
end

/-! ### the address of a book's class -/
def cb (c : Cs) (b : Bool) : Addr := if b then c.small else c.book

/-- an instance's type is seen as it is -/
structure TyI (K : PySem.W.Frag) (C : Addr) : Prop where
  cl : Cls K C
  ca : PySem.W.findIn K (.ref C) "__class__" = some (some (.builtin "object.__class__"))
  sp : PySem.W.specialIn K (.builtin "object.__class__") "__get__" = some (some (.builtin "getset_descriptor.__get__"))
  tk : PySem.W.takesIn K (.builtin "object.__class__") = some true
  mo : PySem.W.mroIn K C (.type "object") = some true
theorem TyI.ty {K : PySem.W.Frag} {C p dx : Addr} {fv : List (Str × V)} {H : Hp} (t : TyI K C) (h : H p = some (.ins C dx fv)) : TyX K H (.ref p) (.ref C) := .base (.ins h t.cl t.ca t.sp t.tk t.mo)
/-! ### what the top has left, def by def -/
section
variable (P : Program) (w : World) (K : PySem.W.Frag) (mg : Str → Option Value) (base : Heap)
structure CalA (k : Nat) (x : Str) (ps : List Str) (sp : Sp) (f : Addr) (fd : FuncData) : Prop where
  F : FnOk P w K mg base (L2.CX P w) k f fd ps sp
  m : mg x = some (.ref f)
  kp : PySem.W.keepIn K (.ref f) = true
  b : Binds K fd ps []
structure CalGA (k : Nat) (x : Str) (ps : List Str) (sp : Sp) (f : Addr) (fd : FuncData) : Prop where
  F : FnG P w K mg base (L2.CX P w) k f fd ps sp
  m : mg x = some (.ref f)
  kp : PySem.W.keepIn K (.ref f) = true
  b : Binds K fd ps []
structure CalMA (k : Nat) (C : Addr) (x : Str) (ps : List Str) (sp : Sp) (f : Addr) (fd : FuncData) : Prop where
  F : FnOk P w K mg base (L2.CX P w) k f fd ps sp
  h : Meth K C x f
  b : Binds K fd ps []
structure CalPA (k : Nat) (C : Addr) (x : Str) (ps : List Str) (sp : Sp) (p f : Addr) (fd : FuncData) : Prop where
  F : FnOk P w K mg base (L2.CX P w) k f fd ps sp
  h : PropOf K C x p f
  b : Binds K fd ps []
structure CalCA (k : Nat) (C : Addr) (x : Str) (ps : List Str) (sp : Sp) (f : Addr) (fd : FuncData) : Prop where
  F : FnOk P w K mg base (L2.CX P w) k f fd ps sp
  M : Mk K C f
  m : mg x = some (.ref C)
  b : Binds K fd ps []
def Cal (k : Nat) (x : Str) (ps : List Str) (sp : Sp) : Prop := ∃ f fd, CalA P w K mg base k x ps sp f fd
def CalG (k : Nat) (x : Str) (ps : List Str) (sp : Sp) : Prop := ∃ f fd, CalGA P w K mg base k x ps sp f fd
def CalM (k : Nat) (C : Addr) (x : Str) (ps : List Str) (sp : Sp) : Prop := ∃ f fd, CalMA P w K mg base k C x ps sp f fd
def CalP (k : Nat) (C : Addr) (x : Str) (ps : List Str) (sp : Sp) : Prop := ∃ p f fd, CalPA P w K mg base k C x ps sp p f fd
def CalC (k : Nat) (C : Addr) (x : Str) (ps : List Str) (sp : Sp) : Prop := ∃ f fd, CalCA P w K mg base k C x ps sp f fd
/-- a class that is called with one keyword -/
def KwC (C : Addr) (x : Str) (k : Nat) (ks ps : List Str) (sp : Sp) : Prop := ∃ f fd, CalCA P w K mg base k C x ps sp f fd ∧ KBn K fd ps 1 ks (fun us ws => us ++ ws) (fun vs zs => vs ++ zs)
end

/-! ### own or data, as the text's writer has marked it -/
def tOwn (te : TE) : TE := te
/-- len(o), isinstance(o, C), o an own object in slot i -/
def tLenI (C : Addr) (sp : Sp) (i : Nat) : TE := tCB (rLenI C sp fun _ _ _ => False) (tCons (tVar i) tNil)
def tIsi (K : PySem.W.Frag) (i : Nat) (C : Addr) : TE := tCB (rIsi K) (tCons (tVar i) (tCons (tC (.ref C)) tNil))
section
variable {K : PySem.W.Frag} {c : Cs} {e : Ent} {Γ : List A} {Q : D → List A → Prop} {QO : O → List A → Prop} {QB : Bool → List A → Prop} {ta tb te tx : TE} {i : Nat} {w w' : W} {σ : L2.St} {H H' : Hp} {D : Nd}
theorem ws_asgO (h : WF K c e te Γ fun o Γ' => (Γ'.getD i .un).isBor = false ∧ D.nx (Γ'.set i (.own o))) : WS K c e (tAsg (tOwn te) (gName i)) Γ D := ws_asgF h
theorem ws_retW (h : WF K c e te Γ fun o Γ' => D.rt (.own o) Γ') : WS K c e (tRet (tOwn te)) Γ D := ws_retF h
/-- a, b = e1, e2: the first one an own object -/
theorem ws_parO {j : Nat} (h : WF K c e ta Γ fun o Γ1 => ∀ e' : Ent, e'.xx = e.xx → WE K c e' tb Γ1 fun y Γ2 => (Γ2.getD i .un).isBor = false ∧ ((Γ2.set i (.own o)).getD j .un).isBor = false ∧ D.nx ((Γ2.set i (.own o)).set j (.d y))) :
    WS K c e (tPar i j (tCons (tOwn ta) (tCons tb tNil))) Γ D := fun σ H w a E g => h σ H w a _ fun p H1 w1 o Γ1 l1 a1 f1 q1 => by
  have hd : e.hold p = none := f1.nd
  have lay : ∃ u, H1 p = some u ∧ ∀ (K : PySem.W.Frag) (c : Cs) (w : W) (H : Hp), w1.le w → H p = some u → ObjAt K c w1 H1 p o → ObjAt K c w H p o := by
    obtain ⟨u, hu⟩ := f1.ob.some
    refine ⟨u, hu, fun K c w H l q ob => ob.stay l fun o' q' => ?_⟩
    rw [hu] at q'; cases q'; exact q
  obtain ⟨u, hu, hs⟩ := lay
  refine q1 (e.lay p u) rfl σ H1 w1 ⟨a1.toAt.lay f1 hu, a1.rz.lay hd⟩ _ fun v H2 w2 y Γ2 l2 a2 r2 q2 => ?_
  obtain ⟨z1, z2, z3⟩ := q2
  obtain ⟨b1, b2, b3, b4, b5⟩ := a2.toAt.pick hd
  have f2 : Fresh K c e w2 σ H2 Γ2 p o := ⟨hs K c w2 H2 l2 b2 f1.ob, b3, b4, f1.n0, b5, hd⟩
  exact ⟨_, _, rfl, g.nx _ H2 w2 _ (l1.trans l2) (((b1.setO z1 f2).setD z2 r2).z a1 l2) z3⟩
end

/-! ### C(..) that may raise -/
section
variable {X : Cx} {k : Nat} {C f : Addr} {fd : FuncData} {ps : List Str} {sp : Sp} {x : Str} {p pos kpos : Pos} {e : Expr} {es : List Expr} {t : TA} {nm : Str}
theorem make_one {C : Addr} {sp : Sp} {E : XK} {ta : TE} : tMakeK C 0 1 sp (fun vs zs => vs ++ zs) E tNil (tCons ta tNil) = tMake C sp [] E (tCons ta tNil) := by
  funext σ H Q
  show ta σ H _ = ta σ H _
  congr 1
  funext y H1
  exact propext ⟨fun h => h.2.2, fun h => ⟨rfl, rfl, h⟩⟩
theorem pe_make1K {E : XK} {ta : TE} (M : Mk X.K C f) (F : FnOk X.prog X.w X.K X.mg X.base (L2.CX X.prog X.w) k f fd ps sp) (hr : Room (k + 1) X.A) (hg : Gl X x) (hm : X.mg x = some (.ref C)) (hb : KBn X.K fd ps 1 [nm] (fun us ws => us ++ ws) (fun vs zs => vs ++ zs)) (hx : Passes (L2.CX X.prog X.w) X E) (he : PE X e ta)
    (hdb : (x == ("__debug__" : Str)) = false := by decide) (hpl : ((backTo pos (starEach [] X.env)).any (·.1) || (backToKw pos (keywordEach [⟨some nm, e, kpos⟩] X.env)).any (·.1.isNone)) = false := by rfl) : PE X (.Call (.Name x p) [] [⟨some nm, e, kpos⟩] pos) (tMake C sp [] E (tCons ta tNil)) := by
  rw [← make_one]
  exact pe_makeK0 (ks := [nm]) M F hr hg hm hb hx (pk_cons he pk_nil) (by rfl) (by rfl) hdb hpl
theorem one_arg {ta : TE} {σ : L2.St} {H : Hp} {R : List V → Hp → Prop} (h : tCons ta tNil σ H R) : tCons ta tNil σ H fun vs H1 => vs.length = 1 ∧ R vs H1 := by
  have e : (fun (y : V) (H1 : Hp) => tNil σ H1 fun xs H2 => (y :: xs).length = 1 ∧ R (y :: xs) H2) = fun y H1 => tNil σ H1 fun xs H2 => R (y :: xs) H2 := by
    funext y H1
    exact propext ⟨fun z => z.2, fun z => ⟨rfl, z⟩⟩
  show ta σ H (fun (y : V) (H1 : Hp) => tNil σ H1 fun xs H2 => (y :: xs).length = 1 ∧ R (y :: xs) H2)
  rw [e]
  exact h
/-- where errors go may hang on the slots -/
def tMakeX (C : Addr) (sp : Sp) (E : L2.St → XK) (t : TA) : TE := fun σ H Q => tMake C sp [] (E σ) t σ H Q
theorem run_makeX {E : XK} {pins : List (Addr × Obj)} {σ : L2.St} {H : Hp} {s : Shared} {Q : VK} {us : List Value} {g : List (Str × Value)} {zs : List V} (M : Mk X.K C f) (F : FnOk X.prog X.w X.K X.mg X.base (L2.CX X.prog X.w) k f fd ps sp) (hr : Room (k + 1) X.A)
    (hb : ∀ (s : Shared), X.K.In s.heap → ∃ us', Vals zs us' ∧ ∀ u, BindsTo s fd ⟨u :: us, g⟩ (ps.zip (u :: us'))) (hx : PassesAt (L2.CX X.prog X.w) X σ E) (I : Inv X pins σ H s)
    (h : ∀ x dx, H x = none → H dx = none → dx ≠ x → sp (.ref x :: zs) (upd (upd H dx (.own x)) x (.ins C dx [])) (fun v H2 => v = .non ∧ Q (.ref x) H2) E) :
    wpAny (model X.prog X.w) X.A (call (.ref C) us g) (EP X pins σ Q) X.xe s := by
  have J := Inv.made (C := C) I
  obtain ⟨us', r, hb'⟩ := hb _ J.kIn
  have q := h (s.heap.objs.size + 1) s.heap.objs.size (I.hok.fresh (Nat.le_succ _)) (I.hok.fresh (Nat.le_refl _)) (Nat.ne_of_lt (Nat.lt_succ_self _))
  refine wpAny_call (make_map (f := f) I.kIn M.makes M.init (beq_iff_eq.mp M.fn) (codeAny_mono (F.run _ X.stack _ _ _ _ _ _ E (hr.make C us g) (J.env0.make C us g) (hb' (Value.ref (s.heap.objs.size + 1))) (show Vals (V.ref (s.heap.objs.size + 1) :: zs) (Value.ref (s.heap.objs.size + 1) :: us') from .cons rfl r) q) fun rr s' y => ?_))
  match rr, y with
  | .error er, y => exact hx pins _ _ er s' J y
  | .ok .next, y => exact False.elim y
  | .ok .brk, y => exact False.elim y
  | .ok .cont, y => exact False.elim y
  | .ok (.ret u), y =>
    obtain ⟨v, H', J', rv, ev, q3⟩ := J.after y
    cases ev
    exact ⟨rv, ⟨.ref (s.heap.objs.size + 1), H', J', rfl, q3⟩⟩
theorem pe_makeX {E : L2.St → XK} (M : Mk X.K C f) (F : FnOk X.prog X.w X.K X.mg X.base (L2.CX X.prog X.w) k f fd ps sp) (hr : Room (k + 1) X.A) (hg : Gl X x) (hm : X.mg x = some (.ref C)) (hb : Binds X.K fd ps []) (hx : ∀ σ, PassesAt (L2.CX X.prog X.w) X σ (E σ)) (ha : PA X (e :: es) t)
    (hdb : (x == ("__debug__" : Str)) = false := by decide) (he : starEach (e :: es) X.env = (false, eval e X.env) :: starEach es X.env := by rfl) (hpl : (backTo pos (starEach es X.env)).any (·.1) = false := by rfl) : PE X (.Call (.Name x p) (e :: es) [] pos) (tMakeX C sp E t) :=
  ⟨fun pins s σ H Q I h => wpAny_Call_Name_kw (ld_glob I hg hm (PySem.W.callWith_K (h₀ := X.base) I.ok.mod.kin M.kp (thn (ha.run pos pins s σ H _ I h) fun us s1 ⟨vs, H1, I1, r, q⟩ => ⟨I1.kIn, by
    simp only [List.append_nil] at q
    have hl : us.length + 1 = ps.length := by
      have z := F.len _ _ _ _ (q (s1.heap.objs.size + 1) s1.heap.objs.size (I1.hok.fresh (Nat.le_succ _)) (I1.hok.fresh (Nat.le_refl _)) (Nat.ne_of_lt (Nat.lt_succ_self _)))
      rw [← r.length]; exact z
    refine run_makeX (zs := vs) (us := us) (g := []) M F hr (fun s2 X2 => ⟨us, r, fun u => ?_⟩) (hx σ) I1 q
    have := hb s2 (u :: us) X2 (by rw [List.append_nil]; exact hl)
    rwa [List.append_nil] at this⟩) he hpl) hdb)⟩
theorem pe_makeX1K {E : L2.St → XK} {ta : TE} (M : Mk X.K C f) (F : FnOk X.prog X.w X.K X.mg X.base (L2.CX X.prog X.w) k f fd ps sp) (hr : Room (k + 1) X.A) (hg : Gl X x) (hm : X.mg x = some (.ref C)) (hb : KBn X.K fd ps 1 [nm] (fun us ws => us ++ ws) (fun vs zs => vs ++ zs)) (hx : ∀ σ, PassesAt (L2.CX X.prog X.w) X σ (E σ)) (he : PE X e ta)
    (hall : (backToKw pos (keywordEach [⟨some nm, e, kpos⟩] X.env)).all (·.1.isSome) = true := by rfl) (hks : (backToKw pos (keywordEach [⟨some nm, e, kpos⟩] X.env)).filterMap (·.1) = [nm] := by rfl)
    (hdb : (x == ("__debug__" : Str)) = false := by decide) (hpl : ((backTo pos (starEach [] X.env)).any (·.1) || (backToKw pos (keywordEach [⟨some nm, e, kpos⟩] X.env)).any (·.1.isNone)) = false := by rfl) : PE X (.Call (.Name x p) [] [⟨some nm, e, kpos⟩] pos) (tMakeX C sp E (tCons ta tNil)) :=
  ⟨fun pins s σ H Q I h => wpAny_Call_Name_kw (ld_glob I hg hm (PySem.W.callWith_KW0 (h₀ := X.base) I.ok.mod.kin M.kp hall (thn ((pk_cons (kpos := kpos) (nm := some nm) he pk_nil).run pos pins s σ H (fun vs H1 => vs.length = 1 ∧ ∀ y dx, H1 y = none → H1 dx = none → dx ≠ y → sp (V.ref y :: (vs ++ [])) (upd (upd H1 dx (HO.own y)) y (HO.ins C dx [])) (fun v H2 => v = V.non ∧ Q (V.ref y) H2) (E σ)) I (one_arg h)) fun ws s2 ⟨zs, H2, I2, rz, q⟩ => ⟨I2.kIn, by
    simp only [List.append_nil] at q
    rw [hks]
    have hl : ws.length = 1 := by
      rw [← rz.length]
      exact q.1
    have q := q.2
    exact run_makeX (zs := zs) (us := []) M F hr (fun s3 X3 => ⟨ws, rz, fun u => hb.to s3 [u] ws X3 rfl hl⟩) (hx σ) I2 q⟩) hpl) hdb)⟩
end
section
variable {K : PySem.W.Frag} {c : Cs} {e : Ent} {Γ : List A} {Q : D → List A → Prop} {QO : O → List A → Prop} {QB : Bool → List A → Prop} {ta tb te tx : TE} {i : Nat} {w w' : W} {σ : L2.St} {H H' : Hp} {Dn : Nd}
theorem lent_make {C : Addr} {gs : List Ag} (q1 : atsOf gs = []) : lentOk (Γ ++ [.own (.ins C [])]) (.sl Γ.length :: gs) = true := by
  show ((ob _ Γ.length).isSome && lentOk _ gs) = true
  rw [ob_last]
  have : ∀ gs : List Ag, atsOf gs = [] → lentOk (Γ ++ [.own (.ins C [])]) gs = true := fun gs => by
    induction gs with
    | nil => intro _; rfl
    | cons g gs ih =>
      intro z
      cases g with
      | d y => exact ih z
      | sl j => cases z
  rw [this gs q1]
  rfl
/-- C(..) that may raise -/
theorem wf_makeX {F : PF} {t : TA} {C : Addr} (mo : F.Mono)
    (h : WA K c e t Γ fun gs Γ1 => atsOf gs = [] ∧ F (.bor (.ins C []) :: gs.map (lend Γ1)) (fun r as' => r.toD = .non ∧ ∃ fs, as'.head? = some (.bor (.ins C fs)) ∧ QO (.ins C fs) Γ1) fun x as' => (∃ fs, as'.head? = some (.bor (.ins C fs))) ∧ e.xx x Γ1) :
    WF K c e (tMakeX C (spF K c F) (fun σ cls d H => e.xw cls d σ H) t) Γ QO := fun σ H w a P k => h σ H w a _ fun vs H1 w1 gs Γ1 l1 a1 r1 ⟨q1, q2⟩ x dx nx ndx nex => by
  rw [List.append_nil]
  have a2 := a1.toAt.laid (p := dx) (u := .own x) ndx
  have nx2 : upd H1 dx (.own x) x = none := by rw [upd_ne (Ne.symm nex)]; exact nx
  obtain ⟨a3, f3⟩ := a2.alloc (u := .ins C dx []) (o := .ins C []) nx2 ⟨dx, [], upd_same, .nil⟩
  have e4 : At K c e w1 (σ ++ [some (.ref x)]) _ (Γ1 ++ [.own (.ins C [])]) := a3.push f3
  -- errors leave the new one behind
  have z4 : Rz K c (e.to (fun cls d σ' H' => σ' = σ ++ [some (.ref x)] → e.xw cls d σ H') fun y Γ' => (∃ fs, Γ' = Γ1 ++ [.own (.ins C fs)]) ∧ e.xx y Γ1) w1 := fun y dd v σ' H' w' Γ' l a' hd rv ⟨⟨fs, eΓ⟩, q⟩ eσ => by
    subst eΓ
    subst eσ
    obtain ⟨a6, _⟩ := (a'.un).pop
    exact a1.rz y dd v σ H' w' Γ1 l a6 hd rv q
  have a4 : Az K c (e.to (fun cls d σ' H' => σ' = σ ++ [some (.ref x)] → e.xw cls d σ H') fun y Γ' => (∃ fs, Γ' = Γ1 ++ [.own (.ins C fs)]) ∧ e.xx y Γ1) w1 (σ ++ [some (.ref x)]) _ (Γ1 ++ [.own (.ins C [])]) := ⟨e4.to, z4⟩
  have r4 : RpG K c w1 (σ ++ [some (V.ref x)]) (.ref x :: vs) (.sl Γ1.length :: gs) :=
    .sl (by rw [← a1.len, List.getElem?_append_right (Nat.le_refl _), Nat.sub_self]; rfl) (r1.push q1)
  have q2' : F ((Ag.sl Γ1.length :: gs).map (lend (Γ1 ++ [.own (.ins C [])]))) (fun r as' => r.toD = .non ∧ ∃ fs, as'.head? = some (.bor (.ins C fs)) ∧ QO (.ins C fs) Γ1) fun x as' => (∃ fs, as'.head? = some (.bor (.ins C fs))) ∧ e.xx x Γ1 := by
    rw [List.map_cons, lend_app q1, lend_ob ob_last]
    exact q2
  refine sp_call (r := r4) a4 (lent_make q1) (by show (Γ1.length :: atsOf gs).Nodup; rw [q1]; simp) (QR := fun r Γ' => r.toD = .non ∧ ∃ fs, Γ' = Γ1 ++ [.own (.ins C fs)] ∧ QO (.ins C fs) Γ1) (QX := fun y Γ' => (∃ fs, Γ' = Γ1 ++ [.own (.ins C fs)]) ∧ e.xx y Γ1)
    (mo _ _ _ _ _ (fun r as' ⟨z1, fs, z2, z3⟩ => ⟨z1, fs, back_make q1 z2, z3⟩) (fun _ _ ⟨⟨fs, z⟩, q⟩ => ⟨⟨fs, back_make q1 z⟩, q⟩) q2') (mo _) (fun y dd v H' w' a' l hd rv q => ?_) fun v H2 w2 r Γ2 l2 a5 r5 ⟨z1, fs, z2, z3⟩ => ?_
  · exact a'.rz y.1 dd v _ H' w' _ (W.le.refl _) a'.toAt hd rv q rfl
  subst z2
  obtain ⟨a6, f6⟩ := (At.un a5.toAt).pop
  rcases r5 with ⟨r5, _⟩ | ⟨p, o, rfl, rfl, f⟩
  · rw [z1] at r5
    cases r5
    exact ⟨rfl, k x H2 w2 _ Γ1 (l1.trans l2) (a6.z a1 l2) f6 z3⟩
  · cases o <;> cases z1
theorem we_lenO' {F : PF} {C : Addr} (mo : F.Mono) (h0 : ∃ fs, ob Γ i = some (.ins C fs)) (h : F [lend Γ (.sl i)] (fun r as' => ∃ n : Int, r.toD = .int n ∧ 0 ≤ n ∧ n < 2 ^ 63 ∧ Q (.int n) (back Γ [.sl i] as')) fun _ _ => False) : WE K c e (tLenI C (spF K c F) i) Γ Q := we_lenI mo h0 h
/-- isinstance(o, C), o an own object -/
theorem we_isiO {C1 C : Addr} {fs : List (Str × D)} {b : Bool} (h : ob Γ i = some (.ins C1 fs)) (hk : PySem.W.kitOne K (.ref C1) (.ref C) = some b) (hc : TyI K C1) (q : Q (.bl b) Γ) :
    WE K c e (tIsi K i C) Γ Q := fun σ H w a P k => by
  obtain ⟨p, hp, dx, fv, h4, h5⟩ := a.obj h
  exact ⟨_, hp, _, _, _, _, b, rfl, .own C, hc.ty h4, hk, k _ H w _ Γ (W.le.refl w) a (.bl b) q⟩
/-! ### repr of data or of None -/
def rRepN (K : PySem.W.Frag) : List V → Hp → VK → Prop := fun vs H Q => (vs = [.non] ∧ Q (.str "None") H) ∨ rRepr K vs H Q
theorem call_repN {X : Cx} (hg : X.A.guards = some []) (hu : X.A.units + 64 < cLine) : CallR X (.builtin "repr") (rRepN X.K) := by
  intro pins s σ H xs us Q I r h
  rcases h with ⟨rfl, q⟩ | h
  · obtain ⟨u, rfl, ru⟩ := vals1 r
    cases ru
    exact PySem.P.repr_of_none ⟨.str "None", H, I.tok _, ⟨_, rfl⟩, q⟩
  · exact call_repr hg hu pins s σ H xs us Q I r h
theorem cb_repN {x : D} (h1 : x.isSeq = true) (h2 : x.pure = true) (h3 : x.toPy.showable = true) (h4 : x.toPy.depth ≤ 60) (h5 : x.toPy.shown.length ≤ 10000000) (q : Q (.str x.toPy.shown) Γ) : Cb K c e (rRepN K) [x] Γ Q := fun σ H w vs a r P k => .inr (cb_repr h1 h2 h3 h4 h5 q σ H w vs a r P k)
theorem cb_repNone (q : Q (.str "None") Γ) : Cb K c e (rRepN K) [.non] Γ Q := fun σ H w vs a r P k => by
  cases r with
  | cons r0 r =>
    cases r
    cases r0
    exact .inl ⟨rfl, k _ H w _ Γ (W.le.refl w) a (.str _) q⟩
/-! ### the first state of a law -/
theorem first_at {a : Addr} {ns : List Int} (hO : Only H) (hS : SqL K H a (ns.map V.int)) (xw : Value → Option Addr → L2.St → Hp → Prop) (xx : Xc → List A → Prop) :
    At K c (ent H ⟨H, fun _ => none⟩ [.ref a] [.d (.scr (ns.map D.int))] xw xx) ⟨H, fun _ => none⟩ ([V.ref a].map some) H [.d (.scr (ns.map D.int))] := by
  have rp : RpA K c ⟨H, fun _ => none⟩ (ns.map V.int) (ns.map D.int) := by
    induction ns with
    | nil => exact .nil
    | cons n ns ih =>
      have : ∀ ns : List Int, RpA K c ⟨H, fun _ => none⟩ (ns.map V.int) (ns.map D.int) := fun ns => by
        induction ns with
        | nil => exact .nil
        | cons n ns ih => exact .cons (.int n) ih
      exact this _
  refine ⟨⟨fun a o h => h, fun a r p h => (nomatch h), fun a x h => (nomatch h), fun a r p h => (nomatch h), fun a b r r' p h => (nomatch h)⟩, W.le.refl _, fun _ _ h _ _ => h, fun _ h => h, fun _ h => h.elim .inl fun z => .inr (.inl z), rfl, fun i x h => ?_, fun i o h => ?_, fun i o h => ?_, fun i j o o' p h => ?_, fun i o h => ?_, fun p u h => (nomatch h)⟩
  · match i, h with
    | 0, h => cases h; exact ⟨_, rfl, .scr hS rp⟩
    | i + 1, h => simp at h
  · match i, h with
    | 0, h => cases h
    | i + 1, h => simp at h
  · match i, h with
    | 0, h => cases h
    | i + 1, h => simp at h
  · match i, h with
    | 0, h => rcases h with h | h <;> cases h
    | i + 1, h => simp at h
  · have h : ([A.d (.scr (ns.map D.int))] : List A)[i]? = some (.bor o) := h
    match i, h with
    | 0, h => cases h
    | i + 1, h => simp at h
end
section
variable {K : PySem.W.Frag} {c : Cs}
/-- a contract's body -/
theorem bodyCt {α : Type} {pre : α → List A → Prop} {post : α → Rs → List A → Prop} {err : α → Xc → List A → Prop} {N : List Str} {t : (Value → Option Addr → L2.St → Hp → Prop) → TS}
    (h : ∀ (e : Ent) a as, pre a as → (∀ x Γ, as.length ≤ Γ.length ∧ err a x (fin as Γ) → e.xx x Γ) → WS K c e (t e.xw) (as ++ List.replicate (N.length - as.length) .un)
      ⟨fun Γ => as.length ≤ Γ.length ∧ post a (.d .non) (fin as Γ), fun r Γ => as.length ≤ Γ.length ∧ post a r (fin as Γ), fun _ => False, fun _ => False⟩) : BodyOk K c (Ct pre post err) N t := fun e as QR QX ⟨a, h1, h2, h3⟩ hx σ H w z E g =>
  h e a as h1 (fun x Γ q => by rw [hx]; exact ⟨q.1, h3 _ _ q.2⟩) σ H w z E ⟨fun σ' H' w' Γ' l z' q => g.nx σ' H' w' Γ' l z' ⟨q.1, h2 _ _ q.2⟩, g.bk, g.ct, fun v r σ' H' w' Γ' l z' rr q => g.rt v r σ' H' w' Γ' l z' rr ⟨q.1, h2 _ _ q.2⟩⟩
end
end RR

set_option Elab.async false
set_option linter.all false
set_option maxRecDepth 100000
set_option maxHeartbeats 4000000
/-! RB: books, draws: the model in plain words, the contracts -/
namespace RR
open PySem L2 RH RX

/-! ### what the top has left, for all laws -/
structure IniA (P : Program) (w : World) (K : PySem.W.Frag) (mg : Str → Option Value) (base : Heap) (c : Cs) (T0 : Addr) (fI : Addr) (fd : FuncData) : Prop where
  F : FnOk P w K mg base (L2.CX P w) 1 fI fd ["self", "value"] (spIni K T0)
  xt : PySem.W.typeIn K (.ref fI) = some (.type "function")
  xi : ∀ n : Nat, n < 8 → PySem.W.findIn K (.ref (c.ex n)) "__init__" = some (some (.ref fI))
  b : Binds K fd ["self", "value"] []
structure Bx (K : PySem.W.Frag) (c : Cs) (T0 : Addr) : Prop where
  cls : ∀ b, Cls K (cb c b)
  nac : ∀ b, NoAttr K (cb c b) "calls"
  nas : ∀ b, NoAttr K (cb c b) "states"
  nag : NoAttr K c.small "greatest"
  ek : ∀ n : Nat, n < 8 → ErrK K T0 (c.ex n)
  isk : ∀ n : Nat, n < 8 → IsK K (c.ex n)
  xfk : ∀ n : Nat, n < 8 → XfC K (c.ex n)
  exm : ∀ n : Nat, n < 8 → PySem.W.exmOne K (.ref (c.ex n)) (.ref (c.ex 0)) = some true
  kit : ∀ n m : Nat, n < 8 → m < 8 → PySem.W.kitOne K (.ref (c.ex n)) (.ref (c.ex m)) = some (decide (m = 0 ∨ m = n))
  kiv : ∀ n : Nat, n < 8 → PySem.W.kitOne K (.ref (c.ex n)) (.type "ValueError") = some true
  tyi : ∀ b, TyI K (cb c b)
  isb : ∀ b, PySem.W.kitOne K (.ref (cb c b)) (.ref c.book) = some true
  nf : ∀ b d, (b = false → d = false) → PySem.W.notFirst K (cb c b) (.ref (cb c d)) = true

/-! ### books -/
inductive Cl where
  | put (w : List Int)
  | chg (l : Int) (w : List Int)
def Cl.toD : Cl → D
  | .put w => .tup [.str "put", .tup (iD w)]
  | .chg l w => .tup [.str "change", .int l, .tup (iD w)]
structure Bk where
  calls : List Cl
  sts : List (List (List Int))
  g : Option Int
def wsD (ws : List (List Int)) : D := .tup (ws.map fun w => .tup (iD w))
def gF : Option Int → List (Str × D)
  | none => []
  | some m => [("greatest", .int m)]
def gD : Option Int → D
  | none => .non
  | some m => .int m
def bkF (B : Bk) : List (Str × D) := ("calls", .lst (B.calls.map Cl.toD)) :: ("states", .lst (B.sts.map wsD)) :: gF B.g
def Bo (c : Cs) (b : Bool) (B : Bk) : O := .ins (cb c b) (bkF B)
/-- the words as they are now -/
def Bk.top (B : Bk) : List (List Int) := B.sts.getLast?.getD []
def Bk.new (g : Option Int) : Bk := ⟨[], [[]], g⟩
def Bk.settle (B : Bk) (x : Cl) (ws : List (List Int)) : Bk := ⟨B.calls ++ [x], B.sts ++ [ws], B.g⟩
def Bk.put (B : Bk) (w : List Int) : Bk := B.settle (.put w) (B.top ++ [w])
def Bk.chg (B : Bk) (l : Int) (w : List Int) : Bk := B.settle (.chg l w) (B.top.take l.toNat ++ [w] ++ B.top.drop (l.toNat + 1))
def Bk.undo (B : Bk) : Bk := ⟨B.calls.dropLast, B.sts.dropLast, B.g⟩
structure Bk.Ok (n : Nat) (B : Bk) : Prop where
  len : B.sts.length = B.calls.length + 1
  few : B.calls.length ≤ n
  wid : ∀ s ∈ B.sts, s.length ≤ n
/-- one word more is too many -/
def Bk.full (B : Bk) : Bool := match B.g with
  | none => false
  | some m => decide (m < (B.top.length : Int) + 1)
theorem Bk.Ok.new {g : Option Int} : (Bk.new g).Ok 0 := ⟨rfl, Nat.le_refl _, fun s h => by simp [Bk.new] at h; subst h; exact Nat.le_refl _⟩
theorem Bk.Ok.up {n m : Nat} {B : Bk} (h : B.Ok n) (l : n ≤ m) : B.Ok m := ⟨h.len, Nat.le_trans h.few l, fun s q => Nat.le_trans (h.wid s q) l⟩
theorem Bk.Ok.ne {n : Nat} {B : Bk} (h : B.Ok n) : B.sts ≠ [] := fun z => by have := h.len; rw [z] at this; simp at this
theorem Bk.Ok.topm {n : Nat} {B : Bk} (h : B.Ok n) : B.top ∈ B.sts := by
  unfold Bk.top
  rw [List.getLast?_eq_some_getLast h.ne]
  exact List.getLast_mem h.ne
theorem Bk.Ok.topl {n : Nat} {B : Bk} (h : B.Ok n) : B.top.length ≤ n := h.wid _ h.topm
theorem Bk.Ok.settle {n : Nat} {B : Bk} {x : Cl} {ws : List (List Int)} (h : B.Ok n) (l : ws.length ≤ n + 1) : (B.settle x ws).Ok (n + 1) := by
  refine ⟨by simp [Bk.settle, h.len], by simp [Bk.settle]; exact h.few, fun s q => ?_⟩
  simp [Bk.settle] at q
  rcases q with q | q
  · exact Nat.le_trans (h.wid s q) (Nat.le_succ _)
  · subst q; exact l
theorem Bk.Ok.put {n : Nat} {B : Bk} {w : List Int} (h : B.Ok n) : (B.put w).Ok (n + 1) := h.settle (by have := h.topl; simp; exact this)
theorem Bk.Ok.chg {n : Nat} {B : Bk} {l : Int} {w : List Int} (h : B.Ok n) (hl : l.toNat < B.top.length) : (B.chg l w).Ok (n + 1) := h.settle (by have := h.topl; simp [List.length_take, List.length_drop]; omega)
theorem Bk.Ok.undo {n : Nat} {B : Bk} (h : B.Ok n) (hc : B.calls ≠ []) : B.undo.Ok n := by
  have z : 0 < B.calls.length := List.length_pos_iff.mpr hc
  refine ⟨by have := h.len; simp [Bk.undo]; omega, by have := h.few; simp [Bk.undo]; omega, fun s q => h.wid s ((List.dropLast_sublist _).subset q)⟩
theorem Bk.top_settle {B : Bk} {x : Cl} {ws : List (List Int)} : (B.settle x ws).top = ws := by simp [Bk.top, Bk.settle]
theorem Bk.undo_settle {B : Bk} {x : Cl} {ws : List (List Int)} : (B.settle x ws).undo = B := by simp [Bk.undo, Bk.settle]
theorem Bk.g_settle {B : Bk} {x : Cl} {ws : List (List Int)} : (B.settle x ws).g = B.g := rfl

/-! ### the contracts of the books -/
section
variable (c : Cs) (b : Bool)
def pfInit : PF := Ct (α := Unit) (fun _ as => as = [.bor (.ins (cb c b) [])]) (fun _ r as' => r = .d .non ∧ as' = [.bor (Bo c b (Bk.new none))]) noX
def pfSInit : PF := Ct (α := Int) (fun m as => as = [.bor (.ins c.small []), .d (.int m)]) (fun m r as' => 0 ≤ m ∧ r = .d .non ∧ as' = [.bor (Bo c true (Bk.new (some m))), .d (.int m)]) (fun m x as' => m < 0 ∧ x = ⟨3, .int m⟩ ∧ as' = [.bor (Bo c true (Bk.new none)), .d (.int m)])
/-- the instances of a class of books -/
def Isb (B : Bk) : Prop := B.g.isSome = b
def pfLim : PF := Ct (α := Bk) (fun B as => as = [.bor (Bo c b B)] ∧ Isb b B) (fun B r as' => r = .d (gD B.g) ∧ as' = [.bor (Bo c b B)]) noX
def pfLen : PF := Ct (α := Bk) (fun B as => as = [.bor (Bo c b B)] ∧ B.sts ≠ []) (fun B r as' => r = .d (.int B.top.length) ∧ as' = [.bor (Bo c b B)]) noX
def pfRules : PF := Ct (α := Bk) (fun B as => as = [.bor (Bo c b B)] ∧ B.sts ≠ [] ∧ B.top.length ≤ 10000) (fun B r as' => r = .own (.lst (B.top.map fun w => .lst (iD w))) ∧ as' = [.bor (Bo c b B)]) noX
def pfSettle : PF := Ct (α := Bk × Cl × List (List Int)) (fun a as => as = [.bor (Bo c b a.1), .d a.2.1.toD, .d (wsD a.2.2)] ∧ a.1.calls.length < 10000 ∧ a.1.sts.length ≤ 10000)
  (fun a r as' => r = .d .non ∧ as' = [.bor (Bo c b (a.1.settle a.2.1 a.2.2)), .d a.2.1.toD, .d (wsD a.2.2)]) noX
def pfPut : PF := Ct (α := Bk × List Int) (fun a as => as = [.bor (Bo c b a.1), .d (.lst (iD a.2))] ∧ Isb b a.1 ∧ ∃ n, n < 10000 ∧ a.1.Ok n)
  (fun a r as' => a.1.full = false ∧ r = .d .non ∧ as' = [.bor (Bo c b (a.1.put a.2)), .d (.lst (iD a.2))]) (fun a x as' => a.1.full = true ∧ x = ⟨5, .int (a.1.top.length + 1)⟩ ∧ as' = [.bor (Bo c b a.1), .d (.lst (iD a.2))])
/-- a letter for which there is a word -/
def Bk.has (B : Bk) (l : Int) : Bool := decide (0 ≤ l) && decide (l < B.top.length)
def pfChange : PF := Ct (α := Bk × Int × List Int) (fun a as => as = [.bor (Bo c b a.1), .d (.int a.2.1), .d (.lst (iD a.2.2))] ∧ ∃ n, n < 10000 ∧ a.1.Ok n)
  (fun a r as' => a.1.has a.2.1 = true ∧ r = .d .non ∧ as' = [.bor (Bo c b (a.1.chg a.2.1 a.2.2)), .d (.int a.2.1), .d (.lst (iD a.2.2))])
  (fun a x as' => a.1.has a.2.1 = false ∧ x = ⟨1, .int a.2.1⟩ ∧ as' = [.bor (Bo c b a.1), .d (.int a.2.1), .d (.lst (iD a.2.2))])
def pfUndo : PF := Ct (α := Bk) (fun B as => as = [.bor (Bo c b B)] ∧ ∃ n, n < 10000 ∧ B.Ok n)
  (fun B r as' => B.calls ≠ [] ∧ r = .d .non ∧ as' = [.bor (Bo c b B.undo)]) (fun B x as' => B.calls = [] ∧ x = ⟨6, .int 0⟩ ∧ as' = [.bor (Bo c b B)])
end
/-- two books are equal -/
def Bk.same (B B' : Bk) : Bool := decide (B.g = B'.g) && PyData.eqv (D.lst (B.calls.map Cl.toD)).toPy (D.lst (B'.calls.map Cl.toD)).toPy
def pfEq (c : Cs) (b : Bool × Bool) : PF := Ct (α := Bk × Bk) (fun a as => as = [.bor (Bo c b.1 a.1), .bor (Bo c b.2 a.2)] ∧ Isb b.1 a.1 ∧ Isb b.2 a.2)
  (fun a r as' => r = .d (.bl (a.1.same a.2)) ∧ as' = [.bor (Bo c b.1 a.1), .bor (Bo c b.2 a.2)]) noX
/-- a call as it is told -/
def Cl.told : Cl → D
  | .put w => .tup [.str "put", .lst (iD w)]
  | .chg l w => .tup [.str "change", .int l, .lst (iD w)]
def pfToldCall : PF := Ct (α := Cl) (fun x as => as = [.d x.toD]) (fun x r as' => r = .d x.told ∧ as' = [.d x.toD]) noX
def pfStory (c : Cs) (b : Bool) : PF := Ct (α := Bk) (fun B as => as = [.bor (Bo c b B)] ∧ B.calls.length ≤ 10000) (fun B r as' => r = .own (.lst (B.calls.map Cl.told)) ∧ as' = [.bor (Bo c b B)]) noX

/-! ### draws -/
/-- a pool with at most n draws behind it -/
def Pool (n : Nat) (o : O) : Prop := ∃ a b d : Int, o = .lst [.int a, .int b, .int d] ∧ 0 ≤ a ∧ 0 ≤ b ∧ b < 2 ^ 64 ∧ 0 ≤ d ∧ d ≤ n
theorem Pool.up {n m : Nat} {o : O} (h : Pool n o) (l : n ≤ m) : Pool m o := by
  obtain ⟨a, b, d, h1, h2, h3, h4, h5, h6⟩ := h
  exact ⟨a, b, d, h1, h2, h3, h4, h5, Int.le_trans h6 (by exact_mod_cast l)⟩
def pfPool : PF := Ct (α := List Int × Nat) (fun a as => as = [.d (.scr (a.1.map D.int)), .d (.int a.2)] ∧ a.2 < 1000) (fun a r as' => (∃ o, r = .own o ∧ Pool 0 o) ∧ as' = [.d (.scr (a.1.map D.int)), .d (.int a.2)]) noX
def pfDraw : PF := Ct (α := Nat × O × Int) (fun a as => as = [.bor a.2.1, .d (.int a.2.2)] ∧ Pool a.1 a.2.1 ∧ a.1 < 1000000000 ∧ 0 < a.2.2 ∧ a.2.2 < 2 ^ 64)
  (fun a r as' => ∃ o z, r = .d (.int z) ∧ 0 ≤ z ∧ z < a.2.2 ∧ Pool (a.1 + 1) o ∧ as' = [.bor o, .d (.int a.2.2)]) noX
end RR

set_option Elab.async false
set_option linter.all false
set_option maxRecDepth 100000
set_option maxHeartbeats 4000000
/-! RK: comprehensions that map; slices -/
namespace RR
open PySem L2 StX RH RX
section
variable {K : PySem.W.Frag} {c : Cs} {e : Ent} {Γ : List A} {QO : O → List A → Prop} {te tl : TE} {j : Nat}
theorem take_map {α β : Type} {xs : List α} {f : α → β} {n : Nat} {d : α} (h : xs[n]? = some d) : (xs.take n).map f ++ [f d] = (xs.take (n + 1)).map f := by
  have hn := (List.getElem?_eq_some_iff.mp h).1
  have he := (List.getElem?_eq_some_iff.mp h).2
  rw [List.take_succ_eq_append_getElem hn, List.map_append, he]
  rfl
theorem un_set (h : Γ[j]? = some .un) : Γ.set j .un = Γ := by
  have hn := (List.getElem?_eq_some_iff.mp h).1
  have he := (List.getElem?_eq_some_iff.mp h).2
  rw [← he]
  exact List.set_getElem_self hn
theorem un_bor (h : Γ[j]? = some .un) : (Γ.getD j .un).isBor = false := by
  rw [List.getD_eq_getElem?_getD, h]; rfl
theorem un_bor' {d : D} (h : Γ[j]? = some .un) : ((Γ.set j (.d d)).getD j .un).isBor = false := by
  have hn := (List.getElem?_eq_some_iff.mp h).1
  rw [List.getD_eq_getElem?_getD, List.getElem?_set_self hn]; rfl
theorem lc_turn_map {Γ' : List A} {xs : List D} {f : D → D} {n : Nat} {d : D} (hd : xs[n]? = some d) (hu : Γ'[j]? = some .un) (h : ∀ e' : Ent, WE K c e' te (Γ'.set j (.d d)) fun y Γ3 => y = f d ∧ Γ3 = Γ'.set j (.d d)) :
    LcTurn K c tYes te j (fun acc Γ1 => acc = (xs.take n).map f ∧ Γ1 = Γ') (fun acc Γ1 => acc = (xs.take (n + 1)).map f ∧ Γ1 = Γ') d := fun e' acc Γ1 ⟨q1, q2⟩ => by
  subst q1
  subst q2
  refine ⟨un_bor hu, wt_yes ⟨fun _ => (h e').imp fun y Γ3 ⟨z1, z2⟩ => ?_, fun z => nomatch z⟩⟩
  subst z1
  subst z2
  exact ⟨un_bor' hu, take_map hd, by rw [List.set_set]; exact un_set hu⟩
theorem wf_mapT (f : D → D) (h : WE K c e tl Γ fun x Γ' => ∃ xs, x = .tup xs ∧ xs.length ≤ 1000000 ∧ Γ'[j]? = some .un ∧ (∀ (e' : Ent) d, d ∈ xs → WE K c e' te (Γ'.set j (.d d)) fun y Γ3 => y = f d ∧ Γ3 = Γ'.set j (.d d)) ∧ QO (.lst (xs.map f)) Γ') :
    WF K c e (tLc (iTup K tl) (gName j) tYes te [j]) Γ QO := wf_lcT (h.imp fun x Γ' ⟨xs, q1, q2, q3, q4, q5⟩ => ⟨xs, fun n acc Γ1 => acc = (xs.take n).map f ∧ Γ1 = Γ', q1, q2, ⟨rfl, rfl⟩, fun n d hd => lc_turn_map hd q3 fun e' => q4 e' d (List.mem_of_getElem? hd), fun acc Γ1 _ ⟨z1, z2⟩ => by
      subst z1; subst z2; rw [List.take_length]; exact q5⟩)
theorem wf_map (f : D → D) (h : WE K c e tl Γ fun x Γ' => ∃ xs, x = .lst xs ∧ xs.length ≤ 1000000 ∧ Γ'[j]? = some .un ∧ (∀ (e' : Ent) d, d ∈ xs → WE K c e' te (Γ'.set j (.d d)) fun y Γ3 => y = f d ∧ Γ3 = Γ'.set j (.d d)) ∧ QO (.lst (xs.map f)) Γ') :
    WF K c e (tLc (iList K tl) (gName j) tYes te [j]) Γ QO := wf_lc (h.imp fun x Γ' ⟨xs, q1, q2, q3, q4, q5⟩ => ⟨xs, fun n acc Γ1 => acc = (xs.take n).map f ∧ Γ1 = Γ', q1, q2, ⟨rfl, rfl⟩, fun n d hd => lc_turn_map hd q3 fun e' => q4 e' d (List.mem_of_getElem? hd), fun acc Γ1 _ ⟨z1, z2⟩ => by
      subst z1; subst z2; rw [List.take_length]; exact q5⟩)
/-- behind t1 stands P -/
theorem ws_seqP {t1 t2 : TS} {Dn : Nd} (P : List A → Prop) (h1 : WS K c e t1 Γ { Dn with nx := P }) (h2 : ∀ Γ', P Γ' → WS K c e t2 Γ' Dn) : WS K c e (tSeq t1 t2) Γ Dn := fun σ H w a E g =>
  h1 σ H w a _ ⟨fun σ' H' w' Γ' l a' q => h2 Γ' q σ' H' w' a' E (g.up l), g.bk, g.ct, g.rt⟩
theorem ws_nx {t1 : TS} {Dn : Nd} (P : List A → Prop) (h1 : WS K c e t1 Γ { Dn with nx := P }) (h2 : ∀ Γ', P Γ' → Dn.nx Γ') : WS K c e t1 Γ Dn := fun σ H w a E g =>
  h1 σ H w a _ ⟨fun σ' H' w' Γ' l a' q => g.nx σ' H' w' Γ' l a' (h2 Γ' q), g.bk, g.ct, g.rt⟩
/-- super().__init__() ahead of t -/
def tSup (K : PySem.W.Frag) (c : Cs) (F0 : PF) (t : TS) : TS := tSeq (tDrop (tCall (spF K c F0) [] (fun _ _ _ => False) (tCons (tVar 0) tNil))) t
/-! slices -/
theorem cut_head (xs : List D) {l : Int} (h0 : 0 ≤ l) (h1 : l ≤ xs.length) : cutD xs none (some l) = xs.take l.toNat := by
  unfold cutD
  have e : HT.sIx xs.length xs.length (some l) = l.toNat := by
    show (if l < 0 then _ else min l.toNat xs.length) = _
    rw [if_neg (by omega)]
    omega
  rw [e]
  show (xs.drop 0).take (l.toNat - 0) = _
  rfl
theorem cut_tail (xs : List D) {l : Int} (h0 : 0 ≤ l) (h1 : l ≤ xs.length) : cutD xs (some l) none = xs.drop l.toNat := by
  unfold cutD
  have e : HT.sIx xs.length 0 (some l) = l.toNat := by
    show (if l < 0 then _ else min l.toNat xs.length) = _
    rw [if_neg (by omega)]
    omega
  rw [e]
  show (xs.drop l.toNat).take (xs.length - l.toNat) = _
  rw [List.take_of_length_le (by rw [List.length_drop]; exact Nat.le_refl _)]
theorem cut_last (xs : List D) : cutD xs none (some (-1)) = xs.dropLast := by
  unfold cutD
  have e : HT.sIx xs.length xs.length (some (-1)) = xs.length - 1 := by
    show (if (-1 : Int) < 0 then ((-1 : Int) + (xs.length : Int)).toNat else min (-1 : Int).toNat xs.length) = _
    rw [if_pos (by decide)]
    omega
  rw [e]
  show (xs.drop 0).take (xs.length - 1 - 0) = xs.dropLast
  rw [List.dropLast_eq_take]
  rfl
end
end RR

set_option Elab.async false
set_option linter.all false
set_option maxRecDepth 100000
set_option maxHeartbeats 4000000
/-! RQ: == by an own __eq__ -/
namespace RR
open PySem L2 RH RX
/-- an instance of the class at C on the left, one of the class at C2 on the right -/
def rEqI (K : PySem.W.Frag) (C C2 : Addr) (sp : Sp) : R2 := fun x y H Q => ∃ a b dx dy fs gs, x = .ref a ∧ y = .ref b ∧ H a = some (.ins C dx fs) ∧ H b = some (.ins C2 dy gs) ∧ PySem.W.notFirst K C (.ref C2) = true ∧ sp [.ref a, .ref b] H (fun v H' => (∃ r, v = .bl r) ∧ Q v H') fun _ _ _ => False
theorem op_eqI {X : Cx} {n : Nat} {C C2 f : Addr} {fd : FuncData} {ps : List Str} {sp : Sp} (F : FnOk X.prog X.w X.K X.mg X.base (L2.CX X.prog X.w) n f fd ps sp) (hs : PySem.W.findIn X.K (.ref C) "__eq__" = some (some (.ref f))) (hf : PySem.W.isFn X.K (.ref f) = true) (hb : Binds X.K fd ps []) (hr : Room n X.A) :
    OpR X (compareOp .Eq) (rEqI X.K C C2 sp) := by
  intro pins s σ H x y v u Q I rx ry ⟨a, b, dx, dy, fs, gs, ex, ey, ha, hb', hn, q⟩
  subst ex
  subst ey
  cases rx
  cases ry
  obtain ⟨_, J, _⟩ := ins_get I.hok ha
  obtain ⟨_, J', _⟩ := ins_get I.hok hb'
  obtain ⟨od, J, _⟩ := J.look
  obtain ⟨od', J', _⟩ := J'.look
  obtain ⟨m, hF⟩ := I.fr
  show wpAny (model X.prog X.w) X.A (richCompare .Eq (.ref a) (.ref b)) (EP X pins σ Q) X.xe s
  refine PySem.W.cmp_K (op := .Eq) (tb := .ref C2) hr.units0 hF I.ok.mod.kin J J'.type hn hs hf ?_
  have hl := F.len _ _ _ _ q
  refine wpAny_call (codeAny_mono (F.run X.A X.stack s H ⟨[.ref a, .ref b], []⟩ [.ref a, .ref b] [.ref a, .ref b] _ _ hr I.env0 (by have z := hb s [.ref a, .ref b] I.kIn hl; rwa [List.append_nil] at z) (.cons rfl (.cons rfl .nil)) q) fun r s' z => ?_)
  match r, z with
  | .error er, z =>
    obtain ⟨_, _, _, _, _, _, _, _, _, _, _, _, y⟩ := z
    exact y.elim
  | .ok .next, z => exact False.elim z
  | .ok .brk, z => exact False.elim z
  | .ok .cont, z => exact False.elim z
  | .ok (.ret w), z =>
    obtain ⟨t, H', I', rt, ⟨k, ek⟩, qq⟩ := I.after z
    subst ek
    obtain rfl : w = Value.bool k := rt
    exact ⟨.bl k, H', I', rfl, qq⟩
/-- o == p, both own objects, in slots i, j -/
def tEqI (K : PySem.W.Frag) (C C2 : Addr) (sp : Sp) (i j : Nat) : TE := tOp (rEqI K C C2 sp) (tVar i) (tVar j)
section
variable {K : PySem.W.Frag} {c : Cs} {e : Ent} {Γ : List A} {Q : D → List A → Prop} {i j : Nat}
theorem we_eqI {F : PF} {C C2 : Addr} {fs gs : List (Str × D)} (mo : F.Mono) (hij : i ≠ j) (h0 : ob Γ i = some (.ins C fs)) (h1 : ob Γ j = some (.ins C2 gs)) (hn : PySem.W.notFirst K C (.ref C2) = true)
    (h : F [lend Γ (.sl i), lend Γ (.sl j)] (fun r as' => ∃ b, r = .d (.bl b) ∧ Q (.bl b) (back Γ [.sl i, .sl j] as')) fun _ _ => False) : WE K c e (tEqI K C C2 (spF K c F) i j) Γ Q := fun σ H w a P k => by
  obtain ⟨p, hp, dx, fv, h4, _⟩ := a.obj h0
  obtain ⟨p2, hp2, dx2, fv2, h42, _⟩ := a.obj h1
  refine ⟨_, hp, _, hp2, p, p2, dx, dx2, fv, fv2, rfl, rfl, h4, h42, hn, ?_⟩
  refine sp_call (gs := [.sl i, .sl j]) (r := .sl hp (.sl hp2 .nil)) a (by show ((ob Γ i).isSome && ((ob Γ j).isSome && true)) = true; rw [h0, h1]; rfl) (by show List.Nodup [i, j]; simp [hij])
    (QR := fun r Γ' => ∃ b, r = .d (.bl b) ∧ Q (.bl b) Γ') (QX := fun _ _ => False) h (mo _) (fun _ _ _ _ _ _ _ _ _ z => z.elim) fun v H2 w2 r Γ2 l2 a2 r2 ⟨b, e1, q⟩ => ?_
  subst e1
  rcases r2 with ⟨r2, _⟩ | ⟨p, o, _, z, _⟩
  · cases r2
    exact ⟨⟨b, rfl⟩, k _ H2 w2 _ Γ2 l2 a2 (.bl b) q⟩
  · cases z
variable {QO : O → List A → Prop} {QB : Bool → List A → Prop} {ta tb te tx : TE} {w w' : W} {σ : L2.St} {H H' : Hp} {Dn : Nd}
/-- try: body, except R as j: suite -/
def tTry (K : PySem.W.Frag) (R : Addr) (j : Nat) (tb : (Value → Option Addr → L2.St → Hp → Prop) → TS) (ts : Addr → Value → Option Addr → TS) (xw : Value → Option Addr → L2.St → Hp → Prop) : TS := fun D σ H => tb (wAs K (.ref R) j ts xw D) D σ H
/-- all that the body raises is caught -/
theorem ws_tryT {tb : (Value → Option Addr → L2.St → Hp → Prop) → TS} {ts : Addr → Value → Option Addr → TS} {R : Addr} (X : Xc → List A → Prop) (hb : ∀ e' : Ent, e'.xx = X → WS K c e' (tb e'.xw) Γ Dn)
    (hs : ∀ x Γ1, X x Γ1 → PySem.W.exmOne K (.ref (c.ex x.n)) (.ref R) = some true ∧ (Γ1.getD j .un).isBor = false ∧ ∀ a dd, WS K c e (ts a (.ref (c.ex x.n)) (some dd)) (Γ1.set j (.d (.exc a dd x.v))) { nx := fun Γ2 => (Γ2.getD j .un).isBor = false ∧ Dn.nx (Γ2.set j .un), rt := Dn.rt, bk := fun Γ2 => (Γ2.getD j .un).isBor = false ∧ Dn.bk (Γ2.set j .un), ct := fun Γ2 => (Γ2.getD j .un).isBor = false ∧ Dn.ct (Γ2.set j .un) }) :
    WS K c e (tTry K R j tb ts e.xw) Γ Dn := fun σ H w a E g => by
  refine hb (e.to (wAs K (.ref R) j ts e.xw E) X) rfl σ H w ⟨a.toAt.to, fun x dd v σ' H' w' Γ' l a' hd rv q => ?_⟩ E ⟨fun σ' H' w' Γ' l a' q => g.nx σ' H' w' Γ' l (a'.toAt.un.z a l) q, fun σ' H' w' Γ' l a' q => g.bk σ' H' w' Γ' l (a'.toAt.un.z a l) q, fun σ' H' w' Γ' l a' q => g.ct σ' H' w' Γ' l (a'.toAt.un.z a l) q, fun v rr σ' H' w' Γ' l a' rv q => g.rt v rr σ' H' w' Γ' l (a'.toAt.un.z a l) rv q⟩
  obtain ⟨h1, nb, hs'⟩ := hs x Γ' q
  have a1 : At K c e w' σ' H' Γ' := a'.un
  refine ⟨true, h1, fun _ p hp => ?_, fun z => nomatch z⟩
  have a2 := a1.setD (i := j) (v := .ref p) (x := .exc p dd x.v) nb (.exc hd rv)
  exact hs' p dd _ H' w' (a2.z a l) _ ⟨fun σ2 H2 w2 Γ2 l2 a3 q3 => g.nx _ H2 w2 _ (l.trans l2) ((a3.drop q3.1).z a3 (W.le.refl w2)) q3.2, fun σ2 H2 w2 Γ2 l2 a3 q3 => g.bk _ H2 w2 _ (l.trans l2) ((a3.drop q3.1).z a3 (W.le.refl w2)) q3.2, fun σ2 H2 w2 Γ2 l2 a3 q3 => g.ct _ H2 w2 _ (l.trans l2) ((a3.drop q3.1).z a3 (W.le.refl w2)) q3.2, fun v2 r2 σ2 H2 w2 Γ2 l2 a3 rv2 q3 => g.rt v2 r2 σ2 H2 w2 Γ2 (l.trans l2) a3 rv2 q3⟩
/-- a, b = e1, e2: both own objects -/
theorem ws_parOO {i j : Nat} (h : WF K c e ta Γ fun o Γ1 => ∀ e' : Ent, e'.xx = e.xx → WF K c e' tb Γ1 fun o2 Γ2 => (Γ2.getD i .un).isBor = false ∧ ((Γ2.set i (.own o)).getD j .un).isBor = false ∧ Dn.nx ((Γ2.set i (.own o)).set j (.own o2))) :
    WS K c e (tPar i j (tCons (tOwn ta) (tCons (tOwn tb) tNil))) Γ Dn := fun σ H w a E g => h σ H w a _ fun p H1 w1 o Γ1 l1 a1 f1 q1 => by
  have hd : e.hold p = none := f1.nd
  obtain ⟨u, hu⟩ := f1.ob.some
  have hs : ∀ (w : W) (H : Hp), w1.le w → H p = some u → ObjAt K c w H p o := fun w H l q => f1.ob.stay l fun o' q' => by
    rw [hu] at q'; cases q'; exact q
  refine q1 (e.lay p u) rfl σ H1 w1 ⟨a1.toAt.lay f1 hu, a1.rz.lay hd⟩ _ fun p2 H2 w2 o2 Γ2 l2 a2 f2' q2 => ?_
  obtain ⟨z1, z2, z3⟩ := q2
  obtain ⟨b1, b2, b3, b4, b5⟩ := a2.toAt.pick hd
  have f2 : Fresh K c e w2 σ H2 Γ2 p o := ⟨hs w2 H2 l2 b2, b3, b4, f1.n0, b5, hd⟩
  have ne : p2 ≠ p := fun z => by
    have := f2'.nd
    rw [z] at this
    have z' : upd e.hold p u p = none := this
    rw [upd_same] at z'
    cases z'
  have a3 := b1.setO z1 f2
  have f3 : Fresh K c e w2 (σ.set i (some (.ref p))) H2 (Γ2.set i (.own o)) p2 o2 := by
    refine ⟨f2'.ob, f2'.nm, f2'.nc, f2'.n0, fun k o' q s => ?_, ?_⟩
    · by_cases hk : i = k
      · subst hk
        by_cases lt : i < σ.length
        · rw [List.getElem?_set_self lt] at s
          cases s
          exact ne rfl
        · rw [List.getElem?_eq_none (by rw [List.length_set]; omega)] at s
          cases s
      · rw [List.getElem?_set_ne hk] at s
        simp only [List.getElem?_set_ne hk] at q
        exact f2'.nh k o' q s
    · have := f2'.nd
      have z' : upd e.hold p u p2 = none := this
      rwa [upd_ne ne] at z'
  exact ⟨_, _, rfl, g.nx _ H2 w2 _ (l1.trans l2) (((a3.setO z2 f3)).z a1 l2) z3⟩
/-- len(e), e a new object -/
def tLenF (C : Addr) (sp : Sp) (te : TE) : TE := tCB (rLenI C sp fun _ _ _ => False) (tCons te tNil)
theorem we_lenF {F : PF} {C : Addr} (mo : F.Mono) (h : WF K c e te Γ fun o Γ1 => ∃ fs, o = .ins C fs ∧ F [.bor o] (fun r as' => ∃ n : Int, r = .d (.int n) ∧ 0 ≤ n ∧ n < 2 ^ 63 ∧ (∃ o', as' = [.bor o']) ∧ Q (.int n) Γ1) fun _ _ => False) : WE K c e (tLenF C (spF K c F) te) Γ Q := fun σ H w a P k => by
  refine h σ H w a _ fun p H1 w1 o Γ1 l1 a1 f1 ⟨fs, eo, q⟩ => ?_
  subst eo
  obtain ⟨dx, fv, h4, h5⟩ := f1.ob
  have a2 : Az K c e w1 (σ ++ [some (.ref p)]) H1 (Γ1 ++ [.own (.ins C fs)]) := (a1.toAt.push f1).z a1 (W.le.refl w1)
  have hp : (σ ++ [some (V.ref p)])[Γ1.length]? = some (some (.ref p)) := by rw [← a1.len, List.getElem?_append_right (Nat.le_refl _), Nat.sub_self]; rfl
  refine ⟨p, dx, fv, rfl, h4, ?_⟩
  refine sp_call (gs := [.sl Γ1.length]) (r := .sl hp .nil) a2 (by show ((ob _ Γ1.length).isSome && true) = true; rw [ob_last]; rfl) (by simp [atsOf])
    (QR := fun r Γ' => ∃ n : Int, r = .d (.int n) ∧ 0 ≤ n ∧ n < 2 ^ 63 ∧ (∃ o', Γ' = Γ1 ++ [.own o']) ∧ Q (.int n) Γ1) (QX := fun _ _ => False) ?_ (mo _) (fun _ _ _ _ _ _ _ _ _ z => z.elim) fun v H2 w2 r Γ2 l2 a3 r3 ⟨n, e1, n0, n1, ⟨o', e2⟩, q⟩ => ?_
  · have : F ([Ag.sl Γ1.length].map (lend (Γ1 ++ [.own (.ins C fs)]))) (fun r as' => ∃ n : Int, r = .d (.int n) ∧ 0 ≤ n ∧ n < 2 ^ 63 ∧ (∃ o', as' = [.bor o']) ∧ Q (.int n) Γ1) fun _ _ => False := by
      show F [lend (Γ1 ++ [.own (.ins C fs)]) (.sl Γ1.length)] _ _
      rw [lend_ob ob_last]
      exact q
    refine mo _ _ _ _ _ (fun r as' ⟨n, e1, n0, n1, ⟨o', e2⟩, q⟩ => ⟨n, e1, n0, n1, ⟨o', ?_⟩, q⟩) (fun _ _ z => z) this
    subst e2
    show chg (Γ1 ++ [.own (.ins C fs)]) Γ1.length o' = _
    exact chg_last
  · subst e1
    subst e2
    obtain ⟨a6, _⟩ := a3.toAt.pop
    rcases r3 with ⟨r3, _⟩ | ⟨_, _, _, z, _⟩
    · cases r3
      exact ⟨n, rfl, n0, n1, k _ H2 w2 _ Γ1 (l1.trans l2) (a6.z a1 l2) (.int n) q⟩
    · cases z
theorem kitAny_no {t : Value} : ∀ {us : List Value}, (∀ u ∈ us, PySem.W.kitOne K t u = some false) → PySem.W.kitAny K t us = some false
  | [], _ => rfl
  | u :: us, h => by
    unfold PySem.W.kitAny
    rw [h u List.mem_cons_self]
    exact kitAny_no fun v q => h v (List.mem_cons_of_mem _ q)
/-- isinstance(e, (A, B, ..)), none of them -/
theorem kit_none {T0 : Addr} (hx : Bx K c T0) {n : Nat} {ms : List Nat} (hn : n < 8) (h : ms.all (fun m => decide (m < 8) && decide (m ≠ 0) && decide (m ≠ n)) = true) : PySem.W.kitAny K (.ref (c.ex n)) ((ms.map c.ex).map Value.ref) = some false := kitAny_no fun u q => by
  obtain ⟨a, qa, rfl⟩ := List.mem_map.mp q
  obtain ⟨m, qm, rfl⟩ := List.mem_map.mp qa
  have := List.all_eq_true.mp h m qm
  simp only [Bool.and_eq_true, decide_eq_true_eq] at this
  rw [hx.kit n m hn this.1.1, decide_eq_false fun z => z.elim this.1.2 this.2]
end
end RR

set_option Elab.async false
set_option linter.all false
set_option maxRecDepth 100000
set_option maxHeartbeats 4000000
/-! PF48: the contracts of the law of small books -/
namespace RR
open PySem L2 RH RX
def pfTold (c : Cs) : PF := Ct (α := Int × Int) (fun a as => as = [.d (.int a.1), .d (.int a.2)])
  (fun a r as' => ((0 ≤ a.2 ∧ r = .own (Bo c true (Bk.new (some a.2)))) ∨ (a.2 < 0 ∧ r = .own (.lst [.bl true, .bl false, .int a.2]))) ∧ as' = [.d (.int a.1), .d (.int a.2)]) noX
def pfRefused (c : Cs) (b : Bool) : PF := Ct (α := Bk × List Int) (fun a as => as = [.bor (Bo c b a.1), .d (.lst (iD a.2))] ∧ Isb b a.1 ∧ ∃ n, n < 10000 ∧ a.1.Ok n)
  (fun a r as' => (a.1.full = false ∧ r = .d .non ∧ as' = [.bor (Bo c b (a.1.put a.2)), .d (.lst (iD a.2))]) ∨ (a.1.full = true ∧ r = .d (.lst [.bl true, .bl false, .int (a.1.top.length + 1)]) ∧ as' = [.bor (Bo c b a.1), .d (.lst (iD a.2))])) noX
def pfFits (c : Cs) : PF := Ct (α := Nat × O) (fun a as => as = [.bor a.2] ∧ Pool a.1 a.2 ∧ a.1 < 100000000) (fun a r as' => r = .d (.bl true) ∧ ∃ o, as' = [.bor o] ∧ Pool (a.1 + 1000) o) noX
def pfLaw (c : Cs) : PF := Ct (α := List Int) (fun ns as => as = [.d (.scr (ns.map D.int))]) (fun _ r _ => r = .d (.bl true)) noX
end RR

set_option Elab.async false
set_option linter.all false
set_option maxRecDepth 100000
set_option maxHeartbeats 4000000
namespace RR
open PySem L2 StX RH RX
def topS (i : Nat) : Stmt := PySem.Challenge.pw_returnrows_k48_small_books.main.body.getD i (.Pass ⟨0, 0, 0, 0⟩)
structure Tx (P : Program) (w : World) (K : PySem.W.Frag) (mg : Str → Option Value) (base : Heap) (c : Cs) (T0 : Addr) : Prop extends Bx K c T0 where
  ini : ∃ fI fd, IniA P w K mg base c T0 fI fd
  bt_ValueError : mg "ValueError" = none
  bt_abs : mg "abs" = none
  bt_int : mg "int" = none
  bt_isinstance : mg "isinstance" = none
  bt_len : mg "len" = none
  bt_list : mg "list" = none
  bt_max : mg "max" = none
  bt_min : mg "min" = none
  bt_range : mg "range" = none
  bt_repr : mg "repr" = none
  bt_tuple : mg "tuple" = none
  g_RowError : mg "RowError" = some (.ref (c.ex 0))
  g_InvalidLetter : mg "InvalidLetter" = some (.ref (c.ex 1))
  g_InvalidRules : mg "InvalidRules" = some (.ref (c.ex 2))
  g_InvalidNumber : mg "InvalidNumber" = some (.ref (c.ex 3))
  g_NotMixed : mg "NotMixed" = some (.ref (c.ex 4))
  g_TooMany : mg "TooMany" = some (.ref (c.ex 5))
  g_NothingToUndo : mg "NothingToUndo" = some (.ref (c.ex 6))
  g_Unreadable : mg "Unreadable" = some (.ref (c.ex 7))
  g_Row : mg "Row" = some (.ref c.row)
  g_Book : mg "Book" = some (.ref c.book)
  g_SmallBook : mg "SmallBook" = some (.ref c.small)
section
variable {P : Program} {w : World} {K : PySem.W.Frag} {mg : Str → Option Value} {base : Heap} {c : Cs} {T0 : Addr}
abbrev st_law_pool : Stmt := topS 19
def tm_law_pool (K : PySem.W.Frag) (c : Cs) (T0 : Addr) (xw : Value → Option Addr → L2.St → Hp → Prop) : TS := (tSeq (tAsg (tC (.int 0)) (gName 2))
    (tSeq (tIfS (tTest (tOp (rI0 fun i j => .bl (decide (i < j))) (tVar 1) (tCB (rLen K) (tCons (tVar 0) tNil))))
    (tAsg (tOp (rIxL K) (tVar 0) (tVar 1)) (gName 2)) tNext)
    (tRet (tOwn (tLst (tCons (tCB rMax2 (tCons (tC (.int 0)) (tCons (tOp (rI0 fun i j => .int (i - j)) (tCB rAbs (tCons (tVar 2) tNil)) (tOp (rI CPowW fun i j => .int (i ^ j.toNat)) (tC (.int 10)) (tC (.int 18)))) tNil))) (tCons (tOp (rI0 fun i j => .int (i + j)) (tOp (rI (fun _ j => 0 < j) fun i j => .int (i % j)) (tCB rInt1 (tCons (tVar 2) tNil)) (tC (.int 2305843009213693951))) (tOp (rI CMul fun i j => .int (i * j)) (tC (.int 7368787)) (tOp (rI0 fun i j => .int (i + j)) (tVar 1) (tC (.int 1))))) (tCons (tC (.int 0)) tNil))))))))
theorem sc_law_pool : FnScope ["script", "spot", "cell"] ["script", "spot"] (defScope st_law_pool) := ⟨rfl, rfl, rfl, by decide +kernel, rfl, by decide +kernel, by decide +kernel⟩
theorem ok_law_pool {f : Addr} {fd : FuncData} (T : Tx P w K mg base c T0) (F : Fun K "_law_pool" "_law_pool" st_law_pool f fd)  (hB : BodyOk K c pfPool ["script", "spot", "cell"] (tm_law_pool K c T0)) (hl : Len 2 pfPool) : FnOk P w K mg base (L2.CX P w) 1 f fd ["script", "spot"] (spF K c pfPool) := by
  have sc := sc_law_pool
  refine F.okX sc (fun vs H Q E h => spF_len hl h) (fun cdv A outer s H vs Q E hr h => ?_)
  have hn := spF_len hl h
  refine ⟨tm_law_pool K c T0 (fun cls d _ H => E cls d H), (pss_cons (ps_set (i := 2) sc.nd rfl (Or.inl rfl) pe_int)
    (pss_cons (ps_if (pt_cmpR op_lt (pv 1) (pe_callB call_lenR (by rfl) T.bt_len (by decide +kernel) (pa_cons (pv 0) pa_nil)) (nomark _))
    (pss_one (ps_set (i := 2) sc.nd rfl (Or.inl rfl) (pe_ix ix_list (pv 0) (pv 1) (fun _ _ => rfl)))) pss_nil)
    (pss_one (ps_ret (pe_lst (pa_cons (pe_callB (call_maxR rfl) (by rfl) T.bt_max (by decide +kernel) (pa_cons pe_int (pa_cons (pe_op op_sub (pe_callB call_absR (by rfl) T.bt_abs (by decide +kernel) (pa_cons (pv 2) pa_nil)) (pe_op op_powW pe_int pe_int)) pa_nil))) (pa_cons (pe_op op_add (pe_op op_mod (pe_callTy call_intR (by rfl) T.bt_int (by decide +kernel) (pa_cons (pv 2) pa_nil)) pe_int) (pe_op op_mul pe_int (pe_op op_add (pv 1) pe_int))) (pa_cons pe_int pa_nil)))))))), ?_⟩
  exact body_sp (hB) h (by rw [hn]; decide) _ rfl
abbrev st_law_draw : Stmt := topS 20
def tm_law_draw (K : PySem.W.Frag) (c : Cs) (T0 : Addr) (xw : Value → Option Addr → L2.St → Hp → Prop) : TS := (tSeq (tIfS (tTest (tOp (rI0 fun i j => .bl (decide (j < i))) (tOp (rIxL K) (tVar 0) (tC (.int 0))) (tC (.int 0))))
    (tSeq (tAsg (tOp (rI (fun _ j => 0 < j) fun i j => .int (i % j)) (tCB rInt1 (tCons (tOp (rIxL K) (tVar 0) (tC (.int 0))) tNil)) (tVar 1)) (gName 2))
    (tSeq (tAsg (tOp (rI CDivW fun i j => .int (i / j)) (tOp (rIxL K) (tVar 0) (tC (.int 0))) (tVar 1)) (gSub (tVar 0) (tC (.int 0)) rSetL))
    (tRet (tVar 2)))) tNext)
    (tSeq (tAsg (tOp (rI0 fun i j => .int (i + j)) (tOp (rIxL K) (tVar 0) (tC (.int 2))) (tC (.int 1))) (gSub (tVar 0) (tC (.int 2)) rSetL))
    (tSeq (tAsg (tOp (rI (fun _ j => 0 < j) fun i j => .int (i % j)) (tCB rInt1 (tCons (tOp (rI CPowW fun i j => .int (i ^ j.toNat)) (tOp (rI0 fun i j => .int (i + j)) (tOp (rIxL K) (tVar 0) (tC (.int 1))) (tOp (rI CMul fun i j => .int (i * j)) (tC (.int 15485863)) (tOp (rIxL K) (tVar 0) (tC (.int 2))))) (tC (.int 3))) tNil)) (tC (.int 162259276829213363391578010288127))) (gName 3))
    (tSeq (tAsg (tOp (rI (fun _ j => 0 < j) fun i j => .int (i % j)) (tCB rInt1 (tCons (tOp (rI CPowW fun i j => .int (i ^ j.toNat)) (tOp (rI0 fun i j => .int (i + j)) (tVar 3) (tOp (rI CMul fun i j => .int (i * j)) (tC (.int 32452843)) (tOp (rIxL K) (tVar 0) (tC (.int 2))))) (tC (.int 3))) tNil)) (tC (.int 170141183460469231731687303715884105727))) (gName 3))
    (tRet (tOp (rI (fun _ j => 0 < j) fun i j => .int (i % j)) (tCB rInt1 (tCons (tOp (rI CDivW fun i j => .int (i / j)) (tVar 3) (tC (.int 1048576))) tNil)) (tVar 1)))))))
theorem sc_law_draw : FnScope ["pool", "span", "drawn", "mixed"] ["pool", "span"] (defScope st_law_draw) := ⟨rfl, rfl, rfl, by decide +kernel, rfl, by decide +kernel, by decide +kernel⟩
theorem ok_law_draw {f : Addr} {fd : FuncData} (T : Tx P w K mg base c T0) (F : Fun K "_law_draw" "_law_draw" st_law_draw f fd)  (hB : BodyOk K c pfDraw ["pool", "span", "drawn", "mixed"] (tm_law_draw K c T0)) (hl : Len 2 pfDraw) : FnOk P w K mg base (L2.CX P w) 1 f fd ["pool", "span"] (spF K c pfDraw) := by
  have sc := sc_law_draw
  refine F.okX sc (fun vs H Q E h => spF_len hl h) (fun cdv A outer s H vs Q E hr h => ?_)
  have hn := spF_len hl h
  refine ⟨tm_law_draw K c T0 (fun cls d _ H => E cls d H), (pss_cons (ps_if (pt_cmpR op_gt (pe_ix ix_list (pv 0) pe_int (fun _ _ => rfl)) pe_int (nomark _))
    (pss_cons (ps_set (i := 2) sc.nd rfl (Or.inl rfl) (pe_op op_mod (pe_callTy call_intR (by rfl) T.bt_int (by decide +kernel) (pa_cons (pe_ix ix_list (pv 0) pe_int (fun _ _ => rfl)) pa_nil)) (pv 1)))
    (pss_cons (ps_asg (pe_op op_fdivW (pe_ix ix_list (pv 0) pe_int (fun _ _ => rfl)) (pv 1)) (pg_sub (pv 0) pe_int set_list))
    (pss_one (ps_ret (pv 2))))) pss_nil)
    (pss_cons (ps_asg (pe_op op_add (pe_ix ix_list (pv 0) pe_int (fun _ _ => rfl)) pe_int) (pg_sub (pv 0) pe_int set_list))
    (pss_cons (ps_set (i := 3) sc.nd rfl (Or.inl rfl) (pe_op op_mod (pe_callTy call_intR (by rfl) T.bt_int (by decide +kernel) (pa_cons (pe_op op_powW (pe_op op_add (pe_ix ix_list (pv 0) pe_int (fun _ _ => rfl)) (pe_op op_mul pe_int (pe_ix ix_list (pv 0) pe_int (fun _ _ => rfl)))) pe_int) pa_nil)) pe_int))
    (pss_cons (ps_set (i := 3) sc.nd rfl (Or.inl rfl) (pe_op op_mod (pe_callTy call_intR (by rfl) T.bt_int (by decide +kernel) (pa_cons (pe_op op_powW (pe_op op_add (pv 3) (pe_op op_mul pe_int (pe_ix ix_list (pv 0) pe_int (fun _ _ => rfl)))) pe_int) pa_nil)) pe_int))
    (pss_one (ps_ret (pe_op op_mod (pe_callTy call_intR (by rfl) T.bt_int (by decide +kernel) (pa_cons (pe_op op_fdivW (pv 3) pe_int) pa_nil)) (pv 1)))))))), ?_⟩
  exact body_sp (hB) h (by rw [hn]; decide) _ rfl
abbrev st_Book_init : Stmt := inClass (topS 16) 0
def tm_Book_init (K : PySem.W.Frag) (c : Cs) (T0 : Addr) (b : Bool) (xw : Value → Option Addr → L2.St → Hp → Prop) : TS := (tSeq (sFld K (tVar 0) (tLst tNil) "calls")
    (sFld K (tVar 0) (tLst (tCons (tTup tNil) tNil)) "states"))
theorem sc_Book_init : FnScope ["self"] ["self"] (defScope st_Book_init) := ⟨rfl, rfl, rfl, by decide +kernel, rfl, by decide +kernel, by decide +kernel⟩
theorem ok_Book_init {f : Addr} {fd : FuncData} (T : Tx P w K mg base c T0) (F : Fun K "__init__" "Book.__init__" st_Book_init f fd)  (hB : ∀ b, BodyOk K c (pfInit c b) ["self"] (tm_Book_init K c T0 b)) (hl : Len 1 (pfX fun b => (pfInit c b))) : FnOk P w K mg base (L2.CX P w) 1 f fd ["self"] (spF K c (pfX fun b => (pfInit c b))) := by
  have sc := sc_Book_init
  refine F.okX sc (fun vs H Q E h => spF_len hl h) (fun cdv A outer s H vs Q E hr h => ?_)
  have hn := spF_len hl h
  obtain ⟨b, h⟩ := spF_ex h
  refine ⟨tm_Book_init K c T0 b (fun cls d _ H => E cls d H), (pss_cons (ps_fld (pv 0) (pe_lst pa_nil) rfl)
    (pss_one (ps_fld (pv 0) (pe_lst (pa_cons (pe_tup pa_nil) pa_nil)) rfl))), ?_⟩
  exact body_sp (hB b) h (by rw [hn]; decide) _ rfl
abbrev st_Book_limit : Stmt := inClass (topS 16) 1
def tm_Book_limit (K : PySem.W.Frag) (c : Cs) (T0 : Addr) (xw : Value → Option Addr → L2.St → Hp → Prop) : TS := (tRet (tC .non))
theorem sc_Book_limit : FnScope ["self"] ["self"] (defScope st_Book_limit) := ⟨rfl, rfl, rfl, by decide +kernel, rfl, by decide +kernel, by decide +kernel⟩
theorem ok_Book_limit {f : Addr} {fd : FuncData} (T : Tx P w K mg base c T0) (F : Fun K "limit" "Book.limit" st_Book_limit f fd)  (hB : BodyOk K c (pfLim c false) ["self"] (tm_Book_limit K c T0)) (hl : Len 1 (pfLim c false)) : FnOk P w K mg base (L2.CX P w) 1 f fd ["self"] (spF K c (pfLim c false)) := by
  have sc := sc_Book_limit
  refine F.okX sc (fun vs H Q E h => spF_len hl h) (fun cdv A outer s H vs Q E hr h => ?_)
  have hn := spF_len hl h
  refine ⟨tm_Book_limit K c T0 (fun cls d _ H => E cls d H), (pss_one (ps_ret pe_non)), ?_⟩
  exact body_sp (hB) h (by rw [hn]; decide) _ rfl
abbrev st_SmallBook_limit : Stmt := inClass (topS 17) 1
def tm_SmallBook_limit (K : PySem.W.Frag) (c : Cs) (T0 : Addr) (xw : Value → Option Addr → L2.St → Hp → Prop) : TS := (tRet (tFld K (tVar 0) "greatest"))
theorem sc_SmallBook_limit : FnScope ["self"] ["self"] (defScope st_SmallBook_limit) := ⟨rfl, rfl, rfl, by decide +kernel, rfl, by decide +kernel, by decide +kernel⟩
theorem ok_SmallBook_limit {f : Addr} {fd : FuncData} (T : Tx P w K mg base c T0) (F : Fun K "limit" "SmallBook.limit" st_SmallBook_limit f fd)  (hB : BodyOk K c (pfLim c true) ["self"] (tm_SmallBook_limit K c T0)) (hl : Len 1 (pfLim c true)) : FnOk P w K mg base (L2.CX P w) 1 f fd ["self"] (spF K c (pfLim c true)) := by
  have sc := sc_SmallBook_limit
  refine F.okX sc (fun vs H Q E h => spF_len hl h) (fun cdv A outer s H vs Q E hr h => ?_)
  have hn := spF_len hl h
  refine ⟨tm_SmallBook_limit K c T0 (fun cls d _ H => E cls d H), (pss_one (ps_ret (pe_fld (pv 0) rfl))), ?_⟩
  exact body_sp (hB) h (by rw [hn]; decide) _ rfl
abbrev st_Book_len : Stmt := inClass (topS 16) 3
def tm_Book_len (K : PySem.W.Frag) (c : Cs) (T0 : Addr) (b : Bool) (xw : Value → Option Addr → L2.St → Hp → Prop) : TS := (tRet (tCB (rLen K) (tCons (tOp (rIxL K) (tFld K (tVar 0) "states") (tUn (rU fun i => .int (-i)) (tC (.int 1)))) tNil)))
theorem sc_Book_len : FnScope ["self"] ["self"] (defScope st_Book_len) := ⟨rfl, rfl, rfl, by decide +kernel, rfl, by decide +kernel, by decide +kernel⟩
theorem ok_Book_len {f : Addr} {fd : FuncData} (T : Tx P w K mg base c T0) (F : Fun K "__len__" "Book.__len__" st_Book_len f fd)  (hB : ∀ b, BodyOk K c (pfLen c b) ["self"] (tm_Book_len K c T0 b)) (hl : Len 1 (pfX fun b => (pfLen c b))) : FnOk P w K mg base (L2.CX P w) 1 f fd ["self"] (spF K c (pfX fun b => (pfLen c b))) := by
  have sc := sc_Book_len
  refine F.okX sc (fun vs H Q E h => spF_len hl h) (fun cdv A outer s H vs Q E hr h => ?_)
  have hn := spF_len hl h
  obtain ⟨b, h⟩ := spF_ex h
  refine ⟨tm_Book_len K c T0 b (fun cls d _ H => E cls d H), (pss_one (ps_ret (pe_callB call_lenR (by rfl) T.bt_len (by decide +kernel) (pa_cons (pe_ix ix_list (pe_fld (pv 0) rfl) (pe_un un_neg pe_int) (fun _ _ => rfl)) pa_nil)))), ?_⟩
  exact body_sp (hB b) h (by rw [hn]; decide) _ rfl
abbrev st_Book_eq : Stmt := inClass (topS 16) 2
def tm_Book_eq (K : PySem.W.Frag) (c : Cs) (T0 : Addr) (b : Bool × Bool) (xw : Value → Option Addr → L2.St → Hp → Prop) : TS := (tRet (tAndV (tIsi K 1 c.book) (tAndV (tOp (rEqD K) (tMeth (cb c b.1) "limit" (spF K c (pfLim c b.1)) [] (fun _ _ _ => False) (tVar 0) tNil) (tMeth (cb c b.2) "limit" (spF K c (pfLim c b.2)) [] (fun _ _ _ => False) (tVar 1) tNil)) (tOp (rEqD K) (tFld K (tVar 0) "calls") (tFld K (tVar 1) "calls")))))
theorem sc_Book_eq : FnScope ["self", "other"] ["self", "other"] (defScope st_Book_eq) := ⟨rfl, rfl, rfl, by decide +kernel, rfl, by decide +kernel, by decide +kernel⟩
theorem ok_Book_eq {f : Addr} {fd : FuncData} (T : Tx P w K mg base c T0) (F : Fun K "__eq__" "Book.__eq__" st_Book_eq f fd) (h0 : ∀ b : Bool, (CalM P w K mg base 1 (cb c b) "limit" ["self"] (spF K c (pfLim c b)))) (h1 : ∀ b : Bool, (CalM P w K mg base 1 (cb c b) "limit" ["self"] (spF K c (pfLim c b)))) (hB : ∀ b, BodyOk K c (pfEq c b) ["self", "other"] (tm_Book_eq K c T0 b)) (hl : Len 2 (pfX fun b => (pfEq c b))) : FnOk P w K mg base (L2.CX P w) 2 f fd ["self", "other"] (spF K c (pfX fun b => (pfEq c b))) := by
  have sc := sc_Book_eq
  refine F.okX sc (fun vs H Q E h => spF_len hl h) (fun cdv A outer s H vs Q E hr h => ?_)
  have hn := spF_len hl h
  obtain ⟨b, h⟩ := spF_ex h
  obtain ⟨f_h0, d_h0, h0⟩ := h0 (b.1)
  obtain ⟨f_h1, d_h1, h1⟩ := h1 (b.2)
  refine ⟨tm_Book_eq K c T0 b (fun cls d _ H => E cls d H), (pss_one (ps_ret (pe_and (pe_callB call_isi (by rfl) T.bt_isinstance (by decide +kernel) (pa_cons (pv 1) (pa_cons (pe_glob (by rfl) T.g_Book rfl) pa_nil))) (pe_and (pe_cmpR (op_eqD hr.units) (pe_meth0 (pv 0) (T.cls _) h0.h h0.F hr h0.b .nil passF) (pe_meth0 (pv 1) (T.cls _) h1.h h1.F hr h1.b .nil passF) (nomark _)) (pe_one (pe_cmpR (op_eqD hr.units) (pe_fld (pv 0) rfl) (pe_fld (pv 1) rfl) (nomark _))))))), ?_⟩
  exact body_sp (hB b) h (by rw [hn]; decide) _ rfl
abbrev st_Book_rules : Stmt := inClass (topS 16) 4
def tm_Book_rules (K : PySem.W.Frag) (c : Cs) (T0 : Addr) (b : Bool) (xw : Value → Option Addr → L2.St → Hp → Prop) : TS := (tRet (tOwn (tLc (iTup K (tOp (rIxL K) (tFld K (tVar 0) "states") (tUn (rU fun i => .int (-i)) (tC (.int 1))))) (gName 1) tYes (tCB (rLst K) (tCons (tVar 1) tNil)) [1])))
theorem sc_Book_rules : FnScope ["self", "word"] ["self"] (defScope st_Book_rules) := ⟨rfl, rfl, rfl, by decide +kernel, rfl, by decide +kernel, by decide +kernel⟩
theorem ok_Book_rules {f : Addr} {fd : FuncData} (T : Tx P w K mg base c T0) (F : Fun K "rules" "Book.rules" st_Book_rules f fd)  (hB : ∀ b, BodyOk K c (pfRules c b) ["self", "word"] (tm_Book_rules K c T0 b)) (hl : Len 1 (pfX fun b => (pfRules c b))) : FnOk P w K mg base (L2.CX P w) 1 f fd ["self"] (spF K c (pfX fun b => (pfRules c b))) := by
  have sc := sc_Book_rules
  refine F.okX sc (fun vs H Q E h => spF_len hl h) (fun cdv A outer s H vs Q E hr h => ?_)
  have hn := spF_len hl h
  obtain ⟨b, h⟩ := spF_ex h
  refine ⟨tm_Book_rules K c T0 b (fun cls d _ H => E cls d H), (pss_one (ps_ret (pe_lc (own := [("word", 1)]) (g := gName 1) (tt := tYes) rfl sc.nd (pi_tup (pe_ix ix_list (pe_fld (pv 0) rfl) (pe_un un_neg pe_int) (fun _ _ => rfl))) (blkOk_by (N := ["self", "word"]) (sc := defScope st_Book_rules) (by decide +kernel)) (fun _ _ _ _ _ => pg_name (i := 1) sc.nd rfl (Or.inl rfl)) (fun _ _ _ _ _ => pts_nil) (fun _ _ _ _ _ => (pe_callTy call_lstR (by rfl) T.bt_list (by decide +kernel) (pa_cons (pv 1) pa_nil)))))), ?_⟩
  exact body_sp (hB b) h (by rw [hn]; decide) _ rfl
abbrev st_Book_settle : Stmt := inClass (topS 16) 5
def tm_Book_settle (K : PySem.W.Frag) (c : Cs) (T0 : Addr) (b : Bool) (xw : Value → Option Addr → L2.St → Hp → Prop) : TS := (tSeq (sFld K (tVar 0) (tLst (tStar K (tFld K (tVar 0) "calls") (tCons (tVar 1) tNil))) "calls")
    (sFld K (tVar 0) (tLst (tStar K (tFld K (tVar 0) "states") (tCons (tVar 2) tNil))) "states"))
theorem sc_Book_settle : FnScope ["self", "call", "words"] ["self", "call", "words"] (defScope st_Book_settle) := ⟨rfl, rfl, rfl, by decide +kernel, rfl, by decide +kernel, by decide +kernel⟩
theorem ok_Book_settle {f : Addr} {fd : FuncData} (T : Tx P w K mg base c T0) (F : Fun K "settle" "Book.settle" st_Book_settle f fd)  (hB : ∀ b, BodyOk K c (pfSettle c b) ["self", "call", "words"] (tm_Book_settle K c T0 b)) (hl : Len 3 (pfX fun b => (pfSettle c b))) : FnOk P w K mg base (L2.CX P w) 1 f fd ["self", "call", "words"] (spF K c (pfX fun b => (pfSettle c b))) := by
  have sc := sc_Book_settle
  refine F.okX sc (fun vs H Q E h => spF_len hl h) (fun cdv A outer s H vs Q E hr h => ?_)
  have hn := spF_len hl h
  obtain ⟨b, h⟩ := spF_ex h
  refine ⟨tm_Book_settle K c T0 b (fun cls d _ H => E cls d H), (pss_cons (ps_fld (pv 0) (pe_lst (pa_star (pe_fld (pv 0) rfl) (pa_cons (pv 1) pa_nil))) rfl)
    (pss_one (ps_fld (pv 0) (pe_lst (pa_star (pe_fld (pv 0) rfl) (pa_cons (pv 2) pa_nil))) rfl))), ?_⟩
  exact body_sp (hB b) h (by rw [hn]; decide) _ rfl
abbrev st_Book_put : Stmt := inClass (topS 16) 6
def tm_Book_put (K : PySem.W.Frag) (c : Cs) (T0 : Addr) (b : Bool) (xw : Value → Option Addr → L2.St → Hp → Prop) : TS := (tSeq (tPar 2 3 (tCons (tMeth (cb c b) "limit" (spF K c (pfLim c b)) [] (fun _ _ _ => False) (tVar 0) tNil) (tCons (tOp (rI0 fun i j => .int (i + j)) (tLenI (cb c b) (spF K c (pfX fun b => pfLen c b)) 0) (tC (.int 1))) tNil)))
    (tSeq (tIfS (tAnd (tTest (tOp (fun x y H Q => y = V.non ∧ Q (.bl (!decide (x = .non))) H) (tVar 2) (tC .non))) (tTest (tOp (rI0 fun i j => .bl (decide (j < i))) (tVar 3) (tVar 2))))
    (tRz K T0 (c.ex 5) xw (tVar 3)) tNext)
    (tDrop (tMeth (cb c b) "settle" (spF K c (pfX fun b => pfSettle c b)) [] (fun _ _ _ => False) (tVar 0) (tCons (tTup (tCons (tC (.str "put")) (tCons (tCB (rTup K) (tCons (tVar 1) tNil)) tNil))) (tCons (tTup (tStar K (tOp (rIxL K) (tFld K (tVar 0) "states") (tUn (rU fun i => .int (-i)) (tC (.int 1)))) (tCons (tCB (rTup K) (tCons (tVar 1) tNil)) tNil))) tNil))))))
theorem sc_Book_put : FnScope ["self", "word", "most", "count"] ["self", "word"] (defScope st_Book_put) := ⟨rfl, rfl, rfl, by decide +kernel, rfl, by decide +kernel, by decide +kernel⟩
theorem ok_Book_put {f : Addr} {fd : FuncData} (T : Tx P w K mg base c T0) (F : Fun K "put" "Book.put" st_Book_put f fd) (h0 : ∀ b : Bool, (CalM P w K mg base 1 (cb c b) "__len__" ["self"] (spF K c (pfX fun b => pfLen c b)))) (h1 : ∀ b : Bool, (CalM P w K mg base 1 (cb c b) "limit" ["self"] (spF K c (pfLim c b)))) (h2 : ∀ b : Bool, (CalM P w K mg base 1 (cb c b) "settle" ["self", "call", "words"] (spF K c (pfX fun b => pfSettle c b)))) (hB : ∀ b, BodyOk K c (pfPut c b) ["self", "word", "most", "count"] (tm_Book_put K c T0 b)) (hl : Len 2 (pfX fun b => (pfPut c b))) : FnOk P w K mg base (L2.CX P w) 4 f fd ["self", "word"] (spF K c (pfX fun b => (pfPut c b))) := by
  have sc := sc_Book_put
  refine F.okX sc (fun vs H Q E h => spF_len hl h) (fun cdv A outer s H vs Q E hr h => ?_)
  have hn := spF_len hl h
  obtain ⟨b, h⟩ := spF_ex h
  obtain ⟨f_h0, d_h0, h0⟩ := h0 (b)
  obtain ⟨f_h1, d_h1, h1⟩ := h1 (b)
  obtain ⟨f_h2, d_h2, h2⟩ := h2 (b)
  obtain ⟨fI, dI, iN⟩ := T.ini
  refine ⟨tm_Book_put K c T0 b (fun cls d _ H => E cls d H), (pss_cons (ps_par (i := 2) (j := 3) rfl sc.nd rfl rfl (by decide) rfl rfl (pa_cons (pe_meth0 (pv 0) (T.cls _) h1.h h1.F (hr.mono (by decide)) h1.b .nil passF) (pa_cons (pe_op op_add (pe_callB (call_lenI h0.h.at_ h0.h.fn h0.F (hr.mono (by decide)) h0.b passF) (by rfl) T.bt_len (by decide +kernel) (pa_cons (pv 0) pa_nil)) pe_int) pa_nil)) (by rfl))
    (pss_cons (ps_if (PW.pt (pw_and (pt_cmpR op_notN (pv 2) pe_non (nomark _)) (pw_and1 (pt_cmpR op_gt (pv 3) (pv 2) (nomark _)))))
    (pss_one (ps_raise rfl (takes_of rfl rfl rfl rfl) (pmk_oex (T.ek 5 (by decide)).ox (iN.xi 5 (by decide)) iN.xt iN.F (hr.mono (by decide)) iN.b .nil passF (by rfl) T.g_TooMany (pa_cons (pv 3) pa_nil)))) pss_nil)
    (pss_one (ps_expr (pe_meth (pv 0) (T.cls _) h2.h h2.F (hr.mono (by decide)) h2.b .nil passF (pa_cons (pe_tup (pa_cons pe_str (pa_cons (pe_callTy call_tupR (by rfl) T.bt_tuple (by decide +kernel) (pa_cons (pv 1) pa_nil)) pa_nil))) (pa_cons (pe_tup (pa_star (pe_ix ix_list (pe_fld (pv 0) rfl) (pe_un un_neg pe_int) (fun _ _ => rfl)) (pa_cons (pe_callTy call_tupR (by rfl) T.bt_tuple (by decide +kernel) (pa_cons (pv 1) pa_nil)) pa_nil))) pa_nil))))))), ?_⟩
  exact body_sp (hB b) h (by rw [hn]; decide) _ rfl
abbrev st_Book_change : Stmt := inClass (topS 16) 7
def tm_Book_change (K : PySem.W.Frag) (c : Cs) (T0 : Addr) (b : Bool) (xw : Value → Option Addr → L2.St → Hp → Prop) : TS := (tSeq (tAsg (tOp (rIxL K) (tFld K (tVar 0) "states") (tUn (rU fun i => .int (-i)) (tC (.int 1)))) (gName 3))
    (tSeq (tIfS (tNot (tTest (tChain (rI0 fun i j => .bl (decide (i ≤ j))) (rI0 fun i j => .bl (decide (i < j))) (tC (.int 0)) (tVar 1) (tCB (rLen K) (tCons (tVar 3) tNil)))))
    (tRz K T0 (c.ex 1) xw (tVar 1)) tNext)
    (tSeq (tAsg (tTup (tStar K (tSl (rSlA K) (tVar 3) tNoPart (tPart (tVar 1))) (tCons (tCB (rTup K) (tCons (tVar 2) tNil)) (tStar K (tSl (rSlA K) (tVar 3) (tPart (tOp (rI0 fun i j => .int (i + j)) (tVar 1) (tC (.int 1)))) tNoPart) tNil)))) (gName 4))
    (tDrop (tMeth (cb c b) "settle" (spF K c (pfX fun b => pfSettle c b)) [] (fun _ _ _ => False) (tVar 0) (tCons (tTup (tCons (tC (.str "change")) (tCons (tVar 1) (tCons (tCB (rTup K) (tCons (tVar 2) tNil)) tNil)))) (tCons (tVar 4) tNil)))))))
theorem sc_Book_change : FnScope ["self", "letter", "word", "words", "later"] ["self", "letter", "word"] (defScope st_Book_change) := ⟨rfl, rfl, rfl, by decide +kernel, rfl, by decide +kernel, by decide +kernel⟩
theorem ok_Book_change {f : Addr} {fd : FuncData} (T : Tx P w K mg base c T0) (F : Fun K "change" "Book.change" st_Book_change f fd) (h0 : ∀ b : Bool, (CalM P w K mg base 1 (cb c b) "settle" ["self", "call", "words"] (spF K c (pfX fun b => pfSettle c b)))) (hB : ∀ b, BodyOk K c (pfChange c b) ["self", "letter", "word", "words", "later"] (tm_Book_change K c T0 b)) (hl : Len 3 (pfX fun b => (pfChange c b))) : FnOk P w K mg base (L2.CX P w) 4 f fd ["self", "letter", "word"] (spF K c (pfX fun b => (pfChange c b))) := by
  have sc := sc_Book_change
  refine F.okX sc (fun vs H Q E h => spF_len hl h) (fun cdv A outer s H vs Q E hr h => ?_)
  have hn := spF_len hl h
  obtain ⟨b, h⟩ := spF_ex h
  obtain ⟨f_h0, d_h0, h0⟩ := h0 (b)
  obtain ⟨fI, dI, iN⟩ := T.ini
  refine ⟨tm_Book_change K c T0 b (fun cls d _ H => E cls d H), (pss_cons (ps_set (i := 3) sc.nd rfl (Or.inl rfl) (pe_ix ix_list (pe_fld (pv 0) rfl) (pe_un un_neg pe_int) (fun _ _ => rfl)))
    (pss_cons (ps_if (pt_not (pt_chain op_le op_lt pe_int (pv 1) (pe_callB call_lenR (by rfl) T.bt_len (by decide +kernel) (pa_cons (pv 3) pa_nil))))
    (pss_one (ps_raise rfl (takes_of rfl rfl rfl rfl) (pmk_oex (T.ek 1 (by decide)).ox (iN.xi 1 (by decide)) iN.xt iN.F (hr.mono (by decide)) iN.b .nil passF (by rfl) T.g_InvalidLetter (pa_cons (pv 1) pa_nil)))) pss_nil)
    (pss_cons (ps_set (i := 4) sc.nd rfl (Or.inl rfl) (pe_tup (pa_star (pe_slice sl_tupA (pv 3) po_none (po_some (pv 1))) (pa_cons (pe_callTy call_tupR (by rfl) T.bt_tuple (by decide +kernel) (pa_cons (pv 2) pa_nil)) (pa_star (pe_slice sl_tupA (pv 3) (po_some (pe_op op_add (pv 1) pe_int)) po_none) pa_nil)))))
    (pss_one (ps_expr (pe_meth (pv 0) (T.cls _) h0.h h0.F (hr.mono (by decide)) h0.b .nil passF (pa_cons (pe_tup (pa_cons pe_str (pa_cons (pv 1) (pa_cons (pe_callTy call_tupR (by rfl) T.bt_tuple (by decide +kernel) (pa_cons (pv 2) pa_nil)) pa_nil)))) (pa_cons (pv 4) pa_nil)))))))), ?_⟩
  exact body_sp (hB b) h (by rw [hn]; decide) _ rfl
abbrev st_Book_undo : Stmt := inClass (topS 16) 8
def tm_Book_undo (K : PySem.W.Frag) (c : Cs) (T0 : Addr) (b : Bool) (xw : Value → Option Addr → L2.St → Hp → Prop) : TS := (tSeq (tIfS (tTest (tOp (rEqD K) (tFld K (tVar 0) "calls") (tLst tNil)))
    (tRz K T0 (c.ex 6) xw (tC (.int 0))) tNext)
    (tSeq (sFld K (tVar 0) (tSl (rSlL K) (tFld K (tVar 0) "calls") tNoPart (tPart (tUn (rU fun i => .int (-i)) (tC (.int 1))))) "calls")
    (sFld K (tVar 0) (tSl (rSlL K) (tFld K (tVar 0) "states") tNoPart (tPart (tUn (rU fun i => .int (-i)) (tC (.int 1))))) "states")))
theorem sc_Book_undo : FnScope ["self"] ["self"] (defScope st_Book_undo) := ⟨rfl, rfl, rfl, by decide +kernel, rfl, by decide +kernel, by decide +kernel⟩
theorem ok_Book_undo {f : Addr} {fd : FuncData} (T : Tx P w K mg base c T0) (F : Fun K "undo" "Book.undo" st_Book_undo f fd)  (hB : ∀ b, BodyOk K c (pfUndo c b) ["self"] (tm_Book_undo K c T0 b)) (hl : Len 1 (pfX fun b => (pfUndo c b))) : FnOk P w K mg base (L2.CX P w) 4 f fd ["self"] (spF K c (pfX fun b => (pfUndo c b))) := by
  have sc := sc_Book_undo
  refine F.okX sc (fun vs H Q E h => spF_len hl h) (fun cdv A outer s H vs Q E hr h => ?_)
  have hn := spF_len hl h
  obtain ⟨b, h⟩ := spF_ex h
  obtain ⟨fI, dI, iN⟩ := T.ini
  refine ⟨tm_Book_undo K c T0 b (fun cls d _ H => E cls d H), (pss_cons (ps_if (pt_cmpR (op_eqD hr.units) (pe_fld (pv 0) rfl) (pe_lst pa_nil) (nomark _))
    (pss_one (ps_raise rfl (takes_of rfl rfl rfl rfl) (pmk_oex (T.ek 6 (by decide)).ox (iN.xi 6 (by decide)) iN.xt iN.F (hr.mono (by decide)) iN.b .nil passF (by rfl) T.g_NothingToUndo (pa_cons pe_int pa_nil)))) pss_nil)
    (pss_cons (ps_fld (pv 0) (pe_slice sl_list (pe_fld (pv 0) rfl) po_none (po_some (pe_un un_neg pe_int))) rfl)
    (pss_one (ps_fld (pv 0) (pe_slice sl_list (pe_fld (pv 0) rfl) po_none (po_some (pe_un un_neg pe_int))) rfl)))), ?_⟩
  exact body_sp (hB b) h (by rw [hn]; decide) _ rfl
abbrev st_SmallBook_init : Stmt := inClass (topS 17) 0
def tm_SmallBook_init (K : PySem.W.Frag) (c : Cs) (T0 : Addr) (xw : Value → Option Addr → L2.St → Hp → Prop) : TS := (tSeq (tIfS (tTest (tOp (rI0 fun i j => .bl (decide (i < j))) (tVar 1) (tC (.int 0))))
    (tRz K T0 (c.ex 3) xw (tVar 1)) tNext)
    (sFld K (tVar 0) (tVar 1) "greatest"))
theorem sn_SmallBook_init : SupN ["self", "most"] ["self", "most"] (defScope st_SmallBook_init) := ⟨by decide +kernel, rfl, by decide +kernel⟩
theorem dv_SmallBook_init {A : Around} {outer : List Env} {s : Shared} {H : Hp} {E : XK} {f cda cc : Addr} (T : Tx P w K mg base c T0) (hr : Room 3 (A.deeper (PySem.W.ksEnv "SmallBook.__init__" (defScope st_SmallBook_init) s.heap.objs.size f (.ref cda) cc))) : PSs (cxS P w K mg base ["self", "most"] "SmallBook.__init__" (defScope st_SmallBook_init) f cda cc A outer s H E) (defBody st_SmallBook_init).tail (tm_SmallBook_init K c T0 (fun cls d _ H => E cls d H)) := by
  have sc := sn_SmallBook_init
  obtain ⟨fI, dI, iN⟩ := T.ini
  exact (pss_cons (ps_if (pt_cmpR op_lt (pv 1) pe_int (nomark _))
    (pss_one (ps_raise rfl (takes_of rfl rfl rfl rfl) (pmk_oex (T.ek 3 (by decide)).ox (iN.xi 3 (by decide)) iN.xt iN.F (hr.mono (by decide)) iN.b .nil passF (by rfl) T.g_InvalidNumber (pa_cons (pv 1) pa_nil)))) pss_nil)
    (pss_one (ps_fld (pv 0) (pv 1) rfl)))
abbrev st_law_told : Stmt := topS 21
def tm_law_told (K : PySem.W.Frag) (c : Cs) (T0 : Addr) (xw : Value → Option Addr → L2.St → Hp → Prop) : TS := (tTry K (c.ex 0) 2 (fun V => (tRet (tOwn (tIf (tTest (tOp rEq (tVar 0) (tC (.int 0)))) (tMakeX (cb c true) (spF K c (pfSInit c)) (fun σ cls d H => V cls d σ H) (tCons (tVar 1) tNil)) (tMakeX (cb c true) (spF K c (pfSInit c)) (fun σ cls d H => V cls d σ H) (tCons (tVar 1) tNil)))))) (fun a cls d => (tSeq (tAsg (tCB (rIsX K a cls d) (tCons (tVar 2) (tCons (tTup (tCons (tC (.ref (c.ex 1))) (tCons (tC (.ref (c.ex 2))) (tCons (tC (.ref (c.ex 4))) (tCons (tC (.ref (c.ex 6))) (tCons (tC (.ref (c.ex 5))) (tCons (tC (.ref (c.ex 7))) tNil))))))) tNil))) (gName 3))
    (tRet (tOwn (tLst (tCons (tCB (rIsX K a cls d) (tCons (tVar 2) (tCons (tC (.ref (c.ex 3))) tNil))) (tCons (tOrV (tVar 3) (tNotV (tCB (rIsX K a cls d) (tCons (tVar 2) (tCons (tC (.ty "ValueError")) tNil))))) (tCons (tXfA K a cls d "value" 2) tNil)))))))) xw)
theorem sc_law_told : FnScope ["way", "limit", "e", "odd"] ["way", "limit"] (defScope st_law_told) := ⟨rfl, rfl, rfl, by decide +kernel, rfl, by decide +kernel, by decide +kernel⟩
theorem ok_law_told {f : Addr} {fd : FuncData} (T : Tx P w K mg base c T0) (F : Fun K "_law_told" "_law_told" st_law_told f fd) (h0 : (CalC P w K mg base 4 (cb c true) "SmallBook" ["self", "most"] (spF K c (pfSInit c)))) (h1 : (KwC P w K mg base (cb c true) "SmallBook" 4 ["most"] ["self", "most"] (spF K c (pfSInit c)))) (hB : BodyOk K c (pfTold c) ["way", "limit", "e", "odd"] (tm_law_told K c T0)) (hl : Len 2 (pfTold c)) : FnOk P w K mg base (L2.CX P w) 6 f fd ["way", "limit"] (spF K c (pfTold c)) := by
  have sc := sc_law_told
  refine F.okX sc (fun vs H Q E h => spF_len hl h) (fun cdv A outer s H vs Q E hr h => ?_)
  have hn := spF_len hl h
  obtain ⟨f_h0, d_h0, h0⟩ := h0
  obtain ⟨f_h1, d_h1, h1, k_h1⟩ := h1
  refine ⟨tm_law_told K c T0 (fun cls d _ H => E cls d H), (pss_one (ps_try_as (i := 2) (tb := fun V => (tRet (tOwn (tIf (tTest (tOp rEq (tVar 0) (tC (.int 0)))) (tMakeX (cb c true) (spF K c (pfSInit c)) (fun σ cls d H => V cls d σ H) (tCons (tVar 1) tNil)) (tMakeX (cb c true) (spF K c (pfSInit c)) (fun σ cls d H => V cls d σ H) (tCons (tVar 1) tNil)))))) (ts := fun a cls d => (tSeq (tAsg (tCB (rIsX K a cls d) (tCons (tVar 2) (tCons (tTup (tCons (tC (.ref (c.ex 1))) (tCons (tC (.ref (c.ex 2))) (tCons (tC (.ref (c.ex 4))) (tCons (tC (.ref (c.ex 6))) (tCons (tC (.ref (c.ex 5))) (tCons (tC (.ref (c.ex 7))) tNil))))))) tNil))) (gName 3))
    (tRet (tOwn (tLst (tCons (tCB (rIsX K a cls d) (tCons (tVar 2) (tCons (tC (.ref (c.ex 3))) tNil))) (tCons (tOrV (tVar 3) (tNotV (tCB (rIsX K a cls d) (tCons (tVar 2) (tCons (tC (.ty "ValueError")) tNil))))) (tCons (tXfA K a cls d "value" 2) tNil)))))))) rfl rfl sc.nd rfl rfl ⟨rfl, by decide, .inl T.g_RowError⟩ (takes_of rfl rfl rfl rfl) (fun V pn xe tk po => (pss_one (ps_ret (pe_ifExp (pt_cmpR op_eq (pv 0) pe_int (nomark _)) (pe_makeX h0.M h0.F hr (by rfl) h0.m h0.b (fun σ => passAt tk σ) (pa_cons (pv 1) pa_nil)) (pe_makeX1K h1.M h1.F hr (by rfl) h1.m k_h1 (fun σ => passAt tk σ) (pv 1)))))) (fun a oe cls d pn hz hf => (pss_cons (ps_set (i := 3) sc.nd rfl (Or.inl rfl) (pe_callB (call_isX hz hf) (by rfl) T.bt_isinstance (by decide +kernel) (pa_cons (pv 2) (pa_cons (pe_tup (pa_cons (pe_glob (by rfl) T.g_InvalidLetter rfl) (pa_cons (pe_glob (by rfl) T.g_InvalidRules rfl) (pa_cons (pe_glob (by rfl) T.g_NotMixed rfl) (pa_cons (pe_glob (by rfl) T.g_NothingToUndo rfl) (pa_cons (pe_glob (by rfl) T.g_TooMany rfl) (pa_cons (pe_glob (by rfl) T.g_Unreadable rfl) pa_nil))))))) pa_nil))))
    (pss_one (ps_ret (pe_lst (pa_cons (pe_callB (call_isX hz hf) (by rfl) T.bt_isinstance (by decide +kernel) (pa_cons (pv 2) (pa_cons (pe_glob (by rfl) T.g_InvalidNumber rfl) pa_nil))) (pa_cons (pe_or (pv 3) (pe_one (pe_not (pe_callB (call_isX hz hf) (by rfl) T.bt_isinstance (by decide +kernel) (pa_cons (pv 2) (pa_cons (pe_bltn (v := .ty "ValueError") (u := .type "ValueError") (by rfl) T.bt_ValueError (by decide +kernel) rfl) pa_nil)))))) (pa_cons (pe_xfA hz hf (pv 2)) pa_nil)))))))))), ?_⟩
  exact body_sp (hB) h (by rw [hn]; decide) _ rfl
abbrev st_law_refused : Stmt := topS 22
def tm_law_refused (K : PySem.W.Frag) (c : Cs) (T0 : Addr) (b : Bool) (xw : Value → Option Addr → L2.St → Hp → Prop) : TS := (tSeq (tTry K (c.ex 0) 2 (fun V => (tDrop (tMethX (cb c b) "put" (spF K c (pfX fun b => pfPut c b)) (fun σ cls d H => V cls d σ H) (tVar 0) (tCons (tVar 1) tNil)))) (fun a cls d => (tSeq (tAsg (tCB (rIsX K a cls d) (tCons (tVar 2) (tCons (tTup (tCons (tC (.ref (c.ex 1))) (tCons (tC (.ref (c.ex 3))) (tCons (tC (.ref (c.ex 2))) (tCons (tC (.ref (c.ex 4))) (tCons (tC (.ref (c.ex 6))) (tCons (tC (.ref (c.ex 7))) tNil))))))) tNil))) (gName 3))
    (tRet (tLst (tCons (tCB (rIsX K a cls d) (tCons (tVar 2) (tCons (tC (.ref (c.ex 5))) tNil))) (tCons (tOrV (tVar 3) (tNotV (tCB (rIsX K a cls d) (tCons (tVar 2) (tCons (tC (.ty "ValueError")) tNil))))) (tCons (tXfA K a cls d "value" 2) tNil))))))) xw)
    (tRet (tC .non)))
theorem sc_law_refused : FnScope ["page", "step", "e", "odd"] ["page", "step"] (defScope st_law_refused) := ⟨rfl, rfl, rfl, by decide +kernel, rfl, by decide +kernel, by decide +kernel⟩
theorem ok_law_refused {f : Addr} {fd : FuncData} (T : Tx P w K mg base c T0) (F : Fun K "_law_refused" "_law_refused" st_law_refused f fd) (h0 : ∀ b : Bool, (CalM P w K mg base 4 (cb c b) "put" ["self", "word"] (spF K c (pfX fun b => pfPut c b)))) (hB : ∀ b, BodyOk K c (pfRefused c b) ["page", "step", "e", "odd"] (tm_law_refused K c T0 b)) (hl : Len 2 (pfX fun b => (pfRefused c b))) : FnOk P w K mg base (L2.CX P w) 5 f fd ["page", "step"] (spF K c (pfX fun b => (pfRefused c b))) := by
  have sc := sc_law_refused
  refine F.okX sc (fun vs H Q E h => spF_len hl h) (fun cdv A outer s H vs Q E hr h => ?_)
  have hn := spF_len hl h
  obtain ⟨b, h⟩ := spF_ex h
  obtain ⟨f_h0, d_h0, h0⟩ := h0 (b)
  refine ⟨tm_law_refused K c T0 b (fun cls d _ H => E cls d H), (pss_cons (ps_try_as (i := 2) (tb := fun V => (tDrop (tMethX (cb c b) "put" (spF K c (pfX fun b => pfPut c b)) (fun σ cls d H => V cls d σ H) (tVar 0) (tCons (tVar 1) tNil)))) (ts := fun a cls d => (tSeq (tAsg (tCB (rIsX K a cls d) (tCons (tVar 2) (tCons (tTup (tCons (tC (.ref (c.ex 1))) (tCons (tC (.ref (c.ex 3))) (tCons (tC (.ref (c.ex 2))) (tCons (tC (.ref (c.ex 4))) (tCons (tC (.ref (c.ex 6))) (tCons (tC (.ref (c.ex 7))) tNil))))))) tNil))) (gName 3))
    (tRet (tLst (tCons (tCB (rIsX K a cls d) (tCons (tVar 2) (tCons (tC (.ref (c.ex 5))) tNil))) (tCons (tOrV (tVar 3) (tNotV (tCB (rIsX K a cls d) (tCons (tVar 2) (tCons (tC (.ty "ValueError")) tNil))))) (tCons (tXfA K a cls d "value" 2) tNil))))))) rfl rfl sc.nd rfl rfl ⟨rfl, by decide, .inl T.g_RowError⟩ (takes_of rfl rfl rfl rfl) (fun V pn xe tk po => (pss_one (ps_expr (pe_methX (pv 0) (T.cls _) h0.h h0.F hr h0.b (fun σ => passAt tk σ) (pa_cons (pv 1) pa_nil))))) (fun a oe cls d pn hz hf => (pss_cons (ps_set (i := 3) sc.nd rfl (Or.inl rfl) (pe_callB (call_isX hz hf) (by rfl) T.bt_isinstance (by decide +kernel) (pa_cons (pv 2) (pa_cons (pe_tup (pa_cons (pe_glob (by rfl) T.g_InvalidLetter rfl) (pa_cons (pe_glob (by rfl) T.g_InvalidNumber rfl) (pa_cons (pe_glob (by rfl) T.g_InvalidRules rfl) (pa_cons (pe_glob (by rfl) T.g_NotMixed rfl) (pa_cons (pe_glob (by rfl) T.g_NothingToUndo rfl) (pa_cons (pe_glob (by rfl) T.g_Unreadable rfl) pa_nil))))))) pa_nil))))
    (pss_one (ps_ret (pe_lst (pa_cons (pe_callB (call_isX hz hf) (by rfl) T.bt_isinstance (by decide +kernel) (pa_cons (pv 2) (pa_cons (pe_glob (by rfl) T.g_TooMany rfl) pa_nil))) (pa_cons (pe_or (pv 3) (pe_one (pe_not (pe_callB (call_isX hz hf) (by rfl) T.bt_isinstance (by decide +kernel) (pa_cons (pv 2) (pa_cons (pe_bltn (v := .ty "ValueError") (u := .type "ValueError") (by rfl) T.bt_ValueError (by decide +kernel) rfl) pa_nil)))))) (pa_cons (pe_xfA hz hf (pv 2)) pa_nil)))))))))
    (pss_one (ps_ret pe_non))), ?_⟩
  exact body_sp (hB b) h (by rw [hn]; decide) _ rfl
abbrev st_law_fits : Stmt := topS 23
def tm_law_fits (K : PySem.W.Frag) (c : Cs) (T0 : Addr) (xw : Value → Option Addr → L2.St → Hp → Prop) : TS := (tSeq (tAsg (tOp (rIxL K) (tLst (tCons (tUn (rU fun i => .int (-i)) (tC (.int 1))) (tCons (tOp (rI0 fun i j => .int (i - j)) (tUn (rU fun i => .int (-i)) (tC (.int 2))) (tCall (spF K c pfDraw) [] (fun _ _ _ => False) (tCons (tVar 0) (tCons (tC (.int 99)) tNil)))) (tCons (tOp (rI0 fun i j => .int (i - j)) (tC (.int 0)) (tOp (rI CPowW fun i j => .int (i ^ j.toNat)) (tC (.int 10)) (tC (.int 30)))) tNil)))) (tCall (spF K c pfDraw) [] (fun _ _ _ => False) (tCons (tVar 0) (tCons (tC (.int 3)) tNil)))) (gName 1))
    (tSeq (tIfS (tTest (tOp rNe (tCB (rRepN K) (tCons (tLst (tCons (tCall (spF K c (pfTold c)) [] (fun _ _ _ => False) (tCons (tC (.int 0)) (tCons (tVar 1) tNil))) (tCons (tCall (spF K c (pfTold c)) [] (fun _ _ _ => False) (tCons (tC (.int 1)) (tCons (tVar 1) tNil))) tNil))) tNil)) (tCB (rRepN K) (tCons (tOp rRep (tLst (tCons (tLst (tCons (tC (.bl true)) (tCons (tC (.bl false)) (tCons (tVar 1) tNil)))) tNil)) (tC (.int 2))) tNil))))
    (tRet (tC (.bl false))) tNext)
    (tSeq (tAsg (tOp (rIxL K) (tLst (tCons (tC (.int 0)) (tCons (tC (.int 1)) (tCons (tC (.int 2)) (tCons (tOp (rI0 fun i j => .int (i + j)) (tC (.int 3)) (tCall (spF K c pfDraw) [] (fun _ _ _ => False) (tCons (tVar 0) (tCons (tC (.int 20)) tNil)))) tNil))))) (tCall (spF K c pfDraw) [] (fun _ _ _ => False) (tCons (tVar 0) (tCons (tC (.int 4)) tNil)))) (gName 2))
    (tSeq (tPar 3 4 (tCons (tOwn (tCall (spF K c (pfTold c)) [] (fun _ _ _ => False) (tCons (tCall (spF K c pfDraw) [] (fun _ _ _ => False) (tCons (tVar 0) (tCons (tC (.int 2)) tNil))) (tCons (tVar 2) tNil)))) (tCons (tOwn (tMake (cb c false) (spF K c (pfX fun b => pfInit c b)) [] (fun _ _ _ => False) tNil)) tNil)))
    (tSeq (tFor (iRng1 (tCons (tVar 2) tNil)) (gName 5)
    (tSeq (tAsg (tLc (iRng1 (tCons (tCall (spF K c pfDraw) [] (fun _ _ _ => False) (tCons (tVar 0) (tCons (tC (.int 4)) tNil))) tNil)) (gName 8) tYes (tCall (spF K c pfDraw) [] (fun _ _ _ => False) (tCons (tVar 0) (tCons (tC (.int 4)) tNil))) [8]) (gName 6))
    (tIfS (tOr (tTest (tOp (fun x y H Q => y = V.non ∧ Q (.bl (!decide (x = .non))) H) (tCall (spF K c (pfX fun b => pfRefused c b)) [] (fun _ _ _ => False) (tCons (tVar 3) (tCons (tVar 6) tNil))) (tC .non))) (tTest (tOp (fun x y H Q => y = V.non ∧ Q (.bl (!decide (x = .non))) H) (tCall (spF K c (pfX fun b => pfRefused c b)) [] (fun _ _ _ => False) (tCons (tVar 4) (tCons (tVar 6) tNil))) (tC .non))))
    (tRet (tC (.bl false))) tNext)))
    (tSeq (tAsg (tLst (tCons (tC (.bl true)) (tCons (tC (.bl false)) (tCons (tOp (rI0 fun i j => .int (i + j)) (tVar 2) (tC (.int 1))) tNil)))) (gName 7))
    (tSeq (tIfS (tOr (tTest (tOp rNe (tCB (rRepN K) (tCons (tLst (tCons (tCall (spF K c (pfX fun b => pfRefused c b)) [] (fun _ _ _ => False) (tCons (tVar 3) (tCons (tLst (tCons (tC (.int 0)) (tCons (tC (.int 1)) tNil))) tNil))) (tCons (tCall (spF K c (pfX fun b => pfRefused c b)) [] (fun _ _ _ => False) (tCons (tVar 3) (tCons (tLst tNil) tNil))) tNil))) tNil)) (tCB (rRepN K) (tCons (tLst (tCons (tVar 7) (tCons (tVar 7) tNil))) tNil)))) (tTest (tOp rNe (tLenI (cb c true) (spF K c (pfX fun b => pfLen c b)) 3) (tVar 2))))
    (tRet (tC (.bl false))) tNext)
    (tSeq (tIfS (tTest (tOp (rI0 fun i j => .bl (decide (j < i))) (tVar 2) (tC (.int 0))))
    (tSeq (tDrop (tMethX (cb c true) "change" (spF K c (pfX fun b => pfChange c b)) (fun σ cls d H => xw cls d σ H) (tVar 3) (tCons (tOp (rI0 fun i j => .int (i - j)) (tVar 2) (tC (.int 1))) (tCons (tLst (tCons (tC (.int 0)) tNil)) tNil))))
    (tSeq (tDrop (tMethX (cb c true) "undo" (spF K c (pfX fun b => pfUndo c b)) (fun σ cls d H => xw cls d σ H) (tVar 3) tNil))
    (tSeq (tIfS (tOr (tTest (tOp (rNeD K) (tProp (cb c true) (spF K c (pfX fun b => pfRules c b)) [] (fun _ _ _ => False) (tVar 3)) (tProp (cb c false) (spF K c (pfX fun b => pfRules c b)) [] (fun _ _ _ => False) (tVar 4)))) (tOr (tTest (tEqI K (cb c true) (cb c false) (spF K c (pfX fun b => pfEq c b)) 3 4)) (tTest (tOp (rNeD K) (tCall (spF K c (pfX fun b => pfRefused c b)) [] (fun _ _ _ => False) (tCons (tVar 3) (tCons (tLst (tCons (tC (.int 7)) tNil)) tNil))) (tVar 7)))))
    (tRet (tC (.bl false))) tNext)
    (tSeq (tDrop (tMethX (cb c true) "undo" (spF K c (pfX fun b => pfUndo c b)) (fun σ cls d H => xw cls d σ H) (tVar 3) tNil))
    (tIfS (tOr (tTest (tOp (fun x y H Q => y = V.non ∧ Q (.bl (!decide (x = .non))) H) (tCall (spF K c (pfX fun b => pfRefused c b)) [] (fun _ _ _ => False) (tCons (tVar 3) (tCons (tLst (tCons (tC (.int 7)) tNil)) tNil))) (tC .non))) (tOr (tTest (tOp (rNeD K) (tOp (rIxL K) (tProp (cb c true) (spF K c (pfX fun b => pfRules c b)) [] (fun _ _ _ => False) (tVar 3)) (tUn (rU fun i => .int (-i)) (tC (.int 1)))) (tLst (tCons (tC (.int 7)) tNil)))) (tTest (tOp (rNeD K) (tCall (spF K c (pfX fun b => pfRefused c b)) [] (fun _ _ _ => False) (tCons (tVar 3) (tCons (tLst (tCons (tC (.int 7)) tNil)) tNil))) (tVar 7)))))
    (tRet (tC (.bl false))) tNext))))) tNext)
    (tRet (tAndV (tOp (fun x y H Q => y = V.non ∧ Q (.bl (decide (x = .non))) H) (tCall (spF K c (pfX fun b => pfRefused c b)) [] (fun _ _ _ => False) (tCons (tVar 4) (tCons (tLst (tCons (tC (.int 0)) tNil)) tNil))) (tC .non)) (tAndV (tOp rEq (tLenI (cb c false) (spF K c (pfX fun b => pfLen c b)) 4) (tOp (rI0 fun i j => .int (i + j)) (tVar 2) (tC (.int 1)))) (tOp rEq (tLenF (cb c true) (spF K c (pfX fun b => pfLen c b)) (tCall (spF K c (pfTold c)) [] (fun _ _ _ => False) (tCons (tC (.int 0)) (tCons (tOp (rI CPowW fun i j => .int (i ^ j.toNat)) (tC (.int 10)) (tC (.int 30))) tNil)))) (tC (.int 0))))))))))))))
theorem sc_law_fits : FnScope ["pool", "wrong", "limit", "page", "bare", "turn", "step", "due", "some"] ["pool"] (defScope st_law_fits) := ⟨rfl, rfl, rfl, by decide +kernel, rfl, by decide +kernel, by decide +kernel⟩
theorem ok_law_fits {f : Addr} {fd : FuncData} (T : Tx P w K mg base c T0) (F : Fun K "_law_fits" "_law_fits" st_law_fits f fd) (h0 : Cal P w K mg base 1 "_law_draw" ["pool", "span"] (spF K c pfDraw)) (h1 : Cal P w K mg base 6 "_law_told" ["way", "limit"] (spF K c (pfTold c))) (h2 : (CalC P w K mg base 1 (cb c false) "Book" ["self"] (spF K c (pfX fun b => pfInit c b)))) (h3 : Cal P w K mg base 5 "_law_refused" ["page", "step"] (spF K c (pfX fun b => pfRefused c b))) (h4 : ∀ b : Bool, (CalM P w K mg base 1 (cb c b) "__len__" ["self"] (spF K c (pfX fun b => pfLen c b)))) (h5 : ∀ b : Bool, (CalM P w K mg base 4 (cb c b) "change" ["self", "letter", "word"] (spF K c (pfX fun b => pfChange c b)))) (h6 : ∀ b : Bool, (CalM P w K mg base 4 (cb c b) "undo" ["self"] (spF K c (pfX fun b => pfUndo c b)))) (h7 : ∀ b : Bool, (CalP P w K mg base 1 (cb c b) "rules" ["self"] (spF K c (pfX fun b => pfRules c b)))) (h8 : ∀ b : Bool, (CalP P w K mg base 1 (cb c b) "rules" ["self"] (spF K c (pfX fun b => pfRules c b)))) (h9 : ∀ b : Bool, (CalM P w K mg base 2 (cb c b) "__eq__" ["self", "other"] (spF K c (pfX fun b => pfEq c b)))) (h10 : ∀ b : Bool, (CalM P w K mg base 1 (cb c b) "__len__" ["self"] (spF K c (pfX fun b => pfLen c b)))) (hB : BodyOk K c (pfFits c) ["pool", "wrong", "limit", "page", "bare", "turn", "step", "due", "some"] (tm_law_fits K c T0)) (hl : Len 1 (pfFits c)) : FnG P w K mg base (L2.CX P w) 8 f fd ["pool"] (spF K c (pfFits c)) := by
  have sc := sc_law_fits
  refine fnG_of F sc (fun vs H Q E h => spF_len hl h) (fun cdv A outer s H vs Q E hA hr h => ?_)
  have hn := spF_len hl h
  obtain ⟨f_h0, d_h0, h0⟩ := h0
  obtain ⟨f_h1, d_h1, h1⟩ := h1
  obtain ⟨f_h2, d_h2, h2⟩ := h2
  obtain ⟨f_h3, d_h3, h3⟩ := h3
  obtain ⟨f_h4, d_h4, h4⟩ := h4 (true)
  obtain ⟨f_h5, d_h5, h5⟩ := h5 (true)
  obtain ⟨f_h6, d_h6, h6⟩ := h6 (true)
  obtain ⟨p_h7, f_h7, d_h7, h7⟩ := h7 (true)
  obtain ⟨p_h8, f_h8, d_h8, h8⟩ := h8 (false)
  obtain ⟨f_h9, d_h9, h9⟩ := h9 (true)
  obtain ⟨f_h10, d_h10, h10⟩ := h10 (false)
  refine ⟨tm_law_fits K c T0 (fun cls d _ H => E cls d H), (pss_cons (ps_set (i := 1) sc.nd rfl (Or.inl rfl) (pe_ix ix_list (pe_lst (pa_cons (pe_un un_neg pe_int) (pa_cons (pe_op op_sub (pe_un un_neg pe_int) (pe_call h0.F (hr.mono (by decide)) (by rfl) h0.m h0.kp h0.b .nil passF (pa_cons (pv 0) (pa_cons pe_int pa_nil)))) (pa_cons (pe_op op_sub pe_int (pe_op op_powW pe_int pe_int)) pa_nil)))) (pe_call h0.F (hr.mono (by decide)) (by rfl) h0.m h0.kp h0.b .nil passF (pa_cons (pv 0) (pa_cons pe_int pa_nil))) (fun _ _ => rfl)))
    (pss_cons (ps_if (pt_cmpR op_ne (pe_callB (call_repN hA hr.units) (by rfl) T.bt_repr (by decide +kernel) (pa_cons (pe_lst (pa_cons (pe_call h1.F (hr.mono (by decide)) (by rfl) h1.m h1.kp h1.b .nil passF (pa_cons pe_int (pa_cons (pv 1) pa_nil))) (pa_cons (pe_call h1.F (hr.mono (by decide)) (by rfl) h1.m h1.kp h1.b .nil passF (pa_cons pe_int (pa_cons (pv 1) pa_nil))) pa_nil))) pa_nil)) (pe_callB (call_repN hA hr.units) (by rfl) T.bt_repr (by decide +kernel) (pa_cons (pe_op op_rep (pe_lst (pa_cons (pe_lst (pa_cons pe_bl (pa_cons pe_bl (pa_cons (pv 1) pa_nil)))) pa_nil)) pe_int) pa_nil)) (nomark _))
    (pss_one (ps_ret pe_bl)) pss_nil)
    (pss_cons (ps_set (i := 2) sc.nd rfl (Or.inl rfl) (pe_ix ix_list (pe_lst (pa_cons pe_int (pa_cons pe_int (pa_cons pe_int (pa_cons (pe_op op_add pe_int (pe_call h0.F (hr.mono (by decide)) (by rfl) h0.m h0.kp h0.b .nil passF (pa_cons (pv 0) (pa_cons pe_int pa_nil)))) pa_nil))))) (pe_call h0.F (hr.mono (by decide)) (by rfl) h0.m h0.kp h0.b .nil passF (pa_cons (pv 0) (pa_cons pe_int pa_nil))) (fun _ _ => rfl)))
    (pss_cons (ps_par (i := 3) (j := 4) rfl sc.nd rfl rfl (by decide) rfl rfl (pa_cons (pe_call h1.F (hr.mono (by decide)) (by rfl) h1.m h1.kp h1.b .nil passF (pa_cons (pe_call h0.F (hr.mono (by decide)) (by rfl) h0.m h0.kp h0.b .nil passF (pa_cons (pv 0) (pa_cons pe_int pa_nil))) (pa_cons (pv 2) pa_nil))) (pa_cons (pe_make0 h2.M h2.F (hr.mono (by decide)) (by rfl) h2.m h2.b .nil passF) pa_nil)) (by rfl))
    (pss_cons (ps_for (passes_of rfl) rfl (pi_range1 rfl T.bt_range (pa_cons (pv 2) pa_nil)) (pg_name (i := 5) sc.nd rfl (Or.inl rfl))
    (pss_cons (ps_setLc (i := 6) (own := [("some", 8)]) (g := gName 8) (tt := tYes) rfl sc.nd rfl rfl (sw_true rfl rfl rfl (by decide +kernel)) (pi_range1 rfl T.bt_range (pa_cons (pe_call h0.F (hr.mono (by decide)) (by rfl) h0.m h0.kp h0.b .nil passF (pa_cons (pv 0) (pa_cons pe_int pa_nil))) pa_nil)) (blkOk_by (N := ["pool", "wrong", "limit", "page", "bare", "turn", "step", "due", "some"]) (sc := defScope st_law_fits) (by decide +kernel)) (fun _ _ _ _ _ => pg_name (i := 8) sc.nd rfl (Or.inl rfl)) (fun _ _ _ _ _ => pts_nil) (fun _ _ _ _ _ => (pe_call h0.F (hr.mono (by decide)) (by rfl) h0.m h0.kp h0.b .nil passF (pa_cons (pv 0) (pa_cons pe_int pa_nil)))))
    (pss_one (ps_if (PW.pt (pw_or (pt_cmpR op_notN (pe_call h3.F (hr.mono (by decide)) (by rfl) h3.m h3.kp h3.b .nil passF (pa_cons (pv 3) (pa_cons (pv 6) pa_nil))) pe_non (nomark _)) (pw_or1 (pt_cmpR op_notN (pe_call h3.F (hr.mono (by decide)) (by rfl) h3.m h3.kp h3.b .nil passF (pa_cons (pv 4) (pa_cons (pv 6) pa_nil))) pe_non (nomark _)))))
    (pss_one (ps_ret pe_bl)) pss_nil))))
    (pss_cons (ps_set (i := 7) sc.nd rfl (Or.inl rfl) (pe_lst (pa_cons pe_bl (pa_cons pe_bl (pa_cons (pe_op op_add (pv 2) pe_int) pa_nil)))))
    (pss_cons (ps_if (PW.pt (pw_or (pt_cmpR op_ne (pe_callB (call_repN hA hr.units) (by rfl) T.bt_repr (by decide +kernel) (pa_cons (pe_lst (pa_cons (pe_call h3.F (hr.mono (by decide)) (by rfl) h3.m h3.kp h3.b .nil passF (pa_cons (pv 3) (pa_cons (pe_lst (pa_cons pe_int (pa_cons pe_int pa_nil))) pa_nil))) (pa_cons (pe_call h3.F (hr.mono (by decide)) (by rfl) h3.m h3.kp h3.b .nil passF (pa_cons (pv 3) (pa_cons (pe_lst pa_nil) pa_nil))) pa_nil))) pa_nil)) (pe_callB (call_repN hA hr.units) (by rfl) T.bt_repr (by decide +kernel) (pa_cons (pe_lst (pa_cons (pv 7) (pa_cons (pv 7) pa_nil))) pa_nil)) (nomark _)) (pw_or1 (pt_cmpR op_ne (pe_callB (call_lenI h4.h.at_ h4.h.fn h4.F (hr.mono (by decide)) h4.b passF) (by rfl) T.bt_len (by decide +kernel) (pa_cons (pv 3) pa_nil)) (pv 2) (nomark _)))))
    (pss_one (ps_ret pe_bl)) pss_nil)
    (pss_cons (ps_if (pt_cmpR op_gt (pv 2) pe_int (nomark _))
    (pss_cons (ps_expr (pe_methX (pv 3) (T.cls _) h5.h h5.F (hr.mono (by decide)) h5.b (fun σ => passAt (takes_of rfl rfl rfl rfl) σ) (pa_cons (pe_op op_sub (pv 2) pe_int) (pa_cons (pe_lst (pa_cons pe_int pa_nil)) pa_nil))))
    (pss_cons (ps_expr (pe_methX0 (pv 3) (T.cls _) h6.h h6.F (hr.mono (by decide)) h6.b (fun σ => passAt (takes_of rfl rfl rfl rfl) σ)))
    (pss_cons (ps_if (PW.pt (pw_or (pt_cmpR (op_neD hr.units) (pe_prop (pv 3) (T.cls _) h7.h h7.F (hr.mono (by decide)) h7.b .nil passF (by rfl)) (pe_prop (pv 4) (T.cls _) h8.h h8.F (hr.mono (by decide)) h8.b .nil passF (by rfl)) (nomark _)) (pw_or (pt_cmpR (op_eqI (C2 := (cb c false)) h9.F h9.h.at_ h9.h.fn h9.b (hr.mono (by decide))) (pv 3) (pv 4) (nomark _)) (pw_or1 (pt_cmpR (op_neD hr.units) (pe_call h3.F (hr.mono (by decide)) (by rfl) h3.m h3.kp h3.b .nil passF (pa_cons (pv 3) (pa_cons (pe_lst (pa_cons pe_int pa_nil)) pa_nil))) (pv 7) (nomark _))))))
    (pss_one (ps_ret pe_bl)) pss_nil)
    (pss_cons (ps_expr (pe_methX0 (pv 3) (T.cls _) h6.h h6.F (hr.mono (by decide)) h6.b (fun σ => passAt (takes_of rfl rfl rfl rfl) σ)))
    (pss_one (ps_if (PW.pt (pw_or (pt_cmpR op_notN (pe_call h3.F (hr.mono (by decide)) (by rfl) h3.m h3.kp h3.b .nil passF (pa_cons (pv 3) (pa_cons (pe_lst (pa_cons pe_int pa_nil)) pa_nil))) pe_non (nomark _)) (pw_or (pt_cmpR (op_neD hr.units) (pe_ix ix_list (pe_prop (pv 3) (T.cls _) h7.h h7.F (hr.mono (by decide)) h7.b .nil passF (by rfl)) (pe_un un_neg pe_int) (fun _ _ => rfl)) (pe_lst (pa_cons pe_int pa_nil)) (nomark _)) (pw_or1 (pt_cmpR (op_neD hr.units) (pe_call h3.F (hr.mono (by decide)) (by rfl) h3.m h3.kp h3.b .nil passF (pa_cons (pv 3) (pa_cons (pe_lst (pa_cons pe_int pa_nil)) pa_nil))) (pv 7) (nomark _))))))
    (pss_one (ps_ret pe_bl)) pss_nil)))))) pss_nil)
    (pss_one (ps_ret (pe_and (pe_cmpR op_isN (pe_call h3.F (hr.mono (by decide)) (by rfl) h3.m h3.kp h3.b .nil passF (pa_cons (pv 4) (pa_cons (pe_lst (pa_cons pe_int pa_nil)) pa_nil))) pe_non (nomark _)) (pe_and (pe_cmpR op_eq (pe_callB (call_lenI h10.h.at_ h10.h.fn h10.F (hr.mono (by decide)) h10.b passF) (by rfl) T.bt_len (by decide +kernel) (pa_cons (pv 4) pa_nil)) (pe_op op_add (pv 2) pe_int) (nomark _)) (pe_one (pe_cmpR op_eq (pe_callB (call_lenI h4.h.at_ h4.h.fn h4.F (hr.mono (by decide)) h4.b passF) (by rfl) T.bt_len (by decide +kernel) (pa_cons (pe_call h1.F (hr.mono (by decide)) (by rfl) h1.m h1.kp h1.b .nil passF (pa_cons pe_int (pa_cons (pe_op op_powW pe_int pe_int) pa_nil))) pa_nil)) pe_int (nomark _))))))))))))))), ?_⟩
  exact body_sp (hB) h (by rw [hn]; decide) _ rfl
abbrev st_law : Stmt := topS 24
def tm_law (K : PySem.W.Frag) (c : Cs) (T0 : Addr) (xw : Value → Option Addr → L2.St → Hp → Prop) : TS := (tSeq (tFor (iRng1 (tCons (tCB rMax2 (tCons (tC (.int 1)) (tCons (tCB rMin2 (tCons (tC (.int 6)) (tCons (tCB (rLen K) (tCons (tVar 0) tNil)) tNil))) tNil))) tNil)) (gName 1)
    (tSeq (tAsg (tOwn (tCall (spF K c pfPool) [] (fun _ _ _ => False) (tCons (tVar 0) (tCons (tVar 1) tNil)))) (gName 2))
    (tIfS (tNot (tB (tCall (spF K c (pfFits c)) [] (fun _ _ _ => False) (tCons (tVar 2) tNil))))
    (tRet (tC (.bl false))) tNext)))
    (tRet (tC (.bl true))))
theorem sc_law : FnScope ["script", "spot", "pool"] ["script"] (defScope st_law) := ⟨rfl, rfl, rfl, by decide +kernel, rfl, by decide +kernel, by decide +kernel⟩
theorem ok_law {f : Addr} {fd : FuncData} (T : Tx P w K mg base c T0) (F : Fun K "law" "law" st_law f fd) (h0 : Cal P w K mg base 1 "_law_pool" ["script", "spot"] (spF K c pfPool)) (h1 : CalG P w K mg base 8 "_law_fits" ["pool"] (spF K c (pfFits c))) (hB : BodyOk K c (pfLaw c) ["script", "spot", "pool"] (tm_law K c T0)) (hl : Len 1 (pfLaw c)) : FnG P w K mg base (L2.CX P w) 9 f fd ["script"] (spF K c (pfLaw c)) := by
  have sc := sc_law
  refine fnG_of F sc (fun vs H Q E h => spF_len hl h) (fun cdv A outer s H vs Q E hA hr h => ?_)
  have hn := spF_len hl h
  obtain ⟨f_h0, d_h0, h0⟩ := h0
  obtain ⟨f_h1, d_h1, h1⟩ := h1
  refine ⟨tm_law K c T0 (fun cls d _ H => E cls d H), (pss_cons (ps_for (passes_of rfl) rfl (pi_range1 rfl T.bt_range (pa_cons (pe_callB (call_maxR rfl) (by rfl) T.bt_max (by decide +kernel) (pa_cons pe_int (pa_cons (pe_callB (call_minR rfl) (by rfl) T.bt_min (by decide +kernel) (pa_cons pe_int (pa_cons (pe_callB call_lenR (by rfl) T.bt_len (by decide +kernel) (pa_cons (pv 0) pa_nil)) pa_nil))) pa_nil))) pa_nil)) (pg_name (i := 1) sc.nd rfl (Or.inl rfl))
    (pss_cons (ps_set (i := 2) sc.nd rfl (Or.inl rfl) (pe_call h0.F (hr.mono (by decide)) (by rfl) h0.m h0.kp h0.b .nil passF (pa_cons (pv 0) (pa_cons (pv 1) pa_nil))))
    (pss_one (ps_if (pt_not (pt_val (pe_callG h1.F hA hr (by rfl) h1.m h1.kp h1.b passF (pa_cons (pv 2) pa_nil))))
    (pss_one (ps_ret pe_bl)) pss_nil))))
    (pss_one (ps_ret pe_bl))), ?_⟩
  exact body_sp (hB) h (by rw [hn]; decide) _ rfl
end
end RR

set_option Elab.async false
set_option linter.all false
set_option maxRecDepth 100000
set_option maxHeartbeats 4000000
namespace RR
open PySem L2 StX RH RX
local macro_rules
  | `(tactic| mem_news) => `(tactic| with_reducible first
      | refine ws_seq ?_ | refine ws_asgO ?_ | refine ws_setI ?_ | refine ws_asg ?_ | refine ws_parOO ?_ | refine ws_parO ?_ | refine ws_par ?_ | refine ws_fld ?_ | refine ws_next ?_
      | refine ws_app (by with_unfolding_all exact ⟨_, rfl⟩) ?_ | refine ws_ext (by with_unfolding_all exact ⟨_, rfl⟩) ?_ | refine ws_retO (by with_unfolding_all rfl) ?_
      | refine we_ixO ?_ (by with_unfolding_all exact ⟨_, rfl⟩) | refine we_lenO (by with_unfolding_all rfl) ?_ | refine we_var (by with_unfolding_all rfl) ?_ | refine we_thaw (by with_unfolding_all rfl) ?_ | refine wa_o (by with_unfolding_all exact ⟨_, rfl⟩) ?_
      | refine ws_drop ?_ | refine ws_retW ?_ | refine ws_ret ?_ | refine ws_retN ?_ | refine ws_brk ?_ | refine ws_cont ?_
      | refine wt_test ?_ | refine wt_B ?_ | refine wt_not ?_ | refine wt_and ?_ | refine wt_or ?_ | refine wt_yes ?_
      | refine we_int ?_ | refine we_bl ?_ | refine we_str ?_ | refine we_non ?_ | refine we_raw ?_
      | refine we_frz (wf_op (r := rCat) ?_) | refine we_frz (wf_op (r := rRep) ?_) | refine we_frz (wf_lst ?_) | refine we_frz (wf_slL ?_) | refine we_frz (wf_cb (r := rLst _) ?_)
      | refine wf_op ?_ | refine wf_lst ?_ | refine wf_slL ?_ | refine wf_cb ?_ | refine wf_if ?_
      | refine we_tup ?_ | refine we_slT ?_ | refine we_if ?_ | refine we_andV ?_ | refine we_orV ?_ | refine we_notV ?_ | refine we_chain ?_ | refine we_op ?_ | refine we_un ?_ | refine we_cb ?_
      | refine wl_nil ?_ | refine wl_star ?_ | refine wl_cons ?_ | refine wa_nil ?_ | refine wa_d ?_ | refine wo_none ?_ | refine wo_some ?_
      | refine op_int ?_ | refine op_bl ?_ | refine un_int ?_
      | refine cb_abs ?_ | refine cb_max ?_ | refine cb_min ?_ | refine cb_int ?_ 
      | refine op_eqS (by with_unfolding_all rfl) ?_ | refine op_neS (by with_unfolding_all rfl) ?_ | refine op_is (by with_unfolding_all rfl) ?_ | refine op_isnt (by with_unfolding_all rfl) ?_
      | refine op_intC (by first | assumption | with_unfolding_all decide) ?_ | refine cb_len (by with_unfolding_all rfl) ?_ | refine cb_lst (by with_unfolding_all rfl) ?_ | refine cb_tup (by with_unfolding_all rfl) ?_)
local macro_rules
  | `(tactic| pv_eval) => `(tactic| first
    | mem_news
    | refine ⟨_, _, _, by rfl, by rfl, by rfl, ?_⟩ | refine ⟨by exact ⟨_, rfl⟩, ?_⟩ | refine ⟨_, by rfl, ?_⟩ | refine ⟨by rfl, ?_⟩ | refine ⟨_, _, by rfl, by rfl, by rfl, ?_⟩ | refine ⟨Nat.le_of_ble_eq_true rfl, ?_⟩)

theorem div_ok {s : Int} (h2 : 0 < s) (h3 : s < 2 ^ 64) : ∀ i : Int, CDivW i s := fun i => wide_div (b := 64) h2 (by omega) (by decide) (by decide)
theorem powOk {x : Int} (h0 : 0 ≤ x) (h1 : x < 2 ^ 130) : CPowW x 3 := by
  refine ⟨by decide, ?_⟩
  have hb : Builtin.Int.intBits x ≤ 131 := by
    unfold Builtin.Int.intBits
    split
    · omega
    · have := PySem.Flt.log2_lt_of (k := 130) (n := x.natAbs) (by decide) (by omega)
      omega
  have e : (2 : Int) ^ 27 = 134217728 := by decide
  rw [e]
  omega
theorem bk_calls {B : Bk} : (bkF B).lookup ("calls" : Str) = some (.lst (B.calls.map Cl.toD)) := by simp [bkF, List.lookup]
theorem s_cs : (("states" : Str) == ("calls" : Str)) = false := by decide +kernel
theorem s_gc : (("greatest" : Str) == ("calls" : Str)) = false := by decide +kernel
theorem s_gs : (("greatest" : Str) == ("states" : Str)) = false := by decide +kernel
theorem n_cs : ¬ (("calls" : Str) = ("states" : Str)) := by decide +kernel
theorem n_cg : ¬ (("calls" : Str) = ("greatest" : Str)) := by decide +kernel
theorem n_sg : ¬ (("states" : Str) = ("greatest" : Str)) := by decide +kernel
theorem bk_states {B : Bk} : (bkF B).lookup ("states" : Str) = some (.lst (B.sts.map wsD)) := by simp [bkF, List.lookup, s_cs]
theorem bk_great {B : Bk} {m : Int} (h : B.g = some m) : (bkF B).lookup ("greatest" : Str) = some (.int m) := by simp [bkF, List.lookup, s_gc, s_gs, h, gF]
theorem bk_no {B : Bk} {m : Str} (h1 : (m == ("calls" : Str)) = false) (h2 : (m == ("states" : Str)) = false) (h3 : (m == ("greatest" : Str)) = false) : (bkF B).lookup m = none := by
  unfold bkF
  rw [List.lookup_cons, h1, List.lookup_cons, h2]
  cases B.g with
  | none => rfl
  | some m => show List.lookup _ [_] = none; rw [List.lookup_cons, h3]; rfl
theorem bk_put1 {cs ss : List D} {g : Option Int} {x : D} : putD ("calls" : Str) x ((("calls" : Str), .lst cs) :: (("states" : Str), .lst ss) :: gF g) = (("calls" : Str), x) :: (("states" : Str), .lst ss) :: gF g := by simp [putD]
theorem bk_put2 {x y z : D} {g : Option Int} : putD ("states" : Str) x ((("calls" : Str), y) :: (("states" : Str), z) :: gF g) = (("calls" : Str), y) :: (("states" : Str), x) :: gF g := by simp [putD, n_cs]
theorem bk_few {B : Bk} : (bkF B).length < 1000 := by
  unfold bkF
  cases B.g <;> (show _ < 1000; simp [gF])
theorem top_at {B : Bk} (h : B.sts ≠ []) : atI (B.sts.map wsD) (-1) = some (wsD B.top) := by
  have e : B.sts = B.sts.dropLast ++ [B.top] := by
    unfold Bk.top
    rw [List.getLast?_eq_some_getLast h]
    exact (List.dropLast_concat_getLast h).symm
  rw [e, List.map_append]
  exact L2.atI_last _ _
section
variable {K : PySem.W.Frag} {c : Cs} {T0 : Addr} {b : Bool}
theorem bd_law_draw : BodyOk K c pfDraw ["pool", "span", "drawn", "mixed"] (tm_law_draw K c T0) := by
  refine bodyCt fun e ⟨n, o, s⟩ as ⟨h1, hp, hn, h2, h3⟩ _ => ?_
  obtain ⟨p, q, d, rfl, h4, h5, h6, h7, h8⟩ := hp
  subst h1
  dsimp only at h2 h3 h8 hn
  show WS K c e _ [.bor (.lst [.int p, .int q, .int d]), .d (.int s), .un, .un] _
  unfold tm_law_draw
  repeat pv_eval
  refine ws_if ?_
  repeat pv_eval
  refine ⟨fun hb => ?_, fun hb => ?_⟩
  · repeat pv_eval
    refine op_intC (div_ok h2 h3 _) ?_
    repeat pv_eval
    refine ⟨_, _, rfl, Int.emod_nonneg _ (by omega), Int.emod_lt_of_pos _ h2, ⟨p / s, q, d, rfl, Int.ediv_nonneg h4 (by omega), h5, h6, h7, by push_cast; omega⟩, rfl⟩
  · repeat pv_eval
    refine op_intC (.inl ⟨by decide, by decide⟩) ?_
    repeat pv_eval
    refine op_intC (powOk (by omega) (by omega)) ?_
    repeat pv_eval
    have m1 := Int.emod_nonneg ((q + 15485863 * (d + 1)) ^ (3 : Int).toNat) (show (162259276829213363391578010288127 : Int) ≠ 0 by decide)
    have m2 := Int.emod_lt_of_pos ((q + 15485863 * (d + 1)) ^ (3 : Int).toNat) (show (0 : Int) < 162259276829213363391578010288127 by decide)
    generalize ((q + 15485863 * (d + 1)) ^ (3 : Int).toNat) % 162259276829213363391578010288127 = m at m1 m2 ⊢
    refine op_intC (.inl ⟨by decide, by decide⟩) ?_
    repeat pv_eval
    refine op_intC (powOk (by omega) (by omega)) ?_
    repeat pv_eval
    refine op_intC (div_ok (by decide) (by decide) _) ?_
    repeat pv_eval
    exact ⟨_, _, rfl, Int.emod_nonneg _ (by omega), Int.emod_lt_of_pos _ h2, ⟨p, q, d + 1, rfl, h4, h5, h6, by omega, by push_cast; omega⟩, rfl⟩
theorem bd_Book_init (hx : Bx K c T0) : BodyOk K c (pfInit c b) ["self"] (tm_Book_init K c T0 b) := by
  refine bodyCt fun e a as h1 _ => ?_
  subst h1
  show WS K c e _ [.bor (.ins (cb c b) [])] _
  unfold tm_Book_init
  repeat pv_eval
  refine ⟨_, _, by rfl, hx.cls b, hx.nac b, by show 0 < 1000; decide, ?_⟩
  repeat pv_eval
  refine ⟨_, _, by rfl, hx.cls b, hx.nas b, by show 1 < 1000; decide, ?_⟩
  refine ⟨Nat.le_refl _, rfl, ?_⟩
  show [A.bor (O.ins (cb c b) (putD ("states" : Str) (D.lst [D.tup []]) [(("calls" : Str), D.lst [])]))] = _
  have e1 : putD ("states" : Str) (D.lst [D.tup []]) [(("calls" : Str), D.lst [])] = bkF (Bk.new none) := by simp [putD, n_cs, bkF, Bk.new, gF, wsD]
  rw [e1]
  rfl
theorem bd_Book_limit : BodyOk K c (pfLim c false) ["self"] (tm_Book_limit K c T0) := by
  refine bodyCt fun e B as ⟨h1, h2⟩ _ => ?_
  subst h1
  show WS K c e _ [.bor (Bo c false B)] _
  unfold tm_Book_limit
  repeat pv_eval
  refine ⟨?_, rfl⟩
  have : B.g = none := by unfold Isb at h2; cases hg : B.g with | none => rfl | some m => rw [hg] at h2; cases h2
  rw [this]
  rfl
theorem bd_SmallBook_limit (hx : Bx K c T0) : BodyOk K c (pfLim c true) ["self"] (tm_SmallBook_limit K c T0) := by
  refine bodyCt fun e B as ⟨h1, h2⟩ _ => ?_
  subst h1
  show WS K c e _ [.bor (Bo c true B)] _
  unfold tm_SmallBook_limit
  obtain ⟨m, hm⟩ : ∃ m, B.g = some m := by unfold Isb at h2; cases hg : B.g with | none => rw [hg] at h2; cases h2 | some m => exact ⟨m, rfl⟩
  repeat pv_eval
  refine we_fld (by rfl) (hx.cls true) hx.nag (bk_great hm) ?_
  refine ⟨Nat.le_refl _, ?_, rfl⟩
  rw [hm]
  rfl
theorem bd_Book_len (hx : Bx K c T0) : BodyOk K c (pfLen c b) ["self"] (tm_Book_len K c T0 b) := by
  refine bodyCt fun e B as ⟨h1, h2⟩ _ => ?_
  subst h1
  show WS K c e _ [.bor (Bo c b B)] _
  unfold tm_Book_len
  repeat pv_eval
  refine we_fld (by rfl) (hx.cls b) (hx.nas b) bk_states ?_
  repeat pv_eval
  refine op_ixL (top_at h2) ?_
  repeat pv_eval
  exact ⟨by rw [List.length_map], rfl⟩
theorem bd_Book_rules (hx : Bx K c T0) : BodyOk K c (pfRules c b) ["self", "word"] (tm_Book_rules K c T0 b) := by
  refine bodyCt fun e B as ⟨h1, h2, h3⟩ _ => ?_
  subst h1
  show WS K c e _ [.bor (Bo c b B), .un] _
  unfold tm_Book_rules
  repeat pv_eval
  refine wf_mapT (fun d => match d with | .tup xs => .lst xs | d => d) ?_
  repeat pv_eval
  refine we_fld (by rfl) (hx.cls b) (hx.nas b) bk_states ?_
  repeat pv_eval
  refine op_ixL (top_at h2) ?_
  refine ⟨_, rfl, by rw [List.length_map]; omega, by rfl, fun e' d hd => ?_, ?_⟩
  · obtain ⟨w, _, rfl⟩ := List.mem_map.mp hd
    repeat pv_eval
    rfl
  · refine ⟨Nat.le_of_ble_eq_true rfl, ?_, rfl⟩
    rw [List.map_map]
    rfl
theorem bd_Book_settle (hx : Bx K c T0) : BodyOk K c (pfSettle c b) ["self", "call", "words"] (tm_Book_settle K c T0 b) := by
  refine bodyCt fun e ⟨B, x, ws⟩ as ⟨h1, h2, h3⟩ _ => ?_
  subst h1
  dsimp only at h2 h3 ⊢
  show WS K c e _ [.bor (Bo c b B), .d x.toD, .d (wsD ws)] _
  unfold tm_Book_settle
  repeat pv_eval
  refine we_fld (by rfl) (hx.cls b) (hx.nac b) bk_calls ?_
  repeat pv_eval
  refine ⟨by simp; omega, _, _, by rfl, hx.cls b, hx.nac b, bk_few, ?_⟩
  have e1 : putD ("calls" : Str) (O.lst (B.calls.map Cl.toD ++ [x.toD])).toD (bkF B) = (("calls" : Str), .lst (B.calls.map Cl.toD ++ [x.toD])) :: (("states" : Str), .lst (B.sts.map wsD)) :: gF B.g := bk_put1
  rw [e1]
  repeat pv_eval
  refine we_fld (by rfl) (hx.cls b) (hx.nas b) (by simp [List.lookup, s_cs]; rfl) ?_
  repeat pv_eval
  refine ⟨by simp; omega, _, _, by rfl, hx.cls b, hx.nas b, by have := bk_few (B := B); simpa [bkF] using this, ?_⟩
  rw [bk_put2]
  refine ⟨Nat.le_of_ble_eq_true rfl, rfl, ?_⟩
  show [A.bor (O.ins (cb c b) _), A.d x.toD, A.d (wsD ws)] = _
  unfold Bo bkF Bk.settle
  simp only [List.map_append, List.map_cons, List.map_nil]
  rfl
theorem rules_pure {f : Cl → D} (h : ∀ x, (f x).pure = true) (xs : List Cl) : (D.lst (xs.map f)).pure = true := by
  show pureA (xs.map f) = true
  rw [pureA_all]
  simp [h]
theorem iD_pure (w : List Int) : pureA (iD w) = true := by
  rw [pureA_all]
  simp [iD, D.pure]
theorem cl_pure (x : Cl) : x.toD.pure = true := by
  cases x <;> simp [Cl.toD, D.pure, pureA, iD_pure]
theorem lay_allI : ∀ xs : List D, (∀ x ∈ xs, x.toPy.canLay0 = true) → PyData.canLayAll0 (toPyA xs) = true
  | [], _ => rfl
  | x :: xs, h => by
    show (x.toPy.canLay0 && PyData.canLayAll0 (toPyA xs)) = true
    rw [h x List.mem_cons_self, lay_allI xs fun y q => h y (List.mem_cons_of_mem _ q)]
    rfl
theorem dep_allI {n : Nat} : ∀ xs : List D, (∀ x ∈ xs, x.toPy.depth ≤ n) → PyData.depthAll (toPyA xs) ≤ n
  | [], _ => Nat.zero_le _
  | x :: xs, h => Nat.max_le.mpr ⟨h x List.mem_cons_self, dep_allI xs fun y q => h y (List.mem_cons_of_mem _ q)⟩
theorem iD_lay (w : List Int) : PyData.canLayAll0 (toPyA (iD w)) = true := lay_allI _ fun x h => by
  obtain ⟨i, _, rfl⟩ := List.mem_map.mp h
  rfl
theorem iD_dep (w : List Int) : PyData.depthAll (toPyA (iD w)) ≤ 0 := dep_allI _ fun x h => by
  obtain ⟨i, _, rfl⟩ := List.mem_map.mp h
  exact Nat.le_refl _
theorem cl_lay (x : Cl) : x.toD.toPy.canLay0 = true := by
  cases x with
  | put w =>
    show ((D.str "put").toPy.canLay0 && (PyData.canLayAll0 (toPyA (iD w)) && true)) = true
    rw [iD_lay]
    decide +kernel
  | chg l w =>
    show ((D.str "change").toPy.canLay0 && (true && (PyData.canLayAll0 (toPyA (iD w)) && true))) = true
    rw [iD_lay]
    decide +kernel
theorem cl_dep (x : Cl) : x.toD.toPy.depth ≤ 2 := by
  cases x with
  | put w =>
    show max 0 (max (PyData.depthAll (toPyA (iD w)) + 1) 0) + 1 ≤ 2
    have := iD_dep w
    omega
  | chg l w =>
    show max 0 (max 0 (max (PyData.depthAll (toPyA (iD w)) + 1) 0)) + 1 ≤ 2
    have := iD_dep w
    omega
theorem calls_shaped (xs : List Cl) : SeqAt.shaped (D.lst (xs.map Cl.toD)).toPy = true := by
  unfold SeqAt.shaped
  rw [Bool.and_eq_true]
  refine ⟨?_, decide_eq_true ?_⟩
  · show PyData.canLayAll0 (toPyA (xs.map Cl.toD)) = true
    exact lay_allI _ fun x h => by
      obtain ⟨y, _, rfl⟩ := List.mem_map.mp h
      exact cl_lay y
  · show PyData.depthAll (toPyA (xs.map Cl.toD)) + 1 ≤ 64
    have : PyData.depthAll (toPyA (xs.map Cl.toD)) ≤ 2 := dep_allI _ fun x h => by
      obtain ⟨y, _, rfl⟩ := List.mem_map.mp h
      exact cl_dep y
    omega
theorem cl_put (w : List Int) : (Cl.put w).toD = .tup [.str "put", .tup (iD w)] := rfl
theorem wsD_snoc (ws : List (List Int)) (w : List Int) : D.tup ((ws.map fun w => .tup (iD w)) ++ [.tup (iD w)]) = wsD (ws ++ [w]) := by
  unfold wsD
  rw [List.map_append]
  rfl
theorem bd_Book_put (hx : Bx K c T0) : BodyOk K c (pfPut c b) ["self", "word", "most", "count"] (tm_Book_put K c T0 b) := by
  refine bodyCt fun e ⟨B, w⟩ as ⟨h1, h2, n, hn, ho⟩ hX => ?_
  subst h1
  dsimp only at h2 ho hX ⊢
  show WS K c e _ [.bor (Bo c b B), .d (.lst (iD w)), .un, .un] _
  unfold tm_Book_put
  repeat pv_eval
  refine we_meth ?_ ?_ ?_
  · exact Ct.mono
  · exact ⟨_, rfl, bk_no (by decide +kernel) (by decide +kernel) (by decide +kernel)⟩
  repeat pv_eval
  refine ⟨by decide, B, ⟨rfl, h2⟩, fun r as' ⟨q1, q2⟩ => ?_, fun _ _ q => q⟩
  subst q1
  subst q2
  show WL K c e _ [.bor (Bo c b B), .d (.lst (iD w)), .un, .un] _
  repeat pv_eval
  refine we_lenO' ?_ ?_ ?_
  · exact pfX.mono fun _ => Ct.mono
  · exact ⟨_, rfl⟩
  refine ⟨b, B, ⟨rfl, ho.ne⟩, fun r as' ⟨q1, q2⟩ => ?_, fun _ _ q => q⟩
  subst q1
  subst q2
  refine ⟨_, rfl, by omega, by have := ho.topl; omega, ?_⟩
  show WE K c e _ [.bor (Bo c b B), .d (.lst (iD w)), .un, .un] _
  repeat pv_eval
  show WS K c e _ [.bor (Bo c b B), .d (.lst (iD w)), .d (gD B.g), .d (.int (B.top.length + 1))] _
  -- the branch, then settle
  have key : ∀ Q : Bool → List A → Prop, Q B.full [.bor (Bo c b B), .d (.lst (iD w)), .d (gD B.g), .d (.int (B.top.length + 1))] →
      WT K c e (tAnd (tTest (tOp (fun x y H Q => y = V.non ∧ Q (.bl (!decide (x = .non))) H) (tVar 2) (tC .non))) (tTest (tOp (rI0 fun i j => .bl (decide (j < i))) (tVar 3) (tVar 2)))) [.bor (Bo c b B), .d (.lst (iD w)), .d (gD B.g), .d (.int (B.top.length + 1))] Q := fun Q q => by
    unfold Bk.full at q
    cases hg : B.g with
    | none =>
      rw [hg] at q
      repeat pv_eval
      refine ⟨fun z => (by cases z), fun _ => q⟩
    | some m =>
      rw [hg] at q
      rw [show gD (some m) = .int m from rfl] at q ⊢
      repeat pv_eval
      refine ⟨fun _ => ?_, fun z => (by cases z)⟩
      repeat pv_eval
      all_goals exact q
  refine ws_if (key _ ⟨fun hf => ?_, fun hf => ?_⟩)
  · refine ws_raise (hx.ek 5 (by decide)) ?_
    repeat pv_eval
    exact hX _ _ ⟨Nat.le_of_ble_eq_true rfl, hf, rfl, rfl⟩
  · repeat pv_eval
    refine we_meth ?_ ?_ ?_
    · exact pfX.mono fun _ => Ct.mono
    · exact ⟨_, rfl, bk_no (by decide +kernel) (by decide +kernel) (by decide +kernel)⟩
    repeat pv_eval
    refine we_fld (by rfl) (hx.cls b) (hx.nas b) bk_states ?_
    repeat pv_eval
    refine op_ixL (top_at ho.ne) ?_
    repeat pv_eval
    refine ⟨by have := ho.topl; simp; omega, ?_⟩
    repeat pv_eval
    refine ⟨by show List.Nodup [0]; decide, b, (B, .put w, B.top ++ [w]), ⟨by rw [wsD_snoc]; rfl, by have := ho.few; show B.calls.length < 10000; omega, by have := ho.few; have := ho.len; show B.sts.length ≤ 10000; omega⟩, fun r as' ⟨q1, q2⟩ => ?_, fun _ _ q => q⟩
    subst q1
    subst q2
    exact ⟨Nat.le_of_ble_eq_true rfl, hf, rfl, rfl⟩
theorem bd_Book_undo (hx : Bx K c T0) : BodyOk K c (pfUndo c b) ["self"] (tm_Book_undo K c T0 b) := by
  refine bodyCt fun e B as ⟨h1, n, hn, ho⟩ hX => ?_
  subst h1
  show WS K c e _ [.bor (Bo c b B)] _
  unfold tm_Book_undo
  repeat pv_eval
  refine ws_if ?_
  repeat pv_eval
  refine we_fld (by rfl) (hx.cls b) (hx.nac b) bk_calls ?_
  repeat pv_eval
  refine op_eqP (rules_pure cl_pure _) (by rfl) (calls_shaped _) (by rfl) ?_
  repeat pv_eval
  have e1 : PyData.eqv (D.lst (B.calls.map Cl.toD)).toPy (O.lst []).toD.toPy = decide (B.calls = []) := by
    cases hc : B.calls with
    | nil => rfl
    | cons x xs => rfl
  rw [e1]
  refine ⟨fun hb => ?_, fun hb => ?_⟩
  · refine ws_raise (hx.ek 6 (by decide)) ?_
    repeat pv_eval
    exact hX _ _ ⟨Nat.le_of_ble_eq_true rfl, of_decide_eq_true hb, rfl, rfl⟩
  · repeat pv_eval
    refine we_fld (by rfl) (hx.cls b) (hx.nac b) bk_calls ?_
    repeat pv_eval
    refine ⟨_, _, by rfl, hx.cls b, hx.nac b, bk_few, ?_⟩
    have e1 : putD ("calls" : Str) (O.lst (cutD (B.calls.map Cl.toD) none (some (-1)))).toD (bkF B) = (("calls" : Str), .lst (B.calls.map Cl.toD).dropLast) :: (("states" : Str), .lst (B.sts.map wsD)) :: gF B.g := by
      rw [cut_last]
      exact bk_put1
    rw [e1]
    repeat pv_eval
    refine we_fld (by rfl) (hx.cls b) (hx.nas b) (by simp [List.lookup, s_cs]; rfl) ?_
    repeat pv_eval
    refine ⟨_, _, by rfl, hx.cls b, hx.nas b, by have := bk_few (B := B); simpa [bkF] using this, ?_⟩
    rw [bk_put2, cut_last]
    refine ⟨Nat.le_of_ble_eq_true rfl, of_decide_eq_false hb, rfl, ?_⟩
    show [A.bor (O.ins (cb c b) _)] = _
    unfold Bo bkF Bk.undo
    simp only [List.map_dropLast]
    rfl
theorem chg_eq (ws : List (List Int)) (w : List Int) (l : Nat) : D.tup ((ws.map fun w => D.tup (iD w)).take l ++ D.tup (iD w) :: ((ws.map fun w => D.tup (iD w)).drop (l + 1) ++ [])) = wsD (ws.take l ++ [w] ++ ws.drop (l + 1)) := by
  unfold wsD
  simp [List.map_take, List.map_drop]
theorem bd_Book_change (hx : Bx K c T0) : BodyOk K c (pfChange c b) ["self", "letter", "word", "words", "later"] (tm_Book_change K c T0 b) := by
  refine bodyCt fun e ⟨B, l, w⟩ as ⟨h1, n, hn, ho⟩ hX => ?_
  subst h1
  dsimp only at ho hX ⊢
  show WS K c e _ [.bor (Bo c b B), .d (.int l), .d (.lst (iD w)), .un, .un] _
  unfold tm_Book_change
  repeat pv_eval
  refine we_fld (by rfl) (hx.cls b) (hx.nas b) bk_states ?_
  repeat pv_eval
  refine op_ixL (top_at ho.ne) ?_
  repeat pv_eval
  show WS K c e _ [.bor (Bo c b B), .d (.int l), .d (.lst (iD w)), .d (wsD B.top), .un] _
  have key : ∀ Q : Bool → List A → Prop, Q (!B.has l) [.bor (Bo c b B), .d (.int l), .d (.lst (iD w)), .d (wsD B.top), .un] →
      WT K c e (tNot (tTest (tChain (rI0 fun i j => .bl (decide (i ≤ j))) (rI0 fun i j => .bl (decide (i < j))) (tC (.int 0)) (tVar 1) (tCB (rLen K) (tCons (tVar 3) tNil))))) [.bor (Bo c b B), .d (.int l), .d (.lst (iD w)), .d (wsD B.top), .un] Q := fun Q q => by
    unfold Bk.has at q
    repeat pv_eval
    refine ⟨fun z => ?_, fun z => ?_⟩
    · rw [z] at q
      repeat pv_eval
      rw [List.length_map]
      exact q
    · rw [z] at q
      repeat pv_eval
      all_goals exact q
  refine ws_if (key _ ⟨fun hf => ?_, fun hf => ?_⟩)
  · refine ws_raise (hx.ek 1 (by decide)) ?_
    repeat pv_eval
    exact hX _ _ ⟨Nat.le_of_ble_eq_true rfl, by simpa using hf, rfl, rfl⟩
  · have hh : B.has l = true := by simpa using hf
    unfold Bk.has at hh
    rw [Bool.and_eq_true] at hh
    have h0 := of_decide_eq_true hh.1
    have h1 := of_decide_eq_true hh.2
    have hl : (B.top.map fun w => D.tup (iD w)).length = B.top.length := List.length_map ..
    repeat pv_eval
    rw [cut_head _ h0 (by rw [hl]; omega)]
    repeat pv_eval
    rw [cut_tail _ (by omega) (by rw [hl]; omega)]
    refine ⟨by have := ho.topl; simp; omega, ?_⟩
    have e2 : (l + 1).toNat = l.toNat + 1 := by omega
    rw [e2]
    rw [chg_eq B.top w l.toNat]
    refine ⟨rfl, ?_⟩
    show WS K c e _ [.bor (Bo c b B), .d (.int l), .d (.lst (iD w)), .d (wsD B.top), .d (wsD (B.top.take l.toNat ++ [w] ++ B.top.drop (l.toNat + 1)))] _
    repeat pv_eval
    refine we_meth ?_ ?_ ?_
    · exact pfX.mono fun _ => Ct.mono
    · exact ⟨_, rfl, bk_no (by decide +kernel) (by decide +kernel) (by decide +kernel)⟩
    repeat pv_eval
    refine ⟨by show List.Nodup [0]; decide, b, (B, .chg l w, _), ⟨rfl, by have := ho.few; show B.calls.length < 10000; omega, by have := ho.few; have := ho.len; show B.sts.length ≤ 10000; omega⟩, fun r as' ⟨q1, q2⟩ => ?_, fun _ _ q => q⟩
    subst q1
    subst q2
    exact ⟨Nat.le_of_ble_eq_true rfl, by simpa using hf, rfl, rfl⟩
theorem bd_law_pool : BodyOk K c pfPool ["script", "spot", "cell"] (tm_law_pool K c T0) := by
  refine bodyCt fun e ⟨ns, i⟩ as ⟨h1, h2⟩ _ => ?_
  subst h1
  dsimp only at h2 ⊢
  show WS K c e _ [.d (.scr (ns.map D.int)), .d (.int i), .un] _
  unfold tm_law_pool
  repeat pv_eval
  show WS K c e _ [.d (.scr (ns.map D.int)), .d (.int i), .d (.int 0)] _
  refine ws_nx (fun Γ => ∃ z : Int, Γ = [.d (.scr (ns.map D.int)), .d (.int i), .d (.int z)]) ?_ ?_
  · refine ws_if ?_
    repeat pv_eval
    refine ⟨fun hb => ?_, fun hb => ?_⟩
    · have hb := of_decide_eq_true hb
      rw [List.length_map] at hb
      repeat pv_eval
      have hi : i < ns.length := by exact_mod_cast hb
      refine op_ixS (atI_nat (v := D.int ns[i]) (by rw [List.getElem?_map, List.getElem?_eq_getElem hi]; rfl)) ?_
      exact ⟨rfl, _, rfl⟩
    · repeat pv_eval
      exact ⟨_, rfl⟩
  · rintro Γ' ⟨z, rfl⟩
    repeat pv_eval
    refine op_intC ⟨by decide, by decide +kernel⟩ ?_
    repeat pv_eval
    refine op_intC (.inl ⟨by decide, by decide⟩) ?_
    repeat pv_eval
    refine ⟨⟨_, rfl, _, _, _, rfl, ?_, ?_, ?_, ?_, ?_⟩, rfl⟩
    · split <;> omega
    · have := Int.emod_nonneg z (show (2305843009213693951 : Int) ≠ 0 by decide)
      omega
    · have := Int.emod_lt_of_pos z (show (0 : Int) < 2305843009213693951 by decide)
      omega
    · decide
    · decide
theorem bd_SmallBook_init (hx : Bx K c T0) : BodyOk K c (pfSInit c) ["self", "most"] (fun xw => tSup K c (pfX fun b => pfInit c b) (tm_SmallBook_init K c T0 xw)) := by
  refine bodyCt fun e m as h1 hX => ?_
  subst h1
  show WS K c e _ [.bor (.ins (cb c true) []), .d (.int m)] _
  unfold tSup tm_SmallBook_init
  repeat pv_eval
  refine we_call ?_ ?_
  · exact pfX.mono fun _ => Ct.mono
  repeat pv_eval
  refine ⟨by show List.Nodup [0]; decide, true, (), rfl, fun r as' ⟨q1, q2⟩ => ?_, fun _ _ q => q⟩
  subst q1
  subst q2
  show WS K c e _ [.bor (Bo c true (Bk.new none)), .d (.int m)] _
  repeat pv_eval
  refine ws_if ?_
  repeat pv_eval
  refine ⟨fun hb => ?_, fun hb => ?_⟩
  · refine ws_raise (hx.ek 3 (by decide)) ?_
    repeat pv_eval
    exact hX _ _ ⟨Nat.le_of_ble_eq_true rfl, of_decide_eq_true hb, rfl, rfl⟩
  · repeat pv_eval
    refine ⟨_, _, by rfl, hx.cls true, hx.nag, bk_few, ?_⟩
    have e1 : putD ("greatest" : Str) (.int m) (bkF (Bk.new none)) = bkF (Bk.new (some m)) := by
      simp [putD, bkF, Bk.new, gF, n_cg, n_sg]
    refine ⟨Nat.le_of_ble_eq_true rfl, by have := of_decide_eq_false hb; omega, rfl, ?_⟩
    show [A.bor (O.ins (cb c true) (putD ("greatest" : Str) (.int m) (bkF (Bk.new none)))), A.d (.int m)] = _
    rw [e1]
    rfl
end
section
variable {P : Program} {w : World} {K : PySem.W.Frag} {mg : Str → Option Value} {base : Heap} {c : Cs} {T0 : Addr}
theorem pfSInit_len : Len 2 (pfSInit c) := Ct.len fun a as h => by rw [h]; rfl
theorem ok_SmallBook_init {fI cda cc f0 : Addr} {fd fd0 : FuncData} (T : Tx P w K mg base c T0) (X : SupText P st_SmallBook_init (defBody st_SmallBook_init).tail) (F : SupK P K mg st_SmallBook_init "SmallBook.__init__" fI c.small cda cc fd)
    (F0 : FnOk P w K mg base (L2.CX P w) 1 f0 fd0 ["self"] (spF K c (pfX fun b => pfInit c b))) (b0 : Binds K fd0 ["self"] []) (C : SupC K c.small c.small f0) : FnOk P w K mg base (L2.CX P w) 4 fI fd ["self", "most"] (spF K c (pfSInit c)) := by
  refine super_ok (k := 3) X F sn_SmallBook_init rfl (F0.mono (by decide)) b0 (fun vs H Q E h => spF_len pfSInit_len h) fun A outer s H vs Q E hr h => ?_
  have hn := spF_len pfSInit_len h
  have run := body_sp (bd_SmallBook_init (T0 := T0) T.toBx) h (by rw [hn]; decide) _ rfl
  obtain ⟨w0, as, a, m, h1, _⟩ := h
  subst h1
  obtain ⟨p, hp, ⟨dx, fv, hH, _⟩, _⟩ := a.bor 0 _ rfl
  cases vs with
  | nil => cases hn
  | cons v vr =>
    obtain rfl : v = .ref p := by
      have : (some (some v) : Option (Option V)) = some (some (.ref p)) := hp
      simpa using this
    refine ⟨p, c.small, dx, fv, vr, _, rfl, hH, C, dv_SmallBook_init T hr, ?_⟩
    obtain ⟨u, hu, q⟩ := run
    have hu : (some (some (V.ref p)) : Option (Option V)) = some (some u) := hu
    cases hu
    exact q
end
end RR

set_option Elab.async false
set_option linter.all false
set_option maxRecDepth 100000
set_option maxHeartbeats 4000000
namespace RR
open PySem L2 StX RH RX
local macro_rules
  | `(tactic| mem_news) => `(tactic| with_reducible first
      | refine ws_seq ?_ | refine ws_asgO ?_ | refine ws_setI ?_ | refine ws_asg ?_ | refine ws_parOO ?_ | refine ws_parO ?_ | refine ws_par ?_ | refine ws_fld ?_ | refine ws_next ?_
      | refine ws_app (by with_unfolding_all exact ⟨_, rfl⟩) ?_ | refine ws_ext (by with_unfolding_all exact ⟨_, rfl⟩) ?_ | refine ws_retO (by with_unfolding_all rfl) ?_
      | refine we_ixO ?_ (by with_unfolding_all exact ⟨_, rfl⟩) | refine we_lenO (by with_unfolding_all rfl) ?_ | refine we_var (by with_unfolding_all rfl) ?_ | refine we_thaw (by with_unfolding_all rfl) ?_ | refine wa_o (by with_unfolding_all exact ⟨_, rfl⟩) ?_
      | refine ws_drop ?_ | refine ws_retW ?_ | refine ws_ret ?_ | refine ws_retN ?_ | refine ws_brk ?_ | refine ws_cont ?_
      | refine wt_test ?_ | refine wt_B ?_ | refine wt_not ?_ | refine wt_and ?_ | refine wt_or ?_ | refine wt_yes ?_
      | refine we_int ?_ | refine we_bl ?_ | refine we_str ?_ | refine we_non ?_ | refine we_raw ?_
      | refine we_frz (wf_op (r := rCat) ?_) | refine we_frz (wf_op (r := rRep) ?_) | refine we_frz (wf_lst ?_) | refine we_frz (wf_slL ?_) | refine we_frz (wf_cb (r := rLst _) ?_)
      | refine wf_op ?_ | refine wf_lst ?_ | refine wf_slL ?_ | refine wf_cb ?_ | refine wf_if ?_
      | refine we_tup ?_ | refine we_slT ?_ | refine we_if ?_ | refine we_andV ?_ | refine we_orV ?_ | refine we_notV ?_ | refine we_chain ?_ | refine we_op ?_ | refine we_un ?_ | refine we_cb ?_
      | refine wl_nil ?_ | refine wl_star ?_ | refine wl_cons ?_ | refine wa_nil ?_ | refine wa_d ?_ | refine wo_none ?_ | refine wo_some ?_
      | refine op_int ?_ | refine op_bl ?_ | refine un_int ?_
      | refine cb_abs ?_ | refine cb_max ?_ | refine cb_min ?_ | refine cb_int ?_ 
      | refine op_eqS (by with_unfolding_all rfl) ?_ | refine op_neS (by with_unfolding_all rfl) ?_ | refine op_is (by with_unfolding_all rfl) ?_ | refine op_isnt (by with_unfolding_all rfl) ?_
      | refine op_intC (by first | assumption | with_unfolding_all decide) ?_ | refine cb_len (by with_unfolding_all rfl) ?_ | refine cb_lst (by with_unfolding_all rfl) ?_ | refine cb_tup (by with_unfolding_all rfl) ?_)
local macro_rules
  | `(tactic| pv_eval) => `(tactic| first
    | mem_news
    | refine ⟨_, _, _, by rfl, by rfl, by rfl, ?_⟩ | refine ⟨by exact ⟨_, rfl⟩, ?_⟩ | refine ⟨_, by rfl, ?_⟩ | refine ⟨by rfl, ?_⟩ | refine ⟨_, _, by rfl, by rfl, by rfl, ?_⟩ | refine ⟨Nat.le_of_ble_eq_true rfl, ?_⟩)

section
variable {K : PySem.W.Frag} {c : Cs} {T0 : Addr} {b : Bool}
theorem gD_pure (g : Option Int) : (gD g).pure = true := by cases g <;> rfl
theorem gD_shaped (g : Option Int) : SeqAt.shaped (gD g).toPy = true := by cases g <;> rfl
theorem gD_eqv (g g' : Option Int) : PyData.eqv (gD g).toPy (gD g').toPy = decide (g = g') := by
  cases g with
  | none => cases g' <;> rfl
  | some a =>
    cases g' with
    | none => rfl
    | some b =>
      show (a == b) = decide (some a = some b)
      simp only [Option.some.injEq]
      rfl
theorem isb_g {B : Bk} (h : Isb b B) : b = B.g.isSome := h.symm
theorem bd_Book_eq (hx : Bx K c T0) (b : Bool × Bool) : BodyOk K c (pfEq c b) ["self", "other"] (tm_Book_eq K c T0 b) := by
  refine bodyCt fun e ⟨B, B'⟩ as ⟨h1, h2, h3⟩ _ => ?_
  subst h1
  dsimp only at h2 h3 ⊢
  show WS K c e _ [.bor (Bo c b.1 B), .bor (Bo c b.2 B')] _
  unfold tm_Book_eq
  repeat pv_eval
  refine we_isiO (b := true) (fs := bkF B') (by rfl) (hx.isb b.2) (hx.tyi b.2) ?_
  repeat pv_eval
  refine ⟨fun _ => ?_, fun z => (by cases z)⟩
  repeat pv_eval
  refine we_meth ?_ ?_ ?_
  · exact Ct.mono
  · exact ⟨_, rfl, bk_no (by decide +kernel) (by decide +kernel) (by decide +kernel)⟩
  repeat pv_eval
  refine ⟨by show List.Nodup [0]; decide, B, ⟨rfl, h2⟩, fun r as' ⟨q1, q2⟩ => ?_, fun _ _ q => q⟩
  subst q1
  subst q2
  show WE K c e _ [.bor (Bo c b.1 B), .bor (Bo c b.2 B')] _
  refine we_meth ?_ ?_ ?_
  · exact Ct.mono
  · exact ⟨_, rfl, bk_no (by decide +kernel) (by decide +kernel) (by decide +kernel)⟩
  repeat pv_eval
  refine ⟨by show List.Nodup [1]; decide, B', ⟨rfl, h3⟩, fun r as' ⟨q1, q2⟩ => ?_, fun _ _ q => q⟩
  subst q1
  subst q2
  show Op K c e _ (gD B.g) (gD B'.g) [.bor (Bo c b.1 B), .bor (Bo c b.2 B')] _
  refine op_eqP (gD_pure _) (gD_pure _) (gD_shaped _) (gD_shaped _) ?_
  rw [gD_eqv]
  refine ⟨_, rfl, fun z => ?_, fun z => ?_⟩
  · have z := of_decide_eq_true z
    repeat pv_eval
    refine we_fld (by rfl) (hx.cls b.1) (hx.nac b.1) bk_calls ?_
    refine we_fld (by rfl) (hx.cls b.2) (hx.nac b.2) bk_calls ?_
    refine op_eqP (rules_pure cl_pure _) (rules_pure cl_pure _) (calls_shaped _) (calls_shaped _) ?_
    refine ⟨Nat.le_of_ble_eq_true rfl, ?_, rfl⟩
    unfold Bk.same
    rw [decide_eq_true z, Bool.true_and]
  · have z := of_decide_eq_false z
    refine ⟨Nat.le_of_ble_eq_true rfl, ?_, rfl⟩
    unfold Bk.same
    rw [decide_eq_false z, Bool.false_and]
theorem bd_law_told (hx : Bx K c T0) : BodyOk K c (pfTold c) ["way", "limit", "e", "odd"] (tm_law_told K c T0) := by
  refine bodyCt fun e ⟨y, m⟩ as h1 _ => ?_
  subst h1
  dsimp only
  show WS K c e _ [.d (.int y), .d (.int m), .un, .un] _
  unfold tm_law_told
  refine ws_tryT (fun x Γ => m < 0 ∧ x = ⟨3, .int m⟩ ∧ Γ = [.d (.int y), .d (.int m), .un, .un]) ?_ ?_
  · intro e' hx'
    have mk : ∀ Q : O → List A → Prop, (0 ≤ m → Q (Bo c true (Bk.new (some m))) [.d (.int y), .d (.int m), .un, .un]) → WF K c e' (tMakeX (cb c true) (spF K c (pfSInit c)) (fun σ cls d H => e'.xw cls d σ H) (tCons (tVar 1) tNil)) [.d (.int y), .d (.int m), .un, .un] Q := fun Q q => by
      refine wf_makeX ?_ ?_
      · exact Ct.mono
      repeat pv_eval
      refine ⟨fun r as' ⟨h0, q1, q2⟩ => ?_, fun x as' ⟨h0, q1, q2⟩ => ?_⟩
      · subst q1
        subst q2
        exact ⟨rfl, _, rfl, q h0⟩
      · subst q1
        subst q2
        exact ⟨⟨_, rfl⟩, by rw [hx']; exact ⟨h0, rfl, rfl⟩⟩
    repeat pv_eval
    refine ⟨fun _ => mk _ fun h0 => ?_, fun _ => mk _ fun h0 => ?_⟩
    · exact ⟨Nat.le_of_ble_eq_true rfl, .inl ⟨h0, rfl⟩, rfl⟩
    · exact ⟨Nat.le_of_ble_eq_true rfl, .inl ⟨h0, rfl⟩, rfl⟩
  · rintro ⟨n, v⟩ Γ1 ⟨h0, q1, rfl⟩
    cases q1
    refine ⟨hx.exm 3 (by decide), rfl, fun a dd => ?_⟩
    show WS K c e _ [.d (.int y), .d (.int m), .d (.exc a dd (.int m)), .un] _
    repeat pv_eval
    refine cb_isXs (cs := [1, 2, 4, 6, 5, 7].map c.ex) (b := false) (hx.isk 3 (by decide)) (kit_none (n := 3) hx (by decide) (by decide)) ?_
    show _ ∧ WS K c e _ [.d (.int y), .d (.int m), .d (.exc a dd (.int m)), .d (.bl false)] _
    refine ⟨rfl, ?_⟩
    repeat pv_eval
    refine cb_isX (b := true) (hx.isk 3 (by decide)) (hx.kit 3 3 (by decide) (by decide)) ?_
    repeat pv_eval
    refine ⟨fun z => (by cases z), fun _ => ?_⟩
    repeat pv_eval
    refine cb_isXT (b := true) (hx.isk 3 (by decide)) (hx.kiv 3 (by decide)) ?_
    repeat pv_eval
    refine we_xf (by rfl) (hx.xfk 3 (by decide)) (hx.ek 3 (by decide)).nv ?_
    repeat pv_eval
    refine ⟨.inr ⟨h0, rfl⟩, rfl⟩
theorem bd_law_refused (hx : Bx K c T0) : BodyOk K c (pfRefused c b) ["page", "step", "e", "odd"] (tm_law_refused K c T0 b) := by
  refine bodyCt fun e ⟨B, w⟩ as ⟨h1, h2, h3⟩ _ => ?_
  subst h1
  dsimp only at h2 h3 ⊢
  show WS K c e _ [.bor (Bo c b B), .d (.lst (iD w)), .un, .un] _
  unfold tm_law_refused
  repeat pv_eval
  refine ws_tryT (fun x Γ => B.full = true ∧ x = ⟨5, .int (B.top.length + 1)⟩ ∧ Γ = [.bor (Bo c b B), .d (.lst (iD w)), .un, .un]) ?_ ?_
  · intro e' hx'
    repeat pv_eval
    refine we_methX ?_ ?_ ?_
    · exact pfX.mono fun _ => Ct.mono
    · exact ⟨_, rfl, bk_no (by decide +kernel) (by decide +kernel) (by decide +kernel)⟩
    repeat pv_eval
    refine ⟨by show List.Nodup [0]; decide, b, (B, w), ⟨rfl, h2, h3⟩, fun r as' ⟨h0, q1, q2⟩ => ?_, fun x as' ⟨h0, q1, q2⟩ => ?_⟩
    · subst q1
      subst q2
      show WS K c e _ [.bor (Bo c b (B.put w)), .d (.lst (iD w)), .un, .un] _
      repeat pv_eval
      exact .inl ⟨h0, rfl, rfl⟩
    · subst q1
      subst q2
      rw [hx']
      exact ⟨h0, rfl, rfl⟩
  · rintro ⟨n, v⟩ Γ1 ⟨h0, q1, rfl⟩
    cases q1
    refine ⟨hx.exm 5 (by decide), rfl, fun a dd => ?_⟩
    show WS K c e _ [.bor (Bo c b B), .d (.lst (iD w)), .d (.exc a dd (.int (B.top.length + 1))), .un] _
    repeat pv_eval
    refine cb_isXs (cs := [1, 3, 2, 4, 6, 7].map c.ex) (b := false) (hx.isk 5 (by decide)) (kit_none (n := 5) hx (by decide) (by decide)) ?_
    show _ ∧ WS K c e _ [.bor (Bo c b B), .d (.lst (iD w)), .d (.exc a dd (.int (B.top.length + 1))), .d (.bl false)] _
    refine ⟨rfl, ?_⟩
    repeat pv_eval
    refine cb_isX (b := true) (hx.isk 5 (by decide)) (hx.kit 5 5 (by decide) (by decide)) ?_
    repeat pv_eval
    refine ⟨fun z => (by cases z), fun _ => ?_⟩
    repeat pv_eval
    refine cb_isXT (b := true) (hx.isk 5 (by decide)) (hx.kiv 5 (by decide)) ?_
    repeat pv_eval
    refine we_xf (by rfl) (hx.xfk 5 (by decide)) (hx.ek 5 (by decide)).nv ?_
    repeat pv_eval
    exact .inr ⟨h0, rfl, rfl⟩
end
end RR

set_option Elab.async false
set_option linter.all false
set_option maxRecDepth 100000
set_option maxHeartbeats 4000000
/-! RZ: data whose repr and == go through: small numbers, at most some depth -/
namespace RR
open PySem L2 RH RX
mutual
def D.nice : D → Bool
  | .non => true
  | .bl _ => true
  | .int i => decide (i.natAbs < 10 ^ 60)
  | .str s => PyData.strOk s && decide ((reprText s).length ≤ 100)
  | .lst xs => niceA xs
  | .tup xs => niceA xs
  | .scr xs => niceA xs
  | .row _ => false
  | .ins _ _ => false
  | .exc _ _ _ => false
  | .raw _ => false
def niceA : List D → Bool
  | [] => true
  | x :: xs => x.nice && niceA xs
end
mutual
def D.sz : D → Nat
  | .lst xs => szA xs + 2 * xs.length + 3
  | .tup xs => szA xs + 2 * xs.length + 3
  | .scr xs => szA xs + 2 * xs.length + 3
  | _ => 100
def szA : List D → Nat
  | [] => 0
  | x :: xs => x.sz + szA xs
end
theorem niceA_all : ∀ xs : List D, niceA xs = true ↔ ∀ x ∈ xs, x.nice = true
  | [] => by simp [niceA]
  | x :: xs => by simp [niceA, niceA_all xs]
theorem szA_le {n : Nat} : ∀ xs : List D, (∀ x ∈ xs, x.sz ≤ n) → szA xs ≤ n * xs.length
  | [], _ => Nat.zero_le _
  | x :: xs, h => by
    have h1 := h x List.mem_cons_self
    have h2 := szA_le xs fun y q => h y (List.mem_cons_of_mem _ q)
    show x.sz + szA xs ≤ n * (xs.length + 1)
    rw [Nat.mul_add, Nat.mul_one]
    omega
theorem shownAll_map : ∀ xs : List PyData, PyData.shownAll xs = xs.map PyData.shown
  | [] => rfl
  | x :: xs => by rw [PyData.shownAll, shownAll_map xs]; rfl
theorem int_log {i : Int} (h : i.natAbs < 10 ^ 60) : i.natAbs.log2 < 1920 := by
  have : i.natAbs < 2 ^ 200 := Nat.lt_of_lt_of_le h (by decide)
  exact Nat.lt_of_lt_of_le (PySem.Flt.log2_lt_of (by decide) this) (by decide)
mutual
theorem nice_pure : ∀ x : D, x.nice = true → x.pure = true
  | .non, _ => rfl
  | .bl _, _ => rfl
  | .int _, _ => rfl
  | .str _, _ => rfl
  | .lst xs, h => nice_pureA xs h
  | .tup xs, h => nice_pureA xs h
  | .scr xs, h => nice_pureA xs h
theorem nice_pureA : ∀ xs : List D, niceA xs = true → pureA xs = true
  | [], _ => rfl
  | x :: xs, h => by
    have h := (Bool.and_eq_true_iff.mp h)
    show (x.pure && pureA xs) = true
    rw [nice_pure x h.1, nice_pureA xs h.2]
    rfl
end
mutual
theorem nice_lay : ∀ x : D, x.nice = true → x.toPy.canLay0 = true
  | .non, _ => rfl
  | .bl _, _ => rfl
  | .int _, _ => rfl
  | .str s, h => (Bool.and_eq_true_iff.mp h).1
  | .lst xs, h => nice_layA xs h
  | .tup xs, h => nice_layA xs h
  | .scr xs, h => nice_layA xs h
theorem nice_layA : ∀ xs : List D, niceA xs = true → PyData.canLayAll0 (toPyA xs) = true
  | [], _ => rfl
  | x :: xs, h => by
    have h := (Bool.and_eq_true_iff.mp h)
    show (x.toPy.canLay0 && PyData.canLayAll0 (toPyA xs)) = true
    rw [nice_lay x h.1, nice_layA xs h.2]
    rfl
end
mutual
theorem nice_show : ∀ x : D, x.nice = true → x.toPy.showable = true
  | .non, _ => rfl
  | .bl _, _ => rfl
  | .int i, h => decide_eq_true (int_log (of_decide_eq_true h))
  | .str s, h => rfl
  | .lst xs, h => nice_showA xs h
  | .tup xs, h => nice_showA xs h
  | .scr xs, h => nice_showA xs h
theorem nice_showA : ∀ xs : List D, niceA xs = true → PyData.showableAll (toPyA xs) = true
  | [], _ => rfl
  | x :: xs, h => by
    have h := (Bool.and_eq_true_iff.mp h)
    show (x.toPy.showable && PyData.showableAll (toPyA xs)) = true
    rw [nice_show x h.1, nice_showA xs h.2]
    rfl
end
theorem toPyA_len (xs : List D) : (toPyA xs).length = xs.length := by rw [toPyA_map, List.length_map]
mutual
theorem nice_sz : ∀ x : D, x.nice = true → x.toPy.shown.length ≤ x.sz
  | .non, _ => by decide +kernel
  | .bl true, _ => by decide +kernel
  | .bl false, _ => by decide +kernel
  | .int i, h => by
    have := int_text_length_le10 (a := i) (k := 60) (by decide) (of_decide_eq_true h)
    show (Str.ofString (toString i)).length ≤ 100
    rw [ofString_length]; omega
  | .str s, h => of_decide_eq_true (Bool.and_eq_true_iff.mp h).2
  | .lst xs, h => by
    have h1 := nice_szA xs h
    have h2 := listText_len_le (PyData.shownAll (toPyA xs))
    show (listText (PyData.shownAll (toPyA xs))).length ≤ szA xs + 2 * xs.length + 3
    rw [shownAll_map] at h2 ⊢
    rw [List.length_map, toPyA_len] at h2
    rw [shownAll_map] at h1
    omega
  | .tup xs, h => by
    have h1 := nice_szA xs h
    have h2 := tupleText_len_le (PyData.shownAll (toPyA xs))
    show (tupleText (PyData.shownAll (toPyA xs))).length ≤ szA xs + 2 * xs.length + 3
    rw [shownAll_map] at h2 ⊢
    rw [List.length_map, toPyA_len] at h2
    rw [shownAll_map] at h1
    omega
  | .scr xs, h => by
    have h1 := nice_szA xs h
    have h2 := listText_len_le (PyData.shownAll (toPyA xs))
    show (listText (PyData.shownAll (toPyA xs))).length ≤ szA xs + 2 * xs.length + 3
    rw [shownAll_map] at h2 ⊢
    rw [List.length_map, toPyA_len] at h2
    rw [shownAll_map] at h1
    omega
theorem nice_szA : ∀ xs : List D, niceA xs = true → ((PyData.shownAll (toPyA xs)).map (·.length)).sum ≤ szA xs
  | [], _ => Nat.zero_le _
  | x :: xs, h => by
    have h := (Bool.and_eq_true_iff.mp h)
    have h1 := nice_sz x h.1
    have h2 := nice_szA xs h.2
    show x.toPy.shown.length + ((PyData.shownAll (toPyA xs)).map (·.length)).sum ≤ x.sz + szA xs
    omega
end
theorem nice_shaped {x : D} (h : x.nice = true) (hd : x.toPy.depth ≤ 64) : SeqAt.shaped x.toPy = true := by
  unfold SeqAt.shaped
  rw [nice_lay x h, decide_eq_true hd]
  rfl
section
variable {K : PySem.W.Frag} {c : Cs} {e : Ent} {Γ : List A} {Q : D → List A → Prop}
theorem cb_repZ {x : D} (h1 : x.isSeq = true) (h2 : x.nice = true) (h3 : x.toPy.depth ≤ 60) (h4 : x.sz ≤ 10000000) (q : Q (.str x.toPy.shown) Γ) : Cb K c e (rRepN K) [x] Γ Q := cb_repN h1 (nice_pure x h2) (nice_show x h2) h3 (Nat.le_trans (nice_sz x h2) h4) q
theorem op_eqZ {x y : D} (h1 : x.nice = true) (h2 : y.nice = true) (h3 : x.toPy.depth ≤ 64) (h4 : y.toPy.depth ≤ 64) (q : Q (.bl (PyData.eqv x.toPy y.toPy)) Γ) : Op K c e (rEqD K) x y Γ Q := op_eqP (nice_pure x h1) (nice_pure y h2) (nice_shaped h1 h3) (nice_shaped h2 h4) q
theorem op_neZ {x y : D} (h1 : x.nice = true) (h2 : y.nice = true) (h3 : x.toPy.depth ≤ 64) (h4 : y.toPy.depth ≤ 64) (q : Q (.bl (!PyData.eqv x.toPy y.toPy)) Γ) : Op K c e (rNeD K) x y Γ Q := op_neP (nice_pure x h1) (nice_pure y h2) (nice_shaped h1 h3) (nice_shaped h2 h4) q
end
end RR

set_option Elab.async false
set_option linter.all false
set_option maxRecDepth 100000
set_option maxHeartbeats 4000000
/-! RD: draws, choices, tests whose outcome is known -/
namespace RR
open PySem L2 RH RX
section
variable {K : PySem.W.Frag} {c : Cs} {e : Ent} {Γ : List A} {Q : D → List A → Prop} {QO : O → List A → Prop} {QB : Bool → List A → Prop} {ta tb te tx : TE} {tt : TT} {t1 t2 : TS} {i : Nat} {Dn : Nd}
theorem we_draw {E : XK} {ts : TE} {n : Nat} {o : O} (h0 : ob Γ i = some o) (hp : Pool n o) (hn : n < 1000000000)
    (h : WE K c e ts Γ fun y Γ1 => Γ1 = Γ ∧ ∃ s : Int, y = .int s ∧ 0 < s ∧ s < 2 ^ 64 ∧ ∀ (z : Int) o', 0 ≤ z → z < s → Pool (n + 1) o' → Q (.int z) (chg Γ i o')) : WE K c e (tCall (spF K c pfDraw) [] E (tCons (tVar i) (tCons ts tNil))) Γ Q := by
  refine we_call Ct.mono (wa_o ⟨o, h0⟩ (wa_d (h.imp fun y Γ1 ⟨h1, s, h2, h3, h4, h5⟩ => wa_nil ?_)))
  subst h1
  subst h2
  refine ⟨by show ((ob Γ1 i).isSome && true) = true; rw [h0]; rfl, by simp [atsOf], (n, o, s), ⟨by show [lend Γ1 (.sl i), A.d (.int s)] = _; rw [lend_ob h0], hp, hn, h3, h4⟩, fun r as' ⟨o', z, q1, q2, q3, q4, q5⟩ => ?_, fun _ _ z => z⟩
  subst q1
  subst q5
  exact h5 z o' q2 q3 q4
theorem we_drawC {E : XK} {s : Int} {n : Nat} {o : O} (h0 : ob Γ i = some o) (hp : Pool n o) (hn : n < 1000000000) (h3 : 0 < s) (h4 : s < 2 ^ 64) (h : ∀ (z : Int) o', 0 ≤ z → z < s → Pool (n + 1) o' → Q (.int z) (chg Γ i o')) :
    WE K c e (tCall (spF K c pfDraw) [] E (tCons (tVar i) (tCons (tC (.int s)) tNil))) Γ Q := we_draw h0 hp hn (we_int ⟨rfl, s, rfl, h3, h4, h⟩)
theorem atI_mem {xs : List D} {z : Int} (h0 : 0 ≤ z) (h1 : z < xs.length) : ∃ d, atI xs z = some d ∧ d ∈ xs := by
  have hz : z = (z.toNat : Int) := by omega
  have hl : z.toNat < xs.length := by omega
  refine ⟨xs[z.toNat], ?_, List.getElem_mem hl⟩
  have q := atI_nat (List.getElem?_eq_getElem hl)
  rwa [← hz] at q
theorem op_ixM {xs : List D} {z : Int} (h0 : 0 ≤ z) (h1 : z < xs.length) (q : ∀ d, d ∈ xs → Q d Γ) : Op K c e (rIxL K) (.lst xs) (.int z) Γ Q := by
  obtain ⟨d, h2, h3⟩ := atI_mem h0 h1
  exact op_ixL h2 (q d h3)
theorem op_neSS {x y : Str} (h : x = y) (q : Q (.bl false) Γ) : Op K c e rNe (.str x) (.str y) Γ Q := op_neS (b := true) (by show some (decide (x = y)) = _; rw [decide_eq_true h]) q
theorem ws_ifF (h : WT K c e tt Γ fun b Γ' => b = false ∧ WS K c e t2 Γ' Dn) : WS K c e (tIfS tt t1 t2) Γ Dn := ws_if (h.imp fun b Γ' ⟨h1, h2⟩ => ⟨fun z => by (rw [h1] at z; cases z), fun _ => h2⟩)
theorem ws_ifT (h : WT K c e tt Γ fun b Γ' => b = true ∧ WS K c e t1 Γ' Dn) : WS K c e (tIfS tt t1 t2) Γ Dn := ws_if (h.imp fun b Γ' ⟨h1, h2⟩ => ⟨fun _ => h2, fun z => by (rw [h1] at z; cases z)⟩)
theorem wt_orF {tu : TT} (h : WT K c e tt Γ fun b Γ' => b = false ∧ WT K c e tu Γ' QB) : WT K c e (tOr tt tu) Γ QB := wt_or (h.imp fun b Γ' ⟨h1, h2⟩ => ⟨fun z => by (rw [h1] at z; cases z), fun _ => h2⟩)
theorem we_andT (h : WE K c e ta Γ fun x Γ' => x = .bl true ∧ WE K c e tb Γ' Q) : WE K c e (tAndV ta tb) Γ Q := we_andV (h.imp fun x Γ' ⟨h1, h2⟩ => ⟨true, h1, fun _ => h2, fun z => nomatch z⟩)
end
end RR

set_option Elab.async false
set_option linter.all false
set_option maxRecDepth 100000
set_option maxHeartbeats 4000000
set_option pp.maxSteps 200
set_option pp.deepTerms false
namespace RR
open PySem L2 StX RH RX
local macro_rules
  | `(tactic| mem_news) => `(tactic| with_reducible first
      | refine ws_seq ?_ | refine ws_asgO ?_ | refine ws_setI ?_ | refine ws_asg ?_ | refine ws_parOO ?_ | refine ws_parO ?_ | refine ws_par ?_ | refine ws_fld ?_ | refine ws_next ?_
      | refine ws_app (by with_unfolding_all exact ⟨_, rfl⟩) ?_ | refine ws_ext (by with_unfolding_all exact ⟨_, rfl⟩) ?_ | refine ws_retO (by with_unfolding_all rfl) ?_
      | refine we_ixO ?_ (by with_unfolding_all exact ⟨_, rfl⟩) | refine we_lenO (by with_unfolding_all rfl) ?_ | refine we_var (by with_unfolding_all rfl) ?_ | refine we_thaw (by with_unfolding_all rfl) ?_ | refine wa_o (by with_unfolding_all exact ⟨_, rfl⟩) ?_
      | refine ws_drop ?_ | refine ws_retW ?_ | refine ws_ret ?_ | refine ws_retN ?_ | refine ws_brk ?_ | refine ws_cont ?_
      | refine wt_test ?_ | refine wt_B ?_ | refine wt_not ?_ | refine wt_and ?_ | refine wt_or ?_ | refine wt_yes ?_
      | refine we_int ?_ | refine we_bl ?_ | refine we_str ?_ | refine we_non ?_ | refine we_raw ?_
      | refine we_frz (wf_op (r := rCat) ?_) | refine we_frz (wf_op (r := rRep) ?_) | refine we_frz (wf_lst ?_) | refine we_frz (wf_slL ?_) | refine we_frz (wf_cb (r := rLst _) ?_)
      | refine wf_op ?_ | refine wf_lst ?_ | refine wf_slL ?_ | refine wf_cb ?_ | refine wf_if ?_
      | refine we_tup ?_ | refine we_slT ?_ | refine we_if ?_ | refine we_andV ?_ | refine we_orV ?_ | refine we_notV ?_ | refine we_chain ?_ | refine we_op ?_ | refine we_un ?_ | refine we_cb ?_
      | refine wl_nil ?_ | refine wl_star ?_ | refine wl_cons ?_ | refine wa_nil ?_ | refine wa_d ?_ | refine wo_none ?_ | refine wo_some ?_
      | refine op_int ?_ | refine op_bl ?_ | refine un_int ?_
      | refine cb_abs ?_ | refine cb_max ?_ | refine cb_min ?_ | refine cb_int ?_ 
      | refine op_eqS (by with_unfolding_all rfl) ?_ | refine op_neS (by with_unfolding_all rfl) ?_ | refine op_is (by with_unfolding_all rfl) ?_ | refine op_isnt (by with_unfolding_all rfl) ?_
      | refine op_intC (by first | assumption | with_unfolding_all decide) ?_ | refine cb_len (by with_unfolding_all rfl) ?_ | refine cb_lst (by with_unfolding_all rfl) ?_ | refine cb_tup (by with_unfolding_all rfl) ?_)
local macro_rules
  | `(tactic| pv_eval) => `(tactic| first
    | mem_news
    | refine ⟨_, _, _, by rfl, by rfl, by rfl, ?_⟩ | refine ⟨by exact ⟨_, rfl⟩, ?_⟩ | refine ⟨_, by rfl, ?_⟩ | refine ⟨by rfl, ?_⟩ | refine ⟨_, _, by rfl, by rfl, by rfl, ?_⟩ | refine ⟨Nat.le_of_ble_eq_true rfl, ?_⟩)

section
variable {K : PySem.W.Frag} {c : Cs} {T0 : Addr} {b : Bool}
/-- the two books after k words: page (at most L words), bare -/
structure LoopI (n L k : Nat) (o : O) (B1 B2 : Bk) : Prop where
  p : Pool (n + 5 + 8 * k) o
  ok1 : B1.Ok k
  ok2 : B2.Ok k
  g1 : B1.g = some (L : Int)
  g2 : B2.g = none
  top : B1.top = B2.top
  len : B1.top.length = k
  pre : k = 0 ∨ ∃ B0 w, B1 = Bk.put B0 w ∧ B0.Ok (k - 1) ∧ B0.top.length + 1 = k ∧ B0.g = some (L : Int)
theorem LoopI.i1 {n L k : Nat} {o : O} {B1 B2 : Bk} (I : LoopI n L k o B1 B2) : Isb true B1 := by unfold Isb; rw [I.g1]; rfl
theorem LoopI.i2 {n L k : Nat} {o : O} {B1 B2 : Bk} (I : LoopI n L k o B1 B2) : Isb false B2 := by unfold Isb; rw [I.g2]; rfl
theorem LoopI.open1 {n L k : Nat} {o : O} {B1 B2 : Bk} (I : LoopI n L k o B1 B2) (h : k < L) : B1.full = false := by
  unfold Bk.full
  rw [I.g1, I.len]
  exact decide_eq_false (by omega)
theorem LoopI.open2 {n L k : Nat} {o : O} {B1 B2 : Bk} (I : LoopI n L k o B1 B2) : B2.full = false := by
  unfold Bk.full
  rw [I.g2]
theorem told_neg {E : XK} {e : Ent} {Γ : List A} {ta tb : TE} {Q : D → List A → Prop} (h : WE K c e ta Γ fun x Γ1 => WE K c e tb Γ1 fun y Γ2 => ∃ w m : Int, x = .int w ∧ y = .int m ∧ m < 0 ∧ Q (.lst [.bl true, .bl false, .int m]) Γ2) :
    WE K c e (tCall (spF K c (pfTold c)) [] E (tCons ta (tCons tb tNil))) Γ Q := by
  refine we_call Ct.mono (wa_d (h.imp fun x Γ1 h => wa_d (h.imp fun y Γ2 ⟨w, m, h1, h2, h3, h4⟩ => wa_nil ?_)))
  subst h1
  subst h2
  refine ⟨rfl, by simp [atsOf], (w, m), rfl, fun r as' ⟨q1, q2⟩ => ?_, fun _ _ z => z⟩
  subst q2
  rcases q1 with ⟨q0, _⟩ | ⟨_, q1⟩
  · exact absurd h3 (by show ¬ m < 0; exact Int.not_lt.mpr q0)
  · subst q1
    exact h4
theorem told_pos {E : XK} {e : Ent} {Γ : List A} {ta tb : TE} {Q : O → List A → Prop} (h : WE K c e ta Γ fun x Γ1 => WE K c e tb Γ1 fun y Γ2 => ∃ w m : Int, x = .int w ∧ y = .int m ∧ 0 ≤ m ∧ Q (Bo c true (Bk.new (some m))) Γ2) :
    WF K c e (tCall (spF K c (pfTold c)) [] E (tCons ta (tCons tb tNil))) Γ Q := by
  refine wf_call Ct.mono (wa_d (h.imp fun x Γ1 h => wa_d (h.imp fun y Γ2 ⟨w, m, h1, h2, h3, h4⟩ => wa_nil ?_)))
  subst h1
  subst h2
  refine ⟨rfl, by simp [atsOf], (w, m), rfl, fun r as' ⟨q1, q2⟩ => ?_, fun _ _ z => z⟩
  subst q2
  rcases q1 with ⟨_, q1⟩ | ⟨q0, _⟩
  · exact ⟨_, q1, h4⟩
  · exact absurd q0 (Int.not_lt.mpr h3)
/-- one more word is refused, or not -/
theorem refused_no {E : XK} {e : Ent} {Γ : List A} {tb : TE} {i : Nat} {B : Bk} {Q : D → List A → Prop} (h0 : ob Γ i = some (Bo c b B)) (h1 : Isb b B) (h2 : ∃ n, n < 10000 ∧ B.Ok n) (h3 : B.full = false)
    (h : WE K c e tb Γ fun y Γ2 => Γ2 = Γ ∧ ∃ w, y = .lst (iD w) ∧ Q .non (chg Γ i (Bo c b (B.put w)))) : WE K c e (tCall (spF K c (pfX fun b => pfRefused c b)) [] E (tCons (tVar i) (tCons tb tNil))) Γ Q := by
  refine we_call (pfX.mono fun _ => Ct.mono) (wa_o ⟨_, h0⟩ (wa_d (h.imp fun y Γ2 ⟨g1, w, g2, g3⟩ => wa_nil ?_)))
  subst g1
  subst g2
  refine ⟨by show ((ob Γ2 i).isSome && true) = true; rw [h0]; rfl, by simp [atsOf], b, (B, w), ⟨by show [lend Γ2 (.sl i), _] = _; rw [lend_ob h0]; rfl, h1, h2⟩, fun r as' q => ?_, fun _ _ z => z⟩
  rcases q with ⟨_, q1, q2⟩ | ⟨q0, _⟩
  · subst q1
    subst q2
    exact g3
  · rw [h3] at q0
    cases q0
theorem refused_yes {E : XK} {e : Ent} {Γ : List A} {tb : TE} {i : Nat} {B : Bk} {Q : D → List A → Prop} (h0 : ob Γ i = some (Bo c b B)) (hb : chg Γ i (Bo c b B) = Γ) (h1 : Isb b B) (h2 : ∃ n, n < 10000 ∧ B.Ok n) (h3 : B.full = true)
    (h : WE K c e tb Γ fun y Γ2 => Γ2 = Γ ∧ ∃ w, y = .lst (iD w) ∧ Q (.lst [.bl true, .bl false, .int (B.top.length + 1)]) Γ) : WE K c e (tCall (spF K c (pfX fun b => pfRefused c b)) [] E (tCons (tVar i) (tCons tb tNil))) Γ Q := by
  refine we_call (pfX.mono fun _ => Ct.mono) (wa_o ⟨_, h0⟩ (wa_d (h.imp fun y Γ2 ⟨g1, w, g2, g3⟩ => wa_nil ?_)))
  subst g1
  subst g2
  refine ⟨by show ((ob Γ2 i).isSome && true) = true; rw [h0]; rfl, by simp [atsOf], b, (B, w), ⟨by show [lend Γ2 (.sl i), _] = _; rw [lend_ob h0]; rfl, h1, h2⟩, fun r as' q => ?_, fun _ _ z => z⟩
  rcases q with ⟨q0, _⟩ | ⟨_, q1, q2⟩
  · rw [h3] at q0
    cases q0
  · subst q1
    subst q2
    show Q _ (chg Γ2 i (Bo c b B))
    rw [hb]
    exact g3
theorem tbf_nice {m : Int} (h : m.natAbs < 10 ^ 60) : (D.lst [.bl true, .bl false, .int m]).nice = true := by
  show (true && (true && (decide (m.natAbs < 10 ^ 60) && true))) = true
  rw [decide_eq_true h]
  rfl
theorem tbf2_nice {m : Int} (h : m.natAbs < 10 ^ 60) : (D.lst [.lst [.bl true, .bl false, .int m], .lst [.bl true, .bl false, .int m]]).nice = true := by
  show ((D.lst [.bl true, .bl false, .int m]).nice && ((D.lst [.bl true, .bl false, .int m]).nice && true)) = true
  rw [tbf_nice h]
  rfl
theorem wss_pure (ws : List (List Int)) : (D.lst (ws.map fun w => .lst (iD w))).pure = true := by
  show pureA _ = true
  rw [pureA_all, List.all_eq_true]
  intro x h
  obtain ⟨w, _, rfl⟩ := List.mem_map.mp h
  exact iD_pure w
theorem wss_lay (ws : List (List Int)) : (D.lst (ws.map fun w => .lst (iD w))).toPy.canLay0 = true := lay_allI _ fun x h => by
  obtain ⟨w, _, rfl⟩ := List.mem_map.mp h
  exact iD_lay w
theorem wss_shaped (ws : List (List Int)) : SeqAt.shaped (D.lst (ws.map fun w => .lst (iD w))).toPy = true := by
  unfold SeqAt.shaped
  rw [Bool.and_eq_true]
  refine ⟨lay_allI _ fun x h => ?_, decide_eq_true ?_⟩
  · obtain ⟨w, _, rfl⟩ := List.mem_map.mp h
    exact iD_lay w
  · show PyData.depthAll (toPyA _) + 1 ≤ 64
    have : PyData.depthAll (toPyA (ws.map fun w => D.lst (iD w))) ≤ 1 := dep_allI _ fun x h => by
      obtain ⟨w, _, rfl⟩ := List.mem_map.mp h
      have := iD_dep w
      show PyData.depthAll (toPyA (iD w)) + 1 ≤ 1
      omega
    omega
theorem LoopI.full1 {n L k : Nat} {o : O} {B1 B2 : Bk} (I : LoopI n L k o B1 B2) (h : k = L) : B1.full = true := by
  unfold Bk.full
  rw [I.g1, I.len]
  exact decide_eq_true (by omega)
theorem bd_law_fits (hx : Bx K c T0) : BodyOk K c (pfFits c) ["pool", "wrong", "limit", "page", "bare", "turn", "step", "due", "some"] (tm_law_fits K c T0) := by
  refine bodyCt fun e ⟨n, o⟩ as ⟨h1, hp, hn⟩ _ => ?_
  subst h1
  dsimp only at hp hn ⊢
  show WS K c e _ [.bor o, .un, .un, .un, .un, .un, .un, .un, .un] _
  unfold tm_law_fits
  -- wrong
  repeat pv_eval
  refine we_drawC (n := n) (by rfl) hp (by omega) (by decide) (by decide) fun z1 o1 z1a z1b hp1 => ?_
  show Op K c e _ _ _ [.bor o1, .un, .un, .un, .un, .un, .un, .un, .un] _
  repeat pv_eval
  refine op_intC ⟨by decide, by decide +kernel⟩ ?_
  repeat pv_eval
  refine we_drawC (n := n + 1) (by rfl) hp1 (by omega) (by decide) (by decide) fun z2 o2 z2a z2b hp2 => ?_
  show Op K c e _ _ _ [.bor o2, .un, .un, .un, .un, .un, .un, .un, .un] _
  refine op_ixM z2a z2b fun d hd => ?_
  obtain ⟨m, rfl, m1, m2⟩ : ∃ m : Int, d = .int m ∧ m < 0 ∧ m.natAbs < 10 ^ 60 := by
    simp only [List.mem_cons, List.mem_nil_iff, or_false] at hd
    rcases hd with rfl | rfl | rfl
    · exact ⟨_, rfl, by decide, by decide +kernel⟩
    · exact ⟨_, rfl, by omega, Nat.lt_of_lt_of_le (show (-2 - z1).natAbs < 1000 by omega) (by decide)⟩
    · exact ⟨_, rfl, by decide, by decide +kernel⟩
  refine ⟨rfl, ?_⟩
  show WS K c e _ [.bor o2, .d (.int m), .un, .un, .un, .un, .un, .un, .un] _
  repeat pv_eval
  refine ws_ifF ?_
  repeat pv_eval
  refine told_neg ?_
  repeat pv_eval
  refine ⟨_, _, rfl, rfl, m1, ?_⟩
  repeat pv_eval
  refine told_neg ?_
  repeat pv_eval
  refine ⟨_, _, rfl, rfl, m1, ?_⟩
  repeat pv_eval
  refine cb_repZ (by rfl) (tbf2_nice m2) (Nat.le_of_ble_eq_true rfl) (Nat.le_of_ble_eq_true rfl) ?_
  repeat pv_eval
  refine op_repL (by decide) (by decide) (Nat.le_of_ble_eq_true rfl) ?_
  refine wl_nil ?_
  refine cb_repZ (by rfl) (tbf2_nice m2) (Nat.le_of_ble_eq_true rfl) (Nat.le_of_ble_eq_true rfl) ?_
  refine op_neSS rfl ?_
  refine ⟨_, rfl, rfl, ?_⟩
  repeat pv_eval
  -- limit
  refine we_drawC (n := n + 2) (by rfl) hp2 (by omega) (by decide) (by decide) fun z3 o3 z3a z3b hp3 => ?_
  show Op K c e _ _ _ [.bor o3, .d (.int m), .un, .un, .un, .un, .un, .un, .un] _
  repeat pv_eval
  refine we_drawC (n := n + 3) (by rfl) hp3 (by omega) (by decide) (by decide) fun z4 o4 z4a z4b hp4 => ?_
  show Op K c e _ _ _ [.bor o4, .d (.int m), .un, .un, .un, .un, .un, .un, .un] _
  refine op_ixM z4a z4b fun d hd2 => ?_
  obtain ⟨L, rfl, L1, L2⟩ : ∃ L : Nat, d = .int L ∧ 0 ≤ L ∧ L < 30 := by
    simp only [List.mem_cons, List.mem_nil_iff, or_false] at hd2
    rcases hd2 with rfl | rfl | rfl | rfl
    · exact ⟨0, rfl, by decide, by decide⟩
    · exact ⟨1, rfl, by decide, by decide⟩
    · exact ⟨2, rfl, by decide, by decide⟩
    · exact ⟨(3 + z3).toNat, congrArg D.int (by omega), by omega, by omega⟩
  refine ⟨rfl, ?_⟩
  show WS K c e _ [.bor o4, .d (.int m), .d (.int L), .un, .un, .un, .un, .un, .un] _
  repeat pv_eval
  refine told_pos ?_
  refine we_drawC (n := n + 4) (by rfl) hp4 (by omega) (by decide) (by decide) fun z5 o5 z5a z5b hp5 => ?_
  show WE K c e _ [.bor o5, .d (.int m), .d (.int L), .un, .un, .un, .un, .un, .un] _
  repeat pv_eval
  refine ⟨_, _, rfl, rfl, by omega, fun e' he' => ?_⟩
  refine wf_make ?_ ?_ ?_
  · exact pfX.mono fun _ => Ct.mono
  · exact fun _ _ _ z => z
  repeat pv_eval
  refine ⟨false, (), rfl, fun r as' ⟨q1, q2⟩ => ?_, fun _ _ z => z⟩
  subst q1
  subst q2
  refine ⟨rfl, _, rfl, rfl, rfl, ?_⟩
  show WS K c e _ [.bor o5, .d (.int m), .d (.int L), .own (Bo c true (Bk.new (some L))), .own (Bo c false (Bk.new none)), .un, .un, .un, .un] _
  repeat pv_eval
  refine ws_nx (fun Γ => ∃ o B1 B2 a5 a6, Γ = [.bor o, .d (.int m), .d (.int L), .own (Bo c true B1), .own (Bo c false B2), a5, a6, .un, .un] ∧ LoopI n L L o B1 B2 ∧ a5.isBor = false ∧ a6.isBor = false) ?_ ?_
  · refine ws_forR ?_
    refine wl_cons (we_var (by rfl) (wl_nil ?_))
    refine ⟨L, fun k Γ => ∃ o B1 B2 a5 a6, Γ = [.bor o, .d (.int m), .d (.int L), .own (Bo c true B1), .own (Bo c false B2), a5, a6, .un, .un] ∧ LoopI n L k o B1 B2 ∧ a5.isBor = false ∧ a6.isBor = false, rfl, ⟨by omega, by omega⟩, ⟨o5, Bk.new (some L), Bk.new none, .un, .un, rfl, ⟨hp5, Bk.Ok.new, Bk.Ok.new, rfl, rfl, rfl, rfl, .inl rfl⟩, rfl, rfl⟩, ?_, ?_⟩
    · rintro k Γ1 hk ⟨o6, B1, B2, a5, a6, rfl, I, b5, b6⟩
      have hkL : k < L := by simpa using hk
      refine ⟨b5, ?_⟩
      show WS K c e _ [.bor o6, .d (.int m), .d (.int L), .own (Bo c true B1), .own (Bo c false B2), .d (.int k), a6, .un, .un] _
      repeat pv_eval
      refine we_frz (wf_lcR ?_)
      repeat pv_eval
      refine we_drawC (n := n + 5 + 8 * k) (by rfl) I.p (by omega) (by decide) (by decide) fun z6 o7 z6a z6b hp7 => ?_
      refine wl_nil ?_
      refine ⟨z6, fun j acc Γ => ∃ (o : O) (ws : List Int), Γ = [.bor o, .d (.int m), .d (.int L), .own (Bo c true B1), .own (Bo c false B2), .d (.int k), a6, .un, .un] ∧ Pool (n + 5 + 8 * k + 1 + j) o ∧ acc = iD ws, rfl, ⟨by omega, by omega⟩, ⟨o7, [], rfl, hp7, rfl⟩, ?_, ?_⟩
      · rintro j hj e' acc Γ1 ⟨o8, ws, rfl, hp8, rfl⟩
        refine ⟨rfl, wt_yes ⟨fun _ => ?_, fun z => nomatch z⟩⟩
        refine we_drawC (n := n + 5 + 8 * k + 1 + j) (by rfl) hp8 (by omega) (by decide) (by decide) fun z7 o9 z7a z7b hp9 => ?_
        exact ⟨rfl, o9, ws ++ [z7], rfl, hp9, by simp [iD]⟩
      · rintro acc Γ1 _ ⟨o8, ws, rfl, hp8, rfl⟩
        refine ⟨b6, ?_⟩
        show WS K c e _ [.bor o8, .d (.int m), .d (.int L), .own (Bo c true B1), .own (Bo c false B2), .d (.int k), .d (.lst (iD ws)), .un, .un] _
        refine ws_ifF ?_
        refine wt_orF ?_
        repeat pv_eval
        refine refused_no (B := B1) (by rfl) I.i1 ⟨k, by omega, I.ok1⟩ (I.open1 hkL) ?_
        refine we_var (by rfl) ⟨rfl, ws, rfl, ?_⟩
        show WE K c e _ [.bor o8, .d (.int m), .d (.int L), .own (Bo c true (B1.put ws)), .own (Bo c false B2), .d (.int k), .d (.lst (iD ws)), .un, .un] _
        refine we_non (op_isnt rfl ⟨false, rfl, rfl, ?_⟩)
        refine wt_test ?_
        refine we_op ?_
        refine refused_no (B := B2) (by rfl) I.i2 ⟨k, by omega, I.ok2⟩ I.open2 ?_
        refine we_var (by rfl) ⟨rfl, ws, rfl, ?_⟩
        show WE K c e _ [.bor o8, .d (.int m), .d (.int L), .own (Bo c true (B1.put ws)), .own (Bo c false (B2.put ws)), .d (.int k), .d (.lst (iD ws)), .un, .un] _
        refine we_non (op_isnt rfl ⟨false, rfl, rfl, ?_⟩)
        refine ws_next ?_
        refine ⟨o8, B1.put ws, B2.put ws, _, _, rfl, ?_, rfl, rfl⟩
        refine ⟨hp8.up (by have : z6.toNat ≤ 4 := by omega
                           omega), I.ok1.put, I.ok2.put, I.g1, I.g2, ?_, ?_, .inr ⟨B1, ws, rfl, by simpa using I.ok1, by rw [I.len], I.g1⟩⟩
        · show (Bk.settle _ _ _).top = (Bk.settle _ _ _).top
          rw [Bk.top_settle, Bk.top_settle, I.top]
        · show (Bk.settle _ _ _).top.length = _
          rw [Bk.top_settle]
          simp [I.len]
    · rintro Γ1 h
      simpa using h
  · rintro Γ1 ⟨o6, B1, B2, a5, a6, rfl, I, b5, b6⟩
    repeat pv_eval
    show WS K c e _ [.bor o6, .d (.int m), .d (.int L), .own (Bo c true B1), .own (Bo c false B2), a5, a6, .d (.lst [.bl true, .bl false, .int (L + 1)]), .un] _
    have e1 : ((B1.top.length : Int) + 1) = (L : Int) + 1 := by rw [I.len]
    have sm : ((L : Int) + 1).natAbs < 10 ^ 60 := Nat.lt_of_lt_of_le (show ((L : Int) + 1).natAbs < 100 by omega) (by decide)
    have yes : ∀ {tb : TE} {Q : D → List A → Prop} {a5 a6 : A}, (WE K c e tb [.bor o6, .d (.int m), .d (.int L), .own (Bo c true B1), .own (Bo c false B2), a5, a6, .d (.lst [.bl true, .bl false, .int (L + 1)]), .un] fun y Γ2 => Γ2 = [.bor o6, .d (.int m), .d (.int L), .own (Bo c true B1), .own (Bo c false B2), a5, a6, .d (.lst [.bl true, .bl false, .int (L + 1)]), .un] ∧ ∃ w, y = .lst (iD w) ∧ Q (.lst [.bl true, .bl false, .int (L + 1)]) [.bor o6, .d (.int m), .d (.int L), .own (Bo c true B1), .own (Bo c false B2), a5, a6, .d (.lst [.bl true, .bl false, .int (L + 1)]), .un]) →
        WE K c e (tCall (spF K c (pfX fun b => pfRefused c b)) [] (fun _ _ _ => False) (tCons (tVar 3) (tCons tb tNil))) [.bor o6, .d (.int m), .d (.int L), .own (Bo c true B1), .own (Bo c false B2), a5, a6, .d (.lst [.bl true, .bl false, .int (L + 1)]), .un] Q := fun h =>
      refused_yes (B := B1) (by rfl) (by rfl) I.i1 ⟨L, by omega, I.ok1⟩ (I.full1 rfl) (h.imp fun y Γ2 ⟨q1, w, q2, q3⟩ => ⟨q1, w, q2, by rw [e1]; exact q3⟩)
    refine ws_ifF ?_
    refine wt_orF ?_
    repeat pv_eval
    refine yes ?_
    repeat pv_eval
    refine ⟨[0, 1], rfl, ?_⟩
    repeat pv_eval
    refine yes ?_
    repeat pv_eval
    refine ⟨[], rfl, ?_⟩
    repeat pv_eval
    refine cb_repZ (by rfl) (tbf2_nice sm) (Nat.le_of_ble_eq_true rfl) (Nat.le_of_ble_eq_true rfl) ?_
    repeat pv_eval
    refine cb_repZ (by rfl) (tbf2_nice sm) (Nat.le_of_ble_eq_true rfl) (Nat.le_of_ble_eq_true rfl) ?_
    refine op_neSS rfl ⟨_, rfl, rfl, ?_⟩
    repeat pv_eval
    refine we_lenO' ?_ ?_ ?_
    · exact pfX.mono fun _ => Ct.mono
    · exact ⟨_, rfl⟩
    refine ⟨true, B1, ⟨rfl, I.ok1.ne⟩, fun r as' ⟨q1, q2⟩ => ?_, fun _ _ q => q⟩
    subst q1
    subst q2
    refine ⟨_, rfl, by omega, by rw [I.len]; omega, ?_⟩
    show WE K c e _ [.bor o6, .d (.int m), .d (.int L), .own (Bo c true B1), .own (Bo c false B2), a5, a6, .d (.lst [.bl true, .bl false, .int (L + 1)]), .un] _
    repeat pv_eval
    refine ⟨by rw [I.len]; simp, ?_⟩
    repeat pv_eval
    refine ws_nx (fun Γ => ∃ a3, Γ = [.bor o6, .d (.int m), .d (.int L), a3, .own (Bo c false B2), a5, a6, .d (.lst [.bl true, .bl false, .int (L + 1)]), .un]) ?_ ?_
    · refine ws_if ?_
      repeat pv_eval
      refine ⟨fun hb => ?_, fun hb => ?_⟩
      · have hL : 0 < L := by have := of_decide_eq_true hb; omega
        rcases I.pre with z | ⟨B0, w0, e0, ok0, len0, g0⟩
        · omega
        repeat pv_eval
        refine we_methX ?_ ?_ ?_
        · exact pfX.mono fun _ => Ct.mono
        · exact ⟨_, rfl, bk_no (by decide +kernel) (by decide +kernel) (by decide +kernel)⟩
        repeat pv_eval
        have hh : B1.has ((L : Int) - 1) = true := by
          unfold Bk.has
          rw [I.len, decide_eq_true (show (0 : Int) ≤ L - 1 by omega), decide_eq_true (show (L : Int) - 1 < L by omega)]
          rfl
        refine ⟨by show List.Nodup [3]; decide, true, (B1, (L : Int) - 1, [0]), ⟨rfl, L, by omega, I.ok1⟩, fun r as' ⟨q0, q1, q2⟩ => ?_, fun x as' ⟨q0, _⟩ => (by have q0 : B1.has ((L : Int) - 1) = false := q0; rw [hh] at q0; cases q0)⟩
        subst q1
        subst q2
        show WS K c e _ [.bor o6, .d (.int m), .d (.int L), .own (Bo c true (B1.chg (L - 1) [0])), .own (Bo c false B2), a5, a6, .d (.lst [.bl true, .bl false, .int (L + 1)]), .un] _
        repeat pv_eval
        refine we_methX ?_ ?_ ?_
        · exact pfX.mono fun _ => Ct.mono
        · exact ⟨_, rfl, bk_no (by decide +kernel) (by decide +kernel) (by decide +kernel)⟩
        repeat pv_eval
        refine ⟨by show List.Nodup [3]; decide, true, B1.chg (L - 1) [0], ⟨rfl, L + 1, by omega, I.ok1.chg (by rw [I.len]; omega)⟩, fun r as' ⟨q0, q1, q2⟩ => ?_, fun x as' ⟨q0, _⟩ => (by simp [Bk.chg, Bk.settle] at q0)⟩
        subst q1
        subst q2
        rw [show (B1.chg (L - 1) [0]).undo = B1 from Bk.undo_settle]
        show WS K c e _ [.bor o6, .d (.int m), .d (.int L), .own (Bo c true B1), .own (Bo c false B2), a5, a6, .d (.lst [.bl true, .bl false, .int (L + 1)]), .un] _
        repeat pv_eval
        refine ws_ifF ?_
        refine wt_orF ?_
        repeat pv_eval
        refine we_prop ?_ ?_ ?_
        · exact pfX.mono fun _ => Ct.mono
        · exact ⟨_, rfl⟩
        refine ⟨true, B1, ⟨rfl, I.ok1.ne, by rw [I.len]; omega⟩, fun r as' ⟨q1, q2⟩ => ?_, fun _ _ q => q⟩
        subst q1
        subst q2
        show WE K c e _ [.bor o6, .d (.int m), .d (.int L), .own (Bo c true B1), .own (Bo c false B2), a5, a6, .d (.lst [.bl true, .bl false, .int (L + 1)]), .un] _
        refine we_prop ?_ ?_ ?_
        · exact pfX.mono fun _ => Ct.mono
        · exact ⟨_, rfl⟩
        refine ⟨false, B2, ⟨rfl, I.ok2.ne, by rw [← I.top, I.len]; omega⟩, fun r as' ⟨q1, q2⟩ => ?_, fun _ _ q => q⟩
        subst q1
        subst q2
        show Op K c e _ _ _ [.bor o6, .d (.int m), .d (.int L), .own (Bo c true B1), .own (Bo c false B2), a5, a6, .d (.lst [.bl true, .bl false, .int (L + 1)]), .un] _
        refine op_neP (wss_pure _) (wss_pure _) (wss_shaped _) (wss_shaped _) ?_
        rw [I.top, show (Rs.own (O.lst (B2.top.map fun w => .lst (iD w)))).toD = D.lst (B2.top.map fun w => .lst (iD w)) from rfl, SeqAt.eqv_refl _ (wss_lay _)]
        refine ⟨_, rfl, rfl, ?_⟩
        refine wt_orF ?_
        repeat pv_eval
        refine we_eqI (fs := bkF B1) (gs := bkF B2) ?_ ?_ ?_ ?_ ?_ ?_
        · exact pfX.mono fun _ => Ct.mono
        · decide
        · rfl
        · rfl
        · exact hx.nf true false fun _ => rfl
        refine ⟨(true, false), (B1, B2), ⟨rfl, I.i1, I.i2⟩, fun r as' ⟨q1, q2⟩ => ?_, fun _ _ q => q⟩
        subst q1
        subst q2
        have ns : B1.same B2 = false := by
          unfold Bk.same
          rw [I.g1, I.g2]
          rfl
        refine ⟨_, rfl, _, rfl, ns, ?_⟩
        show WT K c e _ [.bor o6, .d (.int m), .d (.int L), .own (Bo c true B1), .own (Bo c false B2), a5, a6, .d (.lst [.bl true, .bl false, .int (L + 1)]), .un] _
        repeat pv_eval
        refine yes ?_
        repeat pv_eval
        refine ⟨[7], rfl, ?_⟩
        repeat pv_eval
        refine op_neZ (tbf_nice sm) (tbf_nice sm) (Nat.le_of_ble_eq_true rfl) (Nat.le_of_ble_eq_true rfl) ?_
        rw [SeqAt.eqv_refl _ (nice_lay _ (tbf_nice sm))]
        refine ⟨_, rfl, rfl, ?_⟩
        repeat pv_eval
        refine we_methX ?_ ?_ ?_
        · exact pfX.mono fun _ => Ct.mono
        · exact ⟨_, rfl, bk_no (by decide +kernel) (by decide +kernel) (by decide +kernel)⟩
        repeat pv_eval
        refine ⟨by show List.Nodup [3]; decide, true, B1, ⟨rfl, L, by omega, I.ok1⟩, fun r as' ⟨q0, q1, q2⟩ => ?_, fun x as' ⟨q0, _⟩ => (by rw [e0] at q0; simp [Bk.put, Bk.settle] at q0)⟩
        subst q1
        subst q2
        rw [e0, show (B0.put w0).undo = B0 from Bk.undo_settle]
        show WS K c e _ [.bor o6, .d (.int m), .d (.int L), .own (Bo c true B0), .own (Bo c false B2), a5, a6, .d (.lst [.bl true, .bl false, .int (L + 1)]), .un] _
        have i0 : Isb true B0 := by unfold Isb; rw [g0]; rfl
        have op0 : B0.full = false := by
          unfold Bk.full
          rw [g0]
          exact decide_eq_false (by omega)
        repeat pv_eval
        refine ws_ifF ?_
        refine wt_orF ?_
        refine wt_test ?_
        refine we_op ?_
        refine refused_no (B := B0) (by rfl) i0 ⟨L - 1, by omega, ok0⟩ op0 ?_
        repeat pv_eval
        refine ⟨[7], rfl, ?_⟩
        show WE K c e _ [.bor o6, .d (.int m), .d (.int L), .own (Bo c true (B0.put [7])), .own (Bo c false B2), a5, a6, .d (.lst [.bl true, .bl false, .int (L + 1)]), .un] _
        repeat pv_eval
        have t3 : (B0.put [7]).top = B0.top ++ [[7]] := Bk.top_settle
        have ok3 : (B0.put [7]).Ok (L - 1 + 1) := ok0.put
        refine we_prop ?_ ?_ ?_
        · exact pfX.mono fun _ => Ct.mono
        · exact ⟨_, rfl⟩
        refine ⟨true, B0.put [7], ⟨rfl, ok3.ne, by rw [t3]; simp; omega⟩, fun r as' ⟨q1, q2⟩ => ?_, fun _ _ q => q⟩
        subst q1
        subst q2
        show WE K c e _ [.bor o6, .d (.int m), .d (.int L), .own (Bo c true (B0.put [7])), .own (Bo c false B2), a5, a6, .d (.lst [.bl true, .bl false, .int (L + 1)]), .un] _
        repeat pv_eval
        refine op_ixL (d := .lst (iD [7])) (by rw [t3, List.map_append]; exact _root_.L2.atI_last _ _) ?_
        repeat pv_eval
        refine op_neZ (by rfl) (by rfl) (Nat.le_of_ble_eq_true rfl) (Nat.le_of_ble_eq_true rfl) ?_
        rw [show PyData.eqv (D.lst (iD [7])).toPy (O.lst [D.int 7]).toD.toPy = true from SeqAt.eqv_refl _ rfl]
        refine ⟨_, rfl, fun z => (by cases z), fun _ => ?_⟩
        repeat pv_eval
        refine refused_yes (B := B0.put [7]) (by rfl) (by rfl) i0 ⟨L - 1 + 1, by omega, ok3⟩ ?_ ?_
        · unfold Bk.full
          rw [show (B0.put [7]).g = some (L : Int) from g0, t3]
          exact decide_eq_true (by simp; omega)
        repeat pv_eval
        refine ⟨[7], rfl, ?_⟩
        rw [show (((B0.put [7]).top.length : Int) + 1) = (L : Int) + 1 by rw [t3]; simp; omega]
        repeat pv_eval
        refine op_neZ (tbf_nice sm) (tbf_nice sm) (Nat.le_of_ble_eq_true rfl) (Nat.le_of_ble_eq_true rfl) ?_
        rw [SeqAt.eqv_refl _ (nice_lay _ (tbf_nice sm))]
        refine ⟨_, rfl, rfl, ?_⟩
        repeat pv_eval
        exact ⟨_, rfl⟩
      · repeat pv_eval
        exact ⟨_, rfl⟩
    · rintro Γ1 ⟨a3, rfl⟩
      refine ws_ret ?_
      refine we_andT ?_
      refine we_op ?_
      refine refused_no (B := B2) (by rfl) I.i2 ⟨L, by omega, I.ok2⟩ I.open2 ?_
      repeat pv_eval
      refine ⟨[0], rfl, ?_⟩
      show WE K c e _ [.bor o6, .d (.int m), .d (.int L), a3, .own (Bo c false (B2.put [0])), a5, a6, .d (.lst [.bl true, .bl false, .int (L + 1)]), .un] _
      have t4 : (B2.put [0]).top = B2.top ++ [[0]] := Bk.top_settle
      have ok4 : (B2.put [0]).Ok (L + 1) := I.ok2.put
      refine we_non (op_is rfl ⟨rfl, ?_⟩)
      refine we_andT ?_
      refine we_op ?_
      refine we_lenO' ?_ ?_ ?_
      · exact pfX.mono fun _ => Ct.mono
      · exact ⟨_, rfl⟩
      refine ⟨false, B2.put [0], ⟨rfl, ok4.ne⟩, fun r as' ⟨q1, q2⟩ => ?_, fun _ _ q => q⟩
      subst q1
      subst q2
      refine ⟨_, rfl, by omega, by rw [t4, ← I.top]; simp; omega, ?_⟩
      show WE K c e _ [.bor o6, .d (.int m), .d (.int L), a3, .own (Bo c false (B2.put [0])), a5, a6, .d (.lst [.bl true, .bl false, .int (L + 1)]), .un] _
      repeat pv_eval
      refine ⟨by rw [t4, List.length_append, ← I.top, I.len]; simp, ?_⟩
      repeat pv_eval
      refine we_lenF ?_ ?_
      · exact pfX.mono fun _ => Ct.mono
      refine told_pos ?_
      repeat pv_eval
      refine op_intC ⟨by decide, by decide +kernel⟩ ?_
      refine ⟨0, 10 ^ Int.toNat 30, rfl, rfl, by decide, bkF _, rfl, true, Bk.new (some (10 ^ Int.toNat 30)), ⟨rfl, Bk.Ok.new.ne⟩, fun r as' ⟨q1, q2⟩ => ?_, fun _ _ q => q⟩
      subst q1
      subst q2
      refine ⟨0, rfl, by decide, by decide, ⟨_, rfl⟩, ?_⟩
      repeat pv_eval
      exact I.p.up (by omega)
end
end RR

set_option Elab.async false
set_option linter.all false
set_option maxRecDepth 100000
set_option maxHeartbeats 4000000
set_option pp.maxSteps 200
set_option pp.deepTerms false
namespace RR
open PySem L2 StX RH RX
local macro_rules
  | `(tactic| mem_news) => `(tactic| with_reducible first
      | refine ws_seq ?_ | refine ws_asgO ?_ | refine ws_setI ?_ | refine ws_asg ?_ | refine ws_parOO ?_ | refine ws_parO ?_ | refine ws_par ?_ | refine ws_fld ?_ | refine ws_next ?_
      | refine ws_app (by with_unfolding_all exact ⟨_, rfl⟩) ?_ | refine ws_ext (by with_unfolding_all exact ⟨_, rfl⟩) ?_ | refine ws_retO (by with_unfolding_all rfl) ?_
      | refine we_ixO ?_ (by with_unfolding_all exact ⟨_, rfl⟩) | refine we_lenO (by with_unfolding_all rfl) ?_ | refine we_var (by with_unfolding_all rfl) ?_ | refine we_thaw (by with_unfolding_all rfl) ?_ | refine wa_o (by with_unfolding_all exact ⟨_, rfl⟩) ?_
      | refine ws_drop ?_ | refine ws_retW ?_ | refine ws_ret ?_ | refine ws_retN ?_ | refine ws_brk ?_ | refine ws_cont ?_
      | refine wt_test ?_ | refine wt_B ?_ | refine wt_not ?_ | refine wt_and ?_ | refine wt_or ?_ | refine wt_yes ?_
      | refine we_int ?_ | refine we_bl ?_ | refine we_str ?_ | refine we_non ?_ | refine we_raw ?_
      | refine we_frz (wf_op (r := rCat) ?_) | refine we_frz (wf_op (r := rRep) ?_) | refine we_frz (wf_lst ?_) | refine we_frz (wf_slL ?_) | refine we_frz (wf_cb (r := rLst _) ?_)
      | refine wf_op ?_ | refine wf_lst ?_ | refine wf_slL ?_ | refine wf_cb ?_ | refine wf_if ?_
      | refine we_tup ?_ | refine we_slT ?_ | refine we_if ?_ | refine we_andV ?_ | refine we_orV ?_ | refine we_notV ?_ | refine we_chain ?_ | refine we_op ?_ | refine we_un ?_ | refine we_cb ?_
      | refine wl_nil ?_ | refine wl_star ?_ | refine wl_cons ?_ | refine wa_nil ?_ | refine wa_d ?_ | refine wo_none ?_ | refine wo_some ?_
      | refine op_int ?_ | refine op_bl ?_ | refine un_int ?_
      | refine cb_abs ?_ | refine cb_max ?_ | refine cb_min ?_ | refine cb_int ?_ 
      | refine op_eqS (by with_unfolding_all rfl) ?_ | refine op_neS (by with_unfolding_all rfl) ?_ | refine op_is (by with_unfolding_all rfl) ?_ | refine op_isnt (by with_unfolding_all rfl) ?_
      | refine op_intC (by first | assumption | with_unfolding_all decide) ?_ | refine cb_len (by with_unfolding_all rfl) ?_ | refine cb_lst (by with_unfolding_all rfl) ?_ | refine cb_tup (by with_unfolding_all rfl) ?_)
local macro_rules
  | `(tactic| pv_eval) => `(tactic| first
    | mem_news
    | refine ⟨_, _, _, by rfl, by rfl, by rfl, ?_⟩ | refine ⟨by exact ⟨_, rfl⟩, ?_⟩ | refine ⟨_, by rfl, ?_⟩ | refine ⟨by rfl, ?_⟩ | refine ⟨_, _, by rfl, by rfl, by rfl, ?_⟩ | refine ⟨Nat.le_of_ble_eq_true rfl, ?_⟩)

section
variable {K : PySem.W.Frag} {c : Cs} {T0 : Addr}
theorem bd_law (hx : Bx K c T0) : BodyOk K c (pfLaw c) ["script", "spot", "pool"] (tm_law K c T0) := by
  refine bodyCt fun e ns as h1 _ => ?_
  subst h1
  show WS K c e _ [.d (.scr (ns.map D.int)), .un, .un] _
  unfold tm_law
  repeat pv_eval
  refine ws_nx (fun Γ => Γ.length = 3) ?_ ?_
  · refine ws_forR ?_
    repeat pv_eval
    rw [List.length_map]
    generalize hg : (if (if (ns.length : Int) < 6 then (ns.length : Int) else 6) > 1 then (if (ns.length : Int) < 6 then (ns.length : Int) else 6) else 1) = g
    have g1 : 0 ≤ g ∧ g ≤ 6 := by
      rw [← hg]
      split <;> split at * <;> omega
    refine ⟨g, fun k Γ => ∃ a1 a2, Γ = [.d (.scr (ns.map D.int)), a1, a2] ∧ a1.isBor = false ∧ a2.isBor = false, rfl, ⟨by omega, by omega⟩, ⟨_, _, rfl, rfl, rfl⟩, ?_, ?_⟩
    · rintro k Γ1 hk ⟨a1, a2, rfl, b1, b2⟩
      refine ⟨b1, ?_⟩
      show WS K c e _ [.d (.scr (ns.map D.int)), .d (.int k), a2] _
      repeat pv_eval
      refine wf_call ?_ ?_
      · exact Ct.mono
      repeat pv_eval
      refine ⟨by show List.Nodup []; decide, (ns, k), ⟨rfl, by show k < 1000; omega⟩, fun r as' ⟨⟨o, q1, hp⟩, q2⟩ => ?_, fun _ _ q => q⟩
      subst q1
      subst q2
      refine ⟨o, rfl, b2, ?_⟩
      show WS K c e _ [.d (.scr (ns.map D.int)), .d (.int k), .own o] _
      refine ws_ifF ?_
      repeat pv_eval
      refine we_call ?_ ?_
      · exact Ct.mono
      repeat pv_eval
      refine ⟨by show List.Nodup [2]; decide, (0, o), ⟨rfl, hp, by show 0 < 100000000; decide⟩, fun r as' ⟨q1, o', q2, _⟩ => ?_, fun _ _ q => q⟩
      subst q1
      subst q2
      refine ⟨true, rfl, rfl, ?_⟩
      repeat pv_eval
      exact ⟨_, _, rfl, rfl, rfl⟩
    · rintro Γ1 ⟨a1, a2, rfl, _⟩
      rfl
  · intro Γ1 h1
    repeat pv_eval
    exact ⟨by rw [h1]; exact Nat.le_of_ble_eq_true rfl, rfl⟩
end
end RR

set_option Elab.async false
set_option linter.all false
set_option maxRecDepth 100000
set_option maxHeartbeats 4000000
/-! RF: the facts of the top, as tests that are computed -/
namespace RR
open PySem PySem.W L2 RH RX
def clB (K : Frag) (C : Addr) : Bool := plainGet K C Str.empty && hasDictIn K C && plainOver K C && decide (findIn K (.ref C) "__setattr__" = some (some (.builtin "object.__setattr__")))
theorem clB_ok {K : Frag} {C : Addr} (h : clB K C = true) : Cls K C := by
  unfold clB at h
  simp only [Bool.and_eq_true, decide_eq_true_eq] at h
  exact ⟨h.1.1.1, h.1.1.2, h.1.2, h.2⟩
def tyB (K : Frag) (C : Addr) : Bool := decide (findIn K (.ref C) "__class__" = some (some (.builtin "object.__class__"))) && decide (specialIn K (.builtin "object.__class__") "__get__" = some (some (.builtin "getset_descriptor.__get__"))) && decide (takesIn K (.builtin "object.__class__") = some true) && decide (mroIn K C (.type "object") = some true)
theorem tyB_ok {K : Frag} {C : Addr} (h : tyB K C = true) (hc : Cls K C) : TyI K C := by
  unfold tyB at h
  simp only [Bool.and_eq_true, decide_eq_true_eq] at h
  exact ⟨hc, h.1.1.1, h.1.1.2, h.1.2, h.2⟩
/-- a class of errors: all but its object -/
def exB (K : Frag) (T0 C : Addr) : Bool := decide (findIn K (.ref C) "__setattr__" = some (some (.builtin "object.__setattr__"))) && decide (subIn K (.ref C) (.type "BaseException") = some true) && decide (typeIn K (.ref C) = some (.type "type")) && keepIn K (.ref C)
  && decide (ks_superIn K C T0 "__init__" = some (some (.builtin "ValueError.__init__"))) && decide (mroIn K C (.ref T0) = some true) && decide (subIn K (.ref C) (.type "ValueError") = some true) && decide (findIn K (.ref C) "value" = some none)
  && (clsIn K C).isSome && tyB K C && xfB K C && decide (exmOne K (.ref C) (.ref T0) = some true) && decide (kitOne K (.ref C) (.type "ValueError") = some true)
/-- its object -/
def ExObj (K : Frag) (C : Addr) : Prop := ∃ nm q N bs bm sn sub ab col dd k0 k1 k2 k3 k5, K.lookup C = some (excClassObj nm q C N bs bm true sn sub ab col dd k0 k1 k2 k3 k5 "ValueError.__new__") ∧ HandSPX.refsVE bm = true
structure ExAll (K : Frag) (T0 C : Addr) : Prop where
  ek : ErrK K T0 C
  isk : IsK K C
  xf : XfC K C
  exm : exmOne K (.ref C) (.ref T0) = some true
  kiv : kitOne K (.ref C) (.type "ValueError") = some true
theorem exB_ok {K : Frag} {T0 C : Addr} (h : exB K T0 C = true) (ho : ExObj K C) : ExAll K T0 C := by
  unfold exB at h
  simp only [Bool.and_eq_true, decide_eq_true_eq] at h
  obtain ⟨⟨⟨⟨⟨⟨⟨⟨⟨⟨⟨⟨h1, h2⟩, h3⟩, h4⟩, h5⟩, h6⟩, h7⟩, h8⟩, h9⟩, h10⟩, h11⟩, h12⟩, h13⟩ := h
  have x := xfB_ok h11
  unfold tyB at h10
  simp only [Bool.and_eq_true, decide_eq_true_eq] at h10
  refine ⟨⟨⟨ho, h1, h2, h3, h4⟩, ?_, h6, h7, h8⟩, ⟨h9, x.ga, x.gg, h2, h10.1.1.1, h10.1.1.2, h10.1.2, h10.2⟩, x, h12, h13⟩
  unfold ks_superIn at h5
  cases hc : clsIn K C with
  | none => rw [hc] at h5; cases h5
  | some cd => rw [hc] at h5; exact ⟨cd, rfl, h5⟩
theorem all8 {p : Nat → Prop} (h0 : p 0) (h1 : p 1) (h2 : p 2) (h3 : p 3) (h4 : p 4) (h5 : p 5) (h6 : p 6) (h7 : p 7) : ∀ n : Nat, n < 8 → p n := fun n hn => by
  match n, hn with
  | 0, _ => exact h0
  | 1, _ => exact h1
  | 2, _ => exact h2
  | 3, _ => exact h3
  | 4, _ => exact h4
  | 5, _ => exact h5
  | 6, _ => exact h6
  | 7, _ => exact h7
def kitB (K : Frag) (ex : Nat → Addr) : Bool := (List.range 8).all fun n => (List.range 8).all fun m => decide (kitOne K (.ref (ex n)) (.ref (ex m)) = some (decide (m = 0 ∨ m = n)))
theorem kitB_ok {K : Frag} {ex : Nat → Addr} (h : kitB K ex = true) : ∀ n m : Nat, n < 8 → m < 8 → kitOne K (.ref (ex n)) (.ref (ex m)) = some (decide (m = 0 ∨ m = n)) := fun n m hn hm => by
  unfold kitB at h
  rw [List.all_eq_true] at h
  have h1 := h n (List.mem_range.mpr hn)
  rw [List.all_eq_true] at h1
  exact of_decide_eq_true (h1 m (List.mem_range.mpr hm))
/-- the two classes of books -/
def bkB (K : Frag) (bk sm : Addr) : Bool := clB K bk && clB K sm && tyB K bk && tyB K sm && decide (findIn K (.ref bk) "calls" = some none) && decide (findIn K (.ref sm) "calls" = some none) && decide (findIn K (.ref bk) "states" = some none) && decide (findIn K (.ref sm) "states" = some none) && decide (findIn K (.ref sm) "greatest" = some none)
  && decide (kitOne K (.ref bk) (.ref bk) = some true) && decide (kitOne K (.ref sm) (.ref bk) = some true) && notFirst K bk (.ref bk) && notFirst K sm (.ref bk) && notFirst K sm (.ref sm)
theorem bx_of {K : Frag} {c : Cs} (hB : bkB K c.book c.small = true) (hk : kitB K c.ex = true) (he : ∀ n : Nat, n < 8 → ExAll K (c.ex 0) (c.ex n)) : Bx K c (c.ex 0) := by
  unfold bkB at hB
  simp only [Bool.and_eq_true, decide_eq_true_eq] at hB
  obtain ⟨⟨⟨⟨⟨⟨⟨⟨⟨⟨⟨⟨⟨h1, h2⟩, h3⟩, h4⟩, h5⟩, h6⟩, h7⟩, h8⟩, h9⟩, h10⟩, h11⟩, h12⟩, h13⟩, h14⟩ := hB
  have cl : ∀ b, Cls K (cb c b) := fun b => by cases b; exact clB_ok h1; exact clB_ok h2
  refine ⟨cl, fun b => by cases b; exact h5; exact h6, fun b => by cases b; exact h7; exact h8, h9, fun n hn => (he n hn).ek, fun n hn => (he n hn).isk, fun n hn => (he n hn).xf, fun n hn => (he n hn).exm, kitB_ok hk, fun n hn => (he n hn).kiv,
    fun b => by cases b; exact tyB_ok h3 (cl false); exact tyB_ok h4 (cl true), fun b => by cases b; exact h10; exact h11, fun b d h => ?_⟩
  cases b with
  | false =>
    rw [h rfl]
    exact h12
  | true =>
    cases d with
    | false => exact h13
    | true => exact h14
end RR

set_option Elab.async false
set_option linter.all false
set_option maxRecDepth 100000
set_option maxHeartbeats 4000000
namespace RR
open PySem PySem.W L2 StX RH RX
def csOf (a b c : Addr) (l : List Addr) : Cs := ⟨a, b, c, fun n => l.getD n 0⟩
abbrev st_ini : Stmt := inClass (topS 2) 0
theorem iniT : IniText PySem.Challenge.pw_returnrows_k48_small_books st_ini := ⟨⟨_, _, _, _, _, _, _, _, _, _, rfl, _, fun _ => rfl⟩, rfl, rfl, rfl, rfl, rfl, rfl, rfl, by decide +kernel, rfl, ⟨_, rfl, rfl⟩⟩
theorem supT : SupText PySem.Challenge.pw_returnrows_k48_small_books st_SmallBook_init (defBody st_SmallBook_init).tail := ⟨⟨_, _, _, _, _, rfl, _, fun _ => rfl⟩, rfl, rfl, rfl, rfl, rfl, rfl, by decide +kernel, by decide +kernel, rfl, ⟨_, rfl, rfl⟩⟩
theorem all_mk {w : World} {K : Frag} {mg : Str → Option Value} {h : Heap} {fa : Addr} {N_InvalidLetter : Addr} {N_InvalidNumber : Addr} {N_InvalidRules : Addr} {N_NotMixed : Addr} {N_NothingToUndo : Addr} {N_RowError : Addr} {N_TooMany : Addr} {N_Unreadable : Addr} {ab_InvalidLetter : _} {ab_InvalidNumber : _} {ab_InvalidRules : _} {ab_NotMixed : _} {ab_NothingToUndo : _} {ab_RowError : _} {ab_TooMany : _} {ab_Unreadable : _} {anIni : _} {an_Book_change : _} {an_Book_eq : _} {an_Book_init : _} {an_Book_len : _} {an_Book_limit : _} {an_Book_put : _} {an_Book_rules : _} {an_Book_settle : _} {an_Book_undo : _} {an_SmallBook_init : _} {an_SmallBook_limit : _} {an_law : _} {an_law_draw : _} {an_law_fits : _} {an_law_pool : _} {an_law_refused : _} {an_law_told : _} {bm_InvalidLetter : List Value} {bm_InvalidNumber : List Value} {bm_InvalidRules : List Value} {bm_NotMixed : List Value} {bm_NothingToUndo : List Value} {bm_RowError : List Value} {bm_TooMany : List Value} {bm_Unreadable : List Value} {bs_InvalidLetter : List Value} {bs_InvalidNumber : List Value} {bs_InvalidRules : List Value} {bs_NotMixed : List Value} {bs_NothingToUndo : List Value} {bs_RowError : List Value} {bs_TooMany : List Value} {bs_Unreadable : List Value} {ccIni : Addr} {cc_SmallBook_init : Addr} {cclIni : _} {ccl_SmallBook_init : _} {ccsIni : _} {ccs_SmallBook_init : _} {cd2_SmallBook_init : _} {cdRow0 : _} {cd_Book_change : _} {cd_Book_eq : _} {cd_Book_init : _} {cd_Book_len : _} {cd_Book_limit : _} {cd_Book_put : _} {cd_Book_rules : _} {cd_Book_settle : _} {cd_Book_undo : _} {cd_SmallBook_limit : _} {cd_law : _} {cd_law_draw : _} {cd_law_fits : _} {cd_law_pool : _} {cd_law_refused : _} {cd_law_told : _} {cdaIni : Addr} {cda_SmallBook_init : Addr} {cddIni : _} {cdd_SmallBook_init : _} {clIni : _} {cl_SmallBook_init : _} {cldIni : _} {cld_SmallBook_init : _} {col_InvalidLetter : _} {col_InvalidNumber : _} {col_InvalidRules : _} {col_NotMixed : _} {col_NothingToUndo : _} {col_RowError : _} {col_TooMany : _} {col_Unreadable : _} {cslIni : _} {csl_SmallBook_init : _} {ctIni : _} {ct_Book_change : _} {ct_Book_eq : _} {ct_Book_init : _} {ct_Book_len : _} {ct_Book_limit : _} {ct_Book_put : _} {ct_Book_rules : _} {ct_Book_settle : _} {ct_Book_undo : _} {ct_SmallBook_init : _} {ct_SmallBook_limit : _} {ct_law : _} {ct_law_draw : _} {ct_law_fits : _} {ct_law_pool : _} {ct_law_refused : _} {ct_law_told : _} {dc_Book_change : _} {dc_Book_eq : _} {dc_Book_init : _} {dc_Book_len : _} {dc_Book_limit : _} {dc_Book_put : _} {dc_Book_rules : _} {dc_Book_settle : _} {dc_Book_undo : _} {dc_SmallBook_init : _} {dc_SmallBook_limit : _} {dc_law : _} {dc_law_draw : _} {dc_law_fits : _} {dc_law_pool : _} {dc_law_refused : _} {dc_law_told : _} {dd_InvalidLetter : _} {dd_InvalidNumber : _} {dd_InvalidRules : _} {dd_NotMixed : _} {dd_NothingToUndo : _} {dd_RowError : _} {dd_TooMany : _} {dd_Unreadable : _} {docIni : _} {eBook : Addr} {eInvalidLetter : Addr} {eInvalidNumber : Addr} {eInvalidRules : Addr} {eNotMixed : Addr} {eNothingToUndo : Addr} {eRow : Addr} {eRowError : Addr} {eSmallBook : Addr} {eTooMany : Addr} {eUnreadable : Addr} {fIni : Addr} {f_Book_change : Addr} {f_Book_eq : Addr} {f_Book_init : Addr} {f_Book_len : Addr} {f_Book_limit : Addr} {f_Book_put : Addr} {f_Book_rules : Addr} {f_Book_settle : Addr} {f_Book_undo : Addr} {f_SmallBook_init : Addr} {f_SmallBook_limit : Addr} {f_law : Addr} {f_law_draw : Addr} {f_law_fits : Addr} {f_law_pool : Addr} {f_law_refused : Addr} {f_law_told : Addr} {fileIni : _} {file_SmallBook_init : _} {k0_InvalidLetter : _} {k0_InvalidNumber : _} {k0_InvalidRules : _} {k0_NotMixed : _} {k0_NothingToUndo : _} {k0_RowError : _} {k0_TooMany : _} {k0_Unreadable : _} {k1_InvalidLetter : _} {k1_InvalidNumber : _} {k1_InvalidRules : _} {k1_NotMixed : _} {k1_NothingToUndo : _} {k1_RowError : _} {k1_TooMany : _} {k1_Unreadable : _} {k2_InvalidLetter : _} {k2_InvalidNumber : _} {k2_InvalidRules : _} {k2_NotMixed : _} {k2_NothingToUndo : _} {k2_RowError : _} {k2_TooMany : _} {k2_Unreadable : _} {k3_InvalidLetter : _} {k3_InvalidNumber : _} {k3_InvalidRules : _} {k3_NotMixed : _} {k3_NothingToUndo : _} {k3_RowError : _} {k3_TooMany : _} {k3_Unreadable : _} {k5_InvalidLetter : _} {k5_InvalidNumber : _} {k5_InvalidRules : _} {k5_NotMixed : _} {k5_NothingToUndo : _} {k5_RowError : _} {k5_TooMany : _} {k5_Unreadable : _} {kVIni : _} {kV_Book_change : _} {kV_Book_eq : _} {kV_Book_init : _} {kV_Book_len : _} {kV_Book_limit : _} {kV_Book_put : _} {kV_Book_rules : _} {kV_Book_settle : _} {kV_Book_undo : _} {kV_SmallBook_init : _} {kV_SmallBook_limit : _} {kV_law : _} {kV_law_draw : _} {kV_law_fits : _} {kV_law_pool : _} {kV_law_refused : _} {kV_law_told : _} {nm_InvalidLetter : _} {nm_InvalidNumber : _} {nm_InvalidRules : _} {nm_NotMixed : _} {nm_NothingToUndo : _} {nm_RowError : _} {nm_TooMany : _} {nm_Unreadable : _} {ocIni : _} {oc_Book_change : _} {oc_Book_eq : _} {oc_Book_init : _} {oc_Book_len : _} {oc_Book_limit : _} {oc_Book_put : _} {oc_Book_rules : _} {oc_Book_settle : _} {oc_Book_undo : _} {oc_SmallBook_init : _} {oc_SmallBook_limit : _} {oc_law : _} {oc_law_draw : _} {oc_law_fits : _} {oc_law_pool : _} {oc_law_refused : _} {oc_law_told : _} {odIni : _} {od_Book_change : _} {od_Book_eq : _} {od_Book_init : _} {od_Book_len : _} {od_Book_limit : _} {od_Book_put : _} {od_Book_rules : _} {od_Book_settle : _} {od_Book_undo : _} {od_SmallBook_init : _} {od_SmallBook_limit : _} {od_law : _} {od_law_draw : _} {od_law_fits : _} {od_law_pool : _} {od_law_refused : _} {od_law_told : _} {p_Book_rules : Addr} {pmIni : _} {pm_Book_change : _} {pm_Book_eq : _} {pm_Book_init : _} {pm_Book_len : _} {pm_Book_limit : _} {pm_Book_put : _} {pm_Book_rules : _} {pm_Book_settle : _} {pm_Book_undo : _} {pm_SmallBook_init : _} {pm_SmallBook_limit : _} {pm_law : _} {pm_law_draw : _} {pm_law_fits : _} {pm_law_pool : _} {pm_law_refused : _} {pm_law_told : _} {q_InvalidLetter : _} {q_InvalidNumber : _} {q_InvalidRules : _} {q_NotMixed : _} {q_NothingToUndo : _} {q_RowError : _} {q_TooMany : _} {q_Unreadable : _} {rest_Book_rules : List Value} {slIni : _} {sl_Book_change : _} {sl_Book_eq : _} {sl_Book_init : _} {sl_Book_len : _} {sl_Book_limit : _} {sl_Book_put : _} {sl_Book_rules : _} {sl_Book_settle : _} {sl_Book_undo : _} {sl_SmallBook_init : _} {sl_SmallBook_limit : _} {sl_law : _} {sl_law_draw : _} {sl_law_fits : _} {sl_law_pool : _} {sl_law_refused : _} {sl_law_told : _} {sn_InvalidLetter : _} {sn_InvalidNumber : _} {sn_InvalidRules : _} {sn_NotMixed : _} {sn_NothingToUndo : _} {sn_RowError : _} {sn_TooMany : _} {sn_Unreadable : _} {sub_InvalidLetter : List Value} {sub_InvalidNumber : List Value} {sub_InvalidRules : List Value} {sub_NotMixed : List Value} {sub_NothingToUndo : List Value} {sub_RowError : List Value} {sub_TooMany : List Value} {sub_Unreadable : List Value} {tfIni : _} {tf_SmallBook_init : _} {vsIni : _} {vs_SmallBook_init : _} (KX : K.In h) (G : h.Ns mainGlobals mg) (hfa : mg "law" = some (.ref fa))
    (gRowError : nsIn K mainGlobals "RowError" = some (some (.ref eRowError)))
    (gInvalidLetter : nsIn K mainGlobals "InvalidLetter" = some (some (.ref eInvalidLetter)))
    (gInvalidRules : nsIn K mainGlobals "InvalidRules" = some (some (.ref eInvalidRules)))
    (gInvalidNumber : nsIn K mainGlobals "InvalidNumber" = some (some (.ref eInvalidNumber)))
    (gNotMixed : nsIn K mainGlobals "NotMixed" = some (some (.ref eNotMixed)))
    (gTooMany : nsIn K mainGlobals "TooMany" = some (some (.ref eTooMany)))
    (gNothingToUndo : nsIn K mainGlobals "NothingToUndo" = some (some (.ref eNothingToUndo)))
    (gUnreadable : nsIn K mainGlobals "Unreadable" = some (some (.ref eUnreadable)))
    (gRow : nsIn K mainGlobals "Row" = some (some (.ref eRow)))
    (gBook : nsIn K mainGlobals "Book" = some (some (.ref eBook)))
    (gSmallBook : nsIn K mainGlobals "SmallBook" = some (some (.ref eSmallBook)))
    (oRowError : K.lookup eRowError = some (excClassObj nm_RowError q_RowError eRowError N_RowError bs_RowError bm_RowError true sn_RowError sub_RowError ab_RowError col_RowError dd_RowError k0_RowError k1_RowError k2_RowError k3_RowError k5_RowError "ValueError.__new__"))
    (rRowError : HandSPX.refsVE bm_RowError = true)
    (xRowError : exB K eRowError eRowError = true)
    (oInvalidLetter : K.lookup eInvalidLetter = some (excClassObj nm_InvalidLetter q_InvalidLetter eInvalidLetter N_InvalidLetter bs_InvalidLetter bm_InvalidLetter true sn_InvalidLetter sub_InvalidLetter ab_InvalidLetter col_InvalidLetter dd_InvalidLetter k0_InvalidLetter k1_InvalidLetter k2_InvalidLetter k3_InvalidLetter k5_InvalidLetter "ValueError.__new__"))
    (rInvalidLetter : HandSPX.refsVE bm_InvalidLetter = true)
    (xInvalidLetter : exB K eRowError eInvalidLetter = true)
    (oInvalidRules : K.lookup eInvalidRules = some (excClassObj nm_InvalidRules q_InvalidRules eInvalidRules N_InvalidRules bs_InvalidRules bm_InvalidRules true sn_InvalidRules sub_InvalidRules ab_InvalidRules col_InvalidRules dd_InvalidRules k0_InvalidRules k1_InvalidRules k2_InvalidRules k3_InvalidRules k5_InvalidRules "ValueError.__new__"))
    (rInvalidRules : HandSPX.refsVE bm_InvalidRules = true)
    (xInvalidRules : exB K eRowError eInvalidRules = true)
    (oInvalidNumber : K.lookup eInvalidNumber = some (excClassObj nm_InvalidNumber q_InvalidNumber eInvalidNumber N_InvalidNumber bs_InvalidNumber bm_InvalidNumber true sn_InvalidNumber sub_InvalidNumber ab_InvalidNumber col_InvalidNumber dd_InvalidNumber k0_InvalidNumber k1_InvalidNumber k2_InvalidNumber k3_InvalidNumber k5_InvalidNumber "ValueError.__new__"))
    (rInvalidNumber : HandSPX.refsVE bm_InvalidNumber = true)
    (xInvalidNumber : exB K eRowError eInvalidNumber = true)
    (oNotMixed : K.lookup eNotMixed = some (excClassObj nm_NotMixed q_NotMixed eNotMixed N_NotMixed bs_NotMixed bm_NotMixed true sn_NotMixed sub_NotMixed ab_NotMixed col_NotMixed dd_NotMixed k0_NotMixed k1_NotMixed k2_NotMixed k3_NotMixed k5_NotMixed "ValueError.__new__"))
    (rNotMixed : HandSPX.refsVE bm_NotMixed = true)
    (xNotMixed : exB K eRowError eNotMixed = true)
    (oTooMany : K.lookup eTooMany = some (excClassObj nm_TooMany q_TooMany eTooMany N_TooMany bs_TooMany bm_TooMany true sn_TooMany sub_TooMany ab_TooMany col_TooMany dd_TooMany k0_TooMany k1_TooMany k2_TooMany k3_TooMany k5_TooMany "ValueError.__new__"))
    (rTooMany : HandSPX.refsVE bm_TooMany = true)
    (xTooMany : exB K eRowError eTooMany = true)
    (oNothingToUndo : K.lookup eNothingToUndo = some (excClassObj nm_NothingToUndo q_NothingToUndo eNothingToUndo N_NothingToUndo bs_NothingToUndo bm_NothingToUndo true sn_NothingToUndo sub_NothingToUndo ab_NothingToUndo col_NothingToUndo dd_NothingToUndo k0_NothingToUndo k1_NothingToUndo k2_NothingToUndo k3_NothingToUndo k5_NothingToUndo "ValueError.__new__"))
    (rNothingToUndo : HandSPX.refsVE bm_NothingToUndo = true)
    (xNothingToUndo : exB K eRowError eNothingToUndo = true)
    (oUnreadable : K.lookup eUnreadable = some (excClassObj nm_Unreadable q_Unreadable eUnreadable N_Unreadable bs_Unreadable bm_Unreadable true sn_Unreadable sub_Unreadable ab_Unreadable col_Unreadable dd_Unreadable k0_Unreadable k1_Unreadable k2_Unreadable k3_Unreadable k5_Unreadable "ValueError.__new__"))
    (rUnreadable : HandSPX.refsVE bm_Unreadable = true)
    (xUnreadable : exB K eRowError eUnreadable = true)
    (bkx : bkB K eBook eSmallBook = true)
    (ktx : kitB K (csOf eRow eBook eSmallBook [eRowError, eInvalidLetter, eInvalidRules, eInvalidNumber, eNotMixed, eTooMany, eNothingToUndo, eUnreadable]).ex = true)
    (n_ValueError : nsIn K mainGlobals "ValueError" = some none)
    (n_abs : nsIn K mainGlobals "abs" = some none)
    (n_int : nsIn K mainGlobals "int" = some none)
    (n_isinstance : nsIn K mainGlobals "isinstance" = some none)
    (n_len : nsIn K mainGlobals "len" = some none)
    (n_list : nsIn K mainGlobals "list" = some none)
    (n_max : nsIn K mainGlobals "max" = some none)
    (n_min : nsIn K mainGlobals "min" = some none)
    (n_range : nsIn K mainGlobals "range" = some none)
    (n_repr : nsIn K mainGlobals "repr" = some none)
    (n_tuple : nsIn K mainGlobals "tuple" = some none)
    (aIni : findIn K (.ref eRowError) "__init__" = some (some (.ref fIni)))
    (lIni : K.lookup fIni = some ⟨ocIni, odIni, .func (ksFn "__init__" "RowError.__init__" (defArgs st_ini) (defBody st_ini) (defScope st_ini) .none kVIni docIni pmIni anIni (.ref cdaIni) ctIni ccIni), slIni⟩)
    (cIni : codeIn K (.ref cdaIni) "RowError.__init__" = true)
    (dIni : K.lookup cdaIni = some ⟨cclIni, cddIni, .fields vsIni, ccsIni⟩)
    (fIni2 : vsIni[2]? = some (.str fileIni tfIni))
    (pIni : ((PySem.Challenge.pw_returnrows_k48_small_books.main.file : Str) == fileIni) = true)
    (hIni : K.lookup ccIni = some ⟨clIni, cldIni, .cell (some (.ref eRowError)), cslIni⟩)
    (tIni : typeIn K (.ref fIni) = some (.type "function"))
    (nSuper : nsIn K mainGlobals "super" = some none)
    (opIni : nsIn K cStatics "thirdparty.any" = some none)
    (clsR : clsIn K eRowError = some cdRow0)
    (xIni : (List.range 8).all (fun n => decide (findIn K (.ref ((csOf eRow eBook eSmallBook [eRowError, eInvalidLetter, eInvalidRules, eInvalidNumber, eNotMixed, eTooMany, eNothingToUndo, eUnreadable]).ex n)) "__init__" = some (some (.ref fIni)))) = true)
    (a_law_pool : nsIn K mainGlobals "_law_pool" = some (some (.ref f_law_pool)))
    (l_law_pool : K.lookup f_law_pool = some ⟨oc_law_pool, od_law_pool, .func (fnOf "_law_pool" "_law_pool" (defArgs st_law_pool) (defBody st_law_pool) (defScope st_law_pool) .none kV_law_pool dc_law_pool pm_law_pool an_law_pool cd_law_pool ct_law_pool), sl_law_pool⟩)
    (c_law_pool : codeIn K cd_law_pool "_law_pool" = true)
    (k_law_pool : (keepIn K (.ref f_law_pool) && isFn K (.ref f_law_pool)) = true)
    (a_law_draw : nsIn K mainGlobals "_law_draw" = some (some (.ref f_law_draw)))
    (l_law_draw : K.lookup f_law_draw = some ⟨oc_law_draw, od_law_draw, .func (fnOf "_law_draw" "_law_draw" (defArgs st_law_draw) (defBody st_law_draw) (defScope st_law_draw) .none kV_law_draw dc_law_draw pm_law_draw an_law_draw cd_law_draw ct_law_draw), sl_law_draw⟩)
    (c_law_draw : codeIn K cd_law_draw "_law_draw" = true)
    (k_law_draw : (keepIn K (.ref f_law_draw) && isFn K (.ref f_law_draw)) = true)
    (a_Book_init : findIn K (.ref eBook) "__init__" = some (some (.ref f_Book_init)))
    (l_Book_init : K.lookup f_Book_init = some ⟨oc_Book_init, od_Book_init, .func (fnOf "__init__" "Book.__init__" (defArgs st_Book_init) (defBody st_Book_init) (defScope st_Book_init) .none kV_Book_init dc_Book_init pm_Book_init an_Book_init cd_Book_init ct_Book_init), sl_Book_init⟩)
    (c_Book_init : codeIn K cd_Book_init "Book.__init__" = true)
    (k_Book_init : (keepIn K (.ref f_Book_init) && isFn K (.ref f_Book_init)) = true)
    (a_Book_limit : findIn K (.ref eBook) "limit" = some (some (.ref f_Book_limit)))
    (l_Book_limit : K.lookup f_Book_limit = some ⟨oc_Book_limit, od_Book_limit, .func (fnOf "limit" "Book.limit" (defArgs st_Book_limit) (defBody st_Book_limit) (defScope st_Book_limit) .none kV_Book_limit dc_Book_limit pm_Book_limit an_Book_limit cd_Book_limit ct_Book_limit), sl_Book_limit⟩)
    (c_Book_limit : codeIn K cd_Book_limit "Book.limit" = true)
    (k_Book_limit : (keepIn K (.ref f_Book_limit) && isFn K (.ref f_Book_limit)) = true)
    (a_SmallBook_limit : findIn K (.ref eSmallBook) "limit" = some (some (.ref f_SmallBook_limit)))
    (l_SmallBook_limit : K.lookup f_SmallBook_limit = some ⟨oc_SmallBook_limit, od_SmallBook_limit, .func (fnOf "limit" "SmallBook.limit" (defArgs st_SmallBook_limit) (defBody st_SmallBook_limit) (defScope st_SmallBook_limit) .none kV_SmallBook_limit dc_SmallBook_limit pm_SmallBook_limit an_SmallBook_limit cd_SmallBook_limit ct_SmallBook_limit), sl_SmallBook_limit⟩)
    (c_SmallBook_limit : codeIn K cd_SmallBook_limit "SmallBook.limit" = true)
    (k_SmallBook_limit : (keepIn K (.ref f_SmallBook_limit) && isFn K (.ref f_SmallBook_limit)) = true)
    (a_Book_len : findIn K (.ref eBook) "__len__" = some (some (.ref f_Book_len)))
    (a2_Book_len : findIn K (.ref eSmallBook) "__len__" = some (some (.ref f_Book_len)))
    (l_Book_len : K.lookup f_Book_len = some ⟨oc_Book_len, od_Book_len, .func (fnOf "__len__" "Book.__len__" (defArgs st_Book_len) (defBody st_Book_len) (defScope st_Book_len) .none kV_Book_len dc_Book_len pm_Book_len an_Book_len cd_Book_len ct_Book_len), sl_Book_len⟩)
    (c_Book_len : codeIn K cd_Book_len "Book.__len__" = true)
    (k_Book_len : (keepIn K (.ref f_Book_len) && isFn K (.ref f_Book_len)) = true)
    (a_Book_eq : findIn K (.ref eBook) "__eq__" = some (some (.ref f_Book_eq)))
    (a2_Book_eq : findIn K (.ref eSmallBook) "__eq__" = some (some (.ref f_Book_eq)))
    (l_Book_eq : K.lookup f_Book_eq = some ⟨oc_Book_eq, od_Book_eq, .func (fnOf "__eq__" "Book.__eq__" (defArgs st_Book_eq) (defBody st_Book_eq) (defScope st_Book_eq) .none kV_Book_eq dc_Book_eq pm_Book_eq an_Book_eq cd_Book_eq ct_Book_eq), sl_Book_eq⟩)
    (c_Book_eq : codeIn K cd_Book_eq "Book.__eq__" = true)
    (k_Book_eq : (keepIn K (.ref f_Book_eq) && isFn K (.ref f_Book_eq)) = true)
    (a_Book_rules : findIn K (.ref eBook) "rules" = some (some (.ref p_Book_rules)))
    (a2_Book_rules : findIn K (.ref eSmallBook) "rules" = some (some (.ref p_Book_rules)))
    (s_Book_rules : specialIn K (.ref p_Book_rules) "__get__" = some (some (.builtin "property.__get__")))
    (t_Book_rules : takesIn K (.ref p_Book_rules) = some true)
    (r_Book_rules : recIn K p_Book_rules "property" = some (.ref f_Book_rules :: rest_Book_rules))
    (l_Book_rules : K.lookup f_Book_rules = some ⟨oc_Book_rules, od_Book_rules, .func (fnOf "rules" "Book.rules" (defArgs st_Book_rules) (defBody st_Book_rules) (defScope st_Book_rules) .none kV_Book_rules dc_Book_rules pm_Book_rules an_Book_rules cd_Book_rules ct_Book_rules), sl_Book_rules⟩)
    (c_Book_rules : codeIn K cd_Book_rules "Book.rules" = true)
    (k_Book_rules : (keepIn K (.ref f_Book_rules) && isFn K (.ref f_Book_rules)) = true)
    (a_Book_settle : findIn K (.ref eBook) "settle" = some (some (.ref f_Book_settle)))
    (a2_Book_settle : findIn K (.ref eSmallBook) "settle" = some (some (.ref f_Book_settle)))
    (l_Book_settle : K.lookup f_Book_settle = some ⟨oc_Book_settle, od_Book_settle, .func (fnOf "settle" "Book.settle" (defArgs st_Book_settle) (defBody st_Book_settle) (defScope st_Book_settle) .none kV_Book_settle dc_Book_settle pm_Book_settle an_Book_settle cd_Book_settle ct_Book_settle), sl_Book_settle⟩)
    (c_Book_settle : codeIn K cd_Book_settle "Book.settle" = true)
    (k_Book_settle : (keepIn K (.ref f_Book_settle) && isFn K (.ref f_Book_settle)) = true)
    (a_Book_put : findIn K (.ref eBook) "put" = some (some (.ref f_Book_put)))
    (a2_Book_put : findIn K (.ref eSmallBook) "put" = some (some (.ref f_Book_put)))
    (l_Book_put : K.lookup f_Book_put = some ⟨oc_Book_put, od_Book_put, .func (fnOf "put" "Book.put" (defArgs st_Book_put) (defBody st_Book_put) (defScope st_Book_put) .none kV_Book_put dc_Book_put pm_Book_put an_Book_put cd_Book_put ct_Book_put), sl_Book_put⟩)
    (c_Book_put : codeIn K cd_Book_put "Book.put" = true)
    (k_Book_put : (keepIn K (.ref f_Book_put) && isFn K (.ref f_Book_put)) = true)
    (a_Book_change : findIn K (.ref eBook) "change" = some (some (.ref f_Book_change)))
    (a2_Book_change : findIn K (.ref eSmallBook) "change" = some (some (.ref f_Book_change)))
    (l_Book_change : K.lookup f_Book_change = some ⟨oc_Book_change, od_Book_change, .func (fnOf "change" "Book.change" (defArgs st_Book_change) (defBody st_Book_change) (defScope st_Book_change) .none kV_Book_change dc_Book_change pm_Book_change an_Book_change cd_Book_change ct_Book_change), sl_Book_change⟩)
    (c_Book_change : codeIn K cd_Book_change "Book.change" = true)
    (k_Book_change : (keepIn K (.ref f_Book_change) && isFn K (.ref f_Book_change)) = true)
    (a_Book_undo : findIn K (.ref eBook) "undo" = some (some (.ref f_Book_undo)))
    (a2_Book_undo : findIn K (.ref eSmallBook) "undo" = some (some (.ref f_Book_undo)))
    (l_Book_undo : K.lookup f_Book_undo = some ⟨oc_Book_undo, od_Book_undo, .func (fnOf "undo" "Book.undo" (defArgs st_Book_undo) (defBody st_Book_undo) (defScope st_Book_undo) .none kV_Book_undo dc_Book_undo pm_Book_undo an_Book_undo cd_Book_undo ct_Book_undo), sl_Book_undo⟩)
    (c_Book_undo : codeIn K cd_Book_undo "Book.undo" = true)
    (k_Book_undo : (keepIn K (.ref f_Book_undo) && isFn K (.ref f_Book_undo)) = true)
    (a_SmallBook_init : findIn K (.ref eSmallBook) "__init__" = some (some (.ref f_SmallBook_init)))
    (l_SmallBook_init : K.lookup f_SmallBook_init = some ⟨oc_SmallBook_init, od_SmallBook_init, .func (ksFn "__init__" "SmallBook.__init__" (defArgs st_SmallBook_init) (defBody st_SmallBook_init) (defScope st_SmallBook_init) .none kV_SmallBook_init dc_SmallBook_init pm_SmallBook_init an_SmallBook_init (.ref cda_SmallBook_init) ct_SmallBook_init cc_SmallBook_init), sl_SmallBook_init⟩)
    (c_SmallBook_init : codeIn K (.ref cda_SmallBook_init) "SmallBook.__init__" = true)
    (d_SmallBook_init : K.lookup cda_SmallBook_init = some ⟨ccl_SmallBook_init, cdd_SmallBook_init, .fields vs_SmallBook_init, ccs_SmallBook_init⟩)
    (v_SmallBook_init : vs_SmallBook_init[2]? = some (.str file_SmallBook_init tf_SmallBook_init))
    (w_SmallBook_init : ((PySem.Challenge.pw_returnrows_k48_small_books.main.file : Str) == file_SmallBook_init) = true)
    (h_SmallBook_init : K.lookup cc_SmallBook_init = some ⟨cl_SmallBook_init, cld_SmallBook_init, .cell (some (.ref eSmallBook)), csl_SmallBook_init⟩)
    (y_SmallBook_init : clsIn K eSmallBook = some cd2_SmallBook_init)
    (z_SmallBook_init : (decide (ks_superIn K eSmallBook eSmallBook "__init__" = some (some (.ref f_Book_init))) && decide (mroIn K eSmallBook (.ref eSmallBook) = some true) && decide (typeIn K (.ref f_Book_init) = some (.type "function")) && fnIn K f_Book_init) = true)
    (k_SmallBook_init : (keepIn K (.ref f_SmallBook_init) && isFn K (.ref f_SmallBook_init)) = true)
    (a_law_told : nsIn K mainGlobals "_law_told" = some (some (.ref f_law_told)))
    (l_law_told : K.lookup f_law_told = some ⟨oc_law_told, od_law_told, .func (fnOf "_law_told" "_law_told" (defArgs st_law_told) (defBody st_law_told) (defScope st_law_told) .none kV_law_told dc_law_told pm_law_told an_law_told cd_law_told ct_law_told), sl_law_told⟩)
    (c_law_told : codeIn K cd_law_told "_law_told" = true)
    (k_law_told : (keepIn K (.ref f_law_told) && isFn K (.ref f_law_told)) = true)
    (a_law_refused : nsIn K mainGlobals "_law_refused" = some (some (.ref f_law_refused)))
    (l_law_refused : K.lookup f_law_refused = some ⟨oc_law_refused, od_law_refused, .func (fnOf "_law_refused" "_law_refused" (defArgs st_law_refused) (defBody st_law_refused) (defScope st_law_refused) .none kV_law_refused dc_law_refused pm_law_refused an_law_refused cd_law_refused ct_law_refused), sl_law_refused⟩)
    (c_law_refused : codeIn K cd_law_refused "_law_refused" = true)
    (k_law_refused : (keepIn K (.ref f_law_refused) && isFn K (.ref f_law_refused)) = true)
    (a_law_fits : nsIn K mainGlobals "_law_fits" = some (some (.ref f_law_fits)))
    (l_law_fits : K.lookup f_law_fits = some ⟨oc_law_fits, od_law_fits, .func (fnOf "_law_fits" "_law_fits" (defArgs st_law_fits) (defBody st_law_fits) (defScope st_law_fits) .none kV_law_fits dc_law_fits pm_law_fits an_law_fits cd_law_fits ct_law_fits), sl_law_fits⟩)
    (c_law_fits : codeIn K cd_law_fits "_law_fits" = true)
    (k_law_fits : (keepIn K (.ref f_law_fits) && isFn K (.ref f_law_fits)) = true)
    (a_law : nsIn K mainGlobals "law" = some (some (.ref f_law)))
    (l_law : K.lookup f_law = some ⟨oc_law, od_law, .func (fnOf "law" "law" (defArgs st_law) (defBody st_law) (defScope st_law) .none kV_law dc_law pm_law an_law cd_law ct_law), sl_law⟩)
    (c_law : codeIn K cd_law "law" = true)
    (k_law : (keepIn K (.ref f_law) && isFn K (.ref f_law)) = true)
    (m_Book : (makesIn K eBook && keepIn K (.ref eBook)) = true)
    (m_SmallBook : (makesIn K eSmallBook && keepIn K (.ref eSmallBook)) = true) :
    ∃ (c : Cs) (fd : FuncData), (∀ (s : Shared) (v : Value), BindsTo s fd ⟨[v], []⟩ [("script", v)]) ∧ ∀ base : Heap, K.In base → base.Ns mainGlobals mg → FnG PySem.Challenge.pw_returnrows_k48_small_books w K mg base (L2.CX PySem.Challenge.pw_returnrows_k48_small_books w) 9 fa fd ["script"] (spF K c (pfLaw c)) := by
  let P : Program := PySem.Challenge.pw_returnrows_k48_small_books
  have iniBinds : Binds K (ksFn "__init__" "RowError.__init__" (defArgs st_ini) (defBody st_ini) (defScope st_ini) .none kVIni docIni pmIni anIni (.ref cdaIni) ctIni ccIni) ["self", "value"] [] := .all fun us hl => match us, hl with | [_, _], _ => rfl
  have hc : ∀ n : Nat, n < 8 → ExAll K ((csOf eRow eBook eSmallBook [eRowError, eInvalidLetter, eInvalidRules, eInvalidNumber, eNotMixed, eTooMany, eNothingToUndo, eUnreadable]).ex 0) ((csOf eRow eBook eSmallBook [eRowError, eInvalidLetter, eInvalidRules, eInvalidNumber, eNotMixed, eTooMany, eNothingToUndo, eUnreadable]).ex n) := all8 (exB_ok xRowError ⟨_, _, _, _, _, _, _, _, _, _, _, _, _, _, _, oRowError, rRowError⟩) (exB_ok xInvalidLetter ⟨_, _, _, _, _, _, _, _, _, _, _, _, _, _, _, oInvalidLetter, rInvalidLetter⟩) (exB_ok xInvalidRules ⟨_, _, _, _, _, _, _, _, _, _, _, _, _, _, _, oInvalidRules, rInvalidRules⟩) (exB_ok xInvalidNumber ⟨_, _, _, _, _, _, _, _, _, _, _, _, _, _, _, oInvalidNumber, rInvalidNumber⟩) (exB_ok xNotMixed ⟨_, _, _, _, _, _, _, _, _, _, _, _, _, _, _, oNotMixed, rNotMixed⟩) (exB_ok xTooMany ⟨_, _, _, _, _, _, _, _, _, _, _, _, _, _, _, oTooMany, rTooMany⟩) (exB_ok xNothingToUndo ⟨_, _, _, _, _, _, _, _, _, _, _, _, _, _, _, oNothingToUndo, rNothingToUndo⟩) (exB_ok xUnreadable ⟨_, _, _, _, _, _, _, _, _, _, _, _, _, _, _, oUnreadable, rUnreadable⟩)
  have hx : Bx K (csOf eRow eBook eSmallBook [eRowError, eInvalidLetter, eInvalidRules, eInvalidNumber, eNotMixed, eTooMany, eNothingToUndo, eUnreadable]) ((csOf eRow eBook eSmallBook [eRowError, eInvalidLetter, eInvalidRules, eInvalidNumber, eNotMixed, eTooMany, eNothingToUndo, eUnreadable]).ex 0) := bx_of bkx ktx hc
  have T : ∀ base, Tx P w K mg base (csOf eRow eBook eSmallBook [eRowError, eInvalidLetter, eInvalidRules, eInvalidNumber, eNotMixed, eTooMany, eNothingToUndo, eUnreadable]) ((csOf eRow eBook eSmallBook [eRowError, eInvalidLetter, eInvalidRules, eInvalidNumber, eNotMixed, eTooMany, eNothingToUndo, eUnreadable]).ex 0) := fun base => ⟨hx, ⟨fIni, _, ⟨ini_ok iniT ⟨⟨_, _, _, _, _, _, _, _, _, _, rfl, lIni, cIni, ⟨_, _, _, _, _, _, dIni, fIni2, pIni⟩, _, _, _, hIni⟩, ⟨_, clsR⟩, mg_none_of KX G nSuper, opIni⟩, tIni, fun n hn => of_decide_eq_true (List.all_eq_true.mp xIni n (List.mem_range.mpr hn)), iniBinds⟩⟩, mg_none_of KX G n_ValueError, mg_none_of KX G n_abs, mg_none_of KX G n_int, mg_none_of KX G n_isinstance, mg_none_of KX G n_len, mg_none_of KX G n_list, mg_none_of KX G n_max, mg_none_of KX G n_min, mg_none_of KX G n_range, mg_none_of KX G n_repr, mg_none_of KX G n_tuple, mg_of KX G gRowError, mg_of KX G gInvalidLetter, mg_of KX G gInvalidRules, mg_of KX G gInvalidNumber, mg_of KX G gNotMixed, mg_of KX G gTooMany, mg_of KX G gNothingToUndo, mg_of KX G gUnreadable, mg_of KX G gRow, mg_of KX G gBook, mg_of KX G gSmallBook⟩
  have e := hfa.symm.trans (mg_of KX G a_law)
  cases e
  refine ⟨(csOf eRow eBook eSmallBook [eRowError, eInvalidLetter, eInvalidRules, eInvalidNumber, eNotMixed, eTooMany, eNothingToUndo, eUnreadable]), fnOf "law" "law" (defArgs st_law) (defBody st_law) (defScope st_law) .none kV_law dc_law pm_law an_law cd_law ct_law, fun s v => .of_eq rfl, fun base _ _ => ?_⟩
  have F_law_pool := fun_mk (st := st_law_pool) l_law_pool c_law_pool (Bool.and_eq_true_iff.mp k_law_pool).1
  have b_law_pool := F_law_pool.binds (ps := ["script", "spot"]) fun _ _ _ _ _ _ us hl => match us, hl with | [_, _], _ => rfl
  have ok_law_pool : FnOk P w K mg base (L2.CX P w) 1 _ _ ["script", "spot"] (spF K (csOf eRow eBook eSmallBook [eRowError, eInvalidLetter, eInvalidRules, eInvalidNumber, eNotMixed, eTooMany, eNothingToUndo, eUnreadable]) pfPool) := ok_law_pool (T base) F_law_pool  (bd_law_pool) (Ct.len fun a as h => by first | (rw [h]; rfl) | (rw [h.1]; rfl))
  have C_law_pool : Cal P w K mg base 1 "_law_pool" ["script", "spot"] _ := ⟨_, _, ⟨ok_law_pool, mg_of KX G a_law_pool, (Bool.and_eq_true_iff.mp k_law_pool).1, b_law_pool⟩⟩
  have F_law_draw := fun_mk (st := st_law_draw) l_law_draw c_law_draw (Bool.and_eq_true_iff.mp k_law_draw).1
  have b_law_draw := F_law_draw.binds (ps := ["pool", "span"]) fun _ _ _ _ _ _ us hl => match us, hl with | [_, _], _ => rfl
  have ok_law_draw : FnOk P w K mg base (L2.CX P w) 1 _ _ ["pool", "span"] (spF K (csOf eRow eBook eSmallBook [eRowError, eInvalidLetter, eInvalidRules, eInvalidNumber, eNotMixed, eTooMany, eNothingToUndo, eUnreadable]) pfDraw) := ok_law_draw (T base) F_law_draw  (bd_law_draw) (Ct.len fun a as h => by first | (rw [h]; rfl) | (rw [h.1]; rfl))
  have C_law_draw : Cal P w K mg base 1 "_law_draw" ["pool", "span"] _ := ⟨_, _, ⟨ok_law_draw, mg_of KX G a_law_draw, (Bool.and_eq_true_iff.mp k_law_draw).1, b_law_draw⟩⟩
  have F_Book_init := fun_mk (st := st_Book_init) l_Book_init c_Book_init (Bool.and_eq_true_iff.mp k_Book_init).1
  have b_Book_init := F_Book_init.binds (ps := ["self"]) fun _ _ _ _ _ _ us hl => match us, hl with | [_], _ => rfl
  have ok_Book_init : FnOk P w K mg base (L2.CX P w) 1 _ _ ["self"] (spF K (csOf eRow eBook eSmallBook [eRowError, eInvalidLetter, eInvalidRules, eInvalidNumber, eNotMixed, eTooMany, eNothingToUndo, eUnreadable]) (pfX fun b => (pfInit (csOf eRow eBook eSmallBook [eRowError, eInvalidLetter, eInvalidRules, eInvalidNumber, eNotMixed, eTooMany, eNothingToUndo, eUnreadable]) b))) := ok_Book_init (T base) F_Book_init  (fun b => bd_Book_init hx) (pfX.len fun b => (Ct.len fun a as h => by first | (rw [h]; rfl) | (rw [h.1]; rfl)))
  have N_Book : CalC P w K mg base 1 (cb (csOf eRow eBook eSmallBook [eRowError, eInvalidLetter, eInvalidRules, eInvalidNumber, eNotMixed, eTooMany, eNothingToUndo, eUnreadable]) false) "Book" ["self"] _ := ⟨_, _, ⟨ok_Book_init, ⟨(Bool.and_eq_true_iff.mp m_Book).1, a_Book_init, (Bool.and_eq_true_iff.mp k_Book_init).2, (Bool.and_eq_true_iff.mp m_Book).2⟩, mg_of KX G gBook, b_Book_init⟩⟩
  have F_Book_limit := fun_mk (st := st_Book_limit) l_Book_limit c_Book_limit (Bool.and_eq_true_iff.mp k_Book_limit).1
  have b_Book_limit := F_Book_limit.binds (ps := ["self"]) fun _ _ _ _ _ _ us hl => match us, hl with | [_], _ => rfl
  have ok_Book_limit : FnOk P w K mg base (L2.CX P w) 1 _ _ ["self"] (spF K (csOf eRow eBook eSmallBook [eRowError, eInvalidLetter, eInvalidRules, eInvalidNumber, eNotMixed, eTooMany, eNothingToUndo, eUnreadable]) (pfLim (csOf eRow eBook eSmallBook [eRowError, eInvalidLetter, eInvalidRules, eInvalidNumber, eNotMixed, eTooMany, eNothingToUndo, eUnreadable]) false)) := ok_Book_limit (T base) F_Book_limit  (bd_Book_limit) (Ct.len fun a as h => by first | (rw [h]; rfl) | (rw [h.1]; rfl))
  have F_SmallBook_limit := fun_mk (st := st_SmallBook_limit) l_SmallBook_limit c_SmallBook_limit (Bool.and_eq_true_iff.mp k_SmallBook_limit).1
  have b_SmallBook_limit := F_SmallBook_limit.binds (ps := ["self"]) fun _ _ _ _ _ _ us hl => match us, hl with | [_], _ => rfl
  have ok_SmallBook_limit : FnOk P w K mg base (L2.CX P w) 1 _ _ ["self"] (spF K (csOf eRow eBook eSmallBook [eRowError, eInvalidLetter, eInvalidRules, eInvalidNumber, eNotMixed, eTooMany, eNothingToUndo, eUnreadable]) (pfLim (csOf eRow eBook eSmallBook [eRowError, eInvalidLetter, eInvalidRules, eInvalidNumber, eNotMixed, eTooMany, eNothingToUndo, eUnreadable]) true)) := ok_SmallBook_limit (T base) F_SmallBook_limit  (bd_SmallBook_limit hx) (Ct.len fun a as h => by first | (rw [h]; rfl) | (rw [h.1]; rfl))
  have M_limit : ∀ b : Bool, CalM P w K mg base 1 (cb (csOf eRow eBook eSmallBook [eRowError, eInvalidLetter, eInvalidRules, eInvalidNumber, eNotMixed, eTooMany, eNothingToUndo, eUnreadable]) b) "limit" ["self"] (spF K (csOf eRow eBook eSmallBook [eRowError, eInvalidLetter, eInvalidRules, eInvalidNumber, eNotMixed, eTooMany, eNothingToUndo, eUnreadable]) (pfLim (csOf eRow eBook eSmallBook [eRowError, eInvalidLetter, eInvalidRules, eInvalidNumber, eNotMixed, eTooMany, eNothingToUndo, eUnreadable]) b)) := fun b => by cases b; exact ⟨_, _, ⟨ok_Book_limit, ⟨a_Book_limit, (Bool.and_eq_true_iff.mp k_Book_limit).2, (Bool.and_eq_true_iff.mp k_Book_limit).1⟩, b_Book_limit⟩⟩; exact ⟨_, _, ⟨ok_SmallBook_limit, ⟨a_SmallBook_limit, (Bool.and_eq_true_iff.mp k_SmallBook_limit).2, (Bool.and_eq_true_iff.mp k_SmallBook_limit).1⟩, b_SmallBook_limit⟩⟩
  have F_Book_len := fun_mk (st := st_Book_len) l_Book_len c_Book_len (Bool.and_eq_true_iff.mp k_Book_len).1
  have b_Book_len := F_Book_len.binds (ps := ["self"]) fun _ _ _ _ _ _ us hl => match us, hl with | [_], _ => rfl
  have ok_Book_len : FnOk P w K mg base (L2.CX P w) 1 _ _ ["self"] (spF K (csOf eRow eBook eSmallBook [eRowError, eInvalidLetter, eInvalidRules, eInvalidNumber, eNotMixed, eTooMany, eNothingToUndo, eUnreadable]) (pfX fun b => (pfLen (csOf eRow eBook eSmallBook [eRowError, eInvalidLetter, eInvalidRules, eInvalidNumber, eNotMixed, eTooMany, eNothingToUndo, eUnreadable]) b))) := ok_Book_len (T base) F_Book_len  (fun b => bd_Book_len hx) (pfX.len fun b => (Ct.len fun a as h => by first | (rw [h]; rfl) | (rw [h.1]; rfl)))
  have M_len : ∀ b : Bool, CalM P w K mg base 1 (cb (csOf eRow eBook eSmallBook [eRowError, eInvalidLetter, eInvalidRules, eInvalidNumber, eNotMixed, eTooMany, eNothingToUndo, eUnreadable]) b) "__len__" ["self"] _ := fun b => ⟨_, _, ⟨ok_Book_len, ⟨by cases b; exact a_Book_len; exact a2_Book_len, (Bool.and_eq_true_iff.mp k_Book_len).2, (Bool.and_eq_true_iff.mp k_Book_len).1⟩, b_Book_len⟩⟩
  have F_Book_eq := fun_mk (st := st_Book_eq) l_Book_eq c_Book_eq (Bool.and_eq_true_iff.mp k_Book_eq).1
  have b_Book_eq := F_Book_eq.binds (ps := ["self", "other"]) fun _ _ _ _ _ _ us hl => match us, hl with | [_, _], _ => rfl
  have ok_Book_eq : FnOk P w K mg base (L2.CX P w) 2 _ _ ["self", "other"] (spF K (csOf eRow eBook eSmallBook [eRowError, eInvalidLetter, eInvalidRules, eInvalidNumber, eNotMixed, eTooMany, eNothingToUndo, eUnreadable]) (pfX fun b => (pfEq (csOf eRow eBook eSmallBook [eRowError, eInvalidLetter, eInvalidRules, eInvalidNumber, eNotMixed, eTooMany, eNothingToUndo, eUnreadable]) b))) := ok_Book_eq (T base) F_Book_eq M_limit M_limit (fun b => bd_Book_eq hx b) (pfX.len fun b => (Ct.len fun a as h => by first | (rw [h]; rfl) | (rw [h.1]; rfl)))
  have M_eq : ∀ b : Bool, CalM P w K mg base 2 (cb (csOf eRow eBook eSmallBook [eRowError, eInvalidLetter, eInvalidRules, eInvalidNumber, eNotMixed, eTooMany, eNothingToUndo, eUnreadable]) b) "__eq__" ["self", "other"] _ := fun b => ⟨_, _, ⟨ok_Book_eq, ⟨by cases b; exact a_Book_eq; exact a2_Book_eq, (Bool.and_eq_true_iff.mp k_Book_eq).2, (Bool.and_eq_true_iff.mp k_Book_eq).1⟩, b_Book_eq⟩⟩
  have F_Book_rules := fun_mk (st := st_Book_rules) l_Book_rules c_Book_rules (Bool.and_eq_true_iff.mp k_Book_rules).1
  have b_Book_rules := F_Book_rules.binds (ps := ["self"]) fun _ _ _ _ _ _ us hl => match us, hl with | [_], _ => rfl
  have ok_Book_rules : FnOk P w K mg base (L2.CX P w) 1 _ _ ["self"] (spF K (csOf eRow eBook eSmallBook [eRowError, eInvalidLetter, eInvalidRules, eInvalidNumber, eNotMixed, eTooMany, eNothingToUndo, eUnreadable]) (pfX fun b => (pfRules (csOf eRow eBook eSmallBook [eRowError, eInvalidLetter, eInvalidRules, eInvalidNumber, eNotMixed, eTooMany, eNothingToUndo, eUnreadable]) b))) := ok_Book_rules (T base) F_Book_rules  (fun b => bd_Book_rules hx) (pfX.len fun b => (Ct.len fun a as h => by first | (rw [h]; rfl) | (rw [h.1]; rfl)))
  have P_rules : ∀ b : Bool, CalP P w K mg base 1 (cb (csOf eRow eBook eSmallBook [eRowError, eInvalidLetter, eInvalidRules, eInvalidNumber, eNotMixed, eTooMany, eNothingToUndo, eUnreadable]) b) "rules" ["self"] _ := fun b => ⟨p_Book_rules, f_Book_rules, _, ⟨ok_Book_rules, ⟨by cases b; exact a_Book_rules; exact a2_Book_rules, s_Book_rules, t_Book_rules, ⟨_, r_Book_rules⟩⟩, b_Book_rules⟩⟩
  have F_Book_settle := fun_mk (st := st_Book_settle) l_Book_settle c_Book_settle (Bool.and_eq_true_iff.mp k_Book_settle).1
  have b_Book_settle := F_Book_settle.binds (ps := ["self", "call", "words"]) fun _ _ _ _ _ _ us hl => match us, hl with | [_, _, _], _ => rfl
  have ok_Book_settle : FnOk P w K mg base (L2.CX P w) 1 _ _ ["self", "call", "words"] (spF K (csOf eRow eBook eSmallBook [eRowError, eInvalidLetter, eInvalidRules, eInvalidNumber, eNotMixed, eTooMany, eNothingToUndo, eUnreadable]) (pfX fun b => (pfSettle (csOf eRow eBook eSmallBook [eRowError, eInvalidLetter, eInvalidRules, eInvalidNumber, eNotMixed, eTooMany, eNothingToUndo, eUnreadable]) b))) := ok_Book_settle (T base) F_Book_settle  (fun b => bd_Book_settle hx) (pfX.len fun b => (Ct.len fun a as h => by first | (rw [h]; rfl) | (rw [h.1]; rfl)))
  have M_settle : ∀ b : Bool, CalM P w K mg base 1 (cb (csOf eRow eBook eSmallBook [eRowError, eInvalidLetter, eInvalidRules, eInvalidNumber, eNotMixed, eTooMany, eNothingToUndo, eUnreadable]) b) "settle" ["self", "call", "words"] _ := fun b => ⟨_, _, ⟨ok_Book_settle, ⟨by cases b; exact a_Book_settle; exact a2_Book_settle, (Bool.and_eq_true_iff.mp k_Book_settle).2, (Bool.and_eq_true_iff.mp k_Book_settle).1⟩, b_Book_settle⟩⟩
  have F_Book_put := fun_mk (st := st_Book_put) l_Book_put c_Book_put (Bool.and_eq_true_iff.mp k_Book_put).1
  have b_Book_put := F_Book_put.binds (ps := ["self", "word"]) fun _ _ _ _ _ _ us hl => match us, hl with | [_, _], _ => rfl
  have ok_Book_put : FnOk P w K mg base (L2.CX P w) 4 _ _ ["self", "word"] (spF K (csOf eRow eBook eSmallBook [eRowError, eInvalidLetter, eInvalidRules, eInvalidNumber, eNotMixed, eTooMany, eNothingToUndo, eUnreadable]) (pfX fun b => (pfPut (csOf eRow eBook eSmallBook [eRowError, eInvalidLetter, eInvalidRules, eInvalidNumber, eNotMixed, eTooMany, eNothingToUndo, eUnreadable]) b))) := ok_Book_put (T base) F_Book_put M_len M_limit M_settle (fun b => bd_Book_put hx) (pfX.len fun b => (Ct.len fun a as h => by first | (rw [h]; rfl) | (rw [h.1]; rfl)))
  have M_put : ∀ b : Bool, CalM P w K mg base 4 (cb (csOf eRow eBook eSmallBook [eRowError, eInvalidLetter, eInvalidRules, eInvalidNumber, eNotMixed, eTooMany, eNothingToUndo, eUnreadable]) b) "put" ["self", "word"] _ := fun b => ⟨_, _, ⟨ok_Book_put, ⟨by cases b; exact a_Book_put; exact a2_Book_put, (Bool.and_eq_true_iff.mp k_Book_put).2, (Bool.and_eq_true_iff.mp k_Book_put).1⟩, b_Book_put⟩⟩
  have F_Book_change := fun_mk (st := st_Book_change) l_Book_change c_Book_change (Bool.and_eq_true_iff.mp k_Book_change).1
  have b_Book_change := F_Book_change.binds (ps := ["self", "letter", "word"]) fun _ _ _ _ _ _ us hl => match us, hl with | [_, _, _], _ => rfl
  have ok_Book_change : FnOk P w K mg base (L2.CX P w) 4 _ _ ["self", "letter", "word"] (spF K (csOf eRow eBook eSmallBook [eRowError, eInvalidLetter, eInvalidRules, eInvalidNumber, eNotMixed, eTooMany, eNothingToUndo, eUnreadable]) (pfX fun b => (pfChange (csOf eRow eBook eSmallBook [eRowError, eInvalidLetter, eInvalidRules, eInvalidNumber, eNotMixed, eTooMany, eNothingToUndo, eUnreadable]) b))) := ok_Book_change (T base) F_Book_change M_settle (fun b => bd_Book_change hx) (pfX.len fun b => (Ct.len fun a as h => by first | (rw [h]; rfl) | (rw [h.1]; rfl)))
  have M_change : ∀ b : Bool, CalM P w K mg base 4 (cb (csOf eRow eBook eSmallBook [eRowError, eInvalidLetter, eInvalidRules, eInvalidNumber, eNotMixed, eTooMany, eNothingToUndo, eUnreadable]) b) "change" ["self", "letter", "word"] _ := fun b => ⟨_, _, ⟨ok_Book_change, ⟨by cases b; exact a_Book_change; exact a2_Book_change, (Bool.and_eq_true_iff.mp k_Book_change).2, (Bool.and_eq_true_iff.mp k_Book_change).1⟩, b_Book_change⟩⟩
  have F_Book_undo := fun_mk (st := st_Book_undo) l_Book_undo c_Book_undo (Bool.and_eq_true_iff.mp k_Book_undo).1
  have b_Book_undo := F_Book_undo.binds (ps := ["self"]) fun _ _ _ _ _ _ us hl => match us, hl with | [_], _ => rfl
  have ok_Book_undo : FnOk P w K mg base (L2.CX P w) 4 _ _ ["self"] (spF K (csOf eRow eBook eSmallBook [eRowError, eInvalidLetter, eInvalidRules, eInvalidNumber, eNotMixed, eTooMany, eNothingToUndo, eUnreadable]) (pfX fun b => (pfUndo (csOf eRow eBook eSmallBook [eRowError, eInvalidLetter, eInvalidRules, eInvalidNumber, eNotMixed, eTooMany, eNothingToUndo, eUnreadable]) b))) := ok_Book_undo (T base) F_Book_undo  (fun b => bd_Book_undo hx) (pfX.len fun b => (Ct.len fun a as h => by first | (rw [h]; rfl) | (rw [h.1]; rfl)))
  have M_undo : ∀ b : Bool, CalM P w K mg base 4 (cb (csOf eRow eBook eSmallBook [eRowError, eInvalidLetter, eInvalidRules, eInvalidNumber, eNotMixed, eTooMany, eNothingToUndo, eUnreadable]) b) "undo" ["self"] _ := fun b => ⟨_, _, ⟨ok_Book_undo, ⟨by cases b; exact a_Book_undo; exact a2_Book_undo, (Bool.and_eq_true_iff.mp k_Book_undo).2, (Bool.and_eq_true_iff.mp k_Book_undo).1⟩, b_Book_undo⟩⟩
  have ok_SmallBook_init := ok_SmallBook_init (P := P) (w := w) (mg := mg) (base := base) (T base) supT ⟨⟨_, _, _, _, _, _, _, _, rfl, l_SmallBook_init, c_SmallBook_init, ⟨_, _, _, _, _, _, d_SmallBook_init, v_SmallBook_init, w_SmallBook_init⟩, _, _, _, h_SmallBook_init⟩, ⟨_, y_SmallBook_init⟩, mg_none_of KX G nSuper, opIni⟩ ok_Book_init b_Book_init (by simp only [Bool.and_eq_true, decide_eq_true_eq] at z_SmallBook_init; exact ⟨z_SmallBook_init.1.1.1, z_SmallBook_init.1.1.2, z_SmallBook_init.1.2, z_SmallBook_init.2⟩)
  have b_SmallBook_init : Binds K (ksFn "__init__" "SmallBook.__init__" (defArgs st_SmallBook_init) (defBody st_SmallBook_init) (defScope st_SmallBook_init) .none kV_SmallBook_init dc_SmallBook_init pm_SmallBook_init an_SmallBook_init (.ref cda_SmallBook_init) ct_SmallBook_init cc_SmallBook_init) ["self", "most"] [] := .all fun us hl => match us, hl with | [_, _], _ => rfl
  have N_SmallBook : CalC P w K mg base 4 (cb (csOf eRow eBook eSmallBook [eRowError, eInvalidLetter, eInvalidRules, eInvalidNumber, eNotMixed, eTooMany, eNothingToUndo, eUnreadable]) true) "SmallBook" ["self", "most"] _ := ⟨_, _, ⟨ok_SmallBook_init, ⟨(Bool.and_eq_true_iff.mp m_SmallBook).1, a_SmallBook_init, (Bool.and_eq_true_iff.mp k_SmallBook_init).2, (Bool.and_eq_true_iff.mp m_SmallBook).2⟩, mg_of KX G gSmallBook, b_SmallBook_init⟩⟩
  have K_SmallBook : KwC P w K mg base (cb (csOf eRow eBook eSmallBook [eRowError, eInvalidLetter, eInvalidRules, eInvalidNumber, eNotMixed, eTooMany, eNothingToUndo, eUnreadable]) true) "SmallBook" 4 ["most"] ["self", "most"] _ := ⟨_, _, ⟨ok_SmallBook_init, ⟨(Bool.and_eq_true_iff.mp m_SmallBook).1, a_SmallBook_init, (Bool.and_eq_true_iff.mp k_SmallBook_init).2, (Bool.and_eq_true_iff.mp m_SmallBook).2⟩, mg_of KX G gSmallBook, b_SmallBook_init⟩, ⟨fun s us ws _ h1 h2 => (match us, ws, h1, h2 with | [_], [_], _, _ => .of_eq rfl), fun r1 r2 => r1.append r2⟩⟩
  have F_law_told := fun_mk (st := st_law_told) l_law_told c_law_told (Bool.and_eq_true_iff.mp k_law_told).1
  have b_law_told := F_law_told.binds (ps := ["way", "limit"]) fun _ _ _ _ _ _ us hl => match us, hl with | [_, _], _ => rfl
  have ok_law_told : FnOk P w K mg base (L2.CX P w) 6 _ _ ["way", "limit"] (spF K (csOf eRow eBook eSmallBook [eRowError, eInvalidLetter, eInvalidRules, eInvalidNumber, eNotMixed, eTooMany, eNothingToUndo, eUnreadable]) (pfTold (csOf eRow eBook eSmallBook [eRowError, eInvalidLetter, eInvalidRules, eInvalidNumber, eNotMixed, eTooMany, eNothingToUndo, eUnreadable]))) := ok_law_told (T base) F_law_told N_SmallBook K_SmallBook (bd_law_told hx) (Ct.len fun a as h => by first | (rw [h]; rfl) | (rw [h.1]; rfl))
  have C_law_told : Cal P w K mg base 6 "_law_told" ["way", "limit"] _ := ⟨_, _, ⟨ok_law_told, mg_of KX G a_law_told, (Bool.and_eq_true_iff.mp k_law_told).1, b_law_told⟩⟩
  have F_law_refused := fun_mk (st := st_law_refused) l_law_refused c_law_refused (Bool.and_eq_true_iff.mp k_law_refused).1
  have b_law_refused := F_law_refused.binds (ps := ["page", "step"]) fun _ _ _ _ _ _ us hl => match us, hl with | [_, _], _ => rfl
  have ok_law_refused : FnOk P w K mg base (L2.CX P w) 5 _ _ ["page", "step"] (spF K (csOf eRow eBook eSmallBook [eRowError, eInvalidLetter, eInvalidRules, eInvalidNumber, eNotMixed, eTooMany, eNothingToUndo, eUnreadable]) (pfX fun b => (pfRefused (csOf eRow eBook eSmallBook [eRowError, eInvalidLetter, eInvalidRules, eInvalidNumber, eNotMixed, eTooMany, eNothingToUndo, eUnreadable]) b))) := ok_law_refused (T base) F_law_refused M_put (fun b => bd_law_refused hx) (pfX.len fun b => (Ct.len fun a as h => by first | (rw [h]; rfl) | (rw [h.1]; rfl)))
  have C_law_refused : Cal P w K mg base 5 "_law_refused" ["page", "step"] _ := ⟨_, _, ⟨ok_law_refused, mg_of KX G a_law_refused, (Bool.and_eq_true_iff.mp k_law_refused).1, b_law_refused⟩⟩
  have F_law_fits := fun_mk (st := st_law_fits) l_law_fits c_law_fits (Bool.and_eq_true_iff.mp k_law_fits).1
  have b_law_fits := F_law_fits.binds (ps := ["pool"]) fun _ _ _ _ _ _ us hl => match us, hl with | [_], _ => rfl
  have ok_law_fits : FnG P w K mg base (L2.CX P w) 8 _ _ ["pool"] (spF K (csOf eRow eBook eSmallBook [eRowError, eInvalidLetter, eInvalidRules, eInvalidNumber, eNotMixed, eTooMany, eNothingToUndo, eUnreadable]) (pfFits (csOf eRow eBook eSmallBook [eRowError, eInvalidLetter, eInvalidRules, eInvalidNumber, eNotMixed, eTooMany, eNothingToUndo, eUnreadable]))) := ok_law_fits (T base) F_law_fits C_law_draw C_law_told N_Book C_law_refused M_len M_change M_undo P_rules P_rules M_eq M_len (bd_law_fits hx) (Ct.len fun a as h => by first | (rw [h]; rfl) | (rw [h.1]; rfl))
  have C_law_fits : CalG P w K mg base 8 "_law_fits" ["pool"] _ := ⟨_, _, ⟨ok_law_fits, mg_of KX G a_law_fits, (Bool.and_eq_true_iff.mp k_law_fits).1, b_law_fits⟩⟩
  have F_law := fun_mk (st := st_law) l_law c_law (Bool.and_eq_true_iff.mp k_law).1
  have b_law := F_law.binds (ps := ["script"]) fun _ _ _ _ _ _ us hl => match us, hl with | [_], _ => rfl
  have ok_law : FnG P w K mg base (L2.CX P w) 9 _ _ ["script"] (spF K (csOf eRow eBook eSmallBook [eRowError, eInvalidLetter, eInvalidRules, eInvalidNumber, eNotMixed, eTooMany, eNothingToUndo, eUnreadable]) (pfLaw (csOf eRow eBook eSmallBook [eRowError, eInvalidLetter, eInvalidRules, eInvalidNumber, eNotMixed, eTooMany, eNothingToUndo, eUnreadable]))) := ok_law (T base) F_law C_law_pool C_law_fits (bd_law hx) (Ct.len fun a as h => by first | (rw [h]; rfl) | (rw [h.1]; rfl))
  exact ok_law
def spLawW (K : Frag) : Sp := fun vs H Q E => ∀ c : Cs, spF K c (pfLaw c) vs H Q E
theorem walk {l : OpenLaw} {k : Nat} {q : Program} {loose : List Str} {XP : (Str → Option Value) → Heap → Prop} {YP : World → Heap → Prop} {d : DefRec} {K : Params → Frag} (hn : l.most = some 63) (hdf : d.params.defaults = []) (hr : Room k callerA) (hY : ∀ (w : World) (h : Heap), YP w h → (K w.params).In h)
    (F : ∀ (w : World) (mg : Str → Option Value) (fa : Addr) (h : Heap), (K w.params).In h → h.Ns mainGlobals mg → mg d.name = some (.ref fa) → ∃ (c : Cs) (fd : FuncData), (∀ (s : Shared) (v : Value), BindsTo s fd ⟨[v], []⟩ [("script", v)]) ∧ ∀ base : Heap, (K w.params).In base → base.Ns mainGlobals mg → FnG l.prog w (K w.params) mg base (L2.CX l.prog w) k fa fd ["script"] (spF (K w.params) c (pfLaw c))) :
    WalkO q loose XP YP l.row.toRowW d [] (fun f vs => PySem.call f vs) :=
  RH.walk_G (n := 63) (k := k) (x := "script") (sp := fun w => spLawW (K w.params)) hn (by decide) hdf hr hY (fun w mg fa h KX G hfa => by
    obtain ⟨c, fd, h1, h2⟩ := F w mg fa h KX G hfa
    exact ⟨fd, h1, fun base KB NB => ⟨fun vs H Q E z => (h2 base KB NB).len vs H Q E (z c), fun A outer s H args us vs Q E hg hr e0 hb r z => (h2 base KB NB).run A outer s H args us vs Q E hg hr e0 hb r (z c)⟩⟩)
    fun w H a ns hlen hbits hO hS c => ⟨_, _, first_at hO hS _ _, ns, rfl, fun r as' q => fun v H' w' a rr => by (cases q; cases rr; rfl), fun _ _ z => z.elim⟩
end RR
open PySem PySem.W PyProof.Rows
set_option maxRecDepth 100000 in
set_option maxHeartbeats 0 in
theorem PySem.Challenge.cw_returnrows_k48_small_books_holds : PySem.Challenge.rw_returnrows_k48_small_books.Holds := by
  w_on; o_law; k_head; (case hw => w_witness2)
  k_fill
  refine RR.walk (l := PySem.Challenge.rw_returnrows_k48_small_books) (k := 9) rfl rfl ⟨rfl, by decide, by decide⟩ (fun w h Y => PySem.W.kIn_of Y) ?F
  case F =>
    intro w mg fa h KX G hmg
    refine' RR.all_mk KX G hmg ?gRowError ?gInvalidLetter ?gInvalidRules ?gInvalidNumber ?gNotMixed ?gTooMany ?gNothingToUndo ?gUnreadable ?gRow ?gBook ?gSmallBook ?oRowError ?rRowError ?xRowError ?oInvalidLetter ?rInvalidLetter ?xInvalidLetter ?oInvalidRules ?rInvalidRules ?xInvalidRules ?oInvalidNumber ?rInvalidNumber ?xInvalidNumber ?oNotMixed ?rNotMixed ?xNotMixed ?oTooMany ?rTooMany ?xTooMany ?oNothingToUndo ?rNothingToUndo ?xNothingToUndo ?oUnreadable ?rUnreadable ?xUnreadable ?bkx ?ktx ?n_ValueError ?n_abs ?n_int ?n_isinstance ?n_len ?n_list ?n_max ?n_min ?n_range ?n_repr ?n_tuple ?aIni ?lIni ?cIni ?dIni ?fIni2 ?pIni ?hIni ?tIni ?nSuper ?opIni ?clsR ?xIni ?a_law_pool ?l_law_pool ?c_law_pool ?k_law_pool ?a_law_draw ?l_law_draw ?c_law_draw ?k_law_draw ?a_Book_init ?l_Book_init ?c_Book_init ?k_Book_init ?a_Book_limit ?l_Book_limit ?c_Book_limit ?k_Book_limit ?a_SmallBook_limit ?l_SmallBook_limit ?c_SmallBook_limit ?k_SmallBook_limit ?a_Book_len ?a2_Book_len ?l_Book_len ?c_Book_len ?k_Book_len ?a_Book_eq ?a2_Book_eq ?l_Book_eq ?c_Book_eq ?k_Book_eq ?a_Book_rules ?a2_Book_rules ?s_Book_rules ?t_Book_rules ?r_Book_rules ?l_Book_rules ?c_Book_rules ?k_Book_rules ?a_Book_settle ?a2_Book_settle ?l_Book_settle ?c_Book_settle ?k_Book_settle ?a_Book_put ?a2_Book_put ?l_Book_put ?c_Book_put ?k_Book_put ?a_Book_change ?a2_Book_change ?l_Book_change ?c_Book_change ?k_Book_change ?a_Book_undo ?a2_Book_undo ?l_Book_undo ?c_Book_undo ?k_Book_undo ?a_SmallBook_init ?l_SmallBook_init ?c_SmallBook_init ?d_SmallBook_init ?v_SmallBook_init ?w_SmallBook_init ?h_SmallBook_init ?y_SmallBook_init ?z_SmallBook_init ?k_SmallBook_init ?a_law_told ?l_law_told ?c_law_told ?k_law_told ?a_law_refused ?l_law_refused ?c_law_refused ?k_law_refused ?a_law_fits ?l_law_fits ?c_law_fits ?k_law_fits ?a_law ?l_law ?c_law ?k_law ?m_Book ?m_SmallBook
    (case gRowError => k_is)
    (case gInvalidLetter => k_is)
    (case gInvalidRules => k_is)
    (case gInvalidNumber => k_is)
    (case gNotMixed => k_is)
    (case gTooMany => k_is)
    (case gNothingToUndo => k_is)
    (case gUnreadable => k_is)
    (case gRow => k_is)
    (case gBook => k_is)
    (case gSmallBook => k_is)
    (case oRowError => k_is)
    (case rRowError => first | decide +kernel | exact rfl | kernel_rfl)
    (case xRowError => first | exact rfl | kernel_rfl)
    (case oInvalidLetter => k_is)
    (case rInvalidLetter => first | decide +kernel | exact rfl | kernel_rfl)
    (case xInvalidLetter => first | exact rfl | kernel_rfl)
    (case oInvalidRules => k_is)
    (case rInvalidRules => first | decide +kernel | exact rfl | kernel_rfl)
    (case xInvalidRules => first | exact rfl | kernel_rfl)
    (case oInvalidNumber => k_is)
    (case rInvalidNumber => first | decide +kernel | exact rfl | kernel_rfl)
    (case xInvalidNumber => first | exact rfl | kernel_rfl)
    (case oNotMixed => k_is)
    (case rNotMixed => first | decide +kernel | exact rfl | kernel_rfl)
    (case xNotMixed => first | exact rfl | kernel_rfl)
    (case oTooMany => k_is)
    (case rTooMany => first | decide +kernel | exact rfl | kernel_rfl)
    (case xTooMany => first | exact rfl | kernel_rfl)
    (case oNothingToUndo => k_is)
    (case rNothingToUndo => first | decide +kernel | exact rfl | kernel_rfl)
    (case xNothingToUndo => first | exact rfl | kernel_rfl)
    (case oUnreadable => k_is)
    (case rUnreadable => first | decide +kernel | exact rfl | kernel_rfl)
    (case xUnreadable => first | exact rfl | kernel_rfl)
    (case bkx => first | exact rfl | kernel_rfl)
    (case ktx => first | exact rfl | kernel_rfl)
    (case n_ValueError => k_is)
    (case n_abs => k_is)
    (case n_int => k_is)
    (case n_isinstance => k_is)
    (case n_len => k_is)
    (case n_list => k_is)
    (case n_max => k_is)
    (case n_min => k_is)
    (case n_range => k_is)
    (case n_repr => k_is)
    (case n_tuple => k_is)
    (case aIni => k_is)
    (case lIni => k_is)
    (case cIni => k_is)
    (case dIni => k_is)
    (case fIni2 => first | rfl | k_is)
    (case pIni => first | rfl | decide +kernel | kernel_rfl)
    (case hIni => k_is)
    (case tIni => k_is)
    (case nSuper => k_is)
    (case opIni => k_is)
    (case clsR => k_is)
    (case xIni => first | exact rfl | kernel_rfl)
    (case a_law_pool => k_is)
    (case l_law_pool => k_is)
    (case c_law_pool => k_is)
    (case k_law_pool => first | exact rfl | kernel_rfl)
    (case a_law_draw => k_is)
    (case l_law_draw => k_is)
    (case c_law_draw => k_is)
    (case k_law_draw => first | exact rfl | kernel_rfl)
    (case a_Book_init => k_is)
    (case l_Book_init => k_is)
    (case c_Book_init => k_is)
    (case k_Book_init => first | exact rfl | kernel_rfl)
    (case a_Book_limit => k_is)
    (case l_Book_limit => k_is)
    (case c_Book_limit => k_is)
    (case k_Book_limit => first | exact rfl | kernel_rfl)
    (case a_SmallBook_limit => k_is)
    (case l_SmallBook_limit => k_is)
    (case c_SmallBook_limit => k_is)
    (case k_SmallBook_limit => first | exact rfl | kernel_rfl)
    (case a_Book_len => k_is)
    (case a2_Book_len => k_is)
    (case l_Book_len => k_is)
    (case c_Book_len => k_is)
    (case k_Book_len => first | exact rfl | kernel_rfl)
    (case a_Book_eq => k_is)
    (case a2_Book_eq => k_is)
    (case l_Book_eq => k_is)
    (case c_Book_eq => k_is)
    (case k_Book_eq => first | exact rfl | kernel_rfl)
    (case a_Book_rules => k_is)
    (case a2_Book_rules => k_is)
    (case s_Book_rules => k_is)
    (case t_Book_rules => k_is)
    (case r_Book_rules => k_is)
    (case l_Book_rules => k_is)
    (case c_Book_rules => k_is)
    (case k_Book_rules => first | exact rfl | kernel_rfl)
    (case a_Book_settle => k_is)
    (case a2_Book_settle => k_is)
    (case l_Book_settle => k_is)
    (case c_Book_settle => k_is)
    (case k_Book_settle => first | exact rfl | kernel_rfl)
    (case a_Book_put => k_is)
    (case a2_Book_put => k_is)
    (case l_Book_put => k_is)
    (case c_Book_put => k_is)
    (case k_Book_put => first | exact rfl | kernel_rfl)
    (case a_Book_change => k_is)
    (case a2_Book_change => k_is)
    (case l_Book_change => k_is)
    (case c_Book_change => k_is)
    (case k_Book_change => first | exact rfl | kernel_rfl)
    (case a_Book_undo => k_is)
    (case a2_Book_undo => k_is)
    (case l_Book_undo => k_is)
    (case c_Book_undo => k_is)
    (case k_Book_undo => first | exact rfl | kernel_rfl)
    (case a_SmallBook_init => k_is)
    (case l_SmallBook_init => k_is)
    (case c_SmallBook_init => k_is)
    (case d_SmallBook_init => k_is)
    (case v_SmallBook_init => first | rfl | k_is)
    (case w_SmallBook_init => first | rfl | decide +kernel | kernel_rfl)
    (case h_SmallBook_init => k_is)
    (case y_SmallBook_init => k_is)
    (case z_SmallBook_init => first | exact rfl | kernel_rfl)
    (case k_SmallBook_init => first | exact rfl | kernel_rfl)
    (case a_law_told => k_is)
    (case l_law_told => k_is)
    (case c_law_told => k_is)
    (case k_law_told => first | exact rfl | kernel_rfl)
    (case a_law_refused => k_is)
    (case l_law_refused => k_is)
    (case c_law_refused => k_is)
    (case k_law_refused => first | exact rfl | kernel_rfl)
    (case a_law_fits => k_is)
    (case l_law_fits => k_is)
    (case c_law_fits => k_is)
    (case k_law_fits => first | exact rfl | kernel_rfl)
    (case a_law => k_is)
    (case l_law => k_is)
    (case c_law => k_is)
    (case k_law => first | exact rfl | kernel_rfl)
    (case m_Book => first | exact rfl | kernel_rfl)
    (case m_SmallBook => first | exact rfl | kernel_rfl)

